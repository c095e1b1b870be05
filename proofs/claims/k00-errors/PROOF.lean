import PyProof.Rows.All
import Wide.All
import OpenK.AllK
import Wide.FinOn
import KE.KExcSuper
import HandS.ForMost
import HandS.ForExc
import HandS.ExcInit
import HandS.ExcValue
import HandS.Nested
import HandS.TryMany
import HandS.Codes
import HandS.ExcField
import HandS.ExcIs
import KE.KExcIs
import HandS.Defaults
import HandS.HeadEnd
import PyProof.ReprRoads
import PyProof.CallFns
import PyProof.FactsAll.NoneType_1
import HandS.Dict
import KE.KDictZip
import PyProof.ListNew
import KE.KStateDown
import Lean
import HandS.Ends
import HandS.More
import HandS.Words
import HandS.WordsExc
import HandS.Head0
import HandS.Head1
import HandS.Head2
import HandS.HeadHook1
import HandS.HeadHook2
import PySem.Challenge.RW_onlytell_k00_errors_with_any_value
import HandS.Walk
set_option Elab.async false
set_option linter.all false
set_option maxRecDepth 100000
set_option maxHeartbeats 0
/-! An own error class over ValueError whose __init__ says super().__init__(value); self.value = value, and classes below it. -/
namespace G137
open PySem PySem.Spec PyProof.Rows L2

/-- what the written part says of a class C at or below D -/
structure ErrC (K : PySem.W.Frag) (D C : Addr) : Prop where
  o : OexC K C
  mr : PySem.W.mroIn K C (.ref D) = some true
  su : PySem.W.ks_superIn K C D "__init__" = some (some (.builtin "ValueError.__init__"))
  ve : PySem.W.subIn K (.ref C) (.type "ValueError") = some true
  vn : PySem.W.findIn K (.ref C) "value" = some none

/-- __init__(self, value) of the class D -/
def spInit (K : PySem.W.Frag) (D : Addr) : Sp := fun vs H Q _ => ∃ (a C : Addr) (v : V), vs = [.ref a, v] ∧ ErrC K D C ∧ H a = some (exo a C none) ∧
  ∀ dx, H dx = none → dx ≠ a → Q .non (upd (upd H dx (exd dx [("value", v)])) a (exo a C (some dx)))

def initBody (p0 p1 p2 p3 p4 p5 p6 p7 p8 p9 : Pos) : List Stmt :=
  [.Expr (.Call (.Attribute (.Call (.Name "super" p0) [] [] p1) "__init__" p2) [.Name "value" p3] [] p4) p5,
   .Assign [.Attribute (.Name "self" p6) "value" p7] (.Name "value" p8) p9]

structure InitAt (P : Program) (K : PySem.W.Frag) (mg : Str → Option Value) (D fI cc cda : Addr) (qual : Str) (params : Arguments) (body : List Stmt) (scope : Scope) (fd : FuncData) : Prop where
  fn : ∃ oc od dV kV doc pm an ct osl, fd = PySem.W.fnX "__init__" qual params body scope [("__class__", cc)] dV kV doc pm an (.ref cda) ct ∧ K.lookup fI = some ⟨oc, od, .func fd, osl⟩
  code : PySem.W.codeIn K (.ref cda) qual = true
  file : ∃ ccl cdd vs ccs tf, K.lookup cda = some ⟨ccl, cdd, .fields vs, ccs⟩ ∧ vs[2]? = some (.str (P.main.file : Str) tf)
  cell : ∃ cl cld csl, K.lookup cc = some ⟨cl, cld, .cell (some (.ref D)), csl⟩
  cls : ∃ cdD, PySem.W.clsIn K D = some cdD
  sup : mg "super" = none
  top : (P.main.scope.names.lookup ("super" : Str)).isSome = false
  tp : PySem.W.nsIn K cStatics "thirdparty.any" = some none

theorem clsIn_obj {K : PySem.W.Frag} {D : Addr} {cd : ClassData} (h : PySem.W.clsIn K D = some cd) : ∃ o, K.lookup D = some o ∧ o.data = .cls cd := by
  unfold PySem.W.clsIn at h
  split at h
  · rename_i c d cd' sl ho
    cases h
    exact ⟨_, ho, rfl⟩
  · cases h

theorem mw_call {prog : Program} {w : World} {A : Around} {E : Value → Shared → Prop} {h : Heap} {g : Array GenState} {d : Drawn} {t : Nat} {os : OsState} {nm q : Str} {C N : Addr} {bs bm : List Value} {hdct : Bool} {sn : List Str} {sub : List Value} {ab : Bool} {col : Option Bool} {dd : Option Addr} {k0 k1 k2 k3 k5 : Option Value}
    {u a t0 : Addr} {rest : List Value} {Q : Value → Shared → Prop}
    (hC : h.get? C = some (excClassObj nm q C N bs bm hdct sn sub ab col dd k0 k1 k2 k3 k5 "ValueError.__new__")) (he : h.get? a = some ({ cls := .ref C, data := .fields #[.ref t0, .none, .none, .none, .bool false, .none] } : Obj))
    (hu : h.get? u = some (PySem.W.kxs_mw "ValueError.__init__" a)) (hz : rest.length ≤ sizeLine)
    (hq : ∀ h' t1, (∀ b o, b ≠ a → h.get? b = some o → h'.get? b = some o) → h'.get? a = some ({ cls := .ref C, data := .fields #[.ref t1, .none, .none, .none, .bool false, .none] } : Obj) → Q .none ⟨h', g, d, t, os⟩) :
    wpAny (model prog w) A (call (.ref u) rest) Q E ⟨h, g, d, t, os⟩ := by
  refine wpAny_call (codeAny_of_tree ?_)
  show wpAny _ A.in1 (callAny (.ref u) ⟨rest, []⟩) _ _ _
  simp only [callAny]
  refine wpAny_bind (wpAny_load hu ?_)
  simp only [PySem.W.kxs_mw, show (Value.type "method-wrapper" == Value.type "method" || Value.type "method-wrapper" == Value.type "builtin_function_or_method" || Value.type "method-wrapper" == Value.type "method-wrapper") = true by decide, if_true]
  refine PySem.W.KFB.if_so (by decide) ?_
  refine wpAny_bind (PySem.W.check_bound_init PySem.F.excBase_ValueError.toExcCallFacts hC he rfl ?_)
  refine wpAny_bind (wpAny_pure (wpAny_pure ?_))
  refine ⟨plainId_quiet PySem.F.excBase_ValueError.init.plain _, codeAny_builtin PySem.F.excBase_ValueError.initEntry ?_⟩
  exact PySem.W.exc_init_tree (cls := .ref C) (t0 := t0) (dv := none) (c2 := .none) (c3 := .none) (b4 := .bool false) he hz fun h' k e' _ => hq h' _ k e'

theorem init_ok {P : Program} {w : World} {K : PySem.W.Frag} {mg : Str → Option Value} {base : Heap} {D fI cc cda : Addr} {qual : Str} {params : Arguments} {scope : Scope} {fd : FuncData} {p0 p1 p2 p3 p4 p5 p6 p7 p8 p9 : Pos}
    (T : InitAt P K mg D fI cc cda qual params (initBody p0 p1 p2 p3 p4 p5 p6 p7 p8 p9) scope fd)
    (S : NdefX.NScope ["self", "value", "__class__"] ["self", "value"] ["__class__"] scope) (hks : scope.names.lookup ("super" : Str) = some .globalImplicit)
    (hp : ((params.posonlyargs ++ params.args).head?.map (·.arg)) = some "self")
    (hev : ∀ env, ∃ pl : Sem Bool, eval (.Call (.Attribute (.Call (.Name "super" p0) [] [] p1) "__init__" p2) [.Name "value" p3] [] p4) env = (do
      let ov ← attributeBase (.Call (.Name "super" p0) [] [] p1) "__init__" env (eval (.Call (.Name "super" p0) [] [] p1) env)
      standAt p2.atName
      let (f, first) ← holding [ov] (getMethod ov "__init__" pl)
      callWith p4 f first (backTo p4 (starEach [.Name "value" p3] env)) [])) (hsw : ∀ env, swapsWith (.Call (.Attribute (.Call (.Name "super" p0) [] [] p1) "__init__" p2) [.Name "value" p3] [] p4) none p5.line env = pure false)
    (hsw2 : ∀ env, swapsWith (.Name "value" p8) (some (.Attribute (.Name "self" p6) "value" p7)) p9.line env = pure false) :
    FnOk P w K mg base CX0 1 fI fd ["self", "value"] (spInit K D) := by
  refine ⟨fun vs H Q E h => ?_, fun A outer s H args us vs Q E hr e0 hbd r hsp => ?_⟩
  · obtain ⟨a, C, v, rfl, _⟩ := h; rfl
  obtain ⟨a, C, v, rfl, EC, ea, hq⟩ := hsp
  obtain ⟨oc, od, dV, kV, doc, pm, an, ct, osl, rfl, lk⟩ := T.fn
  obtain ⟨ccl, cdd, vs, ccs, tf, lkc, hvs⟩ := T.file
  obtain ⟨cl, cld, csl, lkcell⟩ := T.cell
  obtain ⟨cdD, hcd⟩ := T.cls
  obtain ⟨oD, hoD, hoDd⟩ := clsIn_obj hcd
  have KX : K.In s.heap := e0.mod.kin.keeps fun b o e => (e0.bs b o e).1
  have lim : s.heap.NoLimit := e0.mod.nolimit.keeps fun b o e => (e0.bs b o e).1
  obtain ⟨u, rfl, rv⟩ : ∃ u, us = [.ref a, u] ∧ RelV v u := by
    cases r with
    | cons r1 r2 =>
      cases r2 with
      | cons r3 r4 =>
        cases r4
        cases r1
        exact ⟨_, rfl, r3⟩
  have hus : ([.ref a, v] : List V).length = ["self", "value"].length := rfl
  have cells : NdefX.CellsAt [("__class__", cc)] ["__class__"] [none] s.heap H := by
    refine ⟨rfl, fun y c e => ?_, fun x y c e1 e2 => ?_, fun i y e => ?_⟩
    · have e' : c = cc := by
        rw [List.lookup_cons] at e
        split at e
        · exact (Option.some.inj e).symm
        · cases e
      subst e'
      obtain ⟨q1, q2⟩ := e0.bs c _ (e0.mod.kin _ _ lkcell)
      exact ⟨q2, _, _, q1, rfl⟩
    · have one : ∀ z : Str, List.lookup z [("__class__", cc)] = some c → z = "__class__" := fun z e => by
        rw [List.lookup_cons] at e
        cases q : (z == ("__class__" : Str)) with
        | true => exact beq_iff_eq.mp q
        | false => rw [q] at e; cases e
      exact (one x e1).trans (one y e2).symm
    · cases i with
      | zero => simp at e; subst e; exact ⟨cc, by rw [List.lookup_cons]; simp, fun v h => by simp at h⟩
      | succ j => simp at e
  refine codeAny_call_function hr.depth (KX _ _ lk) rfl S.co S.gen rfl (PySem.W.codeRec_of KX T.code) (hbd _ _ _ _ ?_)
  refine wpAny_newFunctionEnv S.nocell (fun ⟨n, _⟩ hy => S.par n (List.of_mem_zip hy).1) (fun h₁ hns hsb => ⟨lim.fresh _ hsb, ?_⟩) S.kind
  have kp : ∀ b o, s.heap.get? b = some o → h₁.get? b = some o := fun b o e => hsb.extBut b o (Nat.ne_of_lt (Heap.lt_size e)) (Heap.get?_push_of_some _ e)
  let NFI : NdefX.NF := ⟨"__init__", qual, params, initBody p0 p1 p2 p3 p4 p5 p6 p7 p8 p9, scope, [("__class__", cc)], cda⟩
  show codeAny _ _ (.func (initBody p0 p1 p2 p3 p4 p5 p6 p7 p8 p9) (NdefX.envF NFI fI s.heap.objs.size)) _ _
  have I : Inv (NdefX.ncx CX0 P w K mg base ["self", "value", "__class__"] NFI fI A outer s H E) [] (NdefX.startF ["self", "value", "__class__"] [.ref a, v] [none]) H { s with heap := h₁, toks := s.toks + ([("self", Value.ref a), ("value", u)] : List (Str × Value)).length } :=
    NdefX.inv_startN (F := NFI) S hr.hd e0 hus (.cons rfl (.cons rv .nil)) cells hns kp
  refine PySem.ks_codeAny_funcAt ?_
  unfold initBody
  obtain ⟨pl, he⟩ := hev (NdefX.envF NFI fI s.heap.objs.size)
  refine PySem.ks_wpAt_execs_cons (PySem.ks_wpAt_Expr_any (PySem.ks_wpAt_MethodCall (pl := pl) ?_ he) ?_ (hsw _))
  · obtain ⟨ar, har, hself⟩ : ∃ ar, (params.posonlyargs ++ params.args).head? = some ar ∧ ar.arg = "self" := by
      cases q : (params.posonlyargs ++ params.args).head? with
      | none => rw [q] at hp; cases hp
      | some ar => rw [q] at hp; exact ⟨ar, rfl, Option.some.inj hp⟩
    have KX1 : K.In h₁ := KX.keeps kp
    refine PySem.ks_wpAt_super_base (env := NdefX.envF NFI fI s.heap.objs.size) (f := fI) (cc := cda) hks (S.frk "__class__" (by simp)) (by decide) rfl (KX1 _ _ lk) rfl har rfl (KX1 _ _ lkc) rfl hvs (by simp) T.top ?_
    have hk : (NdefX.envF NFI fI s.heap.objs.size).scope.kind = .function := S.kind
    obtain ⟨mb, hb1, hb2⟩ := I.mod.blt
    refine PySem.W.ks_loadName_global hk hks (Calls.loadGlobal_builtin (env := NdefX.envF NFI fI s.heap.objs.size) (I.mod.glob.keeps I.bk) T.sup (hb1.keeps I.bk) ((hb2 "super" (by decide)).trans (by decide +kernel)) ⟨rfl, ?_⟩)
    refine wpAny_loadName_free hk (S.frk "__class__" (by simp)) rfl ⟨_, KX1 _ _ lkcell, rfl⟩ ?_
    rw [hself]
    refine wpAny_loadName_local hk (S.par "self" (by simp)) hns rfl ?_
    refine PySem.ks_wpAny_isType_cls (KX1 _ _ hoD) hoDd ⟨rfl, ?_⟩
    obtain ⟨t1, hx⟩ := exo_at I.hok ea
    refine PySem.ks_wpAny_call_super (KX1 _ _ hoD) hoDd hx rfl (fun c e => by cases e) (PySem.W.looks_mroIn KX1 EC.mr) (fun h2 hso k2 => ?_)
    have I2 : Inv (NdefX.ncx CX0 P w K mg base ["self", "value", "__class__"] NFI fI A outer s H E) [] (NdefX.startF ["self", "value", "__class__"] [.ref a, v] [none]) H { s with heap := h2, toks := s.toks + ([("self", Value.ref a), ("value", u)] : List (Str × Value)).length } := I.kept k2
    have KX2 : K.In h2 := KX1.keeps k2
    obtain ⟨cd, hcdC⟩ : ∃ cd, PySem.W.clsIn K C = some cd := by
      have := EC.su
      unfold PySem.W.ks_superIn at this
      cases q : PySem.W.clsIn K C with
      | none => rw [q] at this; cases this
      | some cd => exact ⟨cd, rfl⟩
    have hal : PySem.W.alongIn K "__init__" ((cd.mro.dropWhile (· != .ref D)).drop 1) = some (some (.builtin "ValueError.__init__")) := by
      have := EC.su
      unfold PySem.W.ks_superIn at this
      rw [hcdC] at this
      exact this
    have hx2 : h2.get? a = some _ := k2 _ _ hx
    have LT : PySem.W.Looks (model P w) h2 (typeOf (.ref a)) (.ref C) := fun A Q E s k q => wpAny_typeOf_ref (k _ _ hx2) q
    have LI : PySem.W.Looks (model P w) h2 (isInstance (.ref a) (.type "ValueError")) true := PySem.W.Looks.andThen LT (PySem.W.looks_subIn KX2 EC.ve)
    have haC : a ≠ C := fun z => by
      obtain ⟨oC, hoC, _⟩ := clsIn_obj hcdC
      have := (e0.bs C _ (e0.mod.kin _ _ hoC)).2
      rw [← z, ea] at this; cases this
    refine PySem.W.kxs_getMethod PySem.W.kxs_ValueError hso (PySem.W.looks_opaque KX2 T.tp) (l₀ := cd.mro) (fun A Q E s k q => wpAny_bind ((PySem.W.looks_clsIn KX2 hcdC) A _ E s k (wpAny_pure q))) rfl KX2 hal LI haC (by decide) ?_
    show wpAny _ _ (callWith p4 (.ref h2.objs.size) [] (backTo p4 (starEach [.Name "value" p3] (NdefX.envF NFI fI s.heap.objs.size))) []) _ _ _
    refine PySem.W.kxs_callWith (i := "ValueError.__init__") (x := a) rfl (Calls.evalArgs_plain ?_)
    let X := NdefX.ncx CX0 P w K mg base ["self", "value", "__class__"] NFI fI A outer s H E
    have I3 : Inv X [] (NdefX.startF ["self", "value", "__class__"] [.ref a, v] [none]) H
        ⟨h2.push (PySem.W.kxs_mw "ValueError.__init__" a), s.gens, s.drawn, s.toks + ([("self", Value.ref a), ("value", u)] : List (Str × Value)).length + 1, s.os⟩ :=
      I2.kept (fun b o e => Heap.get?_push_of_some _ e)
    have hpa : PA X [.Name "value" p3] (tCons (tVar 1) tNil) := pa_cons (pe_var (i := 1) rfl (.inl (S.par "value" (by simp)))) pa_nil
    have I4 : Inv X [(h2.objs.size, PySem.W.kxs_mw "ValueError.__init__" a)] (NdefX.startF ["self", "value", "__class__"] [.ref a, v] [none]) H
        ⟨h2.push (PySem.W.kxs_mw "ValueError.__init__" a), s.gens, s.drawn, s.toks + ([("self", Value.ref a), ("value", u)] : List (Str × Value)).length + 1, s.os⟩ := by
      refine I3.pins_of fun p hp => ?_
      rw [List.mem_singleton] at hp
      subst hp
      refine ⟨Heap.get?_push_at rfl rfl, I2.hok.fresh (Nat.le_refl _), fun z => ?_, I2.nofs (Nat.le_refl _), fun v e => by cases e⟩
      have := I2.lt
      exact absurd (show h2.objs.size = X.env.locals from z) (Nat.ne_of_gt this)
    refine thn (hpa.run p4 _ _ _ _ (fun vs' H' => vs' = [v] ∧ H' = H) I4 ⟨v, rfl, rfl, rfl⟩) fun us' s5 ⟨vs', H', I5, r5, ev, eH⟩ => ?_
    subst ev eH
    have hmw := (I5.pin (h2.objs.size, PySem.W.kxs_mw "ValueError.__init__" a) (by simp)).1
    refine ⟨hmw, ?_⟩
    obtain ⟨t5, hx5⟩ := exo_at I5.hok ea
    obtain ⟨u', rfl, rv'⟩ : ∃ u', us' = [u'] ∧ RelV v u' := by
      cases r5 with
      | cons r1 r2 => cases r2; exact ⟨_, rfl, r1⟩
    obtain ⟨nm, q, Nn, bs, bm, sn, sub, ab, col, dd, k0, k1, k2', k3, k5, hC, hbm⟩ := EC.o.cls
    obtain ⟨h5, g5, d5, tk5, os5⟩ := s5
    have hC5 := (show K.In h5 from I5.kIn) _ _ hC
    show wpAny _ _ (call (.ref h2.objs.size) [u']) _ _ _
    refine mw_call hC5 hx5 hmw (by show 1 ≤ sizeLine; decide) fun h6 t6 k6 e6 => ?_
    have I6 := I5.write (t' := tk5) (x := a) (e := a) (o := exo a C none) (by rw [ea]; exact True.intro) (.inl rfl) k6 ⟨_, e6⟩ (exo_ok e6)
    have eu : upd H' a (exo a C none) = H' := by
      funext b
      by_cases hb : b = a
      · rw [hb, upd_same, ea]
      · rw [upd_ne hb]
    rw [eu] at I6
    have hps : PSs X [.Assign [.Attribute (.Name "self" p6) "value" p7] (.Name "value" p8) p9] (tOst X.K "value" (tVar 0) (tVar 1)) :=
      pss_one (ps_ost (pe_var (i := 0) rfl (.inl (S.par "self" (by simp)))) (pe_var (i := 1) rfl (.inl (S.par "value" (by simp)))) (hsw2 _))
    refine wpAt_of_wpAny ?_
    have hgoal : tOst X.K "value" (tVar 0) (tVar 1) { nx := fun _ H' => Q .non H', rt := Q } (NdefX.startF ["self", "value", "__class__"] [.ref a, v] [none]) H' :=
      ⟨v, rfl, .ref a, rfl, a, C, rfl, EC.o, EC.vn, .inl ⟨ea, fun dx n ne => hq dx n ne⟩⟩
    refine wpAny_mono (hps.run _ _ _ _ _ I6 hgoal) (fun fl s' hs => ?_) fun e s' hs => hs
    have fin : ∀ {σ' : L2.St} {H2 : Hp} {v : V} {u : Value}, Inv X [(h2.objs.size, PySem.W.kxs_mw "ValueError.__init__" a)] σ' H2 s' → RelV v u → Q v H2 → CE outer P w H' s Q u s' :=
      fun {σ' H2 v u} J rv q => ⟨v, H2, J.os, J.bare, J.base, J.hok, rv, q⟩
    cases fl with
    | ret u =>
      obtain ⟨v, σ', H', J, rv, q⟩ := hs
      exact fin J rv q
    | next =>
      obtain ⟨σ', H', J, q⟩ := hs
      exact fin (v := V.non) (u := Value.none) J rfl q
    | brk =>
      obtain ⟨_, _, _, q⟩ := hs
      exact False.elim q
    | cont =>
      obtain ⟨_, _, _, q⟩ := hs
      exact False.elim q
  · exact I.quiet
end G137
namespace G137
open PySem PySem.Spec PyProof.Rows L2

/-- C(e): an error of the class C, its dict d has value -/
def tErr (C : Addr) (te : TE) : L2.St → Hp → XK → Prop := fun σ H Q => te σ H fun v H1 => ∀ d, H1 d = none → Q (.ref C) (some d) (upd H1 d (.xd [("value", v)]))

/-- what a class of errors needs -/
structure ErrM (P : Program) (w : World) (K : PySem.W.Frag) (mg : Str → Option Value) (base : Heap) (D C : Addr) : Prop where
  c : ErrC K D C
  init : ∃ fI fd, PySem.W.findIn K (.ref C) "__init__" = some (some (.ref fI)) ∧ PySem.W.typeIn K (.ref fI) = some (.type "function") ∧
    FnOk P w K mg base CX0 1 fI fd ["self", "value"] (spInit K D) ∧ Binds K fd ["self", "value"] []

theorem PMk.imp {X : Cx} {e : Expr} {t t' : L2.St → Hp → XK → Prop} (h : PMk X e t) (hi : ∀ σ H Q, t' σ H Q → t σ H Q) : PMk X e t' := fun pins s σ H Q I q => h pins s σ H Q I (hi _ _ _ q)

def monoT (te : TE) : TE := fun σ H Q => ∃ R : VK, te σ H R ∧ ∀ v H', R v H' → Q v H'
theorem pe_mono {X : Cx} {e : Expr} {te : TE} (h : PE X e te) : PE X e (monoT te) :=
  ⟨fun pins s σ H Q I ⟨R, hR, hi⟩ => wpAny_mono (h.run pins s σ H R I hR) (fun u s' ⟨v, H', J, r, q⟩ => ⟨v, H', J, r, hi _ _ q⟩) fun _ _ x => x⟩

theorem upd_comm {H : Hp} {a b : Addr} {o u : HO} (h : a ≠ b) : upd (upd H a o) b u = upd (upd H b u) a o := by
  funext c
  unfold upd
  by_cases h1 : c = a
  · subst h1; simp [h]
  · by_cases h2 : c = b
    · subst h2; simp [h1]
    · simp [h1, h2]

section
variable {X : Cx} {x : Str} {p pos : Pos} {e : Expr} {te : TE} {D C : Addr}
theorem pmk_err (M : ErrM X.prog X.w X.K X.mg X.base D C) (hr : Room 2 X.A) (hg : Gl X x) (hm : X.mg x = some (.ref C)) (he : PE X e te) (hdb : (x == ("__debug__" : Str)) = false := by decide)
    (hs : starEach [e] X.env = (false, eval e X.env) :: starEach [] X.env := by rfl) :
    PMk X (.Call (.Name x p) [e] [] pos) (tErr C te) := by
  obtain ⟨fI, fd, h1, h2, h3, h4⟩ := M.init
  refine PMk.imp (pmk_oex M.c.o h1 h2 h3 hr h4 .nil pass0 hg hm (pa_cons (pe_mono he) pa_nil hs) hdb hs rfl) fun σ H Q h => ?_
  refine ⟨_, h, fun v H1 q => ⟨by show 1 ≤ 1000; decide, fun a na => ⟨a, C, v, rfl, M.c, upd_same, fun dx nd ne => ⟨rfl, dx, [("value", v)], upd_same, ?_, ?_, ?_⟩⟩⟩⟩
  · rw [upd_ne ne, upd_same]
  · rw [upd_ne ne] at nd; exact nd
  · have e1 : upd (L2.del (upd (upd (upd H1 a (exo a C none)) dx (exd dx [("value", v)])) a (exo a C (some dx))) a) dx (.xd [("value", v)]) = upd H1 dx (.xd [("value", v)]) := by
      funext b
      by_cases hb : b = dx
      · rw [hb, upd_same, upd_same]
      · rw [upd_ne hb, upd_ne hb]
        by_cases hba : b = a
        · rw [hba, L2.del_same, na]
        · rw [L2.del_ne hba, upd_ne hba, upd_ne hb, upd_ne hba]
    rw [e1]
    rw [upd_ne ne] at nd
    exact q dx nd
end

/-! ### an error as a value -/
/-- at a: an exception of class cls, its dict d -/
def ExK (cls : Value) (d : Option Addr) (a : Addr) : HO := .ext fun h => ∃ (oe : Obj) (vs : Array Value), h.get? a = some oe ∧ Zc cls d oe ∧ oe.data = .fields vs
theorem exK_ok {P : Program} {w : World} {H : Hp} {h : Heap} {a : Addr} {cls : Value} {d : Option Addr} {oe : Obj} {vs : Array Value} (e : h.get? a = some oe) (z : Zc cls d oe) (dt : oe.data = .fields vs) : ObjOk P w H h a (ExK cls d a) :=
  ⟨⟨oe, vs, e, z, dt⟩, ⟨oe, e⟩, fun h1 h2 ⟨oe, vs, e, z, dt⟩ k => ⟨oe, vs, k _ e, z, dt⟩⟩
theorem exK_at {P : Program} {w : World} {H : Hp} {h : Heap} {a : Addr} {cls : Value} {d : Option Addr} (hok : HOk P w H h) (e : H a = some (ExK cls d a)) : ∃ (oe : Obj) (vs : Array Value), h.get? a = some oe ∧ Zc cls d oe ∧ oe.data = .fields vs :=
  (hok a _ e).1
/-- an error made, as a value -/
theorem pe_of_pmk {X : Cx} {e : Expr} {t : L2.St → Hp → XK → Prop} (hm : PMk X e t) : PE X e (fun σ H Q => t σ H fun cls d H' => ∀ a, H' a = none → Q (.ref a) (upd H' a (ExK cls d a))) := by
  refine ⟨fun pins s σ H Q I h => wpAny_mono (hm pins s σ H _ I h) (fun u s' hu => ?_) fun _ _ x => x⟩
  obtain ⟨a, oe, vs, sI, H', cls, d, rfl, J, k, hne, ha, hz, hd, h1, na, os, ag, r, q⟩ := hu
  refine ⟨.ref a, _, J.call' (ch := []) os (Un.laidN k hne na) (J.hok.laidN k na (exK_ok ha hz hd)) ag (fun b hb => absurd hb (by simp)), rfl, q a na⟩

/-- what the written part says of an error's class for its field and its kind -/
structure ErrK (K : PySem.W.Frag) (C : Addr) : Prop where
  f : XfC K C
  e : ExcC K C
  c : (PySem.W.clsIn K C).isSome = true

def tExv (K : PySem.W.Frag) (n : Str) (te : TE) : TE := fun σ H Q => te σ H fun x H1 => ∃ (a C dd : Addr) (fs : List (Str × V)) (v : V), x = .ref a ∧ ErrK K C ∧ PySem.W.findIn K (.ref C) n = some none ∧ H1 a = some (ExK (.ref C) (some dd) a) ∧ H1 dd = some (.xd fs) ∧ fs.lookup n = some v ∧ Q v H1
/-- e.n of an error kept as a value -/
theorem pe_exv {X : Cx} {e : Expr} {te : TE} {pos : Pos} {n : Str} (he : PE X e te) (hb : attributeBase e n X.env (eval e X.env) = eval e X.env := by rfl) :
    PE X (.Attribute e n pos) (tExv X.K n te) := by
  refine ⟨fun pins s σ H Q I h => ?_⟩
  refine attr_of hb (thn (he.run pins s σ H _ I h) fun u s1 hh => ?_)
  obtain ⟨x, H1, I1, rx, a, C, dd, fs, v, ex, T, hno, ea, ed, l, q⟩ := hh
  subst ex
  obtain rfl : u = Value.ref a := rx
  obtain ⟨oe, vs, ha, hz, hd⟩ := exK_at I1.hok ea
  have hx : ObjOk X.prog X.w H1 s1.heap dd (.xd fs) := I1.hok dd _ ed
  obtain ⟨mA, hns, hr⟩ := hx
  obtain ⟨od, ho, hl⟩ := lookIn_ns hns
  obtain ⟨u, hu, ru⟩ := RelO.some_of (v := v) (o := mA n) (by rw [← l]; exact hr n)
  have J : PySem.W.InstAt s1.heap a oe C (some od) := ⟨ha, hz.1, by unfold PySem.W.notCls; rw [hd] <;> rfl, by rw [hz.2]; exact ho⟩
  exact HandSPX.exc_get I1.kIn J T.f.ga T.f.gg T.f.exC (PySem.W.findObj_own T.f.hdC hno rfl (by rw [hl, hu])) (handed_of ru) ⟨v, H1, I1.tok _, ru, q⟩

/-- isinstance(e, c), e an error kept as a value -/
def rIsX (K : PySem.W.Frag) : List V → Hp → VK → Prop := fun xs H Q => ∃ (a C dd : Addr) (fs : List (Str × V)) (c : V) (cv : Value) (b : Bool), xs = [.ref a, c] ∧ ErrK K C ∧ H a = some (ExK (.ref C) (some dd) a) ∧ H dd = some (.xd fs) ∧ (∀ u, RelV c u → u = cv) ∧ PySem.W.kitOne K (.ref C) cv = some b ∧ Q (.bl b) H
theorem call_isX {X : Cx} : CallR X (.builtin "isinstance") (rIsX X.K) := by
  intro pins s σ H xs us Q I r h
  obtain ⟨a, C, dd, fs, c, cv, b, rfl, T, ea, ed, hcv, e, q⟩ := h
  cases r with
  | cons rx rr =>
    cases rr with
    | cons rt rr =>
      cases rr
      cases rx
      have ec := hcv _ rt
      subst ec
      obtain ⟨oe, vs, ha, hz, hd⟩ := exK_at I.hok ea
      have hx : ObjOk X.prog X.w H s.heap dd (.xd fs) := I.hok dd _ ed
      obtain ⟨mA, hns, hr⟩ := hx
      obtain ⟨od, ho, hl⟩ := lookIn_ns hns
      have J : PySem.W.InstAt s.heap a oe C (some od) := ⟨ha, hz.1, by unfold PySem.W.notCls; rw [hd] <;> rfl, by rw [hz.2]; exact ho⟩
      exact PySem.W.kia_one (PySem.W.kitx_exc (od := some od) T.c T.e.hg T.e.hk T.e.hs T.e.ha T.e.hn T.e.ht T.e.hm) I.kIn J e (fun z => nomatch z) fun tk => ⟨.bl b, H, I.kept (t' := tk) fun _ _ z => z, rfl, q⟩
end G137
namespace G137
open PySem PySem.Spec PyProof.Rows L2

section
variable {X : Cx} {pins : List (Addr × Obj)} {σ : L2.St} {H : Hp} {s : Shared}
/-- an object of ours that was pinned is tracked from now on -/
theorem inv_track {a : Addr} {oe : Obj} {vs : Array Value} {cls : Value} {d : Option Addr} (I : Inv X ((a, oe) :: pins) σ H s) (hz : Zc cls d oe) (hd : oe.data = .fields vs)
    (new : ∀ o, X.s_0.heap.get? a = some o → a ∈ X.ex) (hp : ∀ p ∈ X.pn ++ pins, p.1 ≠ a) : Inv X pins σ (upd H a (ExK cls d a)) s := by
  obtain ⟨ha, na, nL, nF, nc⟩ := I.pin (a, oe) (List.mem_append_right _ List.mem_cons_self)
  refine ⟨I.ok, I.os, I.bare, ⟨I.base.keep, I.base.slot, fun b o q n hx => ?_, I.base.there, fun b xs q => ?_, fun b o u q => ?_, fun b ps q => ?_⟩, I.loc, I.cell, ?_, fun x c e => ?_, fun p q => ?_, I.hok.laidN (fun _ _ q => q) na (exK_ok ha hz hd), I.len⟩
  · by_cases hb : b = a
    · subst hb; exact absurd (new o q) hx
    · rw [upd_ne hb]; exact I.base.free b o q n hx
  · have := I.base.tups b xs q
    rw [upd_ne (ne_of_none this na)]; exact this
  · have := I.base.frzs b o u q
    rw [upd_ne (ne_of_none this na)]; exact this
  · obtain ⟨more, this⟩ := I.base.tbls b ps q
    exact ⟨more, by rw [upd_ne (ne_of_none this na)]; exact this⟩
  · rw [upd_ne (Ne.symm nL)]; exact I.free
  · have hca : c ≠ a := fun z => by
      obtain ⟨v, o, ho, hv⟩ := I.cell x c e
      rw [z, ha] at ho; cases ho
      exact nc _ hv
    rw [upd_ne hca]; exact I.freeC x c e
  · obtain ⟨h1, h2, h3⟩ := I.pin p (by
      rcases List.mem_append.mp q with q | q
      · exact List.mem_append_left _ q
      · exact List.mem_append_right _ (List.mem_cons_of_mem _ q))
    exact ⟨h1, by rw [upd_ne (hp p q)]; exact h2, h3⟩
theorem inv_unsuiteK {a : Addr} {q : Addr × Obj} {pn' : List (Addr × Obj)} (I : Inv (X.suite a (q :: (X.pn ++ pins))) pn' σ H s) (ok : X.Ok) : Inv X (q :: pins) σ H s :=
  ⟨ok, I.os, I.bare, I.base, I.loc, I.cell, I.free, I.freeC, fun p hp => I.pin p (by
    show p ∈ (q :: (X.pn ++ pins)) ++ pn'
    rcases List.mem_append.mp hp with z | z
    · exact List.mem_append_left _ (List.mem_cons_of_mem _ (List.mem_append_left _ z))
    · rcases List.mem_cons.mp z with z | z
      · rw [z]; exact List.mem_append_left _ List.mem_cons_self
      · exact List.mem_append_left _ (List.mem_cons_of_mem _ (List.mem_append_right _ z))), I.hok, I.len⟩
end

abbrev Cl := Value × Nat × (Addr → Value → Option Addr → TS)
def endK (D : Ends) (i : Nat) (cls : Value) (d : Option Addr) (a : Addr) : Ends :=
  { nx := fun σ' H' => H' a = none → D.nx (σ'.set i none) (upd H' a (ExK cls d a)), rt := fun v H' => H' a = none → D.rt v (upd H' a (ExK cls d a)),
    bk := fun σ' H' => H' a = none → D.bk (σ'.set i none) (upd H' a (ExK cls d a)), ct := fun σ' H' => H' a = none → D.ct (σ'.set i none) (upd H' a (ExK cls d a)) }
def wKeep (K : PySem.W.Frag) (Wout : WX) (D : Ends) : List Cl → WX
  | [] => Wout
  | (c, i, ts) :: r => fun cls d σ H => ∃ b, PySem.W.exmOne K cls c = some b ∧ (b = true → ∀ a, H a = none → ts a cls d (endK D i cls d a) (σ.set i (some (.ref a))) H) ∧ (b = false → wKeep K Wout D r cls d σ H)
inductive HdsK (X : Cx) : List ExceptHandler → List Cl → Prop
  | nil : HdsK X [] []
  | cons {x n : Str} {i : Nat} {c : Value} {ts : Addr → Value → Option Addr → TS} {b₀ : Stmt} {suite : List Stmt} {np pos' : Pos} {hds : List ExceptHandler} {l : List Cl} (hi : X.N[i]? = some n) (hln : X.env.kindOf n = some .local) (hc : Names X x c)
      (hsu : ∀ (a : Addr) (oe : Obj) (cls : Value) (d : Option Addr) (pn : List (Addr × Obj)), Zc cls d oe → (∃ vs, oe.data = .fields vs) → PSs (X.suite a ((a, oe) :: pn)) (b₀ :: suite) (ts a cls d)) (r : HdsK X hds l) :
      HdsK X (.ExceptHandler (some (.Name x np)) (some n) (b₀ :: suite) pos' :: hds) ((c, i, ts) :: l)
section
variable {X : Cx} {body : List Stmt} {h₀ : ExceptHandler} {hds : List ExceptHandler} {l : List Cl} {pos : Pos} {tb : WX → TS} {Wout : WX}
/-- try: body / except c as n: suite / ..: what was caught is tracked behind the suite -/
theorem ps_try_keep (hs : X.stack = X.env :: X.outer) (hf : X.env.frame = some X.env.locals) (hN : X.N.Nodup) (tk : Takes X Wout)
    (hb : ∀ (W : WX) (pn : List (Addr × Obj)) (xe : Value → Shared → Prop), Takes (X.tr pn xe) W → PassesOwn (model X.prog X.w) X.A X.env xe → PSs (X.tr pn xe) body (tb W))
    (hh : HdsK X (h₀ :: hds) l) : PS X (.Try body (h₀ :: hds) [] [] pos) (fun D σ H => tb (wKeep X.K Wout D l) D σ H) := by
  refine ⟨fun pins s σ H D I h => ?_⟩
  have ok := I.ok
  have hfr : X.A.frames = some (X.env :: X.outer) := by rw [ok.frames, hs]
  refine wpAny_Try_except ?_
  refine wpAny_mono ((hb (wKeep X.K Wout D l) (X.pn ++ pins) (fun e s₁ => wpAny (model X.prog X.w) X.A (noteFrame e X.env) (fun _ s₂ => wpAny (model X.prog X.w) X.A (setFlight e none) (fun _ s₃ =>
    wpAny (model X.prog X.w) X.A (handleBy e X.env (h₀ :: hds)) (SP X pins D) X.xe s₃) X.xe s₂) X.xe s₁) (fun u s' xx => ?_) PassesOwn.looking).run [] s σ H D (I.toTry _) h) (fun f s1 hsp => ?_) (fun e s1 he => he)
  · -- the catch
    obtain ⟨a, B, sI, pins', σ', H', cls, d, rfl, J', nb, up, sky, na, os, ag, w⟩ := xx
    have J : Inv X pins σ' H' sI := J'.ofTry ok
    have sky' : Sky B (X.env :: X.outer) a (Zc cls d) X.env.locals s'.heap := by rw [← hs]; exact sky
    show wpAny (model X.prog X.w) X.A (noteFrame (.ref a) X.env) _ _ _
    refine Sky.land Zc.steady hfr hf sky' fun h3 fl3 up3 => ?_
    have J3 : Inv X pins σ' H' { s' with heap := h3 } := J.landed nb fl3.1 (up.trans up3) os ag
    obtain ⟨oe3, vs3, he3, hz3, hd3⟩ := fl3.there
    have notFr : ∀ {h : Heap} {o : Obj} {vs : Array Value}, h.FunFrames B (X.env :: X.outer) → h.get? a = some o → o.data = .fields vs → a ∉ frs (X.env :: X.outer) := fun {h o vs} ff e dd hm => by
      obtain ⟨_, o', e', hnf⟩ := ff.mem hm
      rw [e] at e'; cases e'
      exact hnf _ dd
    have nfr := notFr fl3.2.2.1 he3 hd3
    have nL : a ≠ X.env.locals := fun z => nfr (List.mem_filterMap.mpr ⟨X.env, List.mem_cons_self, by rw [hf, z]⟩)
    have nF : a ∉ X.fs := fun hm => by
      obtain ⟨e, he, q⟩ := List.mem_filterMap.mp hm
      exact nfr (List.mem_filterMap.mpr ⟨e, List.mem_cons_of_mem _ he, q⟩)
    have hBa : B.get? a = none := fl3.2.1
    have hIa : sI.heap.get? a = none := by
      cases q : sI.heap.get? a with
      | none => rfl
      | some o =>
        have := nb a o q (by rw [hs]; exact nfr)
        rw [hBa] at this; cases this
    have new : ∀ o, X.s_0.heap.get? a = some o → a ∈ X.ex := fun o q => by
      by_cases hx : a ∈ X.ex
      · exact hx
      · obtain ⟨o', q'⟩ := J.base.there a o q hx
        rw [hIa] at q'; cases q'
    have pne : ∀ p ∈ X.pn ++ pins, p.1 ≠ a := fun p hp z => by
      have := (J.pin p hp).1
      rw [z, hIa] at this; cases this
    have S3 := J3.suite he3 hd3 na nL nF
    have go : ∀ {hds' : List ExceptHandler} {l' : List Cl}, HdsK X hds' l' → wKeep X.K Wout D l' cls d σ' H' →
        wpAny (model X.prog X.w) X.A (handleBy (.ref a) X.env hds') (SP X pins D) X.xe { s' with heap := h3 } := by
      intro hds' l' hk
      induction hk with
      | nil =>
        intro w
        refine wpAny_handleBy_nil ?_
        obtain ⟨k1, k2, k3, oe, vs, T, oT, ts', he, hz, hd, h1, hr⟩ := id fl3
        unfold PySem.passOn
        refine wpAny_bind (wpAny_field he hd h1 ?_)
        rw [if_neg (show ¬ ((Value.ref T == Value.none) = true) from by simp)]
        have fin : wpAny (model X.prog X.w) X.A (setFlight (.ref a) X.env.frame) (fun _ s4 => wpAny (model X.prog X.w) X.A (throw (.ref a) : Sem Flow) (SP X pins D) X.xe s4) X.xe { s' with heap := h3 } := by
          rw [hf]
          refine HandSPX.setFlight_upZ fl3 fun h4 hh4 up4 => wpAny_throw (tk _ _ ?_)
          exact ⟨a, B, sI, pins, σ', H', cls, d, rfl, J, nb, (up.trans up3).trans up4, .inr (.inr (by rw [hs]; exact hh4)), na, os, ag, w⟩
        first
          | exact wpAny_bind (wpAny_pure (wpAny_bind fin))
          | exact wpAny_bind fin
      | @cons x n i c ts b₀ suite np pos' hds2 l2 hi hln hc hsu r ih =>
        intro w
        obtain ⟨b, hb1, hyes, hno⟩ := w
        have hloc : Loc X.env.scope n := .inl hln
        refine wpAny_handleBy_cons (codeAny_handlers_test ?_) (by intro q; cases q)
        have LT : PySem.W.Looks (model X.prog X.w) h3 (typeOf (.ref a)) cls := fun A Q E s k q => wpAny_typeOf_ref (k _ _ he3) (by rw [hz3.1]; exact q)
        have LM := PySem.W.exm_one (M := model X.prog X.w) (J3.kIn) LT hb1
        have test : ∀ {Q : Value → Shared → Prop} {E : Value → Shared → Prop}, Q c { s' with heap := h3 } → wpAny (model X.prog X.w) (X.A.mark (some (.ref a))) (eval (.Name x np) X.env) Q E { s' with heap := h3 } := fun {Q E} q => by
          obtain ⟨hg, hdbg, hm | ⟨hm, hv, hnn⟩⟩ := hc
          · exact ld_glob (X := X.suite a ((a, oe3) :: (X.pn ++ pins))) S3 hg hm q hdbg
          · exact ld_blt (X := X.suite a ((a, oe3) :: (X.pn ++ pins))) S3 hg hm hv q hnn hdbg
        refine test (LM.here ?_)
        cases b with
        | true =>
          refine codeAny_handlers_suite_as ?_
          refine HandSPX.lands_againZ fl3 fun h4 fl4 up4 => ?_
          have J4 : Inv X pins σ' H' { s' with heap := h4 } := J.landed nb fl4.1 ((up.trans up3).trans up4) os ag
          obtain ⟨oe4, vs4, he4, hz4, hd4⟩ := fl4.there
          have S4 := J4.suite he4 hd4 na nL nF
          refine store_ok (X := X.suite a ((a, oe4) :: (X.pn ++ pins))) (v := .ref a) S4 hN hi hloc rfl (fun s5 S5 => ?_) (.inr hln)
          refine wpAny_mono ((hsu a oe4 cls d (X.pn ++ pins) hz4 ⟨_, hd4⟩).run [] s5 _ H' _ S5 (hyes rfl a na)) (fun f s6 hsp => ?_) (fun _ _ z => False.elim z)
          have end_ : ∀ {σ6 : L2.St} {H6 : Hp} {Q : Shared → Prop}, Inv (X.suite a ((a, oe4) :: (X.pn ++ pins))) [] σ6 H6 s6 → (∀ s7, H6 a = none → Inv X pins (σ6.set i none) (upd H6 a (ExK cls d a)) s7 → Q s7) →
              wpAny (model X.prog X.w) X.A (do bindName X.env n .none; unbindBehindTheSuite X.env n pos') (fun _ s7 => Q s7) X.xe s6 := fun {σ6 H6 Q} S6 hq =>
            gone_ok (inv_unsuiteK S6 ok) hN hi hln fun s7 J7 => hq s7 ((J7.pin (a, oe4) (List.mem_append_right _ List.mem_cons_self)).2.1) (inv_track J7 hz4 hd4 new pne)
          cases f with
          | next =>
            obtain ⟨σ6, H6, S6, q6⟩ := hsp
            exact end_ S6 fun s7 n7 J7 => ⟨_, _, J7, q6 n7⟩
          | brk =>
            obtain ⟨σ6, H6, S6, q6⟩ := hsp
            exact end_ S6 fun s7 n7 J7 => ⟨_, _, J7, q6 n7⟩
          | cont =>
            obtain ⟨σ6, H6, S6, q6⟩ := hsp
            exact end_ S6 fun s7 n7 J7 => ⟨_, _, J7, q6 n7⟩
          | ret u =>
            obtain ⟨v6, σ6, H6, S6, r6, q6⟩ := hsp
            exact end_ S6 fun s7 n7 J7 => ⟨_, _, _, J7, r6, q6 n7⟩
        | false =>
          show wpAny _ X.A (handleBy (.ref a) X.env hds2) _ _ _
          exact ih (hno rfl)
    exact go hh w
  · cases f with
    | next =>
      obtain ⟨σ', H', J', q⟩ := hsp
      exact wpAny_execs_nil ⟨σ', H', J'.ofTry ok, q⟩
    | brk =>
      obtain ⟨σ', H', J', q⟩ := hsp
      exact ⟨σ', H', J'.ofTry ok, q⟩
    | cont =>
      obtain ⟨σ', H', J', q⟩ := hsp
      exact ⟨σ', H', J'.ofTry ok, q⟩
    | ret u =>
      obtain ⟨v, σ', H', J', r, q⟩ := hsp
      exact ⟨v, σ', H', J'.ofTry ok, r, q⟩
end
end G137
/-! Defs that are called where no repr is under way (repr of data within). -/
namespace G137
open PySem PySem.Spec PyProof.Rows L2

structure FnG (P : Program) (w : World) (K : PySem.W.Frag) (mg : Str → Option Value) (base : Heap) (CX : CXT) (k : Nat) (f : Addr) (fd : FuncData) (ps : List Str) (sp : Sp) : Prop where
  len : ∀ vs H Q E, sp vs H Q E → vs.length = ps.length
  run : ∀ (A : Around) (outer : List Env) (s : Shared) (H : Hp) (args : Args) (us : List Value) (vs : List V) (Q : VK) (E : XK), A.guards = some [] → Room k A → Env0 P w K mg base A outer s H → BindsTo s fd args (ps.zip us) → Vals vs us → sp vs H Q E →
    codeAny (model P w) A (.call (.ref f) args) (CR CX outer P w H s Q E) s
theorem FnG.ofOk {P : Program} {w : World} {K : PySem.W.Frag} {mg : Str → Option Value} {base : Heap} {CX : CXT} {k : Nat} {f : Addr} {fd : FuncData} {ps : List Str} {sp : Sp} (F : FnOk P w K mg base CX k f fd ps sp) : FnG P w K mg base CX k f fd ps sp :=
  ⟨F.len, fun A outer s H args us vs Q E _ => F.run A outer s H args us vs Q E⟩
theorem deeper_guards {A : Around} {env : Env} (h : A.guards = some []) : (A.deeper env).guards = some [] := by
  first | exact h | (simpa [Around.deeper] using h)

theorem fnG_of {CX : CXT} {P : Program} {w : World} {K : PySem.W.Frag} {mg : Str → Option Value} {base : Heap} {k : Nat} {f : Addr} {name qual : Str} {params : Arguments} {body : List Stmt} {scope : Scope} {dvs : List V} {kws : List (Str × V)} {fd : FuncData}
    {N ps : List Str} {sp : Sp} (F : FunD K name qual params body scope dvs kws f fd) (S : FnScope N ps scope)
    (len : ∀ vs H Q E, sp vs H Q E → vs.length = ps.length)
    (hbody : ∀ (cdv : Value) (A : Around) (outer : List Env) (s : Shared) (H : Hp) (vs : List V) (Q : VK) (E : XK), A.guards = some [] → Room k (A.deeper (envOfC qual scope s.heap.objs.size f cdv)) → sp vs H Q E →
      ∃ t, PSs (cxOf CX P w K mg base N qual scope f cdv A outer s H E) body t ∧ t { nx := fun _ H' => Q .non H', rt := Q } (start N vs) H) :
    FnG P w K mg base CX (k + 1) f fd ps sp := by
  obtain ⟨oc, od, dV, kV, doc, pm, an, cdv, ct, osl, rfl, lk, hcd, _, _⟩ := F.ex
  refine ⟨len, fun A outer s H args us vs Q E hgd hr e0 hb r hsp => ?_⟩
  have hl := len _ _ _ _ hsp
  have KX : K.In s.heap := e0.mod.kin.keeps fun b o e => (e0.bs b o e).1
  have lim : s.heap.NoLimit := e0.mod.nolimit.keeps fun b o e => (e0.bs b o e).1
  have hkind : ∀ y ∈ ps.zip us, scope.names.lookup y.1 = some .local ∨ (scope.names.lookup y.1 = some .cell ∧ ((cellsFrom (s.heap.objs.size + 1) scope.names []).lookup y.1).isSome = true) := fun ⟨n, v⟩ hy =>
    (S.par n (List.of_mem_zip hy).1).elim .inl fun q => .inr ⟨q, PySem.W.cellsFrom_some _ _ _ (.inl q)⟩
  refine codeAny_call_function hr.depth (KX _ _ lk) rfl S.co S.gen rfl (PySem.W.codeRec_of KX hcd) (hb _ _ _ _ ?_)
  refine wpAny_newFunctionEnv_cells S.kind hkind fun env he s1 x => ?_
  subst he
  obtain ⟨t, ht, hq⟩ := hbody cdv A outer s H vs Q E hgd (hr.deeper _) hsp
  have I : Inv (cxOf CX P w K mg base N qual scope f cdv A outer s H E) [] (start N vs) H s1 := inv_start S hr.hd e0 hl r x
  refine ⟨lim.keeps x.toInCall.keep, codeAny_func (wpAny_mono (ht.run [] s1 (start N vs) H _ I hq) (fun fl s' hs => ?_) fun e s' hs => hs)⟩
  match fl, hs with
  | .ret u, ⟨v, σ', H', J, rv, q⟩ => exact ⟨v, H', J.os, J.bare, J.base, J.hok, rv, q⟩
  | .next, ⟨σ', H', J, q⟩ => exact ⟨V.non, H', J.os, J.bare, J.base, J.hok, rfl, q⟩
  | .brk, ⟨_, _, _, q⟩ => exact False.elim q
  | .cont, ⟨_, _, _, q⟩ => exact False.elim q

section
variable {X : Cx} {CX : CXT} {k : Nat} {f : Addr} {fd : FuncData} {ps : List Str} {sp : Sp} {dvs : List V} {ds : List Value} {E : XK} {x : Str} {p pos : Pos} {e : Expr} {es : List Expr} {t : TA}
theorem pe_callG (F : FnG X.prog X.w X.K X.mg X.base CX k f fd ps sp) (hgd : X.A.guards = some []) (hr : Room k X.A) (hg : Gl X x) (hm : X.mg x = some (.ref f)) (hk : PySem.W.keepIn X.K (.ref f) = true) (hb : Binds X.K fd ps ds) (hd : Vals dvs ds) (hx : Passes CX X E)
    (ha : PA X (e :: es) t) (hdb : (x == ("__debug__" : Str)) = false := by decide) (he : starEach (e :: es) X.env = (false, eval e X.env) :: starEach es X.env := by rfl) (hpl : (backTo pos (starEach es X.env)).any (·.1) = false := by rfl) :
    PE X (.Call (.Name x p) (e :: es) [] pos) (tCall sp dvs E t) := by
  refine ⟨fun pins s σ H Q I h => wpAny_Call_Name_kw (ld_glob I hg hm ?_ hdb)⟩
  refine PySem.W.callWith_K (h₀ := X.base) I.ok.mod.kin hk (thn (ha.run pos pins s σ H _ I h) fun us s1 ⟨vs, H1, I1, r, q⟩ => ⟨I1.kIn, ?_⟩) he hpl
  have r2 : Vals (vs ++ dvs) (us ++ ds) := r.append hd
  have hl : (us ++ ds).length = ps.length := r2.length.symm.trans (F.len _ _ _ _ q)
  refine wpAny_call (codeAny_mono (F.run X.A X.stack s1 H1 ⟨us, []⟩ (us ++ ds) (vs ++ dvs) Q E hgd hr I1.env0 (hb s1 us I1.kIn hl) r2 q) fun r s' hq => ?_)
  match r, hq with
  | .error e, hq => exact hx pins σ H1 s1 e s' I1 hq
  | .ok (.ret u), hq => exact I1.after hq
  | .ok .next, hq => exact False.elim hq
  | .ok .brk, hq => exact False.elim hq
  | .ok .cont, hq => exact False.elim hq
end

/-- the law's own call -/
theorem law_callG {P : Program} {w : World} {K : PySem.W.Frag} {mg mb : Str → Option Value} {CX : CXT} {k : Nat} {fa a : Addr} {fd : FuncData} {x : Str} {sp : Sp} {s₁ : Shared} {vs : List Value} {ns : List Int}
    (KX : K.In s₁.heap) (hns : s₁.heap.Ns mainGlobals mg) (hb : s₁.heap.Ns builtinsNs mb) (hbb : ∀ x : Str, x ≠ "__name__" → mb x = bootBuiltins x) (hlim : s₁.heap.NoLimit) (hg : s₁.gens = #[])
    (ha : s₁.heap.get? a = some { cls := .type "list", data := .seq vs.toArray }) (hi : IntsAre vs ns) (hl : ns.length ≤ sizeLine) (hr : Room k callerA)
    (F : ∀ base : Heap, K.In base → base.Ns mainGlobals mg → FnG P w K mg base CX k fa fd [x] sp) (hbind : ∀ (s : Shared) (u : Value), BindsTo s fd ⟨[u], []⟩ [(x, u)])
    (hsp : ∀ H : Hp, Only H → SqL K H a (ns.map V.int) → sp [.ref a] H (fun v _ => v = .bl true) fun _ _ _ => False)
    (hCX : ∀ H e s', CX [] H s₁ (fun _ _ _ => False) e s' → False) :
    codeAny (model P w) callerA (.call (.ref fa) ⟨[.ref a], []⟩) (fun r s' => r = .ok (.ret (.bool true)) ∧ OldK s₁.heap s'.heap ∧ s'.os = s₁.os ∧ AllBare s'.gens) s₁ := by
  -- the same through a promise that is kept by callerA alone: F at its one place
  have rv := vals_ints hi
  have lenV := hi.length
  have core : ∀ H : Hp, Only H → SqL K H a (ns.map V.int) → HOk P w H s₁.heap → (∀ b, H b ≠ none → b = a) → (H a ≠ none → K.lookup a = none) →
      codeAny (model P w) callerA (.call (.ref fa) ⟨[.ref a], []⟩) (fun r s' => r = .ok (.ret (.bool true)) ∧ OldK s₁.heap s'.heap ∧ s'.os = s₁.os ∧ AllBare s'.gens) s₁ := by
    intro H hO hS hok hA hK
    have same : ∀ {b : Addr}, H b ≠ none → b = a := fun {b} z => hA b z
    have noA : ∀ {b : Addr} {o : Obj} {es : Array DictEntry} {ep : Nat}, s₁.heap.get? b = some o → o.data = .dict es ep → H b = none := fun {b o es ep} e d => by
      refine Classical.byContradiction fun z => ?_
      have e' := same z
      subst e'
      rw [ha] at e; cases e
      cases d
    have nsK : ∀ {b : Addr} {m : Str → Option Value}, s₁.heap.Ns b m → (hidT s₁.heap H).Ns b m := fun {b m} ⟨o, es, ep, e, d, r⟩ => ⟨o, es, ep, hidT_get e (noA e d), d, r⟩
    have hKb : K.In (hidT s₁.heap H) := fun b o e => hidT_get (KX b o e) (Classical.byContradiction fun z => by
      have e' := same z
      subst e'
      rw [hK z] at e; cases e)
    have hM : Mod K mg (hidT s₁.heap H) := ⟨hKb, nsK hns, ⟨mb, nsK hb, hbb⟩, let ⟨mc, h1, h2⟩ := hlim; ⟨mc, nsK h1, h2⟩⟩
    have e0 : Env0 P w K mg (hidT s₁.heap H) callerA [] s₁ H := ⟨rfl, hM, fun b o e => of_hidT e, Nat.le_of_eq (hidT_size _ _), trivial, fun b hb => absurd hb (by intro z; cases z), hok, .of_eq hg⟩
    refine codeAny_mono ((F _ hKb (nsK hns)).run callerA [] s₁ H ⟨[.ref a], []⟩ [.ref a] [.ref a] _ _ rfl hr e0 (hbind s₁ (.ref a)) (.cons rfl .nil) (hsp H hO hS)) fun r s' h => ?_
    match r, h with
    | .error e, h => exact (hCX H e s' h).elim
    | .ok .next, h => exact False.elim h
    | .ok .brk, h => exact False.elim h
    | .ok .cont, h => exact False.elim h
    | .ok (.ret u), ⟨v, H', os, bare, un, hok', r', q⟩ =>
      have q' : v = .bl true := q
      subst q'
      obtain rfl : u = Value.bool true := r'
      refine ⟨rfl, OldK.of_keep fun b o e => ?_, os, bare⟩
      cases q : H b with
      | none => exact un.keep b o e q (by intro z; cases z) (by intro z; cases z)
      | some u =>
        rcases hO b with z | ⟨ob, xs, z⟩
        · rw [q] at z; cases z
        · have z2 := un.frzs b ob _ z
          obtain ⟨e1, _⟩ := hok b _ z
          obtain ⟨e2, _⟩ := hok' b _ z2
          rw [e] at e1; cases e1
          exact e2
  cases hk : K.lookup a with
  | some o =>
    have e := KX a o hk
    rw [ha] at e
    cases e
    exact core (fun _ => none) (fun _ => .inl rfl) (.inr ⟨_, vs.toArray, _, hk, rfl, rfl, rfl, by rw [List.size_toArray, lenV]; exact hl, by simpa using rv⟩) (fun b u z => by cases z) (fun b z => absurd rfl z) (fun z => absurd rfl z)
  | none =>
    refine core (upd (fun _ => none) a (.frz { cls := .type "list", data := .seq vs.toArray } (.lst (ns.map V.int)))) (fun b => ?_) (.inl (.inr ⟨{ cls := .type "list", data := .seq vs.toArray }, upd_same⟩)) (fun b u z => ?_) (fun b z => ?_) fun _ => hk
    · by_cases hb : b = a
      · subst hb; exact .inr ⟨_, _, upd_same⟩
      · exact .inl (by rw [upd_ne hb])
    · by_cases hb : b = a
      · subst hb
        rw [upd_same] at z
        cases z
        exact ⟨ha, by rw [List.length_map]; exact hl, vs, _, rv, ha⟩
      · rw [upd_ne hb] at z; cases z
    · by_cases hb : b = a
      · exact hb
      · exact absurd (by rw [upd_ne hb]) z

theorem walk_ofG {l : PySem.W.OpenLaw} {n k : Nat} {q : Program} {loose : List Str} {XP : (Str → Option Value) → Heap → Prop} {YP : World → Heap → Prop} {d : DefRec} {CX : CXT} {x : Str}
    (hn : l.most = some n) (hn2 : n ≤ sizeLine) (hdf : d.params.defaults = []) (hr : Room k callerA)
    (F : ∀ (w : World) (mg : Str → Option Value) (fa : Addr) (h : Heap), YP w h → h.Ns mainGlobals mg → mg d.name = some (.ref fa) →
      ∃ (K : PySem.W.Frag) (fd : FuncData) (sp : Sp), K.In h ∧ (∀ (s : Shared) (u : Value), BindsTo s fd ⟨[u], []⟩ [(x, u)]) ∧
        (∀ (H : Hp) (a : Addr) (ns : List Int), ns.length ≤ n → Only H → SqL K H a (ns.map V.int) → sp [.ref a] H (fun v _ => v = .bl true) fun _ _ _ => False) ∧
        ∀ base : Heap, K.In base → base.Ns mainGlobals mg → FnG l.prog w K mg base CX k fa fd [x] sp)
    (hCX : ∀ (H : Hp) (s : Shared) (e : Value) (s' : Shared), CX [] H s (fun _ _ _ => False) e s' → False) :
    PySem.W.WalkO q loose XP YP l.row.toRowW d [] (fun f vs => PySem.call f vs) := by
  refine Att.attach_call hn hdf fun w s₀ s₁ mg mb fa o pm cd doc a vs ns G Y ho hd hcd hmg hobj hints hlen hg => ?_
  obtain ⟨K, fd, sp, KX, hb, hsp, hF⟩ := F w mg fa _ Y G.T.g hmg
  exact law_callG KX G.T.g G.T.b G.T.builtins G.T.nolimit hg hobj hints (Nat.le_trans hlen hn2) hr hF hb (fun H hO hS => hsp H a ns hlen hO hS) fun H e s' => hCX H s₁ e s'
end G137
/-! Data as a whole (lists, tuples, dicts with flat keys, nested), and its repr. -/
namespace G137
open PySem PySem.Spec PyProof.Rows L2

/-- a flat key of a dict -/
def FlatR : PyData → Value → Prop
  | .none, u => u = .none
  | .int i, u => ∃ t, u = .int i t
  | .str x, u => ∃ t, u = .str x t
  | _, _ => False
/-- a dict with flat keys of any kind, by its entries -/
def DicO (ks : List PyData) (xs : List V) (a : Addr) : HO := .ext fun h => ∃ o es n, h.get? a = some o ∧ o.cls = .type "dict" ∧ o.data = .dict es n ∧ Paired FlatR ks (es.toList.map (·.key)) ∧ Vals xs (es.toList.map (·.val))
theorem dicO_ok {P : Program} {w : World} {H : Hp} {h : Heap} {a : Addr} {ks : List PyData} {xs : List V} {o : Obj} {es : Array DictEntry} {n : Nat} (e : h.get? a = some o) (c : o.cls = .type "dict") (d : o.data = .dict es n)
    (hk : Paired FlatR ks (es.toList.map (·.key))) (hv : Vals xs (es.toList.map (·.val))) : ObjOk P w H h a (DicO ks xs a) :=
  ⟨⟨o, es, n, e, c, d, hk, hv⟩, ⟨o, e⟩, fun h1 h2 ⟨o, es, n, e, c, d, hk, hv⟩ k => ⟨o, es, n, k _ e, c, d, hk, hv⟩⟩
theorem dicO_at {P : Program} {w : World} {H : Hp} {h : Heap} {a : Addr} {ks : List PyData} {xs : List V} (hok : HOk P w H h) (e : H a = some (DicO ks xs a)) :
    ∃ o es n, h.get? a = some o ∧ o.cls = .type "dict" ∧ o.data = .dict es n ∧ Paired FlatR ks (es.toList.map (·.key)) ∧ Vals xs (es.toList.map (·.val)) := (hok a _ e).1

mutual
/-- v is the data d, all its objects tracked -/
inductive DR (H : Hp) : V → PyData → Prop
  | non : DR H .non .none
  | bl (b : Bool) : DR H (.bl b) (.bool b)
  | int (i : Int) : DR H (.int i) (.int i)
  | str (x : Str) : DR H (.str x) (.str x)
  | lst {a : Addr} {xs : List V} {ds : List PyData} : H a = some (.lst xs) → DRs H xs ds → DR H (.ref a) (.list ds)
  | tup {a : Addr} {xs : List V} {ds : List PyData} : H a = some (.tup xs) → DRs H xs ds → DR H (.ref a) (.tuple ds)
  | dic {a : Addr} {ks : List PyData} {xs : List V} {ds : List PyData} : H a = some (DicO ks xs a) → DRs H xs ds → DR H (.ref a) (.dict (ks.zip ds))
inductive DRs (H : Hp) : List V → List PyData → Prop
  | nil : DRs H [] []
  | cons {v : V} {vs : List V} {d : PyData} {ds : List PyData} : DR H v d → DRs H vs ds → DRs H (v :: vs) (d :: ds)
end
mutual
theorem DR.mono {H H' : Hp} (e : ∀ b o, H b = some o → H' b = some o) : ∀ {v : V} {d : PyData}, DR H v d → DR H' v d
  | _, _, .non => .non
  | _, _, .bl b => .bl b
  | _, _, .int i => .int i
  | _, _, .str x => .str x
  | _, _, .lst h r => .lst (e _ _ h) (DRs.mono e r)
  | _, _, .tup h r => .tup (e _ _ h) (DRs.mono e r)
  | _, _, .dic h r => .dic (e _ _ h) (DRs.mono e r)
theorem DRs.mono {H H' : Hp} (e : ∀ b o, H b = some o → H' b = some o) : ∀ {v : List V} {d : List PyData}, DRs H v d → DRs H' v d
  | _, _, .nil => .nil
  | _, _, .cons h r => .cons (DR.mono e h) (DRs.mono e r)
end
theorem DRs.length {H : Hp} : ∀ {xs : List V} {ds : List PyData}, DRs H xs ds → xs.length = ds.length
  | _, _, .nil => rfl
  | _, _, .cons _ r => congrArg Nat.succ (DRs.length r)
theorem flat_reads {h : Heap} : ∀ {ks : List PyData} {us : List Value}, Paired FlatR ks us → ReadsAll h us ks []
  | _, _, .nil => .nil
  | _, _, .cons (a := k) (b := u) r t => by
    have q : Reads h u k [] := by
      cases k with
      | none => cases r; exact .none
      | int i => obtain ⟨_, rfl⟩ := r; exact .int _ _
      | str x => obtain ⟨_, rfl⟩ := r; exact .str _ _
      | bool b => exact False.elim r
      | list xs => exact False.elim r
      | tuple xs => exact False.elim r
      | dict xs => exact False.elim r
    exact .cons q (flat_reads t)
theorem zip_fst {α β : Type} : ∀ {l : List α} {r : List β}, l.length = r.length → (l.zip r).map (·.1) = l
  | [], [], _ => rfl
  | a :: l, b :: r, h => by simp only [List.zip_cons_cons, List.map_cons]; rw [zip_fst (Nat.succ.inj h)]
  | [], _ :: _, h => by cases h
  | _ :: _, [], h => by cases h
theorem zip_snd {α β : Type} : ∀ {l : List α} {r : List β}, l.length = r.length → (l.zip r).map (·.2) = r
  | [], [], _ => rfl
  | a :: l, b :: r, h => by simp only [List.zip_cons_cons, List.map_cons]; rw [zip_snd (Nat.succ.inj h)]
  | [], _ :: _, h => by cases h
  | _ :: _, [], h => by cases h
theorem isTup_reads {H : Hp} {h : Heap} {a : Addr} {its : List Value} {ds : List PyData} {as : List Addr} (tp : IsTup h a its.toArray) (r1 : ReadsAll h its ds as) (r2 : ∀ b ∈ as, H b ≠ none) : ∃ as, Reads h (.ref a) (.tuple ds) as ∧ ∀ b ∈ as, H b ≠ none := by
  obtain ⟨ob, ho, hc⟩ := tp
  first
    | exact ⟨_, .tuple ho hc.1 hc.2 (by simpa using r1), r2⟩
    | (obtain ⟨h1, n, h2⟩ := hc; exact ⟨_, .tuple ho h1 h2 (by simpa using r1), r2⟩)
    | (subst hc; exact ⟨_, .tuple ho rfl rfl (by simpa using r1), r2⟩)
mutual
theorem DR.reads {P : Program} {w : World} {H : Hp} {h : Heap} (ok : HOk P w H h) : ∀ {v : V} {d : PyData} {u : Value}, DR H v d → RelV v u → ∃ as, Reads h u d as ∧ ∀ b ∈ as, H b ≠ none
  | _, _, _, .non, r => by cases r; exact ⟨_, .none, fun b hb => nomatch hb⟩
  | _, _, _, .bl b, r => by cases r; exact ⟨_, .bool b, fun b hb => nomatch hb⟩
  | _, _, _, .int i, r => by obtain ⟨t, rfl⟩ := r; exact ⟨_, .int i t, fun b hb => nomatch hb⟩
  | _, _, _, .str x, r => by obtain ⟨t, rfl⟩ := r; exact ⟨_, .str x t, fun b hb => nomatch hb⟩
  | _, _, _, .lst (a := a) e q, r => by
    cases r
    obtain ⟨_, its, n, rv, ho⟩ := ok _ _ e
    obtain ⟨as, r1, r2⟩ := DRs.reads ok q rv
    refine ⟨_, .list ho rfl rfl (by simpa using r1), fun b hb => ?_⟩
    rcases List.mem_cons.mp hb with z | z
    · rw [z, e]; exact fun z => nomatch z
    · exact r2 b z
  | _, _, _, .tup (a := a) e q, r => by
    cases r
    obtain ⟨_, its, rv, tp⟩ := ok _ _ e
    obtain ⟨as, r1, r2⟩ := DRs.reads ok q rv
    exact isTup_reads tp r1 r2
  | _, _, _, .dic (a := a) e q, r => by
    cases r
    obtain ⟨o, es, n, ho, hc, hd, hk, hv⟩ := dicO_at ok e
    obtain ⟨as, r1, r2⟩ := DRs.reads ok q hv
    have l1 := q.length
    have l2 : _ = _ := Paired.length hk
    have l3 : _ = _ := Paired.length hv
    rw [List.length_map] at l2 l3
    have l4 := l2.trans (l3.symm.trans l1)
    refine ⟨_, .dict (as := []) ho hc hd (by rw [zip_fst l4]; exact flat_reads hk) (by rw [zip_snd l4]; exact r1), fun b hb => ?_⟩
    rcases List.mem_append.mp hb with z | z
    · rcases List.mem_cons.mp z with z | z
      · rw [z, e]; exact fun z => nomatch z
      · exact nomatch z
    · exact r2 b z
theorem DRs.reads {P : Program} {w : World} {H : Hp} {h : Heap} (ok : HOk P w H h) : ∀ {v : List V} {d : List PyData} {u : List Value}, DRs H v d → Vals v u → ∃ as, ReadsAll h u d as ∧ ∀ b ∈ as, H b ≠ none
  | _, _, _, .nil, r => by cases r; exact ⟨_, .nil, fun b hb => nomatch hb⟩
  | _, _, _, .cons q t, r => by
    cases r with
    | cons r1 r2 =>
      obtain ⟨as, h1, h2⟩ := DR.reads ok q r1
      obtain ⟨bs, h3, h4⟩ := DRs.reads ok t r2
      refine ⟨_, .cons h1 h3, fun b hb => ?_⟩
      rcases List.mem_append.mp hb with z | z
      · exact h2 b z
      · exact h4 b z
end

/-- repr(v), v data -/
def rRepr : List V → Hp → VK → Prop := fun xs H Q => ∃ v d, xs = [v] ∧ DR H v d ∧ d.showable = true ∧ d.depth ≤ 60 ∧ d.shown.length ≤ sizeLine ∧ Q (.str d.shown) H
theorem call_reprD {X : Cx} {osys : Obj} (hgd : X.A.guards = some []) (hu : X.A.units + 64 < cLine) (hsys : X.K.lookup sysModules = some osys) : CallR X (.builtin "repr") rRepr := by
  intro pins s σ H xs us Q I r h
  obtain ⟨v, d, rfl, hd, hs, hdp, hl, q⟩ := h
  obtain ⟨u, rfl, ru⟩ := vals1 r
  have hn : H sysModules = none := (I.bs sysModules osys (I.ok.mod.kin _ _ hsys)).2
  have fin : ∀ {h' : Heap} {tk tt : Nat}, (∀ b o, s.heap.get? b = some o → h'.get? b = some o) → EP X pins σ Q (.str d.shown tt) { s with heap := h', toks := tk } := fun {h' tk tt} k => ⟨.str d.shown, H, I.kept k, ⟨_, rfl⟩, q⟩
  have same : ∀ b o, s.heap.get? b = some o → s.heap.get? b = some o := fun _ _ e => e
  cases hd with
  | non => cases ru; exact PySem.P.repr_of_none (fin same)
  | bl b => cases ru; exact PySem.P.repr_of_bool (by cases b <;> exact fin same)
  | int i => obtain ⟨t, rfl⟩ := ru; exact PySem.P.repr_of_int (of_decide_eq_true hs) (fin same)
  | str x => obtain ⟨t, rfl⟩ := ru; exact PySem.P.repr_of_str (fin same) hl
  | lst e qq =>
    obtain ⟨as, r1, r2⟩ := DR.reads I.hok (.lst e qq) ru
    cases ru
    exact repr_of_reads' r1 hs (fun _ hb => r2 _ hb hn) hgd (by omega) same (fun h' u tk k => fin k) hl
  | tup e qq =>
    obtain ⟨as, r1, r2⟩ := DR.reads I.hok (.tup e qq) ru
    cases ru
    exact repr_of_reads' r1 hs (fun _ hb => r2 _ hb hn) hgd (by omega) same (fun h' u tk k => fin k) hl
  | dic e qq =>
    obtain ⟨as, r1, r2⟩ := DR.reads I.hok (.dic e qq) ru
    cases ru
    exact repr_of_reads' r1 hs (fun _ hb => r2 _ hb hn) hgd (by omega) same (fun h' u tk k => fin k) hl
end G137
/-! Dicts whose keys may be None: their making from a list of pairs. -/
namespace G137
open PySem PySem.Spec PyProof.Rows L2
section
variable {prog : Program} {w : World} {A : Around} {E : Value → Shared → Prop} {s : Shared}
theorem pyHash_none {Q : Int → Shared → Prop} (h : Q 4238894112 { s with toks := s.toks + 1 }) : wpAny (model prog w) A (pyHash .none) Q E s := by
  unfold pyHash pyHashByItsType
  have hT : s.TypeIs .none "NoneType" := typeIs_none s
  refine wpAny_bind ?_
  rw [cRoomFor, if_neg (by exact Bool.false_ne_true)]; refine wpAny_pure ?_
  refine wpAny_bind (wpAny_specialOf hT PySem.F.slot_NoneType_hash.lookup ?_)
  rw [if_neg (by rw [beq_builtin_none]; exact Bool.false_ne_true)]
  refine wpAny_bind (wpAny_specialOf hT PySem.F.slot_NoneType_hash.lookup ?_)
  show wpAny _ _ (callSpecialIfBoundUnlessNone? .none "__hash__" _ >>= _) Q E s
  refine wpAny_bind (wpAny_callSpecialIfBoundUnlessNone?_slot hT PySem.F.slot_NoneType_hash
    (wpAny_call_entry PySem.F.slot_NoneType_hash hT PySem.F.entry_NoneType_hash
      (show wpAny _ _ (do ret (← mkInt 0xFCA86420)) _ _ s from wpAny_ret_mkInt ?_) (PySem.F.args_NoneType_hash_1 _)))
  exact wpAny_pure h
end

abbrev KeyN := Option L2.Key
def keyNIs : KeyN → Value → Bool
  | none, v => v == .none
  | some k, v => L2.keyIs k v
theorem keyNIs_shape : ∀ {k : KeyN} {v : Value}, keyNIs k v = true → (k = none ∧ v = .none) ∨ (∃ i t, k = some (.inl i) ∧ v = .int i t) ∨ (∃ x t, k = some (.inr x) ∧ v = .str x t)
  | none, v, h => .inl ⟨rfl, eq_of_beq h⟩
  | some k, v, h => by
    rcases L2.keyIs_shape h with ⟨i, t, rfl, rfl⟩ | ⟨x, t, rfl, rfl⟩
    · exact .inr (.inl ⟨i, t, rfl, rfl⟩)
    · exact .inr (.inr ⟨x, t, rfl, rfl⟩)
theorem eqBool_none {prog : Program} {w : World} {A : Around} {E : Value → Shared → Prop} {s : Shared} {Q : Bool → Shared → Prop} (h : Q true s) : wpAny (model prog w) A (eqBool .none .none) Q E s := by
  unfold eqBool
  refine wpAny_holding ?_
  rw [if_pos (by decide)]
  exact wpAny_bind (wpAny_rule (wpAny_pure h))
def optKind (prog : Program) (w : World) : PySem.KeyKind prog w KeyN where
  is := keyNIs
  hash := fun k => match k with | none => 4238894112 | some k => L2.keyH w k
  inj := fun v a b ha hb => by
    rcases keyNIs_shape ha with ⟨rfl, rfl⟩ | ⟨i, t, rfl, rfl⟩ | ⟨x, t, rfl, rfl⟩
    · rcases keyNIs_shape hb with ⟨rfl, _⟩ | ⟨i, t, _, e⟩ | ⟨x, t, _, e⟩
      · rfl
      · cases e
      · cases e
    · rcases keyNIs_shape hb with ⟨_, e⟩ | ⟨i, t, rfl, e⟩ | ⟨x, t, _, e⟩
      · cases e
      · cases e; rfl
      · cases e
    · rcases keyNIs_shape hb with ⟨_, e⟩ | ⟨i, t, _, e⟩ | ⟨x, t, rfl, e⟩
      · cases e
      · cases e
      · cases e; rfl
  byValue := fun k v h => by
    rcases keyNIs_shape h with ⟨rfl, rfl⟩ | ⟨i, t, rfl, rfl⟩ | ⟨x, t, rfl, rfl⟩ <;> rfl
  pyHash := fun hv h => by
    rcases keyNIs_shape hv with ⟨rfl, rfl⟩ | ⟨i, t, rfl, rfl⟩ | ⟨x, t, rfl, rfl⟩
    · exact pyHash_none h
    · exact wpAny_pyHash_int h
    · exact wpAny_pyHash_str h
  eqBool := fun hu hv h => by
    rcases keyNIs_shape hu with ⟨rfl, rfl⟩ | ⟨i, t, rfl, rfl⟩ | ⟨x, t, rfl, rfl⟩
    · rcases keyNIs_shape hv with ⟨rfl, rfl⟩ | ⟨j, u, rfl, rfl⟩ | ⟨y, u, rfl, rfl⟩
      · exact eqBool_none (by simpa using h)
      · exact SeqAt.EqAt.none_int j u _ _ _ _ (by simpa using h)
      · exact SeqAt.EqAt.none_str y u _ _ _ _ (by simpa using h)
    · rcases keyNIs_shape hv with ⟨rfl, rfl⟩ | ⟨j, u, rfl, rfl⟩ | ⟨y, u, rfl, rfl⟩
      · exact SeqAt.EqAt.int_none i t _ _ _ _ (by simpa using h)
      · refine wpAny_eqBool_int ?_
        have e : decide ((some (Sum.inl i) : KeyN) = some (Sum.inl j)) = (i == j) := by
          rw [← L2.key_ll]
          exact decide_eq_decide.mpr ⟨fun z => Option.some.inj z, fun z => congrArg some z⟩
        rw [e] at h
        exact h
      · exact SeqAt.EqAt.int_str i t y u _ _ _ _ (by simpa using h)
    · rcases keyNIs_shape hv with ⟨rfl, rfl⟩ | ⟨j, u, rfl, rfl⟩ | ⟨y, u, rfl, rfl⟩
      · exact SeqAt.EqAt.str_none x t _ _ _ _ (by simpa using h)
      · exact SeqAt.EqAt.str_int x t j u _ _ _ _ (by simpa using h)
      · exact wpAny_eqBool_str (by simpa using h)
  «strs» := fun k x t v h => by
    rcases keyNIs_shape h with ⟨rfl, e⟩ | ⟨i, u, rfl, e⟩ | ⟨y, u, rfl, e⟩
    · cases e
    · cases e
    · cases e
      show L2.keyIs (.inr x) v = _
      cases v <;> rfl

section
variable {prog : Program} {w : World} {A : Around} {E : Value → Shared → Prop} {κ : Type} [DecidableEq κ] {knd : PySem.KeyKind prog w κ}
/-- the pairs of a list go into a dict, whatever the kind of keys -/
theorem pairs_loop {R : Result → Shared → Prop} {S I l : Addr} {items : Array Value} {res : Value} (hh : A.handled = none) (hlI : l ≠ I) (hSI : S ≠ I) (hSl : S ≠ l) :
    ∀ (rest : List (κ × Value)) (i : Nat) (acc : List (κ × Value)) (ix : Int) (t : Tok) (s : Shared), items.size = i + rest.length → acc.length + rest.length ≤ sizeLine →
      (∀ (j : Nat) (q : κ × Value), rest[j]? = some q → ∃ (b : Addr) (u : Value), items[i + j]? = some (.ref b) ∧ b ≠ S ∧ b ≠ I ∧ IsTup s.heap b #[u, q.2] ∧ knd.is q.1 u = true) →
      s.heap.IsListIter I l i → s.heap.IsList l items → s.heap.DictOf knd S acc →
      (∀ h' tk, h'.DictOf knd S (merged acc rest) → (∀ b o, b ≠ S → b ≠ I → s.heap.get? b = some o → h'.get? b = some o) → R (.ok (.ret res)) { s with heap := h', toks := tk }) →
      codeAny (model prog w) A (.builtin "dict.update.loop" ⟨[.ref S, .ref I, .int ix t, res], []⟩) R s
  | [], i, acc, ix, t, s, hsz, hln, ht, hit, hl, hm, hR => by
    refine codeAny_builtin ud_entry ?_
    rw [Around.under_plainId ud_plain _]
    show wpAny _ A.in1 (pyNext (.ref I) >>= _) _ _ s
    refine wpAny_bind (wpAny_pyNext_list_end (A := A.in1) hh hit hl (by simp at hsz; simp; omega) fun h' he => ?_)
    show wpAny _ A.in1 (Builtin.Dict.addKeywords S [] >>= _) _ _ _
    exact wpAny_bind (wpAny_pure (wpAny_pure (hR h' s.toks (hm.extBut he hSI) fun b o _ hb e => he b o hb e)))
  | q :: rest, i, acc, ix, t, s, hsz, hln, ht, hit, hl, hm, hR => by
    obtain ⟨b, u, hb, hbS, hbI, htup, hk⟩ := ht 0 q rfl
    rw [List.length_cons] at hsz hln
    refine codeAny_builtin ud_entry ?_
    rw [Around.under_plainId ud_plain _]
    show wpAny _ A.in1 (pyNext (.ref I) >>= _) _ _ s
    refine wpAny_bind (wpAny_pyNext_list_item (x := .ref b) hit hl (by simpa using hb) fun h1 hit1 hs1 => ?_)
    obtain ⟨o, ho, hc, n, hd⟩ := id (htup.extBut hs1.extBut hbI)
    show wpAny _ A.in1 (holding [Value.ref b] _ >>= _) _ _ _
    refine wpAny_bind (wpAny_holding (wpAny_bind (wpAny_tryCatch ?_)))
    unfold Builtin.Dict.pairItems
    refine wpAny_bind (wpAny_typeOf (T := "tuple") ⟨o, ho, hc⟩ ?_)
    rw [if_pos (by first | decide | rfl | simp)]
    refine wpAny_bind (wpAny_seqItems ho hd (wpAny_pure ?_))
    show wpAny _ A.in1 (holding [u, q.2] (dictSet S u q.2)) _ _ _
    refine wpAny_holding (wpAny_dictSet_pairs (knd := knd) (k := q.1) hk (hm.extBut hs1.extBut hSI) (fun h2 hm2 hs2 => ?_) (by omega))
    refine wpAny_pure ⟨plainId_quiet ud_plain _, pairs_loop (items := items) hh hlI hSI hSl rest (i + 1) (stored acc q.1 q.2) (ix + 1) 0 _ (show items.size = i + 1 + rest.length by omega) ?_ (fun j q' e => ?_) ?_ ?_ hm2 fun h' tk hd' k => ?_⟩
    · have z := stored_length_le acc q.1 q.2
      omega
    · obtain ⟨b', u', hb', hbS', hbI', htup', hk'⟩ := ht (j + 1) q' (by simpa using e)
      exact ⟨b', u', by rw [show i + 1 + j = i + (j + 1) by omega]; exact hb', hbS', hbI', (htup'.extBut hs1.extBut hbI').extBut hs2.extBut hbS', hk'⟩
    · exact hit1.at fun o' e => hs2.extBut I o' (Ne.symm hSI) e
    · exact (hl.extBut hs1.extBut hlI).extBut hs2.extBut (Ne.symm hSl)
    · exact hR h' tk hd' fun c oc h3 h4 e => k c oc h3 h4 (hs2.extBut c oc h3 (hs1.extBut c oc h4 e))
/-- dict(l), l a list of pairs -/
theorem call_dict_of {s : Shared} {l : Addr} {ol : Obj} {items : Array Value} {n : Nat} {prs : List (κ × Value)} {Q : Value → Shared → Prop} (hh : A.handled = none) (hl : s.heap.get? l = some ol) (hc : ol.cls = .type "list") (hd : ol.dict = none)
    (hdat : ol.data = .seq items n) (hsz : items.size = prs.length) (hln : prs.length ≤ sizeLine)
    (ht : ∀ (j : Nat) (q : κ × Value), prs[j]? = some q → ∃ (b : Addr) (u : Value), items[j]? = some (.ref b) ∧ IsTup s.heap b #[u, q.2] ∧ knd.is q.1 u = true)
    (h : ∀ h' tk, h'.DictOf knd s.heap.objs.size (merged [] prs) → (∀ b o, s.heap.get? b = some o → h'.get? b = some o) → Q (.ref s.heap.objs.size) { s with heap := h', toks := tk }) :
    wpAny (model prog w) A (call (.type "dict") [.ref l]) Q E s := by
  refine callType_codes (Q₁ := fun obj s₁ => obj = .ref s.heap.objs.size ∧ s₁ = { s with heap := s.heap.push { cls := .type "dict", data := .dict #[] } }) PySem.F.kt_called_dict (PySem.F.kt_typeCall_dict_1 _) PySem.F.entry_dict_init (kt_code_dict_new _ ⟨rfl, rfl⟩) ?_
  rintro obj s₁ ⟨rfl, rfl⟩
  have hnew : (s.heap.push { cls := .type "dict", data := .dict #[] }).DictOf knd s.heap.objs.size [] := Heap.DictOf.new s.heap
  have k0 : ∀ b o, s.heap.get? b = some o → (s.heap.push { cls := .type "dict", data := .dict #[] }).get? b = some o := fun b o e => Heap.get?_push_of_some _ e
  refine ⟨hnew.typeIs, PySem.F.args_dict_init_2 _ _, ?_⟩
  unfold Builtin.«dict.__init__» Builtin.Dict.selfAndRest
  refine wpAny_bind (wpAny_bind (wpAny_notOrdered_dict hnew.typeIs ?_))
  show wpAny _ _ (pure (s.heap.objs.size, [Value.ref l])) _ _ _
  refine wpAny_pure ?_
  show wpAny _ _ (Builtin.Dict.updateFrom "dict.__init__" s.heap.objs.size (.ref l) [] .none) _ _ _
  unfold Builtin.Dict.updateFrom
  refine wpAny_bind (wpAny_typeOf (T := "list") ⟨ol, k0 _ _ hl, hc⟩ ?_)
  rw [if_pos (by first | decide | rfl | simp)]
  refine wpAny_bind (miss_list (k0 _ _ hl) hc hdat hd hh fun h1 tk1 hk1 => ?_)
  rw [if_pos (show (none : Option Value).isNone = true from rfl)]
  refine wpAny_bind (wpAny_rule ?_)
  have hl1 : h1.IsList l items := ⟨ol, hk1 _ _ (k0 _ _ hl), hc, n, hdat⟩
  have hS1 : s.heap.objs.size < h1.objs.size := Heap.lt_size (hk1 _ _ (Heap.get?_push_size s.heap (o := { cls := .type "dict", data := .dict #[] }) rfl))
  refine wpAny_bind (wpAny_pyIter_list hl1 ?_)
  have k2 : ∀ b o, h1.get? b = some o → (h1.push { cls := .type "list_iterator", data := .fields #[.ref l, .int 0 0] }).get? b = some o := fun b o e => Heap.get?_push_of_some _ e
  have hlt : l < s.heap.objs.size := Heap.lt_size hl
  have key := pairs_loop (knd := knd) (A := A.in1) (R := wants (fun r s₂ => r = .none ∧ Q (.ref s.heap.objs.size) s₂) E) (S := s.heap.objs.size) (I := h1.objs.size) (l := l) (items := items) (res := Value.none) hh
    (Nat.ne_of_lt (Nat.lt_trans hlt hS1)) (Nat.ne_of_lt hS1) (Nat.ne_of_gt hlt) prs 0 [] 0 0
    { s with heap := h1.push { cls := .type "list_iterator", data := .fields #[.ref l, .int 0 0] }, toks := tk1 } (by rw [hsz, Nat.zero_add]) (by rw [List.length_nil, Nat.zero_add]; exact hln)
    (fun j q e => by
      obtain ⟨b, u, e1, e2, e3⟩ := ht j q e
      have hb : b < s.heap.objs.size := e2.lt
      exact ⟨b, u, by rw [Nat.zero_add]; exact e1, Nat.ne_of_lt hb, Nat.ne_of_lt (Nat.lt_trans hb hS1), e2.keeps fun c o z => k2 _ _ (hk1 _ _ (k0 _ _ z)), e3⟩)
    ⟨_, Heap.get?_push_size _ rfl, rfl, rfl⟩ (hl1.at fun o e => k2 _ _ e) ((hnew.at fun o e => hk1 _ _ e).at fun o e => k2 _ _ e)
    (fun h' tk hd' k => ⟨rfl, h h' tk hd' fun b o e => k b o (Nat.ne_of_lt (Heap.lt_size e)) (Nat.ne_of_lt (Nat.lt_trans (Heap.lt_size e) hS1)) (k2 _ _ (hk1 _ _ (k0 _ _ e)))⟩)
  first
    | exact wpAny_pure ⟨plainId_quiet ud_plain _, key⟩
    | exact wpAny_bind (wpAny_pure (wpAny_pure ⟨plainId_quiet ud_plain _, key⟩))
end
end G137
/-! list(zip(xs, ys)) of two lists, and dict of it. -/
namespace G137
open PySem PySem.Spec PyProof.Rows L2
theorem nolen_zip : typeLookup (.type "zip") "__len__" = pure none := by rw [typeLookup_type, builtinLookup_eq_fast]; kernel_rfl
theorem nohint_zip : typeLookup (.type "zip") "__length_hint__" = pure none := by rw [typeLookup_type, builtinLookup_eq_fast]; kernel_rfl

/-- a zip over two lists, i turns gone, S apart from it -/
structure ZipSt (z TI TO i1 i2 l1 l2 S : Addr) (xs ys : Array Value) (i : Nat) (h : Heap) : Prop where
  ti : IsPair h TI (.ref i1) (.ref i2)
  h1 : h.IsListIter i1 l1 i
  h2 : h.IsListIter i2 l2 i
  l1 : h.IsList l1 xs
  l2 : h.IsList l2 ys
  zp : (PySem.IsZip h z TI TO .none ∧ ∃ a b, IsPair h TO a b) ∨ ∃ T f oT, IsZipHeld h z TI TO T f ∧ h.get? T = some oT ∧ T ≠ z ∧ T ≠ i1 ∧ T ≠ i2 ∧ T ≠ S
structure Off (z TI TO i1 i2 l1 l2 S : Addr) : Prop where
  a : S ≠ z
  b : S ≠ TI
  c : S ≠ TO
  d : S ≠ i1
  e : S ≠ i2
  f : S ≠ l1
  g : S ≠ l2
theorem ZipSt.keep {z TI TO i1 i2 l1 l2 S : Addr} {xs ys : Array Value} {i : Nat} {h h' : Heap} (O : Off z TI TO i1 i2 l1 l2 S) (st : ZipSt z TI TO i1 i2 l1 l2 S xs ys i h) (k : ∀ b o, b ≠ S → h.get? b = some o → h'.get? b = some o) : ZipSt z TI TO i1 i2 l1 l2 S xs ys i h' := by
  refine ⟨k _ _ O.b.symm st.ti, st.h1.at fun o e => k _ o O.d.symm e, st.h2.at fun o e => k _ o O.e.symm e, st.l1.at fun o e => k _ o O.f.symm e, st.l2.at fun o e => k _ o O.g.symm e, ?_⟩
  rcases st.zp with ⟨hz, a, b, ho⟩ | ⟨T, f, oT, hz, hT, r1, r2, r3, r4⟩
  · exact .inl ⟨k _ _ O.a.symm hz, a, b, k _ _ O.c.symm ho⟩
  · exact .inr ⟨T, f, oT, k _ _ O.a.symm hz, k _ _ r4 hT, r1, r2, r3, r4⟩

section
variable {prog : Program} {w : World} {A : Around} {E : Value → Shared → Prop} {z TI TO i1 i2 l1 l2 S : Addr} {xs ys : Array Value}
theorem zip_item {s : Shared} {i : Nat} {x y : Value} {Q : Option Value → Shared → Prop} (D : PySem.ZipApart z TI TO i1 i2 l1 l2) (O : Off z TI TO i1 i2 l1 l2 S) (hS : S < s.heap.objs.size) (st : ZipSt z TI TO i1 i2 l1 l2 S xs ys i s.heap) (ex : xs[i]? = some x) (ey : ys[i]? = some y)
    (hQ : ∀ h', ZipSt z TI TO i1 i2 l1 l2 S xs ys (i + 1) h' → IsPair h' s.heap.objs.size x y → h'.objs.size = s.heap.objs.size + 1 → (∀ c o, c ≠ z → c ≠ TO → c ≠ i1 → c ≠ i2 → s.heap.get? c = some o → h'.get? c = some o) → Q (some (.ref s.heap.objs.size)) { s with heap := h' }) :
    wpAny (model prog w) A (pyNext (.ref z)) Q E s := by
  have lt : ∀ {c o}, s.heap.get? c = some o → s.heap.objs.size ≠ c := fun e => Nat.ne_of_gt (Heap.lt_size e)
  have n1 : s.heap.objs.size ≠ i1 := let ⟨_, e, _⟩ := st.h1; lt e
  have n2 : s.heap.objs.size ≠ i2 := let ⟨_, e, _⟩ := st.h2; lt e
  rcases st.zp with ⟨hz, a, b, hTO⟩ | ⟨T, f, oT, hz, hT, r1, r2, r3, r4⟩
  · refine wpAny_pyNext_zip_item D hz st.ti hTO st.h1 st.h2 st.l1 st.l2 ex ey fun h' a1 a2 a3 a4 a5 a6 hk => hQ h' ?_ a5 a6 hk
    exact ⟨hk _ _ D.TIz D.TITO D.TIi1 D.TIi2 st.ti, a3, a4, st.l1.at fun o e => hk _ o D.l1z D.l1TO D.l1i1 D.l1i2 e, st.l2.at fun o e => hk _ o D.l2z D.l2TO D.l2i1 D.l2i2 e, .inr ⟨s.heap.objs.size, false, _, a1, a5, lt hz, n1, n2, Nat.ne_of_gt hS⟩⟩
  · refine wpAny_pyNext_zip_item_held D hz hT st.ti st.h1 st.h2 st.l1 st.l2 ex ey fun h' a1 a3 a4 a5 a6 hk => hQ h' ?_ a5 a6 fun c o c1 _ c3 c4 e => hk c o c1 c3 c4 e
    exact ⟨hk _ _ D.TIz D.TIi1 D.TIi2 st.ti, a3, a4, st.l1.at fun o e => hk _ o D.l1z D.l1i1 D.l1i2 e, st.l2.at fun o e => hk _ o D.l2z D.l2i1 D.l2i2 e, .inr ⟨T, true, oT, a1, hk _ _ r1 r2 r3 hT, r1, r2, r3, r4⟩⟩
theorem zip_done {s : Shared} {i : Nat} {Q : Option Value → Shared → Prop} (hh : A.handled = none) (D : PySem.ZipApart z TI TO i1 i2 l1 l2) (st : ZipSt z TI TO i1 i2 l1 l2 S xs ys i s.heap) (hend : xs[i]? = none ∨ ys[i]? = none)
    (hQ : ∀ h', (∀ c o, c ≠ z → c ≠ TO → c ≠ i1 → c ≠ i2 → s.heap.get? c = some o → h'.get? c = some o) → Q none { s with heap := h' }) :
    wpAny (model prog w) A (pyNext (.ref z)) Q E s := by
  rcases st.zp with ⟨hz, a, b, hTO⟩ | ⟨T, f, oT, hz, hT, r1, r2, r3, r4⟩
  · exact wpAny_pyNext_zip_end hh D hz st.ti hTO st.h1 st.h2 st.l1 st.l2 hend fun h' hk => hQ h' hk
  · exact wpAny_pyNext_zip_end_held hh D hz hT st.ti st.h1 st.h2 st.l1 st.l2 hend fun h' hk => hQ h' fun c o c1 _ c3 c4 e => hk c o c1 c3 c4 e

/-- what the list S has got: pairs at new places above lo -/
structure Got (xs ys : Array Value) (lo : Addr) (h : Heap) (as : List Addr) : Prop where
  above : ∀ a ∈ as, lo < a
  pairs : ∀ (j : Nat) (a : Addr), as[j]? = some a → ∃ x y, xs[j]? = some x ∧ ys[j]? = some y ∧ IsPair h a x y

theorem zip_loop {R : Result → Shared → Prop} {s : Shared} (hh : A.handled = none) (D : PySem.ZipApart z TI TO i1 i2 l1 l2) (O : Off z TI TO i1 i2 l1 l2 S) (lo : Addr) (hlo : z ≤ lo ∧ TO ≤ lo ∧ i1 ≤ lo ∧ i2 ≤ lo ∧ S ≤ lo) (res : Value) {h₁ : Heap} {n : Nat} (hn : n ≤ 1000)
    (hsome : ∀ i, i < n → (∃ x, xs[i]? = some x) ∧ ∃ y, ys[i]? = some y) (hend : xs[n]? = none ∨ ys[n]? = none)
    (hR : ∀ h' tk acc c as, (∀ b o, b ≠ S → b ≠ z → b ≠ TO → b ≠ i1 → b ≠ i2 → h₁.get? b = some o → h'.get? b = some o) → h'.get? S = some { cls := .type "list", dict := none, data := .seq acc c, slots := #[] } → as.length = n → Got xs ys lo h' as →
      acc.toList = as.map Value.ref → R (.ok (.ret res)) { s with heap := h', toks := tk }) :
    ∀ (k i : Nat) (h : Heap) (tk c : Nat) (acc : Array Value) (as : List Addr), n - i = k → i ≤ n → ZipSt z TI TO i1 i2 l1 l2 S xs ys i h → (∀ b o, b ≠ S → b ≠ z → b ≠ TO → b ≠ i1 → b ≠ i2 → h₁.get? b = some o → h.get? b = some o) →
      h.get? S = some { cls := .type "list", dict := none, data := .seq acc c, slots := #[] } → acc.toList = as.map Value.ref → as.length = i → Got xs ys lo h as → lo < h.objs.size →
      codeAny (model prog w) A (.builtin "list.extend.loop" ⟨[.ref S, .ref z, res], []⟩) R { s with heap := h, toks := tk } := by
  have above_ne : ∀ {a : Addr}, lo < a → a ≠ z ∧ a ≠ TO ∧ a ≠ i1 ∧ a ≠ i2 ∧ a ≠ S := fun {a} q =>
    ⟨Nat.ne_of_gt (Nat.lt_of_le_of_lt hlo.1 q), Nat.ne_of_gt (Nat.lt_of_le_of_lt hlo.2.1 q), Nat.ne_of_gt (Nat.lt_of_le_of_lt hlo.2.2.1 q), Nat.ne_of_gt (Nat.lt_of_le_of_lt hlo.2.2.2.1 q), Nat.ne_of_gt (Nat.lt_of_le_of_lt hlo.2.2.2.2 q)⟩
  intro k
  induction k with
  | zero =>
    intro i h tk c acc as hk hi hst hkeep hS hacc hal hG hIs
    have hin : i = n := by omega
    subst hin
    refine codeAny_builtin PySem.F.entry_extend_loop ?_
    rw [Around.under_plainId PySem.F.plain_extend_loop _]
    show wpAny _ A.in1 (pyNext (.ref z) >>= _) _ _ _
    refine wpAny_bind (zip_done (s := { s with heap := h, toks := tk }) (A := A.in1) hh D hst hend fun h' he => ?_)
    refine wpAny_pure (hR h' tk acc c as (fun b o b1 b2 b3 b4 b5 e => he b o b2 b3 b4 b5 (hkeep b o b1 b2 b3 b4 b5 e)) (he S _ O.a O.c O.d O.e hS) hal ⟨hG.above, fun j a hj => ?_⟩ hacc)
    obtain ⟨x, y, e1, e2, e3⟩ := hG.pairs j a hj
    obtain ⟨q1, q2, q3, q4, q5⟩ := above_ne (hG.above a (List.mem_of_getElem? hj))
    exact ⟨x, y, e1, e2, he a _ q1 q2 q3 q4 e3⟩
  | succ k ih =>
    intro i h tk c acc as hk hi hst hkeep hS hacc hal hG hIs
    have hlt : i < n := by omega
    have hsz : acc.size = i := by rw [← Array.length_toList, hacc, List.length_map, hal]
    obtain ⟨⟨x, ex⟩, y, ey⟩ := hsome i hlt
    refine codeAny_builtin PySem.F.entry_extend_loop ?_
    rw [Around.under_plainId PySem.F.plain_extend_loop _]
    show wpAny _ A.in1 (pyNext (.ref z) >>= _) _ _ _
    refine wpAny_bind (zip_item (s := { s with heap := h, toks := tk }) D O (Heap.lt_size hS) hst ex ey fun h' hst' ht hz hkp => ?_)
    dsimp only at ht hz hkp ⊢
    have hS' := hkp S _ O.a O.c O.d O.e hS
    have up : ∀ b o, b ≠ S → h'.get? b = some o → (h'.update S (Obj.mapSeq (·.push (Value.ref h.objs.size)))).get? b = some o := fun b o hb e => (Heap.get?_update_other _ _ (Ne.symm hb)).trans e
    obtain ⟨p1, p2, p3, p4, p5⟩ := above_ne hIs
    show wpAny _ A.in1 (updateSeq S (·.push (Value.ref h.objs.size)) >>= _) _ _ _
    refine wpAny_bind ?_
    refine wpAny_updateSeq hS' rfl (wpAny_pure ⟨plainId_quiet PySem.F.plain_extend_loop _, ih (i + 1) _ tk _ (acc.push (Value.ref h.objs.size)) (as ++ [h.objs.size]) (by omega) hlt (hst'.keep O up)
      (fun b o b1 b2 b3 b4 b5 e => up b o b1 (hkp b o b2 b3 b4 b5 (hkeep b o b1 b2 b3 b4 b5 e))) (Heap.get?_update_self _ hS' rfl) (by rw [Array.toList_push, hacc, List.map_append]; rfl) (by rw [List.length_append, hal]; rfl) ⟨?_, ?_⟩ ?_⟩)
      (by rw [hsz]; show i ≤ _; have := sizeLine_eq; omega) (by show (acc.push (Value.ref h.objs.size)).size ≤ sizeLine + 1; rw [Array.size_push, hsz, sizeLine_eq]; omega)
    · intro a ha
      rcases List.mem_append.mp ha with ha | ha
      · exact hG.above a ha
      · rw [List.mem_singleton.mp ha]; exact hIs
    · intro j b hj
      rcases Nat.lt_trichotomy j as.length with q | q | q
      · rw [List.getElem?_append_left q] at hj
        obtain ⟨x', y', e1, e2, e3⟩ := hG.pairs j b hj
        obtain ⟨q1, q2, q3, q4, q5⟩ := above_ne (hG.above b (List.mem_of_getElem? hj))
        exact ⟨x', y', e1, e2, up b _ q5 (hkp b _ q1 q2 q3 q4 e3)⟩
      · subst q
        have hb : h.objs.size = b := by simpa using hj
        subst hb
        exact ⟨x, y, by rw [hal]; exact ex, by rw [hal]; exact ey, up _ _ p5 ht⟩
      · have hnone : (as ++ [h.objs.size])[j]? = none := List.getElem?_eq_none (by rw [List.length_append, List.length_singleton]; omega)
        rw [hnone] at hj; cases hj
    · have e := Heap.lt_size (up _ _ p5 ht)
      exact Nat.lt_trans hIs e
/-- list(z), z a zip that has not begun -/
theorem call_list_zip {s : Shared} {Q : Value → Shared → Prop} {n : Nat} (hh : A.handled = none) (D : PySem.ZipApart z TI TO i1 i2 l1 l2) (hz : PySem.IsZip s.heap z TI TO .none) (hti : IsPair s.heap TI (.ref i1) (.ref i2)) {oa ob : Value} (hto : IsPair s.heap TO oa ob)
    (h1 : s.heap.IsListIter i1 l1 0) (h2 : s.heap.IsListIter i2 l2 0) (hl1 : s.heap.IsList l1 xs) (hl2 : s.heap.IsList l2 ys) (hn : n ≤ 1000)
    (hsome : ∀ i, i < n → (∃ x, xs[i]? = some x) ∧ ∃ y, ys[i]? = some y) (hend : xs[n]? = none ∨ ys[n]? = none)
    (hQ : ∀ h' tk acc c as, (∀ b o, b ≠ z → b ≠ TO → b ≠ i1 → b ≠ i2 → s.heap.get? b = some o → h'.get? b = some o) → h'.get? s.heap.objs.size = some { cls := .type "list", dict := none, data := .seq acc c, slots := #[] } → as.length = n → Got xs ys s.heap.objs.size h' as →
      acc.toList = as.map Value.ref → Q (.ref s.heap.objs.size) { s with heap := h', toks := tk }) :
    wpAny (model prog w) A (call (.type "list") [.ref z]) Q E s := by
  have zl := Heap.lt_size hz
  have til := Heap.lt_size hti
  have tol := Heap.lt_size hto
  have i1l : i1 < s.heap.objs.size := let ⟨_, e, _⟩ := h1; Heap.lt_size e
  have i2l : i2 < s.heap.objs.size := let ⟨_, e, _⟩ := h2; Heap.lt_size e
  have l1l : l1 < s.heap.objs.size := let ⟨_, e, _⟩ := hl1; Heap.lt_size e
  have l2l : l2 < s.heap.objs.size := let ⟨_, e, _⟩ := hl2; Heap.lt_size e
  have O : Off z TI TO i1 i2 l1 l2 s.heap.objs.size := ⟨Nat.ne_of_gt zl, Nat.ne_of_gt til, Nat.ne_of_gt tol, Nat.ne_of_gt i1l, Nat.ne_of_gt i2l, Nat.ne_of_gt l1l, Nat.ne_of_gt l2l⟩
  have st0 : ZipSt z TI TO i1 i2 l1 l2 s.heap.objs.size xs ys 0 s.heap := ⟨hti, h1, h2, hl1, hl2, .inl ⟨hz, oa, ob, hto⟩⟩
  refine callType_codes (Q₁ := fun obj s₁ => obj = .ref s.heap.objs.size ∧ s₁ = { s with heap := s.heap.push { cls := .type "list", data := .seq #[] } }) PySem.F.called_list (PySem.F.typeCall_list_1 _) PySem.F.entry_list_init
    (code_list_new _ ⟨rfl, rfl⟩) fun obj s₁ e₁ => ?_
  obtain ⟨rfl, rfl⟩ := e₁
  have hS : (s.heap.push { cls := .type "list", data := .seq #[] }).get? s.heap.objs.size = some { cls := .type "list", data := .seq #[] } := Heap.get?_push_size _ rfl
  refine ⟨⟨_, hS, rfl⟩, PySem.F.args_list_init_2 _ _, ?_⟩
  show wpAny _ A.in1.in1 (do let old ← Builtin.List.listItems (.ref s.heap.objs.size); Builtin.List.listUpdate (.ref s.heap.objs.size) (fun _ => #[]); letGo old.toList.reverse; Builtin.List.listExtendWith (.ref s.heap.objs.size) (.ref z) .none) _ _ _
  refine wpAny_bind ?_
  unfold Builtin.List.listItems
  refine wpAny_bind (wpAny_seqItems hS rfl (wpAny_pure ?_))
  show wpAny _ A.in1.in1 (updateSeq s.heap.objs.size (fun _ => #[]) >>= fun _ => letGo (#[] : Array Value).toList.reverse >>= fun _ => Builtin.List.listExtendWith (.ref s.heap.objs.size) (.ref z) .none) _ _ _
  refine wpAny_bind (wpAny_updateSeq hS rfl ?_)
  have hS2 := Heap.get?_update_self (Obj.mapSeq (fun _ => (#[] : Array Value))) hS rfl
  refine wpAny_bind (wpAny_letGo ?_)
  unfold Builtin.List.listExtendWith
  have up : ∀ (h : Heap) (f : Obj → Obj), (∀ b o, b ≠ s.heap.objs.size → s.heap.get? b = some o → h.get? b = some o) → ∀ b o, b ≠ s.heap.objs.size → s.heap.get? b = some o → (h.update s.heap.objs.size f).get? b = some o := fun h f q b o hb e =>
    (Heap.get?_update_other _ _ (Ne.symm hb)).trans (q b o hb e)
  have k1 : ∀ b o, b ≠ s.heap.objs.size → s.heap.get? b = some o → (s.heap.push { cls := .type "list", data := .seq #[] }).get? b = some o := fun b o _ e => Heap.get?_push_of_some _ e
  have k2 := up _ (Obj.mapSeq (fun _ => (#[] : Array Value))) k1
  have zT : ∀ {h : Heap} {tk : Nat}, (∀ b o, b ≠ s.heap.objs.size → s.heap.get? b = some o → h.get? b = some o) → Shared.TypeIs { s with heap := h, toks := tk } (.ref z) "zip" := fun {h tk} q => ⟨_, q _ _ O.a.symm hz, rfl⟩
  refine wpAny_bind (wpAny_typeOf (zT k2) ?_)
  have e1 : Builtin.List.listSameRef (.ref s.heap.objs.size) (.ref z) = false := by simp [Builtin.List.listSameRef, O.a]
  have e2 : (Value.type "zip" == Value.type "list") = false := by decide
  have e3 : (Value.type "zip" == Value.type "tuple") = false := by decide
  simp only [e1, e2, e3, Bool.or_false, Bool.false_eq_true, if_false]
  refine wpAny_bind (wpAny_pyIter_zip (k2 _ _ O.a.symm hz) ?_)
  refine wpAny_bind (wpAny_holding ?_)
  unfold Builtin.List.listLengthHint
  refine wpAny_bind (wpAny_specialOf (zT k2) nolen_zip ?_)
  show wpAny _ A.in1.in1 (specialOf (Value.ref z) (Str.ofString "__length_hint__") >>= _) _ _ _
  refine wpAny_bind (wpAny_specialOf (zT k2) nohint_zip ?_)
  refine wpAny_pure ?_
  show wpAny _ A.in1.in1 (rule "list.extend.makes-room" >>= fun _ => Builtin.List.listTouch (.ref s.heap.objs.size) >>= fun _ =>
    again (.builtin "list.extend.loop" ⟨[.ref s.heap.objs.size, .ref z, .none], []⟩)) _ _ _
  refine wpAny_bind (wpAny_rule ?_)
  refine wpAny_bind ?_
  show wpAny _ A.in1.in1 (updateSeq s.heap.objs.size (·.push .none) >>= fun _ => updateSeq s.heap.objs.size (·.pop)) _ _ _
  refine wpAny_bind (wpAny_updateSeq hS2 rfl ?_)
  have hS3 := Heap.get?_update_self (Obj.mapSeq (·.push Value.none)) hS2 rfl
  refine wpAny_updateSeq (hz := by seq_fits) hS3 rfl ?_
  have hS4 := Heap.get?_update_self (Obj.mapSeq (·.pop)) hS3 rfl
  have k4 := up _ (Obj.mapSeq (·.pop)) (up _ (Obj.mapSeq (·.push Value.none)) k2)
  refine wpAny_pure ⟨plainId_quiet PySem.F.plain_extend_loop _, ?_⟩
  refine zip_loop (A := A.in1) (s := s) (h₁ := s.heap) (n := n) hh D O s.heap.objs.size ⟨Nat.le_of_lt zl, Nat.le_of_lt tol, Nat.le_of_lt i1l, Nat.le_of_lt i2l, Nat.le_refl _⟩ .none hn hsome hend (fun h' tk acc c as hk hS' hl hG hacc => ⟨rfl, hQ h' tk acc c as (fun b o b2 b3 b4 b5 e => hk b o (Nat.ne_of_lt (Heap.lt_size e)) b2 b3 b4 b5 e) hS' hl hG hacc⟩)
    n 0 _ s.toks _ #[] [] (Nat.sub_zero _) (Nat.zero_le _) (st0.keep O k4) (fun b o b1 _ _ _ _ e => k4 b o b1 e) hS4 rfl rfl ⟨fun _ ha => (nomatch ha), fun j a hj => by simp at hj⟩ (Heap.lt_size hS4)
end
end G137
namespace G137
open PySem PySem.Spec PyProof.Rows L2
def knV : KeyN → V
  | none => .non
  | some k => kV k
def knD : KeyN → PyData
  | none => .none
  | some (.inl i) => .int i
  | some (.inr x) => .str x
theorem knV_is {k : KeyN} {u : Value} (r : RelV (knV k) u) : keyNIs k u = true := by
  match k, r with
  | none, r => cases r; rfl
  | some (.inl i), ⟨t, e⟩ => subst e; exact L2.keyIs_int i t
  | some (.inr x), ⟨t, e⟩ => subst e; exact L2.keyIs_str x t
theorem knD_flat {k : KeyN} {u : Value} (h : keyNIs k u = true) : FlatR (knD k) u := by
  rcases keyNIs_shape h with ⟨rfl, rfl⟩ | ⟨i, t, rfl, rfl⟩ | ⟨x, t, rfl, rfl⟩
  · rfl
  · exact ⟨_, rfl⟩
  · exact ⟨_, rfl⟩

/-- T(e) of a built-in class, its argument evaluated by any means -/
theorem call_ty1 {X : Cx} {x : Str} {p pos : Pos} {e : Expr} {T : String} {pins : List (Addr × Obj)} {s : Shared} {σ : L2.St} {H : Hp} {Q : Value → Shared → Prop} {E : Value → Shared → Prop} (I : Inv X pins σ H s) (hg : Gl X x) (hm : X.mg x = none) (hv : bootBuiltins x = some (.type T))
    (h : wpAny (model X.prog X.w) X.A (eval e X.env) (fun u s1 => wpAny (model X.prog X.w) X.A (call (.type T) [u]) Q E s1) E s) (hn : x ≠ "__name__" := by decide) (hdb : (x == ("__debug__" : Str)) = false := by decide)
    (he : starEach [e] X.env = (false, eval e X.env) :: starEach [] X.env := by rfl) : wpAny (model X.prog X.w) X.A (eval (.Call (.Name x p) [e] [] pos) X.env) Q E s := by
  refine wpAny_Call_Name_kw (ld_blt I hg hm hv ?_ hn hdb)
  refine PyProof.Rows.callWith_type1 ?_ he rfl
  rw [he]
  show wpAny _ _ (spliced ((false, eval e X.env) :: backTo pos (starEach [] X.env))) _ _ s
  exact Calls.spliced_cons (wpAny_mono h (fun u s1 q => Calls.spliced_nil q) fun _ _ z => z)

def tDlz (t : TA) : TE := fun σ H Q => t σ H fun vs H1 => ∃ (a b : Addr) (ks : List KeyN) (ys : List V), vs = [.ref a, .ref b] ∧ H1 a = some (.lst (ks.map knV)) ∧ H1 b = some (.lst ys) ∧ a ≠ b ∧ ks.Nodup ∧ ys.length ≤ ks.length ∧ ks.length ≤ 100 ∧
  ∀ p, H1 p = none → Q (.ref p) (upd H1 p (DicO ((ks.take ys.length).map knD) ys p))
theorem pairs_split {prog : Program} {w : World} : ∀ {es : List DictEntry} {prs : List (KeyN × Value)}, Pairs (optKind prog w) es prs → Paired FlatR (prs.map fun q => knD q.1) (es.map (·.key)) ∧ es.map (·.val) = prs.map (·.2)
  | _, _, .nil => ⟨.nil, rfl⟩
  | _, _, .cons h1 h2 r => by
    obtain ⟨q1, q2⟩ := pairs_split r
    exact ⟨.cons (knD_flat h1) q1, by rw [List.map_cons, List.map_cons, q2, h2]⟩
theorem vals_key {ks : List KeyN} {us : List Value} (r : Vals (ks.map knV) us) {j : Nat} {k : KeyN} (h : ks[j]? = some k) : ∃ u, us[j]? = some u ∧ keyNIs k u = true := by
  obtain ⟨u, e, q⟩ := r.get (i := j) (x := knV k) (by rw [List.getElem?_map, h]; rfl)
  exact ⟨u, e, knV_is q⟩

theorem ne_up {b N d : Nat} (h : b < N) : b ≠ N + d := by omega
theorem zip_apart (N a b : Nat) (ha : a < N) (hb : b < N) : PySem.ZipApart (N + 4) (N + 2) (N + 3) N (N + 1) a b := by
  constructor
  all_goals (intro z; change @Eq Nat _ _ at z; omega)
theorem pe_dlz {X : Cx} {q1 q2 q3 q4 q5 q6 : Pos} {e1 e2 : Expr} {t : TA} (hc : X.calm = true) (gd : Gl X "dict") (gl : Gl X "list") (gz : Gl X "zip") (md : X.mg "dict" = none) (ml : X.mg "list" = none) (mz : X.mg "zip" = none) (ha : PA X [e1, e2] t)
    (h1 : starEach [.Call (.Name "list" q2) [.Call (.Name "zip" q3) [e1, e2] [] q4] [] q5] X.env = (false, eval (.Call (.Name "list" q2) [.Call (.Name "zip" q3) [e1, e2] [] q4] [] q5) X.env) :: starEach [] X.env := by rfl)
    (h2 : starEach [.Call (.Name "zip" q3) [e1, e2] [] q4] X.env = (false, eval (.Call (.Name "zip" q3) [e1, e2] [] q4) X.env) :: starEach [] X.env := by rfl)
    (h3 : starEach [e1, e2] X.env = (false, eval e1 X.env) :: starEach [e2] X.env := by rfl) (h4 : (backTo q4 (starEach [e2] X.env)).any (·.1) = false := by rfl) :
    PE X (.Call (.Name "dict" q1) [.Call (.Name "list" q2) [.Call (.Name "zip" q3) [e1, e2] [] q4] [] q5] [] q6) (tDlz t) := by
  refine ⟨fun pins s σ H Q I h => ?_⟩
  refine call_ty1 (T := "dict") I gd md (by decide +kernel) (call_ty1 (T := "list") I gl ml (by decide +kernel) ?_ (he := h2)) (he := h1)
  refine wpAny_Call_Name_kw (ld_blt (u := .type "zip") I gz mz (by decide +kernel) ?_ (by decide) (by decide))
  refine PyProof.Rows.callWith_type1 (thn (ha.run q4 pins s σ H _ I h) fun us s1 ⟨vs, H1, I1, r1, a, b, ks, ys, ev, ea, eb, hab, nd, hle, hks, q⟩ => ?_) h3 h4
  subst ev
  obtain ⟨rfl⟩ : us = [.ref a, .ref b] := by
    cases r1 with
    | cons x1 x2 => cases x2 with
      | cons x3 x4 => cases x4; cases x1; cases x3; rfl
  obtain ⟨_, ia, na, ra, oa⟩ := I1.hok a _ ea
  obtain ⟨_, ib, nb, rb, ob⟩ := I1.hok b _ eb
  have la : s1.heap.IsList a ia.toArray := ⟨_, oa, rfl, _, rfl⟩
  have lb : s1.heap.IsList b ib.toArray := ⟨_, ob, rfl, _, rfl⟩
  have hh := I1.ok.hd hc
  have al := Heap.lt_size oa
  have bl := Heap.lt_size ob
  refine call_zip_2 la lb fun h' hz hti hto hi1 hi2 hsz k => ?_
  have lena : ia.length = ks.length := by rw [← ra.length, List.length_map]
  have lenb : ib.length = ys.length := rb.length.symm
  have D : PySem.ZipApart (s1.heap.objs.size + 4) (s1.heap.objs.size + 2) (s1.heap.objs.size + 3) s1.heap.objs.size (s1.heap.objs.size + 1) a b := by
    exact zip_apart _ a b al bl
  refine call_list_zip (n := ys.length) hh D hz hti hto hi1 hi2 (la.at fun o e => k _ o e) (lb.at fun o e => k _ o e) (by omega) (fun i hi => ?_) (.inr ?_) fun h2 tk acc c as k2 hS hal hG hacc => ?_
  · have q1 : i < ia.length := by omega
    have q2 : i < ib.length := by omega
    exact ⟨⟨ia[i], by simp [q1]⟩, ib[i], by simp [q2]⟩
  · simp [lenb]
  · have hlen : as.length ≤ ks.length := by omega
    -- the pairs, by keys
    have hkeep : ∀ b o, s1.heap.get? b = some o → h2.get? b = some o := fun b o e => by
      have bl' := Heap.lt_size e
      exact k2 b o (ne_up (d := 4) bl') (ne_up (d := 3) bl') (ne_up (d := 0) bl') (ne_up (d := 1) bl') (k b o e)
    let prs : List (KeyN × Value) := (ks.take ys.length).zip ib
    have plen : prs.length = ys.length := by
      show ((ks.take ys.length).zip ib).length = _
      rw [List.length_zip, List.length_take]; omega
    have pget : ∀ (j : Nat) (q : KeyN × Value), prs[j]? = some q → j < ys.length ∧ ks[j]? = some q.1 ∧ ib[j]? = some q.2 := fun j q e => by
      have hj : j < prs.length := (List.getElem?_eq_some_iff.mp e).1
      have e' : ((ks.take ys.length).zip ib)[j]? = some q := e
      rw [List.getElem?_zip_eq_some] at e'
      obtain ⟨e1, e2⟩ := e'
      rw [List.getElem?_take] at e1
      split at e1
      · exact ⟨by omega, e1, e2⟩
      · cases e1
    have accs : acc = (as.map Value.ref).toArray := by rw [← hacc]
    refine call_dict_of (knd := optKind X.prog X.w) (prs := prs) hh hS rfl rfl rfl (by rw [accs]; simp; rw [plen]; omega) (by rw [plen, sizeLine_eq]; omega) (fun j q' e => ?_) fun h3 tk3 hd3 k3 => ?_
    · obtain ⟨j1, j2, j3⟩ := pget j q' e
      obtain ⟨p, hp⟩ : ∃ p, as[j]? = some p := ⟨as[j]'(by omega), List.getElem?_eq_getElem _⟩
      obtain ⟨x, y, ex, ey, hpair⟩ := hG.pairs j p hp
      obtain ⟨u, hu, hku⟩ := vals_key ra j2
      have ex' : ia[j]? = some x := by simpa using ex
      have ey' : ib[j]? = some y := by simpa using ey
      rw [hu] at ex'; cases ex'
      rw [j3] at ey'; cases ey'
      exact ⟨p, x, by rw [accs]; simp [hp], ⟨_, hpair, rfl, _, rfl⟩, hku⟩
    · have ndp : (prs.map (·.1)).Nodup := by
        have e : prs.map (·.1) = ks.take ys.length := by
          show ((ks.take ys.length).zip ib).map (·.1) = _
          exact zip_fst (by rw [List.length_take, lenb]; omega)
        rw [e]
        exact nd.sublist (List.take_sublist _ _)
      rw [merged_nil_of_nodup _ ndp] at hd3
      obtain ⟨o, es, ep, ho, hex, hdt, _, hpr, _⟩ := hd3
      obtain ⟨f1, f2⟩ := pairs_split hpr
      have e1 : prs.map (fun q => knD q.1) = (ks.take ys.length).map knD := by
        have e : prs.map (·.1) = ks.take ys.length := by
          show ((ks.take ys.length).zip ib).map (·.1) = _
          exact zip_fst (by rw [List.length_take, lenb]; omega)
        rw [← e, List.map_map]; rfl
      have e2 : prs.map (·.2) = ib := by
        show ((ks.take ys.length).zip ib).map (·.2) = _
        exact zip_snd (by rw [List.length_take, lenb]; omega)
      rw [e1] at f1
      rw [e2] at f2
      have big : s1.heap.objs.size ≤ h2.objs.size := by
        have := Heap.lt_size hS
        exact Nat.le_trans (Nat.le_trans (Nat.le_add_right _ 5) (by rw [← hsz]; exact Nat.le_refl _)) (Nat.le_of_lt this)
      have fr : H1 h2.objs.size = none := I1.hok.fresh big
      refine ⟨.ref h2.objs.size, _, I1.laid (t' := tk3) (fun b o e => k3 b o (hkeep b o e)) big (dicO_ok ho hex.1 hdt f1 (by rw [f2]; exact rb)), rfl, q _ fr⟩
end G137
/-! What the head tells: the defs, the error classes. -/
namespace G137
open PySem PySem.Spec PyProof.Rows L2
abbrev Frag := PySem.W.Frag
/-! ### error classes -/
def oexB (K : Frag) (C : Addr) : Bool := match K.lookup C with
  | some ⟨.type "type", _, .cls cd, sl⟩ => (match cd.mro, sl.toList with
    | .ref C' :: bm, [_, _, _, _, some (.builtin n), _] => C' == C && n == "ValueError.__new__" && !cd.hasDel && cd.hasDict && PySem.HandSPX.refsVE bm
    | _, _ => false)
  | _ => false
theorem oexB_ok {K : Frag} {C : Addr} (h : oexB K C = true) : ∃ nm q N bs bm sn sub ab col dd k0 k1 k2 k3 k5, K.lookup C = some (excClassObj nm q C N bs bm true sn sub ab col dd k0 k1 k2 k3 k5 "ValueError.__new__") ∧ PySem.HandSPX.refsVE bm = true := by
  unfold oexB at h
  split at h
  · rename_i dd cd sl ho
    split at h
    · rename_i C' bm k0 k1 k2 k3 n k5 hm hs
      simp only [Bool.and_eq_true, beq_iff_eq, Bool.not_eq_true'] at h
      obtain ⟨⟨⟨⟨rfl, rfl⟩, hdel⟩, hd⟩, hr⟩ := h
      obtain ⟨nm, bs, mro, ns, qn, hdct, sn, sub, ab, col, del⟩ := cd
      dsimp only at hm hdel hd
      subst hm hdel hd
      have hsl : sl = #[k0, k1, k2, k3, some (.builtin "ValueError.__new__"), k5] := by
        obtain ⟨l⟩ := sl
        simp only at hs
        rw [hs]
      subst hsl
      exact ⟨nm, qn, ns, bs, bm, sn, sub, ab, col, dd, k0, k1, k2, k3, k5, ho, hr⟩
    · cases h
  · cases h
def oO (a b : Option (Option Value)) : Bool := decide (a = b)
def oB (a b : Option Bool) : Bool := decide (a = b)
def errB (K : Frag) (D C : Addr) : Bool :=
  oexB K C && (oO (PySem.W.findIn K (.ref C) "__setattr__") (some (some (.builtin "object.__setattr__"))) && (oB (PySem.W.subIn K (.ref C) (.type "BaseException")) (some true) && (decide (PySem.W.typeIn K (.ref C) = some (.type "type")) && (PySem.W.keepIn K (.ref C) &&
  (oB (PySem.W.mroIn K C (.ref D)) (some true) && (oO (PySem.W.ks_superIn K C D "__init__") (some (some (.builtin "ValueError.__init__"))) && (oB (PySem.W.subIn K (.ref C) (.type "ValueError")) (some true) && (oO (PySem.W.findIn K (.ref C) "value") (some none) &&
  (oO (PySem.W.findIn K (.ref C) "__getattribute__") (some (some (.builtin "BaseException.__getattribute__"))) && (oO (PySem.W.findIn K (.ref C) "__getattr__") (some none) && (PySem.W.hasDictIn K C && (oO (PySem.W.findIn K (.ref C) "__class__") (some (some (.builtin "object.__class__"))) &&
  (oB (PySem.W.mroIn K C (.type "object")) (some true) && (oO (PySem.W.findIn K (.ref C) "__init__") (some (some (.ref (He.ma K D "__init__")))) && (PySem.W.clsIn K C).isSome))))))))))))))
structure ErrF (K : Frag) (D C : Addr) : Prop where
  c : ErrC K D C
  k : ErrK K C
  i : PySem.W.findIn K (.ref C) "__init__" = some (some (.ref (He.ma K D "__init__")))
theorem spec_class (K : Frag) : PySem.W.specialIn K (.builtin "object.__class__") "__get__" = some (some (.builtin "getset_descriptor.__get__")) := by kernel_rfl
theorem takes_class (K : Frag) : PySem.W.takesIn K (.builtin "object.__class__") = some true := by kernel_rfl
theorem errB_ok {K : Frag} {D C : Addr} (h : errB K D C = true) : ErrF K D C := by
  unfold errB at h
  simp only [Bool.and_eq_true] at h
  obtain ⟨h1, h2, h3, h4, h5, h6, h7, h8, h9, h10, h11, h12, h13, h14, h15, h16⟩ := h
  have d2 := of_decide_eq_true h2
  have d3 := of_decide_eq_true h3
  have d10 := of_decide_eq_true h10
  have d11 := of_decide_eq_true h11
  exact ⟨⟨⟨oexB_ok h1, d2, d3, of_decide_eq_true h4, h5⟩, of_decide_eq_true h6, of_decide_eq_true h7, of_decide_eq_true h8, of_decide_eq_true h9⟩,
    ⟨⟨d10, d11, d3, h12⟩, ⟨d10, d11, d3, h12, of_decide_eq_true h13, spec_class K, takes_class K, of_decide_eq_true h14⟩, h16⟩, of_decide_eq_true h15⟩
/-! ### the one __init__ -/
abbrev FnI : Type := Option (Str × Str × Arguments × FuncBody × Scope × Addr × List Str × Addr)
def fnI (K : Frag) (a : Addr) : FnI := match K.lookup a with
  | some ⟨_, _, .func fd, _⟩ => some (fd.name, fd.qualname, fd.params, fd.body, fd.scope, fd.globals, fd.closure.map (·.1), fd.builtins)
  | _ => none
def initB (file qual : Str) (K : Frag) (D a : Addr) : Bool := match K.lookup a with
  | some ⟨.type "function", _, .func fd, _⟩ => (match fd.closure, fd.code, fd.defaults with
    | [(_, cc)], .ref cda, .none =>
      (match K.lookup cc with
        | some ⟨_, _, .cell (some (.ref D')), _⟩ => D' == D
        | _ => false) &&
      ((match K.lookup cda with
        | some ⟨_, _, .fields vs, _⟩ => (match (vs[2]? : Option Value) with
          | some (Value.str f _) => f == file
          | _ => false)
        | _ => false) && PySem.W.codeIn K (.ref cda) qual)
    | _, _, _ => false)
  | _ => false
theorem initAt_of {P : Program} {K : Frag} {mg : Str → Option Value} {D a : Addr} {qual : Str} {params : Arguments} {body : List Stmt} {scope : Scope} (e : fnI K a = (some (("__init__" : Str), qual, params, FuncBody.stmts body, scope, mainGlobals, ([("__class__" : Str)] : List Str), builtinsNs) : FnI))
    (b : initB (P.main.file : Str) qual K D a = true) (hc : (PySem.W.clsIn K D).isSome = true) (hs : mg "super" = none) (ht : (P.main.scope.names.lookup ("super" : Str)).isSome = false) (tp : PySem.W.nsIn K cStatics "thirdparty.any" = some none) :
    ∃ cc cda fd, InitAt P K mg D a cc cda qual params body scope fd ∧ fd.defaults = .none ∧ ∃ od osl, K.lookup a = some ⟨.type "function", od, .func fd, osl⟩ := by
  unfold initB at b
  split at b
  · rename_i od fd osl ho
    split at b
    · rename_i n cc cda hcl hco hdf
      simp only [Bool.and_eq_true] at b
      obtain ⟨b1, b2, b3⟩ := b
      unfold fnI at e
      rw [ho] at e
      obtain ⟨n1, n2, n3, n4, n5, n6, n7, n8, n9, n10, n11, n12, n13, n14, n15⟩ := fd
      dsimp only at hcl hco hdf
      subst hcl hco hdf
      simp only [Option.some.injEq, Prod.mk.injEq] at e
      obtain ⟨g1, g2, g3, g4, g5, g6, g7, g8⟩ := e
      have g7' : n = ("__class__" : Str) := by
        have : ([n] : List Str) = [("__class__" : Str)] := g7
        exact (List.cons.inj this).1
      subst g1 g2 g3 g4 g5 g6 g7' g8
      refine ⟨cc, cda, _, ⟨⟨_, _, .none, n9, n10, n11, n12, n14, _, rfl, ho⟩, b3, ?_, ?_, Option.isSome_iff_exists.mp hc, hs, ht, tp⟩, rfl, _, _, ho⟩
      · split at b2
        · rename_i c1 c2 vs c3 hv
          split at b2
          · rename_i f tf hf
            have : f = (P.main.file : Str) := beq_iff_eq.mp b2
            subst this
            exact ⟨_, _, _, _, _, hv, hf⟩
          · cases b2
        · cases b2
      · split at b1
        · rename_i c1 c2 D' c3 hv
          have : D' = D := beq_iff_eq.mp b1
          subst this
          exact ⟨_, _, _, hv⟩
        · cases b1
    · cases b
  · cases b
/-! ### the Hook -/
def clos (o : Obj) : List Addr := match o.data with
  | .func fd => fd.closure.map (·.2)
  | _ => []
def asE (g : Addr → Option Obj) (n : Nat) : List Addr := let l := He.asD g n; (sysModules :: cStatics :: (l ++ l.flatMap fun a => match g a with
  | some o => clos o
  | none => [])).eraseDups
def kG (g : Addr → Option Obj) (n : Nat) : Frag := He.frG g (asE g n)
abbrev AlG : Type := He.AlD × FnI × Bool
def obsG (n : Nat) (fa : List He.Fa) (fn : List He.DefD) (ini : Frag → Addr) (ex : Frag → Bool) (g : Addr → Option Obj) : AlG := (fun K : Frag => (He.obsD fa fn K, fnI K (ini K), ex K)) (kG g n)
structure SaysG (fa : List He.Fa) (fn : List He.DefD) (ini : Frag → Addr) (vi : FnI) (ex : Frag → Bool) (K : Frag) : Prop where
  d : He.SaysD fa fn K
  i : fnI K (ini K) = vi
  x : ex K = true
def hookG (n : Nat) (fa : List He.Fa) (fn : List He.DefD) (ini : Frag → Addr) (vi : FnI) (ex : Frag → Bool) : PySem.W.Hook where
  α := AlG
  obs := fun s => obsG n fa fn ini ex s.heap.get?
  val := fun _ => (He.valD fn, vi, true)
  says := fun _ h => ∃ K : Frag, K.In h ∧ SaysG fa fn ini vi ex K
  of := fun _ s e => ⟨kG s.heap.get? n, He.frG_in, ⟨congrArg (fun z : AlG => z.1) e, congrArg (fun z : AlG => z.2.1) e, congrArg (fun z : AlG => z.2.2) e⟩⟩
  keeps := fun _ _ _ ⟨K, hK, c⟩ k => ⟨K, PySem.W.Frag.In.keeps hK k, c⟩
theorem obsG_eq {n : Nat} {fa : List He.Fa} {fn : List He.DefD} {ini : Frag → Addr} {vi : FnI} {ex : Frag → Bool} {g : Addr → Option Obj} {s : Shared} (h : ∀ a, g a = s.heap.get? a) : obsG n fa fn ini ex g = (hookG n fa fn ini vi ex).obs s := by
  have e : g = s.heap.get? := funext h
  rw [e] <;> rfl
end G137
namespace K00
open PySem PySem.Spec PyProof.Rows L2 G137
abbrev PG : Program := PySem.Challenge.pw_onlytell_k00_errors_with_any_value
def top (i : Nat) : Stmt := PG.main.body.getD i (.Pass ⟨0, 0, 0, 0⟩)
def clsBody : Stmt → List Stmt
  | .ClassDef _ _ _ b _ _ _ _ _ _ _ => b
  | _ => []
abbrev sInit : Stmt := (clsBody (top 1)).getD 0 (.Pass ⟨0, 0, 0, 0⟩)
abbrev sPot : Stmt := top 40
abbrev sTake : Stmt := top 41
abbrev sOf : Stmt := top 42
abbrev sValue : Stmt := top 43
abbrev sMade : Stmt := top 44
abbrev sMarks : Stmt := top 45
abbrev sCaught : Stmt := top 46
abbrev sRight : Stmt := top 47
abbrev sLaw : Stmt := top 48
def errs : List Str := (["BadBook", "Unnamed", "Upward", "NoDeed", "BadDeeds", "BadStore", "BadRow", "NoKey", "Gone", "BadWorth"] : List Str) ++ (["Lasting", "OtherStore", "BadInput", "BadMemory", "BadMachine", "BadState", "BadLetter", "Unlike", "TooMany", "BadOffers"] : List Str) ++ (["BadWish", "BadPrices", "BadLetters", "BadRows", "BadWishes", "BadKeys", "BadHands", "BadSteps", "BadTelling", "NoEffect"] : List Str) ++ (["OtherBook", "Stuck", "BadSwitch", "OtherPreview", "Showing", "Spoilt", "BadLine"] : List Str)
def alls : List Str := ("OnlyError" : Str) :: errs
def mkD (x : Str) (st : Stmt) : He.DefD := ⟨(x, none), x, x, defArgs st, defBody st, defScope st, [], []⟩
def fn : List He.DefD := [mkD "_law_pot" sPot, mkD "_law_take" sTake, mkD "_law_of" sOf, mkD "_law_value" sValue, mkD "_law_made" sMade, mkD "_law_marks" sMarks, mkD "_law_caught" sCaught, mkD "_law_right" sRight, mkD "law" sLaw]
def frees : List Str := ["super", "len", "int", "abs", "range", "max", "min", "dict", "list", "zip", "tuple", "isinstance", "enumerate", "repr", "any", "ValueError"]
def fa : List He.Fa := (["_law_pot", "_law_take", "_law_of", "_law_value", "_law_made", "_law_marks", "_law_caught", "_law_right", "law", "OnlyError"] : List Str).map He.Fa.glo ++ errs.map He.Fa.glo ++ frees.map He.Fa.free
def ini (K : Frag) : Addr := He.ma K (He.ga K "OnlyError") "__init__"
def vi : FnI := some ("__init__", "OnlyError.__init__", defArgs sInit, .stmts (defBody sInit), defScope sInit, mainGlobals, ["__class__"], builtinsNs)
def ex (K : Frag) : Bool := (fun D : Addr => alls.all (fun c => errB K D (He.ga K c)) &&
  (initB "/claim/cut.py" "OnlyError.__init__" K D (ini K) && (oO (PySem.W.nsIn K cStatics "thirdparty.any") (some none) && ((K.lookup sysModules).isSome &&
  (alls.all (fun c => (errs.all fun d => oB (PySem.W.kitOne K (.ref (He.ga K c)) (.ref (He.ga K d))) (some (c == d))) && (oB (PySem.W.kitOne K (.ref (He.ga K c)) (.ref D)) (some true) && oB (PySem.W.kitOne K (.ref (He.ga K c)) (.type "ValueError")) (some true))) &&
  (oB (PySem.W.exmOne K (.ref (He.ga K "TooMany")) (.ref D)) (some true) && (oB (PySem.W.exmOne K (.ref (He.ga K "Stuck")) (.ref (He.ga K "BadLine"))) (some false) && oB (PySem.W.exmOne K (.ref (He.ga K "Stuck")) (.ref (He.ga K "Stuck"))) (some true)))))))) (He.ga K "OnlyError")
abbrev R : PySem.W.OpenRow := PySem.W.OpenLaw.row PySem.Challenge.rw_onlytell_k00_errors_with_any_value
abbrev hk : PySem.W.Hook := hookG 5 fa fn ini vi ex
def ob (s : PySem.W.SharedT) : AlG := obsG 5 fa fn ini ex (HandSHeadRun.getT s)
theorem ob_eq (s : PySem.W.SharedT) : ob s = hk.obs s.abs := obsG_eq (HandSHeadRun.getT_eq s)
def loose : List Str := (["__name__", "OnlyError", "_law_pot", "_law_take", "_law_of", "_law_value", "_law_made", "_law_marks", "_law_caught", "_law_right"] : List Str) ++ errs
theorem run (w : World) : HandSHeadRun.RunEq R (PySem.W.view R.prog [48]) hk ob 12000 loose w := by
  intro os
  kernel_rfl
end K00
namespace K00
open PySem PySem.Spec PyProof.Rows L2 G137
abbrev FnP (K : Frag) (x : Str) (st : Stmt) (f : Addr) (fd : FuncData) : Prop := FunD K x x (defArgs st) (defBody st) (defScope st) [] [] f fd
theorem iY {b : Bool} {A B : Prop} (hb : b = true) (h : A) : if b = true then A else B := by rw [if_pos hb]; exact h
theorem iN {b : Bool} {A B : Prop} (hb : b = false) (h : B) : if b = true then A else B := by rw [hb, if_neg Bool.false_ne_true]; exact h
/-- a pot: three numbers -/
def PotH (H : Hp) (p : Addr) (n0 n1 n2 : Int) : Prop := H p = some (.lst [.int n0, .int n1, .int n2])
/-- all but p stands as before -/
def Keep (p : Addr) (H H' : Hp) : Prop := ∀ b o, b ≠ p → H b = some o → H' b = some o
def spTake : Sp := fun vs H Q _ => ∃ (p : Addr) (n n0 n1 n2 : Int), vs = [.ref p, .int n] ∧ PotH H p n0 n1 n2 ∧ 0 < n ∧ n < 1000000 ∧ 0 ≤ n1 ∧ n1 < 2305843009213693921 ∧ 0 ≤ n2 ∧ n2 < 100000 ∧
  ∀ (d n0' n2' : Int) (H' : Hp), 0 ≤ d → d < n → n2 ≤ n2' → n2' ≤ n2 + 1 → Keep p H H' → PotH H' p n0' n1 n2' → Q (.int d) H'
theorem scTake : FnScope ["_law_pot_here", "_law_upto", "_law_digit", "_law_prime", "_law_mixed"] ["_law_pot_here", "_law_upto"] (defScope sTake) :=
  ⟨rfl, rfl, rfl, by decide +kernel, rfl, by decide +kernel, by decide +kernel⟩
theorem at3_0 {a b c : V} : atI [a, b, c] 0 = some a := atI_nat (j := 0) rfl
theorem at3_1 {a b c : V} : atI [a, b, c] 1 = some b := atI_nat (j := 1) rfl
theorem at3_2 {a b c : V} : atI [a, b, c] 2 = some c := atI_nat (j := 2) rfl
theorem primes_at {i : Int} (h0 : 0 ≤ i) (h5 : i < 5) : ∃ p : Int, atI ([2147483647, 2147483629, 2147483587, 2147483579, 2147483563].map V.int) i = some (.int p) ∧ 0 < p ∧ p < 2147483648 := by
  have : i = 0 ∨ i = 1 ∨ i = 2 ∨ i = 3 ∨ i = 4 := by omega
  rcases this with rfl | rfl | rfl | rfl | rfl
  · exact ⟨_, atI_nat (j := 0) rfl, by decide, by decide⟩
  · exact ⟨_, atI_nat (j := 1) rfl, by decide, by decide⟩
  · exact ⟨_, atI_nat (j := 2) rfl, by decide, by decide⟩
  · exact ⟨_, atI_nat (j := 3) rfl, by decide, by decide⟩
  · exact ⟨_, atI_nat (j := 4) rfl, by decide, by decide⟩
section
variable {P : Program} {w : World} {K : Frag} {mg : Str → Option Value} {base : Heap} {f : Addr} {fd : FuncData}
theorem ok_take (F : FnP K "_law_take" sTake f fd) (gI : mg "int" = none) : FnOk P w K mg base CX0 1 f fd ["_law_pot_here", "_law_upto"] spTake := by
  refine F.ok scTake (fun vs H Q E h => ?_) (fun cdv A outer s H vs Q E hr h => ?_)
  · obtain ⟨p, n, n0, n1, n2, rfl, _⟩ := h
    rfl
  refine ⟨_, pss_cons (ps_if (pt_cmpR op_gt (pe_ix ix_list (pv 0) pe_int (fun _ _ => rfl)) pe_int (nomark _))
      (pss_cons (ps_set (i := 2) scTake.nd rfl (Or.inl rfl) (pe_op op_mod (pe_callTy call_int1 (by rfl) gI boot_int (pa_cons (pe_ix ix_list (pv 0) pe_int (fun _ _ => rfl)) pa_nil)) (pv 1)))
      (pss_cons (ps_asg (pe_op op_fdiv (pe_ix ix_list (pv 0) pe_int (fun _ _ => rfl)) (pv 1)) (pg_sub (pv 0) pe_int set_list))
      (pss_one (ps_ret (pv 2))))) pss_nil)
    (pss_cons (ps_asg (pe_op op_add (pe_ix ix_list (pv 0) pe_int (fun _ _ => rfl)) pe_int) (pg_sub (pv 0) pe_int set_list))
    (pss_cons (ps_set (i := 3) scTake.nd rfl (Or.inl rfl) (pe_ix ix_list (pe_lst (pa_cons pe_int (pa_cons pe_int (pa_cons pe_int (pa_cons pe_int (pa_cons pe_int pa_nil))))))
        (pe_op op_mod (pe_callTy call_int1 (by rfl) gI boot_int (pa_cons (pe_ix ix_list (pv 0) pe_int (fun _ _ => rfl)) pa_nil)) pe_int) (fun _ _ => rfl)))
    (pss_cons (ps_set (i := 4) scTake.nd rfl (Or.inl rfl) (pe_op op_mod (pe_callTy call_int1 (by rfl) gI boot_int (pa_cons (pe_op op_pow (pe_op op_add (pe_op op_add (pe_ix ix_list (pv 0) pe_int (fun _ _ => rfl))
        (pe_op op_mul (pe_op op_mul pe_int (pe_ix ix_list (pv 0) pe_int (fun _ _ => rfl))) (pe_ix ix_list (pv 0) pe_int (fun _ _ => rfl)))) pe_int) pe_int) pa_nil)) (pv 3)))
    (pss_one (ps_ret (pe_op op_mod (pe_callTy call_int1 (by rfl) gI boot_int (pa_cons (pe_op op_fdiv (pe_op op_mul (pv 4) (pe_op op_add (pe_op op_mod (pe_callTy call_int1 (by rfl) gI boot_int (pa_cons (pv 4) pa_nil)) pe_int)
        (pe_op op_mul pe_int (pe_ix ix_list (pv 0) pe_int (fun _ _ => rfl))))) pe_int) pa_nil)) (pv 1))))))), ?_⟩
  obtain ⟨p, n, n0, n1, n2, rfl, hP, hn, hn', h1, h1', h2, h2', hQ⟩ := h
  refine ⟨_, rfl, p, _, 0, _, rfl, rfl, SqL.of hP, at3_0, _, _, rfl, rfl, _, rfl, ?_⟩
  by_cases hpos : 0 < n0
  · refine iY (decide_eq_true hpos) ?_
    refine ⟨_, rfl, p, _, 0, _, rfl, rfl, SqL.of hP, at3_0, .inl ⟨_, rfl, ?_⟩⟩
    refine ⟨_, rfl, _, _, rfl, rfl, hn, ?_⟩
    refine ⟨_, rfl, p, _, 0, _, rfl, rfl, SqL.of hP, at3_0, ?_⟩
    refine ⟨_, rfl, _, _, rfl, rfl, ⟨hn, by omega⟩, ?_⟩
    refine ⟨_, rfl, p, _, 0, 0, rfl, rfl, hP, rfl, ?_⟩
    refine ⟨_, rfl, ?_⟩
    exact hQ (n0 % n) (n0 / n) n2 _ (Int.emod_nonneg _ (by omega)) (Int.emod_lt_of_pos _ hn) (Int.le_refl _) (by omega) (fun b o hb e => by rw [upd_ne hb]; exact e) upd_same
  · refine iN (decide_eq_false hpos) ?_
    refine ⟨_, rfl, p, _, 2, _, rfl, rfl, SqL.of hP, at3_2, _, _, rfl, rfl, ?_⟩
    refine ⟨_, rfl, p, _, 2, 2, rfl, rfl, hP, rfl, ?_⟩
    have hP1 : PotH (upd H p (.lst [.int n0, .int n1, .int (n2 + 1)])) p n0 n1 (n2 + 1) := upd_same
    refine ⟨by decide, fun l nl => ?_⟩
    have hlp : p ≠ l := ne_of_none hP1 nl
    have hP2 : PotH (upd (upd H p (.lst [.int n0, .int n1, .int (n2 + 1)])) l (.lst [.int 2147483647, .int 2147483629, .int 2147483587, .int 2147483579, .int 2147483563])) p n0 n1 (n2 + 1) := by
      unfold PotH; rw [upd_ne hlp]; exact hP1
    refine ⟨_, rfl, p, _, 2, _, rfl, rfl, SqL.of hP2, at3_2, .inl ⟨_, rfl, ?_⟩⟩
    refine ⟨_, _, rfl, rfl, (by show (0 : Int) < 5; decide), ?_⟩
    obtain ⟨pr, hpr, pp, pl⟩ := primes_at (i := (n2 + 1) % 5) (Int.emod_nonneg _ (by decide)) (Int.emod_lt_of_pos _ (by decide))
    refine ⟨l, _, _, _, rfl, rfl, SqL.of upd_same, hpr, ?_⟩
    have hq0 : 0 ≤ n2 * n2 := Int.mul_nonneg h2 h2
    have hsq : (n2 + 1) * (n2 + 1) ≤ 100000 * 100000 := Int.mul_le_mul (by omega) (by omega) (by omega) (by omega)
    have hsq0 : 0 ≤ (n2 + 1) * (n2 + 1) := Int.mul_nonneg (by omega) (by omega)
    have e80 : 80021 * (n2 + 1) * (n2 + 1) = 80021 * ((n2 + 1) * (n2 + 1)) := Int.mul_assoc _ _ _
    refine ⟨_, rfl, p, _, 1, _, rfl, rfl, SqL.of hP2, at3_1, ?_⟩
    refine ⟨_, rfl, p, _, 2, _, rfl, rfl, SqL.of hP2, at3_2, _, _, rfl, rfl, .inl ⟨by decide, by decide⟩, ?_⟩
    refine ⟨_, rfl, p, _, 2, _, rfl, rfl, SqL.of hP2, at3_2, _, _, rfl, rfl, .inr ⟨by omega, by omega⟩, ?_⟩
    refine ⟨_, _, rfl, rfl, _, _, rfl, rfl, _, _, rfl, rfl, ⟨by decide, by decide, ?_⟩, .inl ⟨_, rfl, ?_⟩⟩
    · rw [e80]
      generalize (n2 + 1) * (n2 + 1) = y at hsq hsq0
      omega
    refine ⟨_, rfl, _, _, rfl, rfl, pp, ?_⟩
    generalize hm : ((n1 + 80021 * (n2 + 1) * (n2 + 1) + 59) ^ (3 : Int).toNat) % pr = m
    have hm0 : 0 ≤ m := by rw [← hm]; exact Int.emod_nonneg _ (by omega)
    have hm1 : m < 2147483648 := by
      have := Int.emod_lt_of_pos ((n1 + 80021 * (n2 + 1) * (n2 + 1) + 59) ^ (3 : Int).toNat) pp
      rw [hm] at this; omega
    refine ⟨_, rfl, _, rfl, .inl ⟨_, rfl, ?_⟩⟩
    refine ⟨_, _, rfl, rfl, (by show (0 : Int) < 10009; decide), ?_⟩
    refine ⟨_, rfl, p, _, 2, _, rfl, rfl, SqL.of hP2, at3_2, _, _, rfl, rfl, .inl ⟨by decide, by decide⟩, ?_⟩
    refine ⟨_, _, rfl, rfl, _, _, rfl, rfl, .inl ⟨by omega, by omega⟩, ?_⟩
    refine ⟨_, _, rfl, rfl, ⟨by decide, by decide⟩, .inl ⟨_, rfl, ?_⟩⟩
    refine ⟨_, rfl, _, _, rfl, rfl, hn, ?_⟩
    exact hQ _ n0 (n2 + 1) _ (Int.emod_nonneg _ (by omega)) (Int.emod_lt_of_pos _ hn) (by omega) (Int.le_refl _) (fun b o hb e => by
      have hbl : b ≠ l := fun z => by
        rw [z] at e hb
        rw [upd_ne hb] at nl
        rw [nl] at e; cases e
      rw [upd_ne hbl, upd_ne hb]; exact e) hP2
end
end K00
namespace K00
open PySem PySem.Spec PyProof.Rows L2 G137
theorem op_powX {X : Cx} : OpR X (binaryOp .Pow) (rI (fun i j => 0 ≤ j ∧ (Builtin.Int.intBits i : Int) * j ≤ 2 ^ 27) fun i j => .int (i ^ j.toNat)) := opI fun _ _ _ _ _ _ _ hc q => pow_int hc.1 hc.2 q
theorem pos300 : (0 : Int) < (10 ^ Int.toNat 60) ^ Int.toNat 5 := by decide +kernel
theorem b01 (b : Bool) : -(2 ^ 64 : Int) < (if b = true then 1 else 0) ∧ (if b = true then 1 else 0) < (2 ^ 64 : Int) := by cases b <;> decide
def spPot (K : Frag) : Sp := fun vs H Q _ => ∃ (a : Addr) (ns : List Int) (k : Nat), vs = [.ref a, .int k] ∧ SqL K H a (ns.map V.int) ∧ k < 100 ∧
  ∀ (H' : Hp) (p : Addr) (n0 n1 : Int), Same H H' → H p = none → PotH H' p n0 n1 0 → 0 ≤ n1 → n1 < 2305843009213693921 → Q (.ref p) H'
theorem scPot : FnScope ["_law_script", "_law_k", "_law_cell", "_law_own"] ["_law_script", "_law_k"] (defScope sPot) :=
  ⟨rfl, rfl, rfl, by decide +kernel, rfl, by decide +kernel, by decide +kernel⟩
section
variable {P : Program} {w : World} {K : Frag} {mg : Str → Option Value} {base : Heap} {f : Addr} {fd : FuncData}
theorem ok_pot (F : FnP K "_law_pot" sPot f fd) (gI : mg "int" = none) (gL : mg "len" = none) (gA : mg "abs" = none) : FnOk P w K mg base CX0 1 f fd ["_law_script", "_law_k"] (spPot K) := by
  refine F.ok scPot (fun vs H Q E h => ?_) (fun cdv A outer s H vs Q E hr h => ?_)
  · obtain ⟨a, ns, k, rfl, _⟩ := h
    rfl
  refine ⟨_, pss_cons (ps_set (i := 2) scPot.nd rfl (Or.inl rfl) (pe_ifExp (pt_cmpR op_lt (pv 1) (pe_callB call_len_seq (by rfl) gL PySem.boot_len (pa_cons (pv 0) pa_nil)) (nomark _))
      (pe_ix ix_list (pv 0) (pv 1) (fun _ _ => rfl)) (pe_op op_add (pe_op op_mul pe_int (pv 1)) pe_int)))
    (pss_cons (ps_set (i := 3) scPot.nd rfl (Or.inl rfl) (pe_op op_mul (pe_op op_mod (pe_callTy call_int1 (by rfl) gI boot_int (pa_cons (pe_callB call_abs (by rfl) gA (by decide +kernel) (pa_cons (pv 2) pa_nil)) pa_nil))
        (pe_op op_powX (pe_op op_pow pe_int pe_int) pe_int))
      (pe_callTy call_int1 (by rfl) gI boot_int (pa_cons (pe_cmpR op_ge (pe_callB call_abs (by rfl) gA (by decide +kernel) (pa_cons (pv 2) pa_nil)) (pe_op op_pow pe_int pe_int) (nomark _)) pa_nil))))
    (pss_one (ps_ret (pe_lst (pa_cons (pv 3) (pa_cons (pe_op op_mod (pe_callTy call_int1 (by rfl) gI boot_int (pa_cons (pe_op op_add (pe_op op_add (pe_op op_mul (pe_op op_mod (pe_callTy call_int1 (by rfl) gI boot_int (pa_cons (pv 2) pa_nil)) pe_int) pe_int)
        (pe_op op_mul (pe_op op_mul pe_int (pv 1)) (pv 1))) pe_int) pa_nil)) pe_int) (pa_cons pe_int pa_nil))))))), ?_⟩
  obtain ⟨a, ns, k, rfl, hS, hk, hQ⟩ := h
  refine ⟨_, rfl, _, rfl, a, _, rfl, .inl hS, _, _, rfl, rfl, _, rfl, ?_⟩
  have pre : ∀ b : Bool, b = decide ((k : Int) < ((ns.map V.int).length : Int)) → b = true → ∃ c, atI (ns.map V.int) (k : Int) = some (.int c) := fun b e1 e2 => by
    rw [e1] at e2
    have hlt := of_decide_eq_true e2
    rw [List.length_map] at hlt
    have hlt' : k < ns.length := by omega
    exact ⟨ns[k], atI_nat (by rw [List.getElem?_map, List.getElem?_eq_getElem hlt']; rfl)⟩
  generalize hb : decide ((k : Int) < ((ns.map V.int).length : Int)) = b at *
  have hk1 : (0 : Int) ≤ k := by omega
  have hk2 : (k : Int) < 100 := by omega
  have hkk : (6101 : Int) * k ≤ 6101 * 100 := by omega
  cases b
  case' false => refine iN rfl ?_; refine ⟨_, rfl, _, _, rfl, rfl, .inl ⟨by decide, by decide⟩, _, _, rfl, rfl, ?_⟩
  case' true => obtain ⟨c, hc⟩ := pre true rfl rfl; refine iY rfl ?_; refine ⟨_, rfl, _, rfl, a, _, _, _, rfl, rfl, hS, hc, ?_⟩
  all_goals
    refine ⟨_, rfl, _, rfl, .inl ⟨_, rfl, ?_⟩⟩
    refine ⟨_, _, rfl, rfl, ⟨by decide, by decide, by decide⟩, ?_⟩
    refine ⟨_, _, rfl, rfl, ⟨by decide, by decide +kernel⟩, ?_⟩
    refine ⟨_, _, rfl, rfl, pos300, ?_⟩
    refine ⟨_, rfl, _, rfl, ?_⟩
    refine ⟨_, _, rfl, rfl, ⟨by decide, by decide, by decide⟩, ?_⟩
    refine ⟨_, _, rfl, rfl, .inr ⟨_, rfl, ?_⟩⟩
    refine ⟨_, _, rfl, rfl, .inr (b01 _), ?_⟩
    refine ⟨_, rfl, _, rfl, .inl ⟨_, rfl, ?_⟩⟩
    refine ⟨_, _, rfl, rfl, (by show (0 : Int) < 2305843009213693951; decide), ?_⟩
    refine ⟨_, _, rfl, rfl, .inr ⟨by decide, by decide⟩, ?_⟩
    refine ⟨_, rfl, _, _, rfl, rfl, .inl ⟨by decide, by decide⟩, ?_⟩
    refine ⟨_, rfl, _, _, rfl, rfl, .inr ⟨by omega, by omega⟩, ?_⟩
    refine ⟨_, _, rfl, rfl, _, _, rfl, rfl, .inl ⟨_, rfl, ?_⟩⟩
    refine ⟨_, _, rfl, rfl, (by show (0 : Int) < 2305843009213693921; decide), ?_⟩
    refine ⟨(by show 3 ≤ sizeLine; decide), fun p np => ?_⟩
    exact hQ _ p _ _ (fun b o e => by rw [upd_ne (ne_of_none e np)]; exact e) np upd_same (Int.emod_nonneg _ (by decide)) (Int.emod_lt_of_pos _ (by decide))
end
end K00
namespace K00
open PySem PySem.Spec PyProof.Rows L2 G137
/-! ### sizes of what is shown -/
def tot : List Str → Nat
  | [] => 0
  | t :: r => t.length + 2 + tot r
theorem textFrom_le : ∀ (ts : List Str) (k : Nat) (acc : Str), (textFrom k acc ts).length ≤ acc.length + tot ts
  | [], k, acc => Nat.le_refl _
  | t :: r, k, acc => by
    have ih := textFrom_le r (k + 1) (acc ++ (if k > 0 then ", " else "" : String) ++ t)
    have e : (acc ++ (if k > 0 then ", " else "" : String) ++ t).length ≤ acc.length + 2 + t.length := by
      rw [strLen_append, strLen_append]
      have : (Str.ofString (if k > 0 then ", " else "")).length ≤ 2 := by split <;> decide
      omega
    show (textFrom (k + 1) (acc ++ (if k > 0 then ", " else "" : String) ++ t) r).length ≤ acc.length + (t.length + 2 + tot r)
    omega
theorem listText_le (ts : List Str) : (listText ts).length ≤ 2 + tot ts := by
  have h := textFrom_le ts 0 "["
  unfold listText
  rw [strLen_append]
  have e1 : (Str.ofString "[").length = 1 := by decide
  have e2 : (Str.ofString "]").length = 1 := by decide
  omega
theorem piled_tot : ∀ ts : List Str, piled ts = tot ts
  | [] => rfl
  | t :: r => by
    have ih := piled_tot r
    simp only [piled, tot, List.map_cons, List.sum_cons] at *
    omega
theorem join_le (ts : List Str) : (Str.join ", " ts).length ≤ tot ts := by
  by_cases h : ts = []
  · subst h; decide
  · have := join_length_add ts h
    rw [piled_tot] at this
    omega
theorem tupleText_le (ts : List Str) : (tupleText ts).length ≤ 3 + tot ts := by
  have h := join_le ts
  unfold tupleText
  rw [strLen_append, strLen_append]
  have e1 : (Str.ofString "(").length = 1 := by decide
  have e2 : (Str.ofString (if ts.length == 1 then ",)" else ")")).length ≤ 2 := by split <;> decide
  omega
theorem dictText_le (ts : List Str) : (dictText ts).length ≤ 2 + tot ts := by
  have h := join_le ts
  unfold dictText
  rw [strLen_append, strLen_append]
  have e1 : (Str.ofString "{").length = 1 := by decide
  have e2 : (Str.ofString "}").length = 1 := by decide
  omega
def lim : Nat → Nat
  | 0 => 16
  | n + 1 => 3 * lim n + 60
structure Sm (n : Nat) (d : PyData) : Prop where
  s : d.showable = true
  dp : d.depth ≤ n
  l : d.shown.length ≤ lim n
theorem lim_mono (n : Nat) : lim n ≤ lim (n + 1) := by show lim n ≤ 3 * lim n + 60; omega
theorem Sm.up {n : Nat} {d : PyData} (h : Sm n d) : Sm (n + 1) d := ⟨h.s, Nat.le_succ_of_le h.dp, Nat.le_trans h.l (lim_mono n)⟩
theorem Sm.all {n : Nat} : ∀ {ds : List PyData}, (∀ d ∈ ds, Sm n d) → PyData.showableAll ds = true ∧ PyData.depthAll ds ≤ n ∧ tot (PyData.shownAll ds) ≤ ds.length * (lim n + 2)
  | [], _ => ⟨rfl, Nat.zero_le _, Nat.zero_le _⟩
  | d :: r, h => by
    obtain ⟨h1, h2, h3⟩ := Sm.all (ds := r) fun x hx => h x (List.mem_cons_of_mem _ hx)
    have hd := h d List.mem_cons_self
    refine ⟨?_, ?_, ?_⟩
    · show (d.showable && PyData.showableAll r) = true
      rw [hd.s, h1]; rfl
    · show max d.depth (PyData.depthAll r) ≤ n
      have := hd.dp
      omega
    · show d.shown.length + 2 + tot (PyData.shownAll r) ≤ (r.length + 1) * (lim n + 2)
      have := hd.l
      rw [Nat.add_mul]
      omega
theorem Sm.list {n : Nat} {ds : List PyData} (h : ∀ d ∈ ds, Sm n d) (h3 : ds.length ≤ 3) : Sm (n + 1) (.list ds) := by
  obtain ⟨a, b, c⟩ := Sm.all h
  refine ⟨a, Nat.succ_le_succ b, ?_⟩
  have := listText_le (PyData.shownAll ds)
  have m : ds.length * (lim n + 2) ≤ 3 * (lim n + 2) := Nat.mul_le_mul_right _ h3
  show (listText (PyData.shownAll ds)).length ≤ 3 * lim n + 60
  omega
theorem Sm.tuple {n : Nat} {ds : List PyData} (h : ∀ d ∈ ds, Sm n d) (h3 : ds.length ≤ 3) : Sm (n + 1) (.tuple ds) := by
  obtain ⟨a, b, c⟩ := Sm.all h
  refine ⟨a, Nat.succ_le_succ b, ?_⟩
  have := tupleText_le (PyData.shownAll ds)
  have m : ds.length * (lim n + 2) ≤ 3 * (lim n + 2) := Nat.mul_le_mul_right _ h3
  show (tupleText (PyData.shownAll ds)).length ≤ 3 * lim n + 60
  omega
theorem Sm.kv {n : Nat} : ∀ {ks ds : List PyData}, (∀ k ∈ ks, k.showable = true ∧ k.depth = 0 ∧ k.shown.length ≤ 4) → (∀ d ∈ ds, Sm n d) → PyData.showableKv (ks.zip ds) = true ∧ PyData.depthKv (ks.zip ds) ≤ n ∧ tot (PyData.shownKv (ks.zip ds)) ≤ ds.length * (lim n + 10)
  | [], _, _, _ => ⟨rfl, Nat.zero_le _, Nat.zero_le _⟩
  | _ :: _, [], _, _ => ⟨rfl, Nat.zero_le _, Nat.zero_le _⟩
  | k :: ks, d :: ds, hk, h => by
    obtain ⟨h1, h2, h3⟩ := Sm.kv (ks := ks) (ds := ds) (fun x hx => hk x (List.mem_cons_of_mem _ hx)) fun x hx => h x (List.mem_cons_of_mem _ hx)
    have hd := h d List.mem_cons_self
    obtain ⟨k1, k2, k3⟩ := hk k List.mem_cons_self
    refine ⟨?_, ?_, ?_⟩
    · show (k.showable && d.showable && PyData.showableKv (ks.zip ds)) = true
      rw [k1, hd.s, h1]; rfl
    · show max (max k.depth d.depth) (PyData.depthKv (ks.zip ds)) ≤ n
      have := hd.dp
      omega
    · show (k.shown ++ ": " ++ d.shown).length + 2 + tot (PyData.shownKv (ks.zip ds)) ≤ (ds.length + 1) * (lim n + 10)
      have := hd.l
      have e : (k.shown ++ ": " ++ d.shown).length = k.shown.length + 2 + d.shown.length := by
        rw [strLen_append, strLen_append]
        have : (Str.ofString ": ").length = 2 := by decide
        omega
      rw [Nat.add_mul, e]
      omega
theorem Sm.dict {n : Nat} {ks ds : List PyData} (hk : ∀ k ∈ ks, k.showable = true ∧ k.depth = 0 ∧ k.shown.length ≤ 4) (h : ∀ d ∈ ds, Sm n d) (h3 : ds.length ≤ 3) : Sm (n + 1) (.dict (ks.zip ds)) := by
  obtain ⟨a, b, c⟩ := Sm.kv hk h
  refine ⟨a, Nat.succ_le_succ b, ?_⟩
  have := dictText_le (PyData.shownKv (ks.zip ds))
  have m : ds.length * (lim n + 10) ≤ 3 * (lim n + 10) := Nat.mul_le_mul_right _ h3
  show (dictText (PyData.shownKv (ks.zip ds))).length ≤ 3 * lim n + 60
  omega
def spOf : Sp := fun vs H Q _ => ∃ (p m : Addr) (xs : List V) (n0 n1 n2 : Int), vs = [.ref p, .ref m] ∧ PotH H p n0 n1 n2 ∧ 0 ≤ n1 ∧ n1 < 2305843009213693921 ∧ 0 ≤ n2 ∧ n2 < 100000 ∧ H m = some (.lst xs) ∧ m ≠ p ∧ xs ≠ [] ∧ xs.length < 1000 ∧
  ∀ (v : V) (n0' n2' : Int) (H' : Hp), v ∈ xs → n2 ≤ n2' → n2' ≤ n2 + 1 → Keep p H H' → PotH H' p n0' n1 n2' → Q v H'
theorem scOf : FnScope ["_law_pot_here", "_law_some"] ["_law_pot_here", "_law_some"] (defScope sOf) := ⟨rfl, rfl, rfl, by decide +kernel, rfl, by decide +kernel, by decide +kernel⟩
section
variable {P : Program} {w : World} {K : Frag} {mg : Str → Option Value} {base : Heap} {f fT : Addr} {fd fdT : FuncData}
theorem ok_of (F : FnP K "_law_of" sOf f fd) (FT : FnP K "_law_take" sTake fT fdT) (gT : mg "_law_take" = some (.ref fT)) (gI : mg "int" = none) (gL : mg "len" = none) : FnOk P w K mg base CX0 2 f fd ["_law_pot_here", "_law_some"] spOf := by
  have GT : FnOk P w K mg base CX0 1 fT fdT ["_law_pot_here", "_law_upto"] spTake := ok_take FT gI
  have bT : Binds K fdT ["_law_pot_here", "_law_upto"] [] := FT.bindsN fun _ _ _ _ _ _ us hl => match us, hl with | [_, _], _ => rfl
  refine F.ok scOf (fun vs H Q E h => ?_) (fun cdv A outer s H vs Q E hr h => ?_)
  · obtain ⟨p, m, xs, n0, n1, n2, rfl, _⟩ := h
    rfl
  refine ⟨_, PSs.nox (pss_one (ps_ret (pe_ix ix_list (pv 1) (pe_call GT hr rfl gT FT.kp bT .nil pass0 (pa_cons (pv 0) (pa_cons (pe_callB call_len_seq (by rfl) gL PySem.boot_len (pa_cons (pv 1) pa_nil)) pa_nil))) (fun _ _ => rfl)))), ?_⟩
  obtain ⟨p, m, xs, n0, n1, n2, rfl, hP, h1, h1', h2, h2', hm, hmp, hx, hl, hQ⟩ := h
  refine ⟨_, rfl, _, rfl, _, rfl, m, _, rfl, .inl (SqL.of hm), ?_⟩
  have hlen : 0 < xs.length := List.length_pos_iff.mpr hx
  refine ⟨p, _, n0, n1, n2, rfl, hP, by omega, by omega, h1, h1', h2, h2', fun d n0' n2' H' d0 dn q1 q2 kp pt => ?_⟩
  have hd : d.toNat < xs.length := by omega
  refine ⟨m, xs, d, xs[d.toNat], rfl, rfl, SqL.of (kp m _ hmp hm), ?_, ?_⟩
  · have e : ((d.toNat : Nat) : Int) = d := Int.toNat_of_nonneg d0
    have z := atI_nat (xs := xs) (j := d.toNat) (List.getElem?_eq_getElem hd)
    rw [e] at z
    exact z
  · exact hQ _ n0' n2' H' (List.getElem_mem hd) q1 q2 kp pt
end
end K00
namespace K00
open PySem PySem.Spec PyProof.Rows L2 G137
/-- how many draws a value takes at most -/
def most : Nat → Int
  | 0 => 3
  | n + 1 => 3 + 3 * most n
/-- what H' has beyond H -/
def nw (H H' : Hp) : Hp := fun b => match H b with
  | none => H' b
  | some _ => none
theorem nw_some {H H' : Hp} {b : Addr} {o : HO} : nw H H' b = some o ↔ H b = none ∧ H' b = some o := by
  unfold nw
  cases e : H b with
  | none => simp
  | some u => simp
theorem nw_sub {H1 H2 H3 H4 : Hp} (h : ∀ b, H2 b = none → H1 b = none) (k : ∀ b o, H2 b = none → H3 b = some o → H4 b = some o) : ∀ b o, nw H2 H3 b = some o → nw H1 H4 b = some o := fun b o e =>
  nw_some.mpr ⟨h b (nw_some.mp e).1, k b o (nw_some.mp e).1 (nw_some.mp e).2⟩
theorem Keep.gone {p : Addr} {H H' : Hp} {n0 n1 n2 : Int} (k : Keep p H H') (hp : PotH H' p n0 n1 n2) : ∀ b, H' b = none → H b = none := fun b e => by
  by_cases hb : b = p
  · subst hb; unfold PotH at hp; rw [hp] at e; cases e
  · cases q : H b with
    | none => rfl
    | some o => rw [k b o hb q] at e; cases e
theorem Keep.trans {p : Addr} {H H' H'' : Hp} (a : Keep p H H') (b : Keep p H' H'') : Keep p H H'' := fun c o hc e => b c o hc (a c o hc e)
theorem Keep.new {p l : Addr} {H H' : Hp} {o : HO} (a : Keep p H H') (n : H' l = none) : Keep p H (upd H' l o) := fun c u hc e => by
  have := a c u hc e
  rw [upd_ne (ne_of_none this n)]; exact this
theorem PotH.new {p l : Addr} {H : Hp} {o : HO} {n0 n1 n2 : Int} (h : PotH H p n0 n1 n2) (n : H l = none) : PotH (upd H l o) p n0 n1 n2 := by
  unfold PotH; rw [upd_ne (ne_of_none h n)]; exact h
end K00
namespace G137
open PySem L2
theorem DRs.app {H : Hp} : ∀ {xs ys : List V} {ds es : List PyData}, DRs H xs ds → DRs H ys es → DRs H (xs ++ ys) (ds ++ es)
  | _, _, _, _, .nil, q => q
  | _, _, _, _, .cons a r, q => .cons a (DRs.app r q)
end G137
namespace K00
open PySem PySem.Spec PyProof.Rows L2 G137
theorem Sm.of0 {d : PyData} (h : Sm 0 d) : ∀ n, Sm n d
  | 0 => h
  | n + 1 => (Sm.of0 h n).up
theorem small_int : ∀ n : Fin 2001, (Str.ofString (toString (((n : Nat) : Int) - 1000))).length ≤ 16 ∧ (((n : Nat) : Int) - 1000).natAbs.log2 < 1920 := by decide +kernel
theorem Sm.int {i : Int} (h : 0 ≤ i) (h' : i < 2001) : Sm 0 (.int (i - 1000)) := by
  obtain ⟨a, b⟩ := small_int ⟨i.toNat, by omega⟩
  have e : ((i.toNat : Nat) : Int) = i := Int.toNat_of_nonneg h
  simp only [e] at a b
  exact ⟨decide_eq_true b, Nat.le_refl _, a⟩
theorem flat4 {k : Int} (h0 : 0 ≤ k) (h4 : k < 4) : ∃ (v : V) (d : PyData), atI [.non, .bl true, .bl false, .str ""] k = some v ∧ (∀ H : Hp, DR H v d) ∧ Sm 0 d := by
  have : k = 0 ∨ k = 1 ∨ k = 2 ∨ k = 3 := by omega
  rcases this with rfl | rfl | rfl | rfl
  · exact ⟨_, .none, atI_nat (j := 0) rfl, fun _ => .non, ⟨rfl, Nat.le_refl _, by decide⟩⟩
  · exact ⟨_, .bool true, atI_nat (j := 1) rfl, fun _ => .bl _, ⟨rfl, Nat.le_refl _, by decide⟩⟩
  · exact ⟨_, .bool false, atI_nat (j := 2) rfl, fun _ => .bl _, ⟨rfl, Nat.le_refl _, by decide⟩⟩
  · exact ⟨_, .str "", atI_nat (j := 3) rfl, fun _ => .str _, ⟨rfl, Nat.le_refl _, by decide +kernel⟩⟩
def words5 : List V := [.str "a", .str "zz", .str "set a 1", .str "A b", .str "0"]
theorem flat5 {v : V} (h : v ∈ words5) : ∃ d : PyData, (∀ H : Hp, DR H v d) ∧ Sm 0 d := by
  simp only [words5, List.mem_cons, List.not_mem_nil, or_false] at h
  rcases h with rfl | rfl | rfl | rfl | rfl
  · exact ⟨_, fun _ => .str _, ⟨rfl, Nat.le_refl _, by decide +kernel⟩⟩
  · exact ⟨_, fun _ => .str _, ⟨rfl, Nat.le_refl _, by decide +kernel⟩⟩
  · exact ⟨_, fun _ => .str _, ⟨rfl, Nat.le_refl _, by decide +kernel⟩⟩
  · exact ⟨_, fun _ => .str _, ⟨rfl, Nat.le_refl _, by decide +kernel⟩⟩
  · exact ⟨_, fun _ => .str _, ⟨rfl, Nat.le_refl _, by decide +kernel⟩⟩
theorem at2_0 {a b : V} : atI [a, b] 0 = some a := atI_nat (j := 0) rfl
theorem at2_1 {a b : V} : atI [a, b] 1 = some b := atI_nat (j := 1) rfl
theorem most_pos : ∀ n, 3 ≤ most n
  | 0 => Int.le_refl _
  | n + 1 => by have := most_pos n; show (3 : Int) ≤ 3 + 3 * most n; omega
def spVal (n : Nat) : Sp := fun vs H Q _ => ∃ (p : Addr) (n0 n1 n2 : Int), vs = [.ref p, .int n] ∧ PotH H p n0 n1 n2 ∧ 0 ≤ n1 ∧ n1 < 2305843009213693921 ∧ 0 ≤ n2 ∧ n2 + most n < 100000 ∧
  ∀ (v : V) (d : PyData) (n0' n2' : Int) (H' : Hp), DR (nw H H') v d → Sm n d → n2 ≤ n2' → n2' ≤ n2 + most n → Keep p H H' → PotH H' p n0' n1 n2' → Q v H'
def spRec : Nat → Sp
  | 0 => fun _ _ _ _ => False
  | n + 1 => spVal n
theorem fn_never {P : Program} {w : World} {K : Frag} {mg : Str → Option Value} {base : Heap} {f : Addr} {fd : FuncData} {k : Nat} {ps : List Str} : FnOk P w K mg base CX0 k f fd ps (fun _ _ _ _ => False) :=
  ⟨fun _ _ _ _ h => h.elim, fun _ _ _ _ _ _ _ _ _ _ _ _ _ h => h.elim⟩
theorem scVal : FnScope ["_law_pot_here", "_law_deep", "_law_pick", "_law_parts", "_law_turn"] ["_law_pot_here", "_law_deep"] (defScope sValue) := ⟨rfl, rfl, rfl, by decide +kernel, rfl, by decide +kernel, by decide +kernel⟩
section
variable {P : Program} {w : World} {K : Frag} {mg : Str → Option Value} {base : Heap} {f fT fO : Addr} {fd fdT fdO : FuncData}
theorem val_step (n j : Nat) (hj : 2 ≤ j) (F : FnP K "_law_value" sValue f fd) (FT : FnP K "_law_take" sTake fT fdT) (FO : FnP K "_law_of" sOf fO fdO) (gV : mg "_law_value" = some (.ref f)) (gT : mg "_law_take" = some (.ref fT)) (gO : mg "_law_of" = some (.ref fO))
    (gI : mg "int" = none) (gL : mg "len" = none) (gR : mg "range" = none) (gD : mg "dict" = none) (gLi : mg "list" = none) (gZ : mg "zip" = none) (gTu : mg "tuple" = none)
    (GV : FnOk P w K mg base CX0 j f fd ["_law_pot_here", "_law_deep"] (spRec n)) : FnOk P w K mg base CX0 (j + 1) f fd ["_law_pot_here", "_law_deep"] (spVal n) := by
  have GT : FnOk P w K mg base CX0 1 fT fdT ["_law_pot_here", "_law_upto"] spTake := ok_take FT gI
  have bT : Binds K fdT ["_law_pot_here", "_law_upto"] [] := FT.bindsN fun _ _ _ _ _ _ us hl => match us, hl with | [_, _], _ => rfl
  have GO : FnOk P w K mg base CX0 2 fO fdO ["_law_pot_here", "_law_some"] spOf := ok_of FO FT gT gI gL
  have bO : Binds K fdO ["_law_pot_here", "_law_some"] [] := FO.bindsN fun _ _ _ _ _ _ us hl => match us, hl with | [_, _], _ => rfl
  have bV : Binds K fd ["_law_pot_here", "_law_deep"] [] := F.bindsN fun _ _ _ _ _ _ us hl => match us, hl with | [_, _], _ => rfl
  refine F.ok scVal (fun vs H Q E h => ?_) (fun cdv A outer s H vs Q E hr h => ?_)
  · obtain ⟨p, n0, n1, n2, rfl, _⟩ := h
    rfl
  have hr1 := hr.mono (show 1 ≤ j by omega)
  have hr2 := hr.mono hj
  refine ⟨_, PSs.nox (pss_cons (ps_set (i := 2) scVal.nd rfl (Or.inl rfl) (pe_call GT hr1 rfl gT FT.kp bT .nil pass0 (pa_cons (pv 0) (pa_cons (pe_ifExp (pt_cmpR op_gt (pv 1) pe_int (nomark _)) pe_int pe_int) pa_nil))))
    (pss_cons (ps_if (pt_cmpR op_lt (pv 2) pe_int (nomark _)) (pss_one (ps_ret (pe_ix ix_list (pe_lst (pa_cons pe_non (pa_cons pe_bl (pa_cons pe_bl (pa_cons pe_str pa_nil))))) (pv 2) (fun _ _ => rfl)))) pss_nil)
    (pss_cons (ps_if (pt_cmpR op_lt (pv 2) pe_int (nomark _)) (pss_one (ps_ret (pe_ix ix_list (pe_lst (pa_cons (pe_op op_sub (pe_call GT hr1 rfl gT FT.kp bT .nil pass0 (pa_cons (pv 0) (pa_cons pe_int pa_nil))) pe_int)
        (pa_cons (pe_call GO hr2 rfl gO FO.kp bO .nil pass0 (pa_cons (pv 0) (pa_cons (pe_lst (pa_cons pe_str (pa_cons pe_str (pa_cons pe_str (pa_cons pe_str (pa_cons pe_str pa_nil)))))) pa_nil))) pa_nil)))
        (pe_op op_sub (pv 2) pe_int) (fun _ _ => rfl)))) pss_nil)
    (pss_cons (ps_setLc (i := 3) (own := [("_law_turn", 4)]) (g := gName 4) (tt := tYes) rfl scVal.nd rfl rfl (sw_true rfl rfl rfl (by decide +kernel))
        (pi_range1 (by rfl) gR (pa_cons (pe_call GT hr1 rfl gT FT.kp bT .nil pass0 (pa_cons (pv 0) (pa_cons pe_int pa_nil))) pa_nil))
        (blkOk_by (own := [("_law_turn", 4)]) (N := ["_law_pot_here", "_law_deep", "_law_pick", "_law_parts", "_law_turn"]) (sc := defScope sValue) (by decide +kernel))
        (fun _ _ _ _ _ => pg_name (i := 4) scVal.nd rfl (Or.inl rfl)) (fun _ _ _ _ _ => pts_nil)
        (fun _ _ _ _ _ => pe_call GV hr rfl gV F.kp bV .nil pass0 (pa_cons (pv 0) (pa_cons (pe_op op_sub (pv 1) pe_int) pa_nil))))
    (pss_cons (ps_if (pt_cmpR op_eq (pv 2) pe_int (nomark _)) (pss_one (ps_ret (pe_dlz rfl rfl rfl rfl gD gLi gZ (pa_cons (pe_lst (pa_cons pe_str (pa_cons pe_int (pa_cons pe_non pa_nil)))) (pa_cons (pv 3) pa_nil))))) pss_nil)
    (pss_one (ps_ret (pe_ifExp (pt_cmpR op_eq (pv 2) pe_int (nomark _)) (pv 3) (pe_callTy call_tuple_of (by rfl) gTu (by decide +kernel) (pa_cons (pv 3) pa_nil)))))))))), ?_⟩
  obtain ⟨p, n0, n1, n2, rfl, hP, h1, h1', h2, h2', hQ⟩ := h
  have hmost := most_pos n
  refine ⟨_, rfl, _, rfl, _, _, rfl, rfl, _, rfl, ?_⟩
  have hb : (decide ((0 : Int) < n) = true ∧ 0 < n) ∨ (decide ((0 : Int) < n) = false ∧ n = 0) := by
    by_cases q : 0 < n
    · exact .inl ⟨decide_eq_true (by omega), q⟩
    · exact .inr ⟨decide_eq_false (by omega), by omega⟩
  rcases hb with ⟨hb, hn⟩ | ⟨hb, hn⟩
  case' inl => refine iY hb ?_
  case' inr => refine iN hb ?_
  all_goals
    refine ⟨p, _, n0, n1, n2, rfl, hP, by decide, by decide, h1, h1', h2, by omega, fun pick n0a n2a H1 k0 kn m1 m2 kp1 pt1 => ?_⟩
    refine ⟨_, rfl, _, _, rfl, rfl, _, rfl, ?_⟩
    by_cases c4 : pick < 4
    · refine iY (decide_eq_true c4) ?_
      obtain ⟨v, d, hat, dr, sm⟩ := flat4 k0 c4
      refine ⟨by decide, fun l nl => ⟨_, rfl, l, _, pick, v, rfl, rfl, SqL.of upd_same, hat, ?_⟩⟩
      exact hQ v d n0a n2a _ (dr _) (sm.of0 n) m1 (by omega) (kp1.new nl) (pt1.new nl)
    · refine iN (decide_eq_false c4) ?_
      refine ⟨_, rfl, _, _, rfl, rfl, _, rfl, ?_⟩
      by_cases c6 : pick < 6
      · refine iY (decide_eq_true c6) ?_
        refine ⟨_, rfl, p, 2001, n0a, n1, n2a, rfl, pt1, by decide, by decide, h1, h1', by omega, by omega, fun x n0b n2b H2 x0 xn m3 m4 kp2 pt2 => ?_⟩
        refine ⟨_, _, rfl, rfl, _, rfl, by decide, fun l nl => ?_⟩
        refine ⟨p, l, _, n0b, n1, n2b, rfl, pt2.new nl, h1, h1', by omega, by omega, upd_same, (ne_of_none pt2 nl).symm, by simp, by decide, fun v n0c n2c H3 hv m5 m6 kp3 pt3 => ?_⟩
        refine ⟨by show 2 ≤ sizeLine; decide, fun l2 nl2 => ?_⟩
        obtain ⟨d, dr, sm⟩ := flat5 (v := v) hv
        have kk : Keep p H (upd H3 l2 (.lst [.int (x - 1000), v])) := ((kp1.trans (kp2.new nl)).trans kp3).new nl2
        have c45 : pick = 4 ∨ pick = 5 := by omega
        rcases c45 with rfl | rfl
        · refine ⟨_, rfl, _, _, rfl, rfl, l2, _, _, _, rfl, rfl, SqL.of upd_same, at2_0, ?_⟩
          exact hQ _ _ n0c n2c _ (.int _) ((Sm.int x0 xn).of0 n) (by omega) (by omega) kk (pt3.new nl2)
        · refine ⟨_, rfl, _, _, rfl, rfl, l2, _, _, _, rfl, rfl, SqL.of upd_same, at2_1, ?_⟩
          exact hQ _ d n0c n2c _ (dr _) (sm.of0 n) (by omega) (by omega) kk (pt3.new nl2)
      · refine iN (decide_eq_false c6) ?_
        by_cases hz : n = 0
        · exfalso; omega
        · obtain ⟨m, rfl⟩ : ∃ m, n = m + 1 := ⟨n - 1, by omega⟩
          have hmost' : most (m + 1) = 3 + 3 * most m := rfl
          have hmm := most_pos m
          refine ⟨_, rfl, p, 4, n0a, n1, n2a, rfl, pt1, by decide, by decide, h1, h1', by omega, by omega, fun cnt n0b n2b H2 c0 cn m3 m4 kp2 pt2 => ?_⟩
          refine ⟨cnt, rfl, by omega, by omega, fun D nD => ?_⟩
          have hDp : D ≠ p := (ne_of_none pt2 nD).symm
          have kp12 := kp1.trans kp2
          have pt2' : PotH (upd H2 D (.lst [])) p n0b n1 n2b := pt2.new nD
          refine lc_range (lo := 0) (n := cnt.toNat) (fun i G => ∃ (xs : List V) (ds : List PyData) (n0' n2' : Int), G D = some (.lst xs) ∧ xs.length = i ∧ DRs (nw (upd H2 D (.lst [])) G) xs ds ∧ (∀ d ∈ ds, Sm m d) ∧ PotH G p n0' n1 n2' ∧ n2b ≤ n2' ∧ n2' ≤ n2b + i * most m ∧
              (∀ b o, b ≠ p → b ≠ D → H2 b = some o → G b = some o)) ?_ ?_ ?_
          · exact ⟨[], [], n0b, n2b, upd_same, rfl, .nil, (fun d hd => nomatch hd), pt2', Int.le_refl _, by simp, fun b o hb hD e => by rw [upd_ne hD]; exact e⟩
          · rintro i G hi ⟨xs, ds, n0', n2', hD, hlen, dr, sm, pt, q1, q2, kp⟩
            refine ⟨rfl, ?_⟩
            dsimp only [tYes]
            rw [if_pos rfl]
            have hi3 : (i : Int) ≤ 2 := by omega
            have him : (i : Int) * most m ≤ 2 * most m := Int.mul_le_mul_of_nonneg_right hi3 (by omega)
            refine ⟨_, rfl, _, rfl, _, _, rfl, rfl, p, n0', n1, n2', ?_, pt, h1, h1', by omega, by omega, fun v d n0c n2c G' dv sv q3 q4 kp' pt' => ?_⟩
            · have e : (((m + 1 : Nat) : Int) - 1) = (m : Int) := by omega
              show [V.ref p, V.int (((m + 1 : Nat) : Int) - 1)] ++ [] = _
              rw [e]; rfl
            · have hD' : G' D = some (.lst xs) := kp' D _ hDp hD
              have gone : ∀ b, G b = none → upd H2 D (.lst []) b = none := fun b e => by
                by_cases b1 : b = p
                · subst b1; unfold PotH at pt; rw [pt] at e; cases e
                · by_cases b2 : b = D
                  · subst b2; rw [hD] at e; cases e
                  · rw [upd_ne b2]
                    cases q : H2 b with
                    | none => rfl
                    | some o => rw [kp b o b1 b2 q] at e; cases e
              have stay : ∀ b o, upd H2 D (.lst []) b = none → G' b = some o → upd G' D (.lst (xs ++ [v])) b = some o := fun b o e1 e2 => by
                have b2 : b ≠ D := fun z => by rw [z, upd_same] at e1; cases e1
                rw [upd_ne b2]; exact e2
              have stay2 : ∀ b o, upd H2 D (.lst []) b = none → G b = some o → upd G' D (.lst (xs ++ [v])) b = some o := fun b o e1 e2 => by
                have b1 : b ≠ p := fun z => by rw [z] at e1; unfold PotH at pt2'; rw [pt2'] at e1; cases e1
                exact stay b o e1 (kp' b o b1 e2)
              refine ⟨xs, hD', by rw [hlen, sizeLine_eq]; omega, xs ++ [v], ds ++ [d], n0c, n2c, upd_same, by simp [hlen], ?_, ?_, ?_, by omega, ?_, ?_⟩
              · exact (dr.mono (nw_sub (fun _ e => e) stay2)).app (.cons (dv.mono (nw_sub gone fun b o e1 e2 => stay b o (gone b e1) e2)) .nil)
              · intro x hx
                rcases List.mem_append.mp hx with hx | hx
                · exact sm x hx
                · rw [List.mem_singleton.mp hx]; exact sv
              · unfold PotH; rw [upd_ne hDp.symm]; exact pt'
              · have e : ((i + 1 : Nat) : Int) * most m = i * most m + most m := by rw [Int.natCast_add, Int.add_mul]; simp
                rw [e]; omega
              · intro b o b1 b2 e
                rw [upd_ne b2]
                exact kp' b o b1 (kp b o b1 b2 e)
          · rintro G ⟨xs, ds, n0', n2', hD, hlen, dr, sm, pt, q1, q2, kp⟩
            have hc3 : (cnt.toNat : Int) ≤ 3 := by omega
            have hcm : (cnt.toNat : Int) * most m ≤ 3 * most m := Int.mul_le_mul_of_nonneg_right hc3 (by omega)
            have lds : ds.length ≤ 3 := by rw [← dr.length, hlen]; omega
            have keepG : Keep p H G := fun b o b1 e => by
              have e2 := kp12 b o b1 e
              exact kp b o b1 (ne_of_none e2 nD) e2
            have goneG : ∀ b, upd H2 D (.lst []) b = none → H b = none := fun b e => by
              by_cases b1 : b = p
              · subst b1; unfold PotH at pt2'; rw [pt2'] at e; cases e
              · cases q : H b with
                | none => rfl
                | some o =>
                  have e2 := kp12 b o b1 q
                  rw [upd_ne (ne_of_none e2 nD)] at e
                  rw [e2] at e; cases e
            have hDH : H D = none := by
              cases q : H D with
              | none => rfl
              | some o => have := kp12 D o hDp q; rw [nD] at this; cases this
            have drH : DRs (nw H G) xs ds := dr.mono (nw_sub goneG fun b o _ e => e)
            have dList : DR (nw H G) (.ref D) (.list ds) := .lst (nw_some.mpr ⟨hDH, hD⟩) drH
            refine ⟨_, rfl, rfl, _, rfl, ?_⟩
            have subG : ∀ {l : Addr} {o : HO}, G l = none → ∀ b u, nw H G b = some u → nw H (upd G l o) b = some u := fun {l o} nl => nw_sub (fun _ e => e) fun b u _ e => by rw [upd_ne (ne_of_none e nl)]; exact e
            have newH : ∀ {l : Addr}, G l = none → H l = none := fun {l} nl => keepG.gone pt l nl
            by_cases c8 : pick = 8
            · refine iY (decide_eq_true (by rw [c8])) ?_
              refine ⟨by decide, fun l nl => ⟨_, rfl, l, D, [some (.inr "a"), some (.inl 0), none], xs, rfl, upd_same, (by rw [upd_ne (ne_of_none hD nl)]; exact hD), (ne_of_none hD nl).symm, by decide, (by rw [hlen]; show cnt.toNat ≤ 3; omega), by decide, fun q nq => ?_⟩⟩
              have nq' : G q = none := by
                cases z : G q with
                | none => rfl
                | some o => rw [upd_ne (ne_of_none z nl), z] at nq; cases nq
              refine hQ (.ref q) (.dict (((([some (.inr "a"), some (.inl 0), none] : List KeyN).take xs.length).map knD).zip ds)) n0' n2' _ (.dic (nw_some.mpr ⟨newH nq', upd_same⟩) (drH.mono fun b u e => ?_)) (Sm.dict (fun k hk => ?_) sm lds) (by omega) (by omega) ((keepG.new nl).new nq) ((pt.new nl).new nq)
              · obtain ⟨e1, e2⟩ := nw_some.mp (subG (o := .lst [.str "a", .int 0, .non]) nl b u e)
                exact nw_some.mpr ⟨e1, by rw [upd_ne (ne_of_none e2 nq)]; exact e2⟩
              · obtain ⟨k', hk', rfl⟩ := List.mem_map.mp hk
                have hk2 := List.mem_of_mem_take hk'
                simp only [List.mem_cons, List.not_mem_nil, or_false] at hk2
                rcases hk2 with rfl | rfl | rfl
                · exact ⟨rfl, rfl, by decide +kernel⟩
                · exact ⟨by decide +kernel, rfl, by decide +kernel⟩
                · exact ⟨rfl, rfl, by decide⟩
            · refine iN (decide_eq_false (fun z => c8 (V.int.inj z))) ?_
              refine ⟨_, rfl, rfl, _, rfl, ?_⟩
              by_cases c7 : pick = 6
              · refine iY (decide_eq_true (by rw [c7])) ?_
                exact ⟨_, rfl, hQ _ _ n0' n2' _ dList (Sm.list sm lds) (by omega) (by omega) keepG pt⟩
              · refine iN (decide_eq_false (fun z => c7 (V.int.inj z))) ?_
                refine ⟨_, rfl, D, xs, rfl, .inl ⟨SqL.of hD, fun l nl => ?_⟩⟩
                exact hQ _ (.tuple ds) n0' n2' _ (.tup (nw_some.mpr ⟨newH nl, upd_same⟩) (drH.mono (subG nl))) (Sm.tuple sm lds) (by omega) (by omega) (keepG.new nl) (pt.new nl)
theorem ok_value (F : FnP K "_law_value" sValue f fd) (FT : FnP K "_law_take" sTake fT fdT) (FO : FnP K "_law_of" sOf fO fdO) (gV : mg "_law_value" = some (.ref f)) (gT : mg "_law_take" = some (.ref fT)) (gO : mg "_law_of" = some (.ref fO))
    (gI : mg "int" = none) (gL : mg "len" = none) (gR : mg "range" = none) (gD : mg "dict" = none) (gLi : mg "list" = none) (gZ : mg "zip" = none) (gTu : mg "tuple" = none) :
    ∀ n : Nat, FnOk P w K mg base CX0 (n + 3) f fd ["_law_pot_here", "_law_deep"] (spVal n)
  | 0 => val_step 0 2 (by decide) F FT FO gV gT gO gI gL gR gD gLi gZ gTu fn_never
  | n + 1 => val_step (n + 1) (n + 3) (by omega) F FT FO gV gT gO gI gL gR gD gLi gZ gTu (ok_value F FT FO gV gT gO gI gL gR gD gLi gZ gTu n)
end
end K00
namespace G137
open PySem PySem.Spec PyProof.Rows L2
/-- x is an error of the class C with the value v -/
def ErrAt (H : Hp) (v x : V) (C : Addr) : Prop := ∃ a d, x = .ref a ∧ H a = some (ExK (.ref C) (some d) a) ∧ H d = some (.xd [("value", v)])
theorem ErrAt.mono {H H' : Hp} {v x : V} {C : Addr} (s : Same H H') (h : ErrAt H v x C) : ErrAt H' v x C := by
  obtain ⟨a, d, e, h1, h2⟩ := h
  exact ⟨a, d, e, s _ _ h1, s _ _ h2⟩
theorem Same.tr {H H' H'' : Hp} (a : Same H H') (b : Same H' H'') : Same H H'' := fun c o e => b c o (a c o e)
theorem Same.rf {H : Hp} : Same H H := fun _ _ e => e
theorem Same.nw {H : Hp} {l : Addr} {o : HO} (n : H l = none) : Same H (upd H l o) := fun c u e => by rw [upd_ne (ne_of_none e n)]; exact e
theorem PE.imp {X : Cx} {e : Expr} {t t' : TE} (h : PE X e t) (hi : ∀ σ H Q, t' σ H Q → t σ H Q) : PE X e t' := ⟨fun pins s σ H Q I q => h.run pins s σ H Q I (hi _ _ _ q)⟩
theorem PA.imp {X : Cx} {e : List Expr} {t t' : TA} (h : PA X e t) (hi : ∀ σ H Q, t' σ H Q → t σ H Q) : PA X e t' := ⟨fun pos pins s σ H Q I q => h.run pos pins s σ H Q I (hi _ _ _ q)⟩
theorem PSs.imp {X : Cx} {e : List Stmt} {t t' : TS} (h : PSs X e t) (hi : ∀ D σ H, t' D σ H → t D σ H) : PSs X e t' := ⟨fun pins s σ H D I q => h.run pins s σ H D I (hi _ _ _ q)⟩
theorem PS.imp {X : Cx} {e : Stmt} {t t' : TS} (h : PS X e t) (hi : ∀ D σ H, t' D σ H → t D σ H) : PS X e t' := ⟨fun pins s σ H D I q => h.run pins s σ H D I (hi _ _ _ q)⟩
def tEv (C : Addr) (i : Nat) : TE := fun σ H Q => ∃ v, σ[i]? = some (some v) ∧ ∀ H' x, Same H H' → ErrAt H' v x C → Q x H'
def tEvs (Cs : List Addr) (i : Nat) : TA := fun σ H Q => ∃ v, σ[i]? = some (some v) ∧ ∀ H' xs, Same H H' → Paired (ErrAt H' v) xs Cs → Q xs H'
section
variable {X : Cx} {x one : Str} {p p1 pos : Pos} {i : Nat} {D C : Addr} {e : Expr} {es : List Expr} {Cs : List Addr}
theorem pe_errV (M : ErrM X.prog X.w X.K X.mg X.base D C) (hr : Room 2 X.A) (hg : Gl X x) (hm : X.mg x = some (.ref C)) (hv : PE X (.Name one p1) (tVar i)) (hdb : (x == ("__debug__" : Str)) = false := by decide)
    (hs : starEach [.Name one p1] X.env = (false, eval (.Name one p1) X.env) :: starEach [] X.env := by rfl) : PE X (.Call (.Name x p) [.Name one p1] [] pos) (tEv C i) := by
  refine PE.imp (pe_of_pmk (pmk_err M hr hg hm hv hdb hs)) fun σ H Q ⟨v, h1, h2⟩ => ⟨v, h1, fun d nd a na => ?_⟩
  refine h2 _ _ (Same.tr (Same.nw nd) (Same.nw na)) ⟨a, d, rfl, upd_same, ?_⟩
  have hda : d ≠ a := fun z => by rw [← z, upd_same] at na; cases na
  rw [upd_ne hda, upd_same]
theorem pa_ev0 : PA X [] (tEvs [] i) := PA.imp pa_nil fun σ H Q ⟨v, h1, h2⟩ => h2 H [] Same.rf .nil
theorem Paired.mono2 {F G : V → Addr → Prop} (h : ∀ a b, F a b → G a b) : ∀ {xs : List V} {ys : List Addr}, Paired F xs ys → Paired G xs ys
  | _, _, .nil => .nil
  | _, _, .cons a r => .cons (h _ _ a) (Paired.mono2 h r)
theorem pa_ev (he : PE X e (tEv C i)) (hr : PA X es (tEvs Cs i)) (hs : starEach (e :: es) X.env = (false, eval e X.env) :: starEach es X.env := by rfl) : PA X (e :: es) (tEvs (C :: Cs) i) :=
  PA.imp (pa_cons he hr hs) fun σ H Q ⟨v, h1, h2⟩ => ⟨v, h1, fun H1 x s1 e1 => ⟨v, h1, fun H2 xs s2 e2 => h2 H2 (x :: xs) (Same.tr s1 s2) (.cons (e1.mono s2) e2)⟩⟩
end
end G137
namespace K00
open PySem PySem.Spec PyProof.Rows L2 G137
/-- the class of a name -/
abbrev cA (K : Frag) (x : Str) : Addr := He.ga K x
def spMade (K : Frag) : Sp := fun vs H Q _ => ∃ v, vs = [v] ∧ ∀ H' l xs, Same H H' → H l = none → H' l = some (.lst xs) → Paired (ErrAt H' v) xs (errs.map (cA K)) → Q (.ref l) H'
theorem scMade : FnScope ["_law_one", "_law_found"] ["_law_one"] (defScope sMade) := ⟨rfl, rfl, rfl, by decide +kernel, rfl, by decide +kernel, by decide +kernel⟩
theorem paired_app {F : V → Addr → Prop} : ∀ {xs ys : List V} {as bs : List Addr}, Paired F xs as → Paired F ys bs → Paired F (xs ++ ys) (as ++ bs)
  | _, _, _, _, .nil, q => q
  | _, _, _, _, .cons a r, q => .cons a (paired_app r q)
/-- what is known of the error classes -/
structure Cls (P : Program) (w : World) (K : Frag) (mg : Str → Option Value) (base : Heap) : Prop where
  m : ∀ c ∈ alls, ErrM P w K mg base (cA K "OnlyError") (cA K c)
  g : ∀ c ∈ alls, mg c = some (.ref (cA K c))
  k : ∀ c ∈ alls, ErrK K (cA K c)
  kit : ∀ c ∈ alls, ∀ d ∈ errs, PySem.W.kitOne K (.ref (cA K c)) (.ref (cA K d)) = some (c == d)
  kO : ∀ c ∈ alls, PySem.W.kitOne K (.ref (cA K c)) (.ref (cA K "OnlyError")) = some true
  kV : ∀ c ∈ alls, PySem.W.kitOne K (.ref (cA K c)) (.type "ValueError") = some true
  x1 : PySem.W.exmOne K (.ref (cA K "TooMany")) (.ref (cA K "OnlyError")) = some true
  x2 : PySem.W.exmOne K (.ref (cA K "Stuck")) (.ref (cA K "BadLine")) = some false
  x3 : PySem.W.exmOne K (.ref (cA K "Stuck")) (.ref (cA K "Stuck")) = some true
theorem paired_len {F : V → Addr → Prop} {xs : List V} {as : List Addr} (h : Paired F xs as) : xs.length = as.length := Paired.length h
section
variable {P : Program} {w : World} {K : Frag} {mg : Str → Option Value} {base : Heap} {f : Addr} {fd : FuncData}
/-- found = found + [errors] -/
theorem made_step {D : Ends} {v : V} {l : Addr} {H : Hp} {xs : List V} {As Bs : List Addr} (hl : H l = some (.lst xs)) (hp : Paired (ErrAt H v) xs As) (hs : As.length + Bs.length ≤ 1000)
    (nx : ∀ H' l' ys, Same H H' → H l' = none → H' l' = some (.lst ys) → Paired (ErrAt H' v) ys (As ++ Bs) → D.nx [some v, some (.ref l')] H') :
    tAsg (tOp rCat (tVar 1) (tLst (tEvs Bs 0))) (gName 1) D [some v, some (.ref l)] H := by
  refine ⟨_, rfl, v, rfl, fun H1 ys s1 e1 => ⟨?_, fun p np => ⟨l, p, xs, ys, rfl, rfl, ?_, upd_same, ?_, fun q nq => ?_⟩⟩⟩
  · rw [paired_len e1, sizeLine_eq]; omega
  · rw [upd_ne (ne_of_none (s1 _ _ hl) np)]; exact s1 _ _ hl
  · rw [paired_len e1, paired_len hp, sizeLine_eq]; omega
  · have s2 : Same H (upd (upd H1 p (.lst ys)) q (.lst (xs ++ ys))) := Same.tr s1 (Same.tr (Same.nw np) (Same.nw nq))
    have s3 : Same H1 (upd (upd H1 p (.lst ys)) q (.lst (xs ++ ys))) := Same.tr (Same.nw np) (Same.nw nq)
    refine nx _ q _ s2 ?_ upd_same (paired_app (Paired.mono2 (fun _ _ h => h.mono s2) hp) (Paired.mono2 (fun _ _ h => h.mono s3) e1))
    cases z : H q with
    | none => rfl
    | some o =>
      have z1 := s1 _ _ z
      rw [upd_ne (ne_of_none z1 np), z1] at nq; cases nq
theorem ok_made (T : Cls P w K mg base) (F : FnP K "_law_made" sMade f fd) : FnOk P w K mg base CX0 3 f fd ["_law_one"] (spMade K) := by
  refine F.ok scMade (fun vs H Q E h => ?_) (fun cdv A outer s H vs Q E hr h => ?_)
  · obtain ⟨v, rfl, _⟩ := h
    rfl
  refine ⟨_, PSs.nox (pss_cons (ps_set (i := 1) scMade.nd rfl (Or.inl rfl) (pe_lst (pa_ev (pe_errV (T.m "BadBook" (by decide +kernel)) hr rfl (T.g "BadBook" (by decide +kernel)) (pv 0)) (pa_ev (pe_errV (T.m "Unnamed" (by decide +kernel)) hr rfl (T.g "Unnamed" (by decide +kernel)) (pv 0)) (pa_ev (pe_errV (T.m "Upward" (by decide +kernel)) hr rfl (T.g "Upward" (by decide +kernel)) (pv 0)) (pa_ev (pe_errV (T.m "NoDeed" (by decide +kernel)) hr rfl (T.g "NoDeed" (by decide +kernel)) (pv 0)) (pa_ev (pe_errV (T.m "BadDeeds" (by decide +kernel)) hr rfl (T.g "BadDeeds" (by decide +kernel)) (pv 0)) (pa_ev (pe_errV (T.m "BadStore" (by decide +kernel)) hr rfl (T.g "BadStore" (by decide +kernel)) (pv 0)) pa_ev0))))))))
    (pss_cons (ps_set (i := 1) scMade.nd rfl (Or.inl rfl) (pe_op op_cat (pv 1) (pe_lst (pa_ev (pe_errV (T.m "BadRow" (by decide +kernel)) hr rfl (T.g "BadRow" (by decide +kernel)) (pv 0)) (pa_ev (pe_errV (T.m "NoKey" (by decide +kernel)) hr rfl (T.g "NoKey" (by decide +kernel)) (pv 0)) (pa_ev (pe_errV (T.m "Gone" (by decide +kernel)) hr rfl (T.g "Gone" (by decide +kernel)) (pv 0)) (pa_ev (pe_errV (T.m "BadWorth" (by decide +kernel)) hr rfl (T.g "BadWorth" (by decide +kernel)) (pv 0)) (pa_ev (pe_errV (T.m "Lasting" (by decide +kernel)) hr rfl (T.g "Lasting" (by decide +kernel)) (pv 0)) (pa_ev (pe_errV (T.m "OtherStore" (by decide +kernel)) hr rfl (T.g "OtherStore" (by decide +kernel)) (pv 0)) pa_ev0)))))))))
    (pss_cons (ps_set (i := 1) scMade.nd rfl (Or.inl rfl) (pe_op op_cat (pv 1) (pe_lst (pa_ev (pe_errV (T.m "BadInput" (by decide +kernel)) hr rfl (T.g "BadInput" (by decide +kernel)) (pv 0)) (pa_ev (pe_errV (T.m "BadMemory" (by decide +kernel)) hr rfl (T.g "BadMemory" (by decide +kernel)) (pv 0)) (pa_ev (pe_errV (T.m "BadMachine" (by decide +kernel)) hr rfl (T.g "BadMachine" (by decide +kernel)) (pv 0)) (pa_ev (pe_errV (T.m "BadState" (by decide +kernel)) hr rfl (T.g "BadState" (by decide +kernel)) (pv 0)) (pa_ev (pe_errV (T.m "BadLetter" (by decide +kernel)) hr rfl (T.g "BadLetter" (by decide +kernel)) (pv 0)) (pa_ev (pe_errV (T.m "Unlike" (by decide +kernel)) hr rfl (T.g "Unlike" (by decide +kernel)) (pv 0)) pa_ev0)))))))))
    (pss_cons (ps_set (i := 1) scMade.nd rfl (Or.inl rfl) (pe_op op_cat (pv 1) (pe_lst (pa_ev (pe_errV (T.m "TooMany" (by decide +kernel)) hr rfl (T.g "TooMany" (by decide +kernel)) (pv 0)) (pa_ev (pe_errV (T.m "BadOffers" (by decide +kernel)) hr rfl (T.g "BadOffers" (by decide +kernel)) (pv 0)) (pa_ev (pe_errV (T.m "BadWish" (by decide +kernel)) hr rfl (T.g "BadWish" (by decide +kernel)) (pv 0)) (pa_ev (pe_errV (T.m "BadPrices" (by decide +kernel)) hr rfl (T.g "BadPrices" (by decide +kernel)) (pv 0)) (pa_ev (pe_errV (T.m "BadLetters" (by decide +kernel)) hr rfl (T.g "BadLetters" (by decide +kernel)) (pv 0)) (pa_ev (pe_errV (T.m "BadRows" (by decide +kernel)) hr rfl (T.g "BadRows" (by decide +kernel)) (pv 0)) pa_ev0)))))))))
    (pss_cons (ps_set (i := 1) scMade.nd rfl (Or.inl rfl) (pe_op op_cat (pv 1) (pe_lst (pa_ev (pe_errV (T.m "BadWishes" (by decide +kernel)) hr rfl (T.g "BadWishes" (by decide +kernel)) (pv 0)) (pa_ev (pe_errV (T.m "BadKeys" (by decide +kernel)) hr rfl (T.g "BadKeys" (by decide +kernel)) (pv 0)) (pa_ev (pe_errV (T.m "BadHands" (by decide +kernel)) hr rfl (T.g "BadHands" (by decide +kernel)) (pv 0)) (pa_ev (pe_errV (T.m "BadSteps" (by decide +kernel)) hr rfl (T.g "BadSteps" (by decide +kernel)) (pv 0)) (pa_ev (pe_errV (T.m "BadTelling" (by decide +kernel)) hr rfl (T.g "BadTelling" (by decide +kernel)) (pv 0)) (pa_ev (pe_errV (T.m "NoEffect" (by decide +kernel)) hr rfl (T.g "NoEffect" (by decide +kernel)) (pv 0)) pa_ev0)))))))))
    (pss_cons (ps_set (i := 1) scMade.nd rfl (Or.inl rfl) (pe_op op_cat (pv 1) (pe_lst (pa_ev (pe_errV (T.m "OtherBook" (by decide +kernel)) hr rfl (T.g "OtherBook" (by decide +kernel)) (pv 0)) (pa_ev (pe_errV (T.m "Stuck" (by decide +kernel)) hr rfl (T.g "Stuck" (by decide +kernel)) (pv 0)) (pa_ev (pe_errV (T.m "BadSwitch" (by decide +kernel)) hr rfl (T.g "BadSwitch" (by decide +kernel)) (pv 0)) (pa_ev (pe_errV (T.m "OtherPreview" (by decide +kernel)) hr rfl (T.g "OtherPreview" (by decide +kernel)) (pv 0)) (pa_ev (pe_errV (T.m "Showing" (by decide +kernel)) hr rfl (T.g "Showing" (by decide +kernel)) (pv 0)) (pa_ev (pe_errV (T.m "Spoilt" (by decide +kernel)) hr rfl (T.g "Spoilt" (by decide +kernel)) (pv 0)) pa_ev0)))))))))
    (pss_cons (ps_set (i := 1) scMade.nd rfl (Or.inl rfl) (pe_op op_cat (pv 1) (pe_lst (pa_ev (pe_errV (T.m "BadLine" (by decide +kernel)) hr rfl (T.g "BadLine" (by decide +kernel)) (pv 0)) pa_ev0))))
    (pss_one (ps_ret (pv 1)))))))))), ?_⟩
  obtain ⟨v, rfl, hQ⟩ := h
  refine ⟨v, rfl, fun H1 ys s1 e1 => ⟨by rw [paired_len e1]; show 6 ≤ sizeLine; decide, fun p np => ?_⟩⟩
  have s1' : Same H (upd H1 p (.lst ys)) := Same.tr s1 (Same.nw np)
  have e1' := Paired.mono2 (fun _ _ h => ErrAt.mono (Same.nw (o := .lst ys) np) h) e1
  have n1 : H p = none := by
    cases z : H p with
    | none => rfl
    | some o => rw [s1 _ _ z] at np; cases np
  refine made_step upd_same e1' (by simp) fun G2 l2 ys2 t2 m2 u2 e2 => ?_
  have S2 := Same.tr s1' t2
  have N2 : H l2 = none := by
    cases z : H l2 with
    | none => rfl
    | some o => rw [s1' _ _ z] at m2; cases m2
  refine made_step u2 e2 (by simp) fun G3 l3 ys3 t3 m3 u3 e3 => ?_
  have S3 := Same.tr S2 t3
  have N3 : H l3 = none := by
    cases z : H l3 with
    | none => rfl
    | some o => rw [S2 _ _ z] at m3; cases m3
  refine made_step u3 e3 (by simp) fun G4 l4 ys4 t4 m4 u4 e4 => ?_
  have S4 := Same.tr S3 t4
  have N4 : H l4 = none := by
    cases z : H l4 with
    | none => rfl
    | some o => rw [S3 _ _ z] at m4; cases m4
  refine made_step u4 e4 (by simp) fun G5 l5 ys5 t5 m5 u5 e5 => ?_
  have S5 := Same.tr S4 t5
  have N5 : H l5 = none := by
    cases z : H l5 with
    | none => rfl
    | some o => rw [S4 _ _ z] at m5; cases m5
  refine made_step u5 e5 (by simp) fun G6 l6 ys6 t6 m6 u6 e6 => ?_
  have S6 := Same.tr S5 t6
  have N6 : H l6 = none := by
    cases z : H l6 with
    | none => rfl
    | some o => rw [S5 _ _ z] at m6; cases m6
  refine made_step u6 e6 (by simp) fun G7 l7 ys7 t7 m7 u7 e7 => ?_
  have S7 := Same.tr S6 t7
  have N7 : H l7 = none := by
    cases z : H l7 with
    | none => rfl
    | some o => rw [S6 _ _ z] at m7; cases m7
  exact ⟨_, rfl, hQ G7 l7 ys7 S7 N7 u7 e7⟩
end
end K00
namespace G137
open PySem PySem.Spec PyProof.Rows L2
def tMk (K : Frag) (Cd : Addr) (i : Nat) : TE := fun σ H Q => ∃ (a C dd : Addr) (fs : List (Str × V)) (b : Bool), σ[i]? = some (some (.ref a)) ∧ ErrK K C ∧ H a = some (ExK (.ref C) (some dd) a) ∧ H dd = some (.xd fs) ∧ PySem.W.kitOne K (.ref C) (.ref Cd) = some b ∧ Q (.bl b) H
def tMks (K : Frag) (Cs : List Addr) (i : Nat) : TA := fun σ H Q => ∃ (a C dd : Addr) (fs : List (Str × V)) (bs : List Bool), σ[i]? = some (some (.ref a)) ∧ ErrK K C ∧ H a = some (ExK (.ref C) (some dd) a) ∧ H dd = some (.xd fs) ∧
  Paired (fun (b : Bool) (Cd : Addr) => PySem.W.kitOne K (.ref C) (.ref Cd) = some b) bs Cs ∧ Q (bs.map V.bl) H
section
variable {X : Cx} {i : Nat} {Cd : Addr} {e e1 e2 : Expr} {es : List Expr} {Cs : List Addr} {p pos : Pos}
theorem pe_mk (gIs : X.mg "isinstance" = none) (hg : Gl X "isinstance") (hb : bootBuiltins "isinstance" = some (.builtin "isinstance")) (h1 : PE X e1 (tVar i)) (h2 : PE X e2 (tC (.ref Cd)))
    (q1 : starEach [e2] X.env = (false, eval e2 X.env) :: starEach [] X.env := by rfl) (q2 : starEach [e1, e2] X.env = (false, eval e1 X.env) :: starEach [e2] X.env := by rfl) (hpl : (backTo pos (starEach [e2] X.env)).any (·.1) = false := by rfl) :
    PE X (.Call (.Name "isinstance" p) [e1, e2] [] pos) (tMk X.K Cd i) := by
  refine PE.imp (pe_callB call_isX hg gIs hb (pa_cons h1 (pa_cons h2 pa_nil q1) q2) (by decide) (by decide) q2 hpl) fun σ H Q ⟨a, C, dd, fs, b, h1, h2, h3, h4, h5, h6⟩ => ?_
  exact ⟨_, h1, a, C, dd, fs, .ref Cd, .ref Cd, b, rfl, h2, h3, h4, fun u r => r, h5, h6⟩
theorem pa_mk0 : PA X [] (tMks X.K [] i) := PA.imp pa_nil fun σ H Q ⟨a, C, dd, fs, bs, h1, h2, h3, h4, h5, h6⟩ => by cases h5; exact h6
theorem pa_mk (he : PE X e (tMk X.K Cd i)) (hr : PA X es (tMks X.K Cs i)) (hs : starEach (e :: es) X.env = (false, eval e X.env) :: starEach es X.env := by rfl) : PA X (e :: es) (tMks X.K (Cd :: Cs) i) :=
  PA.imp (pa_cons he hr hs) fun σ H Q ⟨a, C, dd, fs, bs, h1, h2, h3, h4, h5, h6⟩ => by
    cases h5 with
    | cons k r => exact ⟨a, C, dd, fs, _, h1, h2, h3, h4, k, a, C, dd, fs, _, h1, h2, h3, h4, r, h6⟩
end
end G137
namespace K00
open PySem PySem.Spec PyProof.Rows L2 G137
def spMarks (K : Frag) : Sp := fun vs H Q _ => ∃ (a dd : Addr) (fs : List (Str × V)) (c : Str), vs = [.ref a] ∧ c ∈ alls ∧ H a = some (ExK (.ref (cA K c)) (some dd) a) ∧ H dd = some (.xd fs) ∧
  ∀ H' l, Same H H' → H l = none → H' l = some (.lst ((errs.map fun d => c == d).map V.bl)) → Q (.ref l) H'
theorem scMarks : FnScope ["_law_error", "_law_found"] ["_law_error"] (defScope sMarks) := ⟨rfl, rfl, rfl, by decide +kernel, rfl, by decide +kernel, by decide +kernel⟩
section
variable {P : Program} {w : World} {K : Frag} {mg : Str → Option Value} {base : Heap} {f : Addr} {fd : FuncData}
theorem kit_of (T : Cls P w K mg base) {c : Str} (hc : c ∈ alls) : ∀ {ds : List Str}, (∀ d ∈ ds, d ∈ errs) → Paired (fun (b : Bool) (Cd : Addr) => PySem.W.kitOne K (.ref (cA K c)) (.ref Cd) = some b) (ds.map fun d => c == d) (ds.map (cA K))
  | [], _ => .nil
  | d :: ds, h => .cons (T.kit c hc d (h d List.mem_cons_self)) (kit_of T hc fun x hx => h x (List.mem_cons_of_mem _ hx))
theorem marks_step (T : Cls P w K mg base) {c : Str} (hc : c ∈ alls) {D : Ends} {a l dd : Addr} {fs : List (Str × V)} {H : Hp} {bs : List Bool} (ds : List Str) (hds : ∀ d ∈ ds, d ∈ errs) (ha : H a = some (ExK (.ref (cA K c)) (some dd) a)) (hdd : H dd = some (.xd fs)) (hl : H l = some (.lst (bs.map V.bl))) (hs : bs.length + ds.length ≤ 1000)
    (nx : ∀ H' l', Same H H' → H l' = none → H' l' = some (.lst ((bs ++ ds.map fun d => c == d).map V.bl)) → D.nx [some (.ref a), some (.ref l')] H') :
    tAsg (tOp rCat (tVar 1) (tLst (tMks K (ds.map (cA K)) 0))) (gName 1) D [some (.ref a), some (.ref l)] H := by
  refine ⟨_, rfl, a, _, dd, fs, _, rfl, T.k c hc, ha, hdd, kit_of T hc hds, ⟨?_, fun p np => ⟨l, p, bs.map V.bl, _, rfl, rfl, ?_, upd_same, ?_, fun q nq => ?_⟩⟩⟩
  · rw [List.length_map, List.length_map, sizeLine_eq]; omega
  · rw [upd_ne (ne_of_none hl np)]; exact hl
  · rw [List.length_map, List.length_map, List.length_map, sizeLine_eq]; omega
  · refine nx _ q (Same.tr (Same.nw np) (Same.nw nq)) ?_ ?_
    · cases z : H q with
      | none => rfl
      | some o => rw [upd_ne (ne_of_none z np), z] at nq; cases nq
    · rw [upd_same, List.map_append]
theorem ok_marks (T : Cls P w K mg base) (F : FnP K "_law_marks" sMarks f fd) (gIs : mg "isinstance" = none) : FnOk P w K mg base CX0 1 f fd ["_law_error"] (spMarks K) := by
  refine F.ok scMarks (fun vs H Q E h => ?_) (fun cdv A outer s H vs Q E hr h => ?_)
  · obtain ⟨a, dd, fs, c, rfl, _⟩ := h
    rfl
  refine ⟨_, PSs.nox (pss_cons (ps_set (i := 1) scMarks.nd rfl (Or.inl rfl) (pe_lst (pa_mk (pe_mk gIs rfl (by decide +kernel) (pv 0) (pe_glob rfl (T.g "BadBook" (by decide +kernel)) rfl)) (pa_mk (pe_mk gIs rfl (by decide +kernel) (pv 0) (pe_glob rfl (T.g "Unnamed" (by decide +kernel)) rfl)) (pa_mk (pe_mk gIs rfl (by decide +kernel) (pv 0) (pe_glob rfl (T.g "Upward" (by decide +kernel)) rfl)) pa_mk0)))))
    (pss_cons (ps_set (i := 1) scMarks.nd rfl (Or.inl rfl) (pe_op op_cat (pv 1) (pe_lst (pa_mk (pe_mk gIs rfl (by decide +kernel) (pv 0) (pe_glob rfl (T.g "NoDeed" (by decide +kernel)) rfl)) (pa_mk (pe_mk gIs rfl (by decide +kernel) (pv 0) (pe_glob rfl (T.g "BadDeeds" (by decide +kernel)) rfl)) (pa_mk (pe_mk gIs rfl (by decide +kernel) (pv 0) (pe_glob rfl (T.g "BadStore" (by decide +kernel)) rfl)) pa_mk0))))))
    (pss_cons (ps_set (i := 1) scMarks.nd rfl (Or.inl rfl) (pe_op op_cat (pv 1) (pe_lst (pa_mk (pe_mk gIs rfl (by decide +kernel) (pv 0) (pe_glob rfl (T.g "BadRow" (by decide +kernel)) rfl)) (pa_mk (pe_mk gIs rfl (by decide +kernel) (pv 0) (pe_glob rfl (T.g "NoKey" (by decide +kernel)) rfl)) (pa_mk (pe_mk gIs rfl (by decide +kernel) (pv 0) (pe_glob rfl (T.g "Gone" (by decide +kernel)) rfl)) pa_mk0))))))
    (pss_cons (ps_set (i := 1) scMarks.nd rfl (Or.inl rfl) (pe_op op_cat (pv 1) (pe_lst (pa_mk (pe_mk gIs rfl (by decide +kernel) (pv 0) (pe_glob rfl (T.g "BadWorth" (by decide +kernel)) rfl)) (pa_mk (pe_mk gIs rfl (by decide +kernel) (pv 0) (pe_glob rfl (T.g "Lasting" (by decide +kernel)) rfl)) (pa_mk (pe_mk gIs rfl (by decide +kernel) (pv 0) (pe_glob rfl (T.g "OtherStore" (by decide +kernel)) rfl)) pa_mk0))))))
    (pss_cons (ps_set (i := 1) scMarks.nd rfl (Or.inl rfl) (pe_op op_cat (pv 1) (pe_lst (pa_mk (pe_mk gIs rfl (by decide +kernel) (pv 0) (pe_glob rfl (T.g "BadInput" (by decide +kernel)) rfl)) (pa_mk (pe_mk gIs rfl (by decide +kernel) (pv 0) (pe_glob rfl (T.g "BadMemory" (by decide +kernel)) rfl)) (pa_mk (pe_mk gIs rfl (by decide +kernel) (pv 0) (pe_glob rfl (T.g "BadMachine" (by decide +kernel)) rfl)) pa_mk0))))))
    (pss_cons (ps_set (i := 1) scMarks.nd rfl (Or.inl rfl) (pe_op op_cat (pv 1) (pe_lst (pa_mk (pe_mk gIs rfl (by decide +kernel) (pv 0) (pe_glob rfl (T.g "BadState" (by decide +kernel)) rfl)) (pa_mk (pe_mk gIs rfl (by decide +kernel) (pv 0) (pe_glob rfl (T.g "BadLetter" (by decide +kernel)) rfl)) (pa_mk (pe_mk gIs rfl (by decide +kernel) (pv 0) (pe_glob rfl (T.g "Unlike" (by decide +kernel)) rfl)) pa_mk0))))))
    (pss_cons (ps_set (i := 1) scMarks.nd rfl (Or.inl rfl) (pe_op op_cat (pv 1) (pe_lst (pa_mk (pe_mk gIs rfl (by decide +kernel) (pv 0) (pe_glob rfl (T.g "TooMany" (by decide +kernel)) rfl)) (pa_mk (pe_mk gIs rfl (by decide +kernel) (pv 0) (pe_glob rfl (T.g "BadOffers" (by decide +kernel)) rfl)) (pa_mk (pe_mk gIs rfl (by decide +kernel) (pv 0) (pe_glob rfl (T.g "BadWish" (by decide +kernel)) rfl)) pa_mk0))))))
    (pss_cons (ps_set (i := 1) scMarks.nd rfl (Or.inl rfl) (pe_op op_cat (pv 1) (pe_lst (pa_mk (pe_mk gIs rfl (by decide +kernel) (pv 0) (pe_glob rfl (T.g "BadPrices" (by decide +kernel)) rfl)) (pa_mk (pe_mk gIs rfl (by decide +kernel) (pv 0) (pe_glob rfl (T.g "BadLetters" (by decide +kernel)) rfl)) (pa_mk (pe_mk gIs rfl (by decide +kernel) (pv 0) (pe_glob rfl (T.g "BadRows" (by decide +kernel)) rfl)) pa_mk0))))))
    (pss_cons (ps_set (i := 1) scMarks.nd rfl (Or.inl rfl) (pe_op op_cat (pv 1) (pe_lst (pa_mk (pe_mk gIs rfl (by decide +kernel) (pv 0) (pe_glob rfl (T.g "BadWishes" (by decide +kernel)) rfl)) (pa_mk (pe_mk gIs rfl (by decide +kernel) (pv 0) (pe_glob rfl (T.g "BadKeys" (by decide +kernel)) rfl)) (pa_mk (pe_mk gIs rfl (by decide +kernel) (pv 0) (pe_glob rfl (T.g "BadHands" (by decide +kernel)) rfl)) pa_mk0))))))
    (pss_cons (ps_set (i := 1) scMarks.nd rfl (Or.inl rfl) (pe_op op_cat (pv 1) (pe_lst (pa_mk (pe_mk gIs rfl (by decide +kernel) (pv 0) (pe_glob rfl (T.g "BadSteps" (by decide +kernel)) rfl)) (pa_mk (pe_mk gIs rfl (by decide +kernel) (pv 0) (pe_glob rfl (T.g "BadTelling" (by decide +kernel)) rfl)) (pa_mk (pe_mk gIs rfl (by decide +kernel) (pv 0) (pe_glob rfl (T.g "NoEffect" (by decide +kernel)) rfl)) pa_mk0))))))
    (pss_cons (ps_set (i := 1) scMarks.nd rfl (Or.inl rfl) (pe_op op_cat (pv 1) (pe_lst (pa_mk (pe_mk gIs rfl (by decide +kernel) (pv 0) (pe_glob rfl (T.g "OtherBook" (by decide +kernel)) rfl)) (pa_mk (pe_mk gIs rfl (by decide +kernel) (pv 0) (pe_glob rfl (T.g "Stuck" (by decide +kernel)) rfl)) (pa_mk (pe_mk gIs rfl (by decide +kernel) (pv 0) (pe_glob rfl (T.g "BadSwitch" (by decide +kernel)) rfl)) pa_mk0))))))
    (pss_cons (ps_set (i := 1) scMarks.nd rfl (Or.inl rfl) (pe_op op_cat (pv 1) (pe_lst (pa_mk (pe_mk gIs rfl (by decide +kernel) (pv 0) (pe_glob rfl (T.g "OtherPreview" (by decide +kernel)) rfl)) (pa_mk (pe_mk gIs rfl (by decide +kernel) (pv 0) (pe_glob rfl (T.g "Showing" (by decide +kernel)) rfl)) (pa_mk (pe_mk gIs rfl (by decide +kernel) (pv 0) (pe_glob rfl (T.g "Spoilt" (by decide +kernel)) rfl)) pa_mk0))))))
    (pss_cons (ps_set (i := 1) scMarks.nd rfl (Or.inl rfl) (pe_op op_cat (pv 1) (pe_lst (pa_mk (pe_mk gIs rfl (by decide +kernel) (pv 0) (pe_glob rfl (T.g "BadLine" (by decide +kernel)) rfl)) pa_mk0))))
    (pss_one (ps_ret (pv 1)))))))))))))))), ?_⟩
  obtain ⟨a, dd, fs, c, rfl, hc, ha, hdd, hQ⟩ := h
  refine ⟨a, _, dd, fs, _, rfl, T.k c hc, ha, hdd, kit_of T hc (ds := ["BadBook", "Unnamed", "Upward"]) (by decide +kernel), ⟨(by show 3 ≤ sizeLine; decide), fun p np => ?_⟩⟩
  have S1 : Same H (upd H p (.lst (((["BadBook", "Unnamed", "Upward"] : List Str).map fun d => c == d).map V.bl))) := Same.nw np
  have U1 : upd H p (.lst (((["BadBook", "Unnamed", "Upward"] : List Str).map fun d => c == d).map V.bl)) p = some (.lst (((["BadBook", "Unnamed", "Upward"] : List Str).map fun d => c == d).map V.bl)) := upd_same
  refine marks_step T hc ["NoDeed", "BadDeeds", "BadStore"] (by decide +kernel) (S1 _ _ ha) (S1 _ _ hdd) U1 (by simp) fun G2 l2 t2 m2 U2 => ?_
  have S2 := Same.tr S1 t2
  refine marks_step T hc ["BadRow", "NoKey", "Gone"] (by decide +kernel) (S2 _ _ ha) (S2 _ _ hdd) U2 (by simp) fun G3 l3 t3 m3 U3 => ?_
  have S3 := Same.tr S2 t3
  refine marks_step T hc ["BadWorth", "Lasting", "OtherStore"] (by decide +kernel) (S3 _ _ ha) (S3 _ _ hdd) U3 (by simp) fun G4 l4 t4 m4 U4 => ?_
  have S4 := Same.tr S3 t4
  refine marks_step T hc ["BadInput", "BadMemory", "BadMachine"] (by decide +kernel) (S4 _ _ ha) (S4 _ _ hdd) U4 (by simp) fun G5 l5 t5 m5 U5 => ?_
  have S5 := Same.tr S4 t5
  refine marks_step T hc ["BadState", "BadLetter", "Unlike"] (by decide +kernel) (S5 _ _ ha) (S5 _ _ hdd) U5 (by simp) fun G6 l6 t6 m6 U6 => ?_
  have S6 := Same.tr S5 t6
  refine marks_step T hc ["TooMany", "BadOffers", "BadWish"] (by decide +kernel) (S6 _ _ ha) (S6 _ _ hdd) U6 (by simp) fun G7 l7 t7 m7 U7 => ?_
  have S7 := Same.tr S6 t7
  refine marks_step T hc ["BadPrices", "BadLetters", "BadRows"] (by decide +kernel) (S7 _ _ ha) (S7 _ _ hdd) U7 (by simp) fun G8 l8 t8 m8 U8 => ?_
  have S8 := Same.tr S7 t8
  refine marks_step T hc ["BadWishes", "BadKeys", "BadHands"] (by decide +kernel) (S8 _ _ ha) (S8 _ _ hdd) U8 (by simp) fun G9 l9 t9 m9 U9 => ?_
  have S9 := Same.tr S8 t9
  refine marks_step T hc ["BadSteps", "BadTelling", "NoEffect"] (by decide +kernel) (S9 _ _ ha) (S9 _ _ hdd) U9 (by simp) fun G10 l10 t10 m10 U10 => ?_
  have S10 := Same.tr S9 t10
  refine marks_step T hc ["OtherBook", "Stuck", "BadSwitch"] (by decide +kernel) (S10 _ _ ha) (S10 _ _ hdd) U10 (by simp) fun G11 l11 t11 m11 U11 => ?_
  have S11 := Same.tr S10 t11
  refine marks_step T hc ["OtherPreview", "Showing", "Spoilt"] (by decide +kernel) (S11 _ _ ha) (S11 _ _ hdd) U11 (by simp) fun G12 l12 t12 m12 U12 => ?_
  have S12 := Same.tr S11 t12
  refine marks_step T hc ["BadLine"] (by decide +kernel) (S12 _ _ ha) (S12 _ _ hdd) U12 (by simp) fun G13 l13 t13 m13 U13 => ?_
  have S13 := Same.tr S12 t13
  have N : H l13 = none := by
    cases z : H l13 with
    | none => rfl
    | some o => rw [S12 _ _ z] at m13; cases m13
  exact ⟨_, rfl, hQ G13 l13 S13 N U13⟩
end
end K00
namespace K00
open PySem PySem.Spec PyProof.Rows L2 G137
def spCaught : Sp := fun vs H Q _ => ∃ v, vs = [v] ∧ ∀ H' l, Same H H' → H l = none → H' l = some (.lst [v, v]) → Q (.ref l) H'
theorem scCaught : FnScope ["_law_value_here", "_law_first", "_law_second", "_law_error"] ["_law_value_here"] (defScope sCaught) := ⟨rfl, rfl, rfl, by decide +kernel, rfl, by decide +kernel, by decide +kernel⟩
section
variable {P : Program} {w : World} {K : Frag} {mg : Str → Option Value} {base : Heap} {f : Addr} {fd : FuncData}
theorem ok_caught (T : Cls P w K mg base) (F : FnP K "_law_caught" sCaught f fd) : FnOk P w K mg base CX0 3 f fd ["_law_value_here"] spCaught := by
  refine F.ok scCaught (fun vs H Q E h => ?_) (fun cdv A outer s H vs Q E hr h => ?_)
  · obtain ⟨v, rfl, _⟩ := h
    rfl
  refine ⟨_, pss_cons (ps_asg (pe_tup (pa_cons pe_non (pa_cons pe_non pa_nil))) (pg_tup rfl (pgs_cons (pg_name (i := 1) scCaught.nd rfl (Or.inl rfl)) (pgs_cons (pg_name (i := 2) scCaught.nd rfl (Or.inl rfl)) pgs_nil))))
    (pss_cons (ps_try_keep rfl rfl scCaught.nd takes0 (fun W pn xe tk _ => pss_one (ps_raise rfl tk (pmk_err (T.m "TooMany" (by decide +kernel)) hr rfl (T.g "TooMany" (by decide +kernel)) (pv 0))))
        (HdsK.cons (i := 3) rfl rfl ⟨rfl, by decide, .inl (T.g "OnlyError" (by decide +kernel))⟩ (fun a oe cls d pn _ _ => pss_one (ps_set (i := 1) scCaught.nd rfl (Or.inl rfl) (pv 3))) .nil))
    (pss_cons (ps_try_keep rfl rfl scCaught.nd takes0 (fun W pn xe tk _ => pss_one (ps_raise rfl tk (pmk_err (T.m "Stuck" (by decide +kernel)) hr rfl (T.g "Stuck" (by decide +kernel)) (pv 0))))
        (HdsK.cons (i := 3) rfl rfl ⟨rfl, by decide, .inl (T.g "BadLine" (by decide +kernel))⟩ (fun a oe cls d pn _ _ => pss_one (ps_set (i := 2) scCaught.nd rfl (Or.inl rfl) pe_non))
        (HdsK.cons (i := 3) rfl rfl ⟨rfl, by decide, .inl (T.g "Stuck" (by decide +kernel))⟩ (fun a oe cls d pn _ _ => pss_one (ps_set (i := 2) scCaught.nd rfl (Or.inl rfl) (pv 3))) .nil)))
    (pss_one (ps_ret (pe_ifExp (PW.pt (pw_or (pt_cmpR op_isN (pv 1) pe_non (nomark _)) (pw_or1 (pt_cmpR op_isN (pv 2) pe_non (nomark _))))) pe_non (pe_lst (pa_cons (pe_exv (pv 1)) (pa_cons (pe_exv (pv 2)) pa_nil)))))))), ?_⟩
  obtain ⟨v, rfl, hQ⟩ := h
  refine ⟨by decide, fun t nt => ⟨t, _, rfl, SqT.of upd_same, rfl, _, _, rfl, _, _, rfl, rfl, ?_⟩⟩
  refine ⟨v, rfl, fun d nd => ⟨true, T.x1, fun _ a na => ⟨_, rfl, fun na' => ?_⟩, fun z => nomatch z⟩⟩
  refine ⟨v, rfl, fun d2 nd2 => ⟨false, T.x2, fun z => (nomatch z), fun _ => ⟨true, T.x3, fun _ a2 na2 => ⟨_, rfl, fun na2' => ?_⟩, fun z => nomatch z⟩⟩⟩
  refine ⟨_, rfl, rfl, _, rfl, iN rfl ?_⟩
  refine ⟨_, rfl, rfl, _, rfl, iN rfl ?_⟩
  have hm1 : ("TooMany" : Str) ∈ alls := by decide +kernel
  have hm2 : ("Stuck" : Str) ∈ alls := by decide +kernel
  -- the places differ
  generalize hH1 : upd H t (.tup [V.non, V.non]) = H1 at *
  generalize hH2 : upd H1 d (.xd [("value", v)]) = H2 at *
  generalize hH3 : upd H2 a (ExK (.ref (cA K "TooMany")) (some d) a) = H3 at *
  generalize hH4 : upd H3 d2 (.xd [("value", v)]) = H4 at *
  have s1 : Same H H1 := by rw [← hH1]; exact Same.nw nt
  have s2 : Same H1 H2 := by rw [← hH2]; exact Same.nw nd
  have s3 : Same H2 H3 := by rw [← hH3]; exact Same.nw na
  have s4 : Same H3 H4 := by rw [← hH4]; exact Same.nw nd2
  have s5 : Same H4 (upd H4 a2 (ExK (.ref (cA K "Stuck")) (some d2) a2)) := Same.nw na2
  have e1 : H2 d = some (.xd [("value", v)]) := by rw [← hH2]; exact upd_same
  have e2 : H3 a = some (ExK (.ref (cA K "TooMany")) (some d) a) := by rw [← hH3]; exact upd_same
  have e3 : H4 d2 = some (.xd [("value", v)]) := by rw [← hH4]; exact upd_same
  refine ⟨_, rfl, a, _, d, _, v, rfl, T.k _ hm1, (T.m _ hm1).c.vn, s5 _ _ (s4 _ _ e2), s5 _ _ (s4 _ _ (s3 _ _ e1)), rfl, ?_⟩
  refine ⟨_, rfl, a2, _, d2, _, v, rfl, T.k _ hm2, (T.m _ hm2).c.vn, upd_same, s5 _ _ e3, rfl, ?_⟩
  refine ⟨(by show 2 ≤ sizeLine; decide), fun l nl => ?_⟩
  have sA := Same.tr s1 (Same.tr s2 (Same.tr s3 (Same.tr s4 s5)))
  refine hQ _ l (Same.tr sA (Same.nw nl)) ?_ upd_same
  cases z : H l with
  | none => rfl
  | some o => rw [sA _ _ z] at nl; cases nl
end
end K00
namespace G137
open PySem PySem.Spec PyProof.Rows L2
def tMkT (K : Frag) (n : String) (i : Nat) : TE := fun σ H Q => ∃ (a C dd : Addr) (fs : List (Str × V)) (b : Bool), σ[i]? = some (some (.ref a)) ∧ ErrK K C ∧ H a = some (ExK (.ref C) (some dd) a) ∧ H dd = some (.xd fs) ∧ PySem.W.kitOne K (.ref C) (.type n) = some b ∧ Q (.bl b) H
theorem pe_mkT {X : Cx} {i : Nat} {n : String} {e1 e2 : Expr} {p pos : Pos} (gIs : X.mg "isinstance" = none) (hg : Gl X "isinstance") (hb : bootBuiltins "isinstance" = some (.builtin "isinstance")) (h1 : PE X e1 (tVar i)) (h2 : PE X e2 (tC (.ty n)))
    (q1 : starEach [e2] X.env = (false, eval e2 X.env) :: starEach [] X.env := by rfl) (q2 : starEach [e1, e2] X.env = (false, eval e1 X.env) :: starEach [e2] X.env := by rfl) (hpl : (backTo pos (starEach [e2] X.env)).any (·.1) = false := by rfl) :
    PE X (.Call (.Name "isinstance" p) [e1, e2] [] pos) (tMkT X.K n i) := by
  refine PE.imp (pe_callB call_isX hg gIs hb (pa_cons h1 (pa_cons h2 pa_nil q1) q2) (by decide) (by decide) q2 hpl) fun σ H Q ⟨a, C, dd, fs, b, h1, h2, h3, h4, h5, h6⟩ => ?_
  exact ⟨_, h1, a, C, dd, fs, .ty n, .type n, b, rfl, h2, h3, h4, fun u r => r, h5, h6⟩
theorem dpBools {K : Frag} {H : Hp} : ∀ bs : List Bool, DpAll K H (bs.map V.bl) (bs.map PyData.bool)
  | [] => .nil
  | b :: bs => .cons (.bl b) (dpBools bs)
end G137
namespace K00
open PySem PySem.Spec PyProof.Rows L2 G137
theorem paired_get {F : V → Addr → Prop} {g : Str → Addr} : ∀ {xs : List V} {cs : List Str} {i : Nat} {x : V}, Paired F xs (cs.map g) → xs[i]? = some x → ∃ c, cs[i]? = some c ∧ F x (g c)
  | _, [], _, _, h, e => by cases h; simp at e
  | _, c :: cs, 0, x, h, e => by
    cases h with
    | cons a r => simp at e; subst e; exact ⟨c, rfl, a⟩
  | _, c :: cs, i + 1, x, h, e => by
    cases h with
    | cons a r => obtain ⟨c', h1, h2⟩ := paired_get (i := i) r (by simpa using e); exact ⟨c', by simpa using h1, h2⟩
theorem errs_len : errs.length = 37 := by decide +kernel
theorem marks_at : ∀ i : Fin 37, (errs.map fun d => errs[i.val]?.getD "" == d) = (List.range 37).map fun (j : Nat) => decide ((j : Int) = ((i.val : Nat) : Int)) := by decide +kernel
theorem marks_shaped : ∀ i : Fin 37, SeqAt.shaped (.list (((List.range 37).map fun (j : Nat) => decide ((j : Int) = ((i.val : Nat) : Int))).map PyData.bool)) = true := by decide +kernel
theorem marks_none : (errs.map fun d => (("OnlyError" : Str) == d)).any id = false := by decide +kernel
theorem sm_repr {n : Nat} {d : PyData} (h : Sm n d) (hn : n ≤ 6) : d.depth ≤ 60 ∧ d.shown.length ≤ sizeLine := by
  refine ⟨Nat.le_trans h.dp (by omega), Nat.le_trans h.l ?_⟩
  have : n = 0 ∨ n = 1 ∨ n = 2 ∨ n = 3 ∨ n = 4 ∨ n = 5 ∨ n = 6 := by omega
  rcases this with rfl | rfl | rfl | rfl | rfl | rfl | rfl <;> decide +kernel
def spRight : Sp := fun vs H Q _ => ∃ (v : V) (d : PyData), vs = [v] ∧ DR H v d ∧ Sm 4 d ∧ ∀ H', Same H H' → Q (.bl true) H'
theorem scRight : FnScope ["_law_value_here", "_law_made_here", "_law_at", "_law_error", "_law_plain", "_law_place"] ["_law_value_here"] (defScope sRight) := ⟨rfl, rfl, rfl, by decide +kernel, rfl, by decide +kernel, by decide +kernel⟩
section
variable {P : Program} {w : World} {K : Frag} {mg : Str → Option Value} {base : Heap} {f fM fK fC : Addr} {fd fdM fdK fdC : FuncData}
theorem ok_right (T : Cls P w K mg base) (F : FnP K "_law_right" sRight f fd) (FM : FnP K "_law_made" sMade fM fdM) (FK : FnP K "_law_marks" sMarks fK fdK) (FC : FnP K "_law_caught" sCaught fC fdC)
    (gM : mg "_law_made" = some (.ref fM)) (gK : mg "_law_marks" = some (.ref fK)) (gC : mg "_law_caught" = some (.ref fC))
    (gIs : mg "isinstance" = none) (gL : mg "len" = none) (gR : mg "range" = none) (gE : mg "enumerate" = none) (gRe : mg "repr" = none) (gAny : mg "any" = none) (gVE : mg "ValueError" = none) {osys : Obj} (hsys : K.lookup sysModules = some osys) :
    FnG P w K mg base CX0 4 f fd ["_law_value_here"] spRight := by
  have GM : FnOk P w K mg base CX0 3 fM fdM ["_law_one"] (spMade K) := ok_made T FM
  have GK : FnOk P w K mg base CX0 1 fK fdK ["_law_error"] (spMarks K) := ok_marks T FK gIs
  have GC : FnOk P w K mg base CX0 3 fC fdC ["_law_value_here"] spCaught := ok_caught T FC
  have bM : Binds K fdM ["_law_one"] [] := FM.bindsN fun _ _ _ _ _ _ us hl => match us, hl with | [_], _ => rfl
  have bK : Binds K fdK ["_law_error"] [] := FK.bindsN fun _ _ _ _ _ _ us hl => match us, hl with | [_], _ => rfl
  have bC : Binds K fdC ["_law_value_here"] [] := FC.bindsN fun _ _ _ _ _ _ us hl => match us, hl with | [_], _ => rfl
  refine fnG_of F scRight (fun vs H Q E h => ?_) (fun cdv A outer s H vs Q E hgd hr h => ?_)
  · obtain ⟨v, d, rfl, _⟩ := h
    rfl
  have hgX : (A.deeper (envOfC "_law_right" (defScope sRight) s.heap.objs.size f cdv)).guards = some [] := deeper_guards hgd
  have hr1 := hr.mono (show 1 ≤ 3 by decide)
  have hr2 := hr.mono (show 2 ≤ 3 by decide)
  refine ⟨_, PSs.nox (pss_cons (ps_set (i := 1) scRight.nd rfl (Or.inl rfl) (pe_call GM hr rfl gM FM.kp bM .nil pass0 (pa_cons (pv 0) pa_nil)))
    (pss_cons (ps_for PassesOwn.never rfl (pi_enum (by rfl) gE (pa_cons (pv 1) pa_nil)) (pg_tup rfl (pgs_cons (pg_name (i := 2) scRight.nd rfl (Or.inr rfl)) (pgs_cons (pg_name (i := 3) scRight.nd rfl (Or.inl rfl)) pgs_nil)))
        (pss_cons (ps_if (PW.pt (pw_or (pt_not (pt_val (pe_mk gIs rfl boot_isinstance (pv 3) (pe_glob rfl (T.g "OnlyError" (by decide +kernel)) rfl)))) (pw_or1 (pt_not (pt_val (pe_mkT (n := "ValueError") gIs rfl boot_isinstance (pv 3) (pe_bltn (u := .type "ValueError") rfl gVE (by decide +kernel) rfl))))))) (pss_one (ps_ret pe_bl)) pss_nil)
        (pss_cons (ps_if (pt_cmpR op_ne (pe_callB (call_reprD hgX hr.units hsys) (by rfl) gRe boot_repr (pa_cons (pe_exv (pv 3)) pa_nil)) (pe_callB (call_reprD hgX hr.units hsys) (by rfl) gRe boot_repr (pa_cons (pv 0) pa_nil)) (nomark _)) (pss_one (ps_ret pe_bl)) pss_nil)
        (pss_one (ps_if (pt_cmpR (op_neD hr.units) (pe_call GK hr1 rfl gK FK.kp bK .nil pass0 (pa_cons (pv 3) pa_nil))
            (pe_lc (own := [("_law_place", 5)]) (g := gName 5) (by rfl) scRight.nd (pi_range1 (by rfl) gR (pa_cons (pe_callB call_len_seq (by rfl) gL PySem.boot_len (pa_cons (pv 1) pa_nil)) pa_nil))
              (blkOk_by (own := [("_law_place", 5)]) (N := ["_law_value_here", "_law_made_here", "_law_at", "_law_error", "_law_plain", "_law_place"]) (sc := defScope sRight) (by decide +kernel))
              (fun _ _ _ _ _ => pg_name (i := 5) scRight.nd rfl (Or.inl rfl)) (fun _ _ _ _ _ => pts_nil) (fun _ _ _ _ _ => pe_cmpR op_eq (pv 5) (pv 2) (nomark _))) (nomark _)) (pss_one (ps_ret pe_bl)) pss_nil)))))
    (pss_cons (ps_set (i := 4) scRight.nd rfl (Or.inl rfl) (pe_errV (T.m "OnlyError" (by decide +kernel)) hr2 rfl (T.g "OnlyError" (by decide +kernel)) (pv 0)))
    (pss_cons (ps_if (PW.pt (pw_or (pt_val (pe_callB (cr_any rfl) (by rfl) gAny boot_any (pa_cons (pe_call GK hr1 rfl gK FK.kp bK .nil pass0 (pa_cons (pv 4) pa_nil)) pa_nil)))
        (pw_or (pt_cmpR op_ne (pe_callB (call_reprD hgX hr.units hsys) (by rfl) gRe boot_repr (pa_cons (pe_exv (pv 4)) pa_nil)) (pe_callB (call_reprD hgX hr.units hsys) (by rfl) gRe boot_repr (pa_cons (pv 0) pa_nil)) (nomark _))
        (pw_or1 (pt_not (pt_val (pe_mkT (n := "ValueError") gIs rfl boot_isinstance (pv 4) (pe_bltn (u := .type "ValueError") rfl gVE (by decide +kernel) rfl)))))))) (pss_one (ps_ret pe_bl)) pss_nil)
    (pss_one (ps_ret (pe_cmpR op_eq (pe_callB (call_reprD hgX hr.units hsys) (by rfl) gRe boot_repr (pa_cons (pe_call GC hr rfl gC FC.kp bC .nil pass0 (pa_cons (pv 0) pa_nil)) pa_nil))
        (pe_callB (call_reprD hgX hr.units hsys) (by rfl) gRe boot_repr (pa_cons (pe_lst (pa_cons (pv 0) (pa_cons (pv 0) pa_nil))) pa_nil)) (nomark _)))))))), ?_⟩
  obtain ⟨v, d, rfl, hd, hsm, hQ⟩ := h
  obtain ⟨q1, q2⟩ := sm_repr hsm (by decide)
  have hOn : ("OnlyError" : Str) ∈ alls := by decide +kernel
  refine ⟨_, rfl, v, rfl, fun H1 l xs s1 n1 hl hE => ?_⟩
  have hxs : xs.length = 37 := (paired_len hE).trans (by rw [List.length_map]; exact errs_len)
  have hdG : ∀ {G : Hp}, Same H1 G → DR G v d := fun {G} s => hd.mono (fun b o e => s b o (s1 b o e))
  refine ⟨_, rfl, l, _, rfl, SqL.of hl, for_it (walk_enum (xs := xs)) (fun i σ G => (∃ a b, σ = [some v, some (.ref l), a, b, none, none]) ∧ Same H1 G) ⟨⟨none, none, rfl⟩, Same.rf⟩ (fun i σ G _ ⟨_, s⟩ => SqL.of (s _ _ hl)) ?_ ?_⟩
  · rintro i x σ G G' hi ⟨⟨a, b, rfl⟩, sG⟩ ⟨t, x1, x2, rfl, nt, rfl, e1, e2⟩
    cases e1
    obtain ⟨c, hc, hx⟩ := paired_get hE e2
    have hca : c ∈ alls := List.mem_cons_of_mem _ (List.mem_of_getElem? hc)
    have sT : Same H1 (upd G t (.tup [.int (i : Nat), x2])) := Same.tr sG (Same.nw nt)
    obtain ⟨ea, ed, rfl, hea, hed⟩ := hx
    refine ⟨t, _, rfl, SqT.of upd_same, rfl, _, _, rfl, _, _, rfl, rfl, ?_⟩
    refine ⟨ea, _, ed, _, true, rfl, T.k c hca, sT _ _ hea, sT _ _ hed, T.kO c hca, _, rfl, ?_⟩
    refine iN rfl ?_
    refine ⟨ea, _, ed, _, true, rfl, T.k c hca, sT _ _ hea, sT _ _ hed, T.kV c hca, _, rfl, ?_⟩
    refine iN rfl ?_
    refine ⟨_, rfl, ea, _, ed, _, v, rfl, T.k c hca, (T.m c hca).c.vn, sT _ _ hea, sT _ _ hed, rfl, v, d, rfl, hdG sT, hsm.s, q1, q2, ?_⟩
    refine ⟨_, rfl, v, d, rfl, hdG sT, hsm.s, q1, q2, rfl, _, rfl, ?_⟩
    refine iN (by simp) ?_
    refine ⟨_, rfl, ea, ed, _, c, rfl, hca, sT _ _ hea, sT _ _ hed, fun G2 m sM nM hm => ?_⟩
    have s2 : Same H1 G2 := Same.tr sT sM
    refine ⟨_, rfl, l, _, rfl, .inl (SqL.of (s2 _ _ hl)), _, rfl, by omega, by omega, fun D nD => ?_⟩
    have hto : ((xs.length : Int)).toNat = 37 := by rw [hxs]; rfl
    rw [hto]
    refine lc_range (lo := 0) (n := 37) (fun k G3 => G3 D = some (.lst (((List.range k).map fun (j : Nat) => decide ((j : Int) = (i : Int))).map V.bl)) ∧ ∀ b o, b ≠ D → G2 b = some o → G3 b = some o) ⟨upd_same, fun b o hb e => by rw [upd_ne hb]; exact e⟩ ?_ ?_
    · rintro k G3 hk ⟨hD, kp⟩
      refine ⟨rfl, ?_⟩
      dsimp only [tYes]
      rw [if_pos rfl]
      refine ⟨_, rfl, _, rfl, rfl, _, hD, ?_, ?_, ?_⟩
      · rw [List.length_map, List.length_map, List.length_range, sizeLine_eq]; omega
      · rw [upd_same, List.range_succ, List.map_append, List.map_append]
        have e : decide (V.int (0 + (k : Int)) = V.int (i : Int)) = decide ((k : Int) = (i : Int)) := by simp
        rw [e]; rfl
      · intro b o hb e
        rw [upd_ne hb]; exact kp b o hb e
    · rintro G3 ⟨hD, kp⟩
      have hmD : m ≠ D := ne_of_none hm nD
      have hi37 : i < 37 := by omega
      have hb : (errs.map fun d => c == d) = (List.range 37).map fun (j : Nat) => decide ((j : Int) = (i : Int)) := by
        have := marks_at ⟨i, hi37⟩
        simp only [hc, Option.getD_some] at this
        exact this
      have sh := marks_shaped ⟨i, hi37⟩
      rw [hb] at hm
      refine ⟨_, _, .lst (SqL.of (kp m _ hmD hm)) (dpBools _), .lst (SqL.of hD) (dpBools _), sh, sh, _, rfl, ?_⟩
      refine iN ?_ ?_
      · rw [SeqAt.eqv_refl _ (SeqAt.canLay_of_shaped sh)]; rfl
      · exact ⟨⟨_, _, rfl⟩, Same.tr s2 fun b o e => kp b o (ne_of_none e nD) e⟩
  · rintro σ G ⟨⟨a, b, rfl⟩, sG⟩
    refine ⟨v, rfl, fun G1 x sP hx => ?_⟩
    obtain ⟨pa, pd, rfl, hpa, hpd⟩ := hx
    have s2 : Same H1 G1 := Same.tr sG sP
    refine ⟨_, rfl, pa, pd, _, "OnlyError", rfl, hOn, hpa, hpd, fun G2 m sM nM hm => ?_⟩
    have s3 : Same H1 G2 := Same.tr s2 sM
    refine ⟨m, _, rfl, SqL.of hm, _, rfl, ?_⟩
    refine iN marks_none ?_
    refine ⟨_, rfl, pa, _, pd, _, v, rfl, T.k _ hOn, (T.m _ hOn).c.vn, sM _ _ hpa, sM _ _ hpd, rfl, v, d, rfl, hdG s3, hsm.s, q1, q2, ?_⟩
    refine ⟨_, rfl, v, d, rfl, hdG s3, hsm.s, q1, q2, rfl, _, rfl, ?_⟩
    refine iN (by simp) ?_
    refine ⟨pa, _, pd, _, true, rfl, T.k _ hOn, sM _ _ hpa, sM _ _ hpd, T.kV _ hOn, _, rfl, ?_⟩
    refine iN rfl ?_
    have hsm5 : Sm 5 (.list [d, d]) := Sm.list (fun x hx => by
      simp only [List.mem_cons, List.not_mem_nil, or_false, or_self] at hx
      rw [hx]; exact hsm) (by show 2 ≤ 3; decide)
    obtain ⟨r1, r2⟩ := sm_repr hsm5 (by decide)
    refine ⟨_, rfl, v, rfl, fun G3 lc sC nC hlc => ?_⟩
    have s4 : Same H1 G3 := Same.tr s3 sC
    refine ⟨.ref lc, .list [d, d], rfl, .lst hlc (.cons (hdG s4) (.cons (hdG s4) .nil)), hsm5.s, r1, r2, ?_⟩
    refine ⟨_, rfl, _, rfl, (by show 2 ≤ sizeLine; decide), fun l2 nl2 => ?_⟩
    have s5 : Same H1 (upd G3 l2 (.lst [v, v])) := Same.tr s4 (Same.nw nl2)
    refine ⟨.ref l2, .list [d, d], rfl, .lst upd_same (.cons (hdG s5) (.cons (hdG s5) .nil)), hsm5.s, r1, r2, rfl, ?_⟩
    have e : decide (V.str (PyData.list [d, d]).shown = V.str (PyData.list [d, d]).shown) = true := decide_eq_true rfl
    rw [e]
    exact hQ _ (Same.tr s1 s5)
end
end K00
namespace K00
open PySem PySem.Spec PyProof.Rows L2 G137
def spLaw (K : Frag) : Sp := fun vs H Q _ => ∃ (a : Addr) (ns : List Int), vs = [.ref a] ∧ SqL K H a (ns.map V.int) ∧ ns.length ≤ 63 ∧ Only H ∧ ∀ H', Q (.bl true) H'
theorem scLaw : FnScope ["_law_script", "_law_k"] ["_law_script"] (defScope sLaw) := ⟨rfl, rfl, rfl, by decide +kernel, rfl, by decide +kernel, by decide +kernel⟩
section
variable {P : Program} {w : World} {K : Frag} {mg : Str → Option Value} {base : Heap} {f fR fV fP : Addr} {fd fdR fdV fdP : FuncData}
theorem ok_law (F : FnP K "law" sLaw f fd) (FR : FnP K "_law_right" sRight fR fdR) (FV : FnP K "_law_value" sValue fV fdV) (FP : FnP K "_law_pot" sPot fP fdP)
    (GR : FnG P w K mg base CX0 4 fR fdR ["_law_value_here"] spRight) (GV : FnOk P w K mg base CX0 7 fV fdV ["_law_pot_here", "_law_deep"] (spVal 4)) (GP : FnOk P w K mg base CX0 1 fP fdP ["_law_script", "_law_k"] (spPot K))
    (gR : mg "_law_right" = some (.ref fR)) (gV : mg "_law_value" = some (.ref fV)) (gP : mg "_law_pot" = some (.ref fP)) (gL : mg "len" = none) (gRa : mg "range" = none) (gMx : mg "max" = none) (gMn : mg "min" = none) :
    FnG P w K mg base CX0 8 f fd ["_law_script"] (spLaw K) := by
  have bR : Binds K fdR ["_law_value_here"] [] := FR.bindsN fun _ _ _ _ _ _ us hl => match us, hl with | [_], _ => rfl
  have bV : Binds K fdV ["_law_pot_here", "_law_deep"] [] := FV.bindsN fun _ _ _ _ _ _ us hl => match us, hl with | [_, _], _ => rfl
  have bP : Binds K fdP ["_law_script", "_law_k"] [] := FP.bindsN fun _ _ _ _ _ _ us hl => match us, hl with | [_, _], _ => rfl
  refine fnG_of F scLaw (fun vs H Q E h => ?_) (fun cdv A outer s H vs Q E hgd hr h => ?_)
  · obtain ⟨a, ns, rfl, _⟩ := h
    rfl
  have hgX : (A.deeper (envOfC "law" (defScope sLaw) s.heap.objs.size f cdv)).guards = some [] := deeper_guards hgd
  have hr1 := hr.mono (show 1 ≤ 7 by decide)
  have hr4 := hr.mono (show 4 ≤ 7 by decide)
  refine ⟨_, PSs.nox (pss_cons (ps_for PassesOwn.never rfl (pi_range1 (by rfl) gRa (pa_cons (pe_callB (call_max2 rfl) (by rfl) gMx (by decide +kernel) (pa_cons pe_int (pa_cons (pe_callB (call_min2 rfl) (by rfl) gMn (by decide +kernel) (pa_cons pe_int (pa_cons (pe_callB call_len_seq (by rfl) gL PySem.boot_len (pa_cons (pv 0) pa_nil)) pa_nil))) pa_nil))) pa_nil))
      (pg_name (i := 1) scLaw.nd rfl (Or.inl rfl))
      (pss_one (ps_if (pt_not (pt_val (pe_callG GR hgX hr4 rfl gR FR.kp bR .nil pass0 (pa_cons (pe_call GV hr rfl gV FV.kp bV .nil pass0 (pa_cons (pe_call GP hr1 rfl gP FP.kp bP .nil pass0 (pa_cons (pv 0) (pa_cons (pv 1) pa_nil))) (pa_cons pe_int pa_nil))) pa_nil)))) (pss_one (ps_ret pe_bl)) pss_nil)))
    (pss_one (ps_ret pe_bl))), ?_⟩
  obtain ⟨a, ns, rfl, hS, hn, hO, hQ⟩ := h
  refine ⟨_, rfl, a, _, rfl, .inl hS, _, _, rfl, _, _, rfl, _, rfl, ?_, ?_, ?_⟩
  · split <;> (try split) <;> omega
  · split <;> (try split) <;> omega
  generalize hm : (if (if ((ns.map V.int).length : Int) < 4 then ((ns.map V.int).length : Int) else 4) > 1 then (if ((ns.map V.int).length : Int) < 4 then ((ns.map V.int).length : Int) else 4) else 1) = m
  have hm4 : m ≤ 4 := by
    rw [← hm]
    split <;> (try split) <;> omega
  refine for_range (lo := 0) (n := m.toNat) (fun i σ G => (∃ b, σ = [some (.ref a), b]) ∧ Same H G) ⟨⟨none, rfl⟩, Same.rf⟩ ?_ ?_
  · rintro i σ G hi ⟨⟨b, rfl⟩, sG⟩
    refine ⟨_, rfl, _, rfl, a, ns, i, ?_, Same.seq sG hS, by omega, fun G1 p n0 n1 s1 np hP h1 h1' => ?_⟩
    · show [V.ref a, V.int (0 + (i : Int))] ++ [] = _
      rw [Int.zero_add]; rfl
    refine ⟨p, n0, n1, 0, rfl, hP, h1, h1', Int.le_refl _, by decide, fun v d n0' n2' G2 dv sv q1 q2 kp pt => ?_⟩
    refine ⟨v, d, rfl, dv.mono (fun b o e => (nw_some.mp e).2), sv, fun G3 s3 => ⟨true, rfl, ?_⟩⟩
    refine iN rfl ?_
    refine ⟨⟨_, rfl⟩, fun b o e => s3 b o (kp b o ?_ (s1 b o (sG b o e)))⟩
    intro z
    rw [z] at e
    rw [sG _ _ e] at np
    cases np
  · rintro σ G ⟨⟨b, rfl⟩, sG⟩
    exact hQ G
end
end K00
namespace K00
open PySem PySem.Spec PyProof.Rows L2 G137
theorem init_body : defBody sInit = initBody ⟨5, 8, 5, 13⟩ ⟨5, 8, 5, 15⟩ ⟨5, 8, 5, 24⟩ ⟨5, 25, 5, 30⟩ ⟨5, 8, 5, 31⟩ ⟨5, 8, 5, 31⟩ ⟨6, 8, 6, 12⟩ ⟨6, 8, 6, 18⟩ ⟨6, 21, 6, 26⟩ ⟨6, 8, 6, 26⟩ := by rfl
theorem init_scope : NdefX.NScope ["self", "value", "__class__"] ["self", "value"] ["__class__"] (defScope sInit) := NdefX.nscope_by (by decide +kernel)
theorem init_facts {w : World} {K : Frag} {mg : Str → Option Value} (c : SaysG fa fn ini vi ex K) (hs : mg "super" = none) (hb : initB "/claim/cut.py" "OnlyError.__init__" K (cA K "OnlyError") (ini K) = true) (hc : (PySem.W.clsIn K (cA K "OnlyError")).isSome = true)
    (tp : PySem.W.nsIn K cStatics "thirdparty.any" = some none) : ∃ fd, PySem.W.typeIn K (.ref (ini K)) = some (.type "function") ∧ (∀ base : Heap, FnOk PG w K mg base CX0 1 (ini K) fd ["self", "value"] (spInit K (cA K "OnlyError"))) ∧ Binds K fd ["self", "value"] [] := by
  have e := c.i
  obtain ⟨cc, cda, fd, T, hdf, od, osl, lk⟩ := initAt_of (P := PG) (mg := mg) (D := cA K "OnlyError") e hb hc hs (by decide +kernel) tp
  refine ⟨fd, ?_, fun base => ?_, ?_⟩
  · show (K.lookup (ini K)).map (fun o => o.cls) = _
    rw [lk]; rfl
  · rw [init_body] at T
    exact init_ok T init_scope (by decide +kernel) (by rfl) (fun env => ⟨_, rfl⟩) (fun env => rfl) (fun env => rfl)
  · obtain ⟨oc, od', dV, kV, doc, pm, an, ct, osl', rfl, _⟩ := T.fn
    have : dV = .none := hdf
    subst this
    exact Binds.all fun us hl => match us, hl with | [_, _], _ => rfl
theorem ex_ok {K : Frag} (h : ex K = true) : (∀ c ∈ alls, ErrF K (cA K "OnlyError") (cA K c)) ∧ initB "/claim/cut.py" "OnlyError.__init__" K (cA K "OnlyError") (ini K) = true ∧ PySem.W.nsIn K cStatics "thirdparty.any" = some none ∧ (K.lookup sysModules).isSome = true ∧
    (∀ c ∈ alls, (∀ d ∈ errs, PySem.W.kitOne K (.ref (cA K c)) (.ref (cA K d)) = some (c == d)) ∧ PySem.W.kitOne K (.ref (cA K c)) (.ref (cA K "OnlyError")) = some true ∧ PySem.W.kitOne K (.ref (cA K c)) (.type "ValueError") = some true) ∧
    PySem.W.exmOne K (.ref (cA K "TooMany")) (.ref (cA K "OnlyError")) = some true ∧ PySem.W.exmOne K (.ref (cA K "Stuck")) (.ref (cA K "BadLine")) = some false ∧ PySem.W.exmOne K (.ref (cA K "Stuck")) (.ref (cA K "Stuck")) = some true := by
  unfold ex at h
  simp only [Bool.and_eq_true, List.all_eq_true] at h
  obtain ⟨h1, h2, h3, h4, h5, h6, h7, h8⟩ := h
  exact ⟨fun c hc => errB_ok (h1 c hc), h2, of_decide_eq_true h3, h4, fun c hc => ⟨fun d hd => of_decide_eq_true ((h5 c hc).1 d hd), of_decide_eq_true (h5 c hc).2.1, of_decide_eq_true (h5 c hc).2.2⟩,
    of_decide_eq_true h6, of_decide_eq_true h7, of_decide_eq_true h8⟩
theorem fa_glo {x : Str} (h : x ∈ (["_law_pot", "_law_take", "_law_of", "_law_value", "_law_made", "_law_marks", "_law_caught", "_law_right", "law", "OnlyError"] : List Str)) : He.Fa.glo x ∈ fa :=
  List.mem_append_left _ (List.mem_append_left _ (List.mem_map_of_mem h))
theorem fa_err {x : Str} (h : x ∈ errs) : He.Fa.glo x ∈ fa := List.mem_append_left _ (List.mem_append_right _ (List.mem_map_of_mem h))
theorem fa_free {x : Str} (h : x ∈ frees) : He.Fa.free x ∈ fa := List.mem_append_right _ (List.mem_map_of_mem h)
theorem says_facts {K : Frag} (c : He.SaysD fa fn K) {f : He.Fa} (h : f ∈ fa) : f.ok K = true := by
  obtain ⟨i, hi, e⟩ := List.mem_iff_getElem.mp h
  exact c.fact i (f := f) (by rw [List.getElem?_eq_getElem hi, e])
theorem facts {w : World} {K : Frag} {h : Heap} {mg : Str → Option Value} {f : Addr} (X : K.In h) (G : h.Ns mainGlobals mg) (hfa : mg ("law" : Str) = some (.ref f)) (c : SaysG fa fn ini vi ex K) :
    ∃ fd : FuncData, (∀ (s : Shared) (v : Value), BindsTo s fd ⟨[v], []⟩ [("_law_script", v)]) ∧ ∀ base : Heap, K.In base → base.Ns mainGlobals mg → FnG PG w K mg base CX0 8 f fd ["_law_script"] (spLaw K) := by
  have glo : ∀ x : Str, x ∈ (["_law_pot", "_law_take", "_law_of", "_law_value", "_law_made", "_law_marks", "_law_caught", "_law_right", "law", "OnlyError"] : List Str) → mg x = some (.ref (He.ga K x)) := fun x hx => He.glo_ok X G (says_facts c.d (fa_glo hx))
  have gerr : ∀ x ∈ errs, mg x = some (.ref (He.ga K x)) := fun x hx => He.glo_ok X G (says_facts c.d (fa_err hx))
  have fre : ∀ x ∈ frees, mg x = none := fun x hx => He.free_ok X G (says_facts c.d (fa_free hx))
  obtain ⟨e1, e2, e3, e4, e5, e6, e7, e8⟩ := ex_ok c.x
  have hOn : ("OnlyError" : Str) ∈ alls := by decide +kernel
  obtain ⟨fdI, tI, GI, bI⟩ := init_facts (w := w) (mg := mg) c (fre "super" (by decide +kernel)) e2 (e1 _ hOn).k.c e3
  obtain ⟨fdP, FP⟩ := c.d.def_ 0 (d := mkD "_law_pot" sPot) rfl
  obtain ⟨fdT, FT⟩ := c.d.def_ 1 (d := mkD "_law_take" sTake) rfl
  obtain ⟨fdO, FO⟩ := c.d.def_ 2 (d := mkD "_law_of" sOf) rfl
  obtain ⟨fdV, FV⟩ := c.d.def_ 3 (d := mkD "_law_value" sValue) rfl
  obtain ⟨fdM, FM⟩ := c.d.def_ 4 (d := mkD "_law_made" sMade) rfl
  obtain ⟨fdK, FK⟩ := c.d.def_ 5 (d := mkD "_law_marks" sMarks) rfl
  obtain ⟨fdC, FC⟩ := c.d.def_ 6 (d := mkD "_law_caught" sCaught) rfl
  obtain ⟨fdR, FR⟩ := c.d.def_ 7 (d := mkD "_law_right" sRight) rfl
  obtain ⟨fd, F⟩ := c.d.def_ 8 (d := mkD "law" sLaw) rfl
  have e := hfa.symm.trans (glo "law" (by decide +kernel))
  cases e
  have b := FunD.bindsA (ps := ["_law_script"]) F fun _ _ _ _ _ _ us hl => match us, hl with | [_], _ => rfl
  refine ⟨fd, fun s v => b s [v] rfl, fun base _ _ => ?_⟩
  have T : Cls PG w K mg base := {
    m := fun x hx => ⟨(e1 x hx).c, ini K, fdI, (e1 x hx).i, tI, GI base, bI⟩
    g := fun x hx => by
      rcases List.mem_cons.mp hx with rfl | hx
      · exact glo _ (by decide +kernel)
      · exact gerr x hx
    k := fun x hx => (e1 x hx).k
    kit := fun x hx => (e5 x hx).1
    kO := fun x hx => (e5 x hx).2.1
    kV := fun x hx => (e5 x hx).2.2
    x1 := e6
    x2 := e7
    x3 := e8 }
  obtain ⟨osys, hsys⟩ := Option.isSome_iff_exists.mp e4
  have gI := fre "int" (by decide +kernel)
  have gL := fre "len" (by decide +kernel)
  have gRg := fre "range" (by decide +kernel)
  refine ok_law F FR FV FP (ok_right T FR FM FK FC (glo _ (by decide +kernel)) (glo _ (by decide +kernel)) (glo _ (by decide +kernel)) (fre _ (by decide +kernel)) gL gRg (fre _ (by decide +kernel)) (fre _ (by decide +kernel)) (fre _ (by decide +kernel)) (fre _ (by decide +kernel)) hsys)
    (ok_value FV FT FO (glo _ (by decide +kernel)) (glo _ (by decide +kernel)) (glo _ (by decide +kernel)) gI gL gRg (fre _ (by decide +kernel)) (fre _ (by decide +kernel)) (fre _ (by decide +kernel)) (fre _ (by decide +kernel)) 4)
    (ok_pot FP gI gL (fre _ (by decide +kernel))) (glo _ (by decide +kernel)) (glo _ (by decide +kernel)) (glo _ (by decide +kernel)) gL gRg (fre _ (by decide +kernel)) (fre _ (by decide +kernel))
end K00
open PySem PySem.W PySem.Calls PyProof.Rows
theorem PySem.Challenge.cw_onlytell_k00_errors_with_any_value_holds : PySem.Challenge.rw_onlytell_k00_errors_with_any_value.Holds := by
  w_on; o_law
  refine HandSHeadRun.head_any (r := OpenLaw.row PySem.Challenge.rw_onlytell_k00_errors_with_any_value) (q := view (OpenLaw.row PySem.Challenge.rw_onlytell_k00_errors_with_any_value).prog [48]) (H := K00.hk) (ob := K00.ob) (M := 12000) (loose := K00.loose) (d := HandSHeadRun.topDef (OpenLaw.row PySem.Challenge.rw_onlytell_k00_errors_with_any_value).prog 48) (kwd := []) K00.ob_eq
    (by kernel_rfl) (fun s => by kernel_rfl) K00.run (by kernel_rfl) (by kernel_rfl) (by kernel_rfl) (by rfl) (by first | assumption | decide +kernel) (by decide +kernel) ⟨rfl, rfl, rfl, rfl, rfl, by decide +kernel⟩ ?hw ?hc
  case hw => w_witness2
  case hc =>
    refine G137.walk_ofG (l := PySem.Challenge.rw_onlytell_k00_errors_with_any_value) (n := 63) (k := 8) (x := "_law_script") (CX := L2.CX0) rfl (by decide) (by kernel_rfl) ⟨rfl, by decide, by decide⟩ ?F (fun _ _ _ _ z => z)
    intro w mg fa h Y G hmg0
    obtain ⟨K, KX, c⟩ := Y
    have hmg : mg ("law" : PySem.Str) = some (.ref fa) := by
      have e : (HandSHeadRun.topDef (OpenLaw.row PySem.Challenge.rw_onlytell_k00_errors_with_any_value).prog 48).name = ("law" : PySem.Str) := by kernel_rfl
      rw [← e]
      exact hmg0
    obtain ⟨fd, hb, hF⟩ := K00.facts (w := w) KX G hmg c
    exact ⟨K, fd, K00.spLaw K, KX, hb, fun H a ns hl hO hS => ⟨a, ns, rfl, hS, hl, hO, fun _ => rfl⟩, hF⟩
