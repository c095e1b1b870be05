import PyProof.Rows.All
import Wide.All
import OpenK.AllK
import Wide.FinOn
import KE.KExcSuper
import HandS.ForMost
import HandS.ForExc
import HandS.ExcInit
import HandS.ExcValue
import HandS.Nested
import HandS.TryMany
import HandS.Codes
import HandS.ExcField
import HandS.ExcIs
import KE.KExcIs
import HandS.Defaults
import HandS.HeadEnd
import PyProof.ReprRoads
import PyProof.CallFns
import PyProof.FactsAll.NoneType_1
import HandS.Dict
import KE.KDictZip
import PyProof.ListNew
import KE.KStateDown
import Lean
import HandS.Ends
import HandS.More
import HandS.Words
import HandS.WordsExc
import HandS.Head0
import HandS.Head1
import HandS.Head2
import HandS.HeadHook1
import HandS.HeadHook2
import HandS.GenCall
import HandS.GenList
import HandS.Walk
import HandS.IsInst
import HandS.Flow
import HandS.DictComp
import HandS.SetKeys
import HandS.SlotsOwn
import HandS.Property
import OpenK.KMeth
import HandS.HeadHook4
import HandS.Slots
import HandS.Style
import HandS.Deep
import HandS.Zip
import PyProof.Draws
import PyProof.EnumMake
import HandS.OwnEq
import PyProof.CollectIter
import HandS.NoneIn
import HandS.Lambda
import HandS.StrMore
import HandS.Star
import HandS.RaiseOp
import PySem.Challenge.RW_onlytell_k05_stores_by_own_ledger
import HandS.EndTab
import HandS.HeadWalk
import HandS.Wide
import PyProof.StrBlock2
import PyProof.Rows.StrCut
import HandS.SetFor
import HandS.MakeKwOnly
set_option Elab.async false
set_option linter.all false
set_option maxRecDepth 100000
set_option maxHeartbeats 0
/-! An own error class over ValueError whose __init__ says super().__init__(value); self.value = value, and classes below it. -/
namespace G137
open PySem PySem.Spec PyProof.Rows L2

/-- what the written part says of a class C at or below D -/
structure ErrC (K : PySem.W.Frag) (D C : Addr) : Prop where
  o : OexC K C
  mr : PySem.W.mroIn K C (.ref D) = some true
  su : PySem.W.ks_superIn K C D "__init__" = some (some (.builtin "ValueError.__init__"))
  ve : PySem.W.subIn K (.ref C) (.type "ValueError") = some true
  vn : PySem.W.findIn K (.ref C) "value" = some none

/-- __init__(self, value) of the class D -/
def spInit (K : PySem.W.Frag) (D : Addr) : Sp := fun vs H Q _ => ∃ (a C : Addr) (v : V), vs = [.ref a, v] ∧ ErrC K D C ∧ H a = some (exo a C none) ∧
  ∀ dx, H dx = none → dx ≠ a → Q .non (upd (upd H dx (exd dx [("value", v)])) a (exo a C (some dx)))

def initBody (p0 p1 p2 p3 p4 p5 p6 p7 p8 p9 : Pos) : List Stmt :=
  [.Expr (.Call (.Attribute (.Call (.Name "super" p0) [] [] p1) "__init__" p2) [.Name "value" p3] [] p4) p5,
   .Assign [.Attribute (.Name "self" p6) "value" p7] (.Name "value" p8) p9]

structure InitAt (P : Program) (K : PySem.W.Frag) (mg : Str → Option Value) (D fI cc cda : Addr) (qual : Str) (params : Arguments) (body : List Stmt) (scope : Scope) (fd : FuncData) : Prop where
  fn : ∃ oc od dV kV doc pm an ct osl, fd = PySem.W.fnX "__init__" qual params body scope [("__class__", cc)] dV kV doc pm an (.ref cda) ct ∧ K.lookup fI = some ⟨oc, od, .func fd, osl⟩
  code : PySem.W.codeIn K (.ref cda) qual = true
  file : ∃ ccl cdd vs ccs tf, K.lookup cda = some ⟨ccl, cdd, .fields vs, ccs⟩ ∧ vs[2]? = some (.str (P.main.file : Str) tf)
  cell : ∃ cl cld csl, K.lookup cc = some ⟨cl, cld, .cell (some (.ref D)), csl⟩
  cls : ∃ cdD, PySem.W.clsIn K D = some cdD
  sup : mg "super" = none
  top : (P.main.scope.names.lookup ("super" : Str)).isSome = false
  tp : PySem.W.nsIn K cStatics "thirdparty.any" = some none

theorem clsIn_obj {K : PySem.W.Frag} {D : Addr} {cd : ClassData} (h : PySem.W.clsIn K D = some cd) : ∃ o, K.lookup D = some o ∧ o.data = .cls cd := by
  unfold PySem.W.clsIn at h
  split at h
  · rename_i c d cd' sl ho
    cases h
    exact ⟨_, ho, rfl⟩
  · cases h

theorem mw_call {prog : Program} {w : World} {A : Around} {E : Value → Shared → Prop} {h : Heap} {g : Array GenState} {d : Drawn} {t : Nat} {os : OsState} {nm q : Str} {C N : Addr} {bs bm : List Value} {hdct : Bool} {sn : List Str} {sub : List Value} {ab : Bool} {col : Option Bool} {dd : Option Addr} {k0 k1 k2 k3 k5 : Option Value}
    {u a t0 : Addr} {rest : List Value} {Q : Value → Shared → Prop}
    (hC : h.get? C = some (excClassObj nm q C N bs bm hdct sn sub ab col dd k0 k1 k2 k3 k5 "ValueError.__new__")) (he : h.get? a = some ({ cls := .ref C, data := .fields #[.ref t0, .none, .none, .none, .bool false, .none] } : Obj))
    (hu : h.get? u = some (PySem.W.kxs_mw "ValueError.__init__" a)) (hz : rest.length ≤ sizeLine)
    (hq : ∀ h' t1, (∀ b o, b ≠ a → h.get? b = some o → h'.get? b = some o) → h'.get? a = some ({ cls := .ref C, data := .fields #[.ref t1, .none, .none, .none, .bool false, .none] } : Obj) → Q .none ⟨h', g, d, t, os⟩) :
    wpAny (model prog w) A (call (.ref u) rest) Q E ⟨h, g, d, t, os⟩ := by
  refine wpAny_call (codeAny_of_tree ?_)
  show wpAny _ A.in1 (callAny (.ref u) ⟨rest, []⟩) _ _ _
  simp only [callAny]
  refine wpAny_bind (wpAny_load hu ?_)
  simp only [PySem.W.kxs_mw, show (Value.type "method-wrapper" == Value.type "method" || Value.type "method-wrapper" == Value.type "builtin_function_or_method" || Value.type "method-wrapper" == Value.type "method-wrapper") = true by decide, if_true]
  refine PySem.W.KFB.if_so (by decide) ?_
  refine wpAny_bind (PySem.W.check_bound_init PySem.F.excBase_ValueError.toExcCallFacts hC he rfl ?_)
  refine wpAny_bind (wpAny_pure (wpAny_pure ?_))
  refine ⟨plainId_quiet PySem.F.excBase_ValueError.init.plain _, codeAny_builtin PySem.F.excBase_ValueError.initEntry ?_⟩
  exact PySem.W.exc_init_tree (cls := .ref C) (t0 := t0) (dv := none) (c2 := .none) (c3 := .none) (b4 := .bool false) he hz fun h' k e' _ => hq h' _ k e'

theorem init_ok {P : Program} {w : World} {K : PySem.W.Frag} {mg : Str → Option Value} {base : Heap} {D fI cc cda : Addr} {qual : Str} {params : Arguments} {scope : Scope} {fd : FuncData} {p0 p1 p2 p3 p4 p5 p6 p7 p8 p9 : Pos}
    (T : InitAt P K mg D fI cc cda qual params (initBody p0 p1 p2 p3 p4 p5 p6 p7 p8 p9) scope fd)
    (S : NdefX.NScope ["self", "value", "__class__"] ["self", "value"] ["__class__"] scope) (hks : scope.names.lookup ("super" : Str) = some .globalImplicit)
    (hp : ((params.posonlyargs ++ params.args).head?.map (·.arg)) = some "self")
    (hev : ∀ env, ∃ pl : Sem Bool, eval (.Call (.Attribute (.Call (.Name "super" p0) [] [] p1) "__init__" p2) [.Name "value" p3] [] p4) env = (do
      let ov ← attributeBase (.Call (.Name "super" p0) [] [] p1) "__init__" env (eval (.Call (.Name "super" p0) [] [] p1) env)
      standAt p2.atName
      let (f, first) ← holding [ov] (getMethod ov "__init__" pl)
      callWith p4 f first (backTo p4 (starEach [.Name "value" p3] env)) [])) (hsw : ∀ env, swapsWith (.Call (.Attribute (.Call (.Name "super" p0) [] [] p1) "__init__" p2) [.Name "value" p3] [] p4) none p5.line env = pure false)
    (hsw2 : ∀ env, swapsWith (.Name "value" p8) (some (.Attribute (.Name "self" p6) "value" p7)) p9.line env = pure false) :
    FnOk P w K mg base CX0 1 fI fd ["self", "value"] (spInit K D) := by
  refine ⟨fun vs H Q E h => ?_, fun A outer s H args us vs Q E hr e0 hbd r hsp => ?_⟩
  · obtain ⟨a, C, v, rfl, _⟩ := h; rfl
  obtain ⟨a, C, v, rfl, EC, ea, hq⟩ := hsp
  obtain ⟨oc, od, dV, kV, doc, pm, an, ct, osl, rfl, lk⟩ := T.fn
  obtain ⟨ccl, cdd, vs, ccs, tf, lkc, hvs⟩ := T.file
  obtain ⟨cl, cld, csl, lkcell⟩ := T.cell
  obtain ⟨cdD, hcd⟩ := T.cls
  obtain ⟨oD, hoD, hoDd⟩ := clsIn_obj hcd
  have KX : K.In s.heap := e0.mod.kin.keeps fun b o e => (e0.bs b o e).1
  have lim : s.heap.NoLimit := e0.mod.nolimit.keeps fun b o e => (e0.bs b o e).1
  obtain ⟨u, rfl, rv⟩ : ∃ u, us = [.ref a, u] ∧ RelV v u := by
    cases r with
    | cons r1 r2 =>
      cases r2 with
      | cons r3 r4 =>
        cases r4
        cases r1
        exact ⟨_, rfl, r3⟩
  have hus : ([.ref a, v] : List V).length = ["self", "value"].length := rfl
  have cells : NdefX.CellsAt [("__class__", cc)] ["__class__"] [none] s.heap H := by
    refine ⟨rfl, fun y c e => ?_, fun x y c e1 e2 => ?_, fun i y e => ?_⟩
    · have e' : c = cc := by
        rw [List.lookup_cons] at e
        split at e
        · exact (Option.some.inj e).symm
        · cases e
      subst e'
      obtain ⟨q1, q2⟩ := e0.bs c _ (e0.mod.kin _ _ lkcell)
      exact ⟨q2, _, _, q1, rfl⟩
    · have one : ∀ z : Str, List.lookup z [("__class__", cc)] = some c → z = "__class__" := fun z e => by
        rw [List.lookup_cons] at e
        cases q : (z == ("__class__" : Str)) with
        | true => exact beq_iff_eq.mp q
        | false => rw [q] at e; cases e
      exact (one x e1).trans (one y e2).symm
    · cases i with
      | zero => simp at e; subst e; exact ⟨cc, by rw [List.lookup_cons]; simp, fun v h => by simp at h⟩
      | succ j => simp at e
  refine codeAny_call_function hr.depth (KX _ _ lk) rfl S.co S.gen rfl (PySem.W.codeRec_of KX T.code) (hbd _ _ _ _ ?_)
  refine wpAny_newFunctionEnv S.nocell (fun ⟨n, _⟩ hy => S.par n (List.of_mem_zip hy).1) (fun h₁ hns hsb => ⟨lim.fresh _ hsb, ?_⟩) S.kind
  have kp : ∀ b o, s.heap.get? b = some o → h₁.get? b = some o := fun b o e => hsb.extBut b o (Nat.ne_of_lt (Heap.lt_size e)) (Heap.get?_push_of_some _ e)
  let NFI : NdefX.NF := ⟨"__init__", qual, params, initBody p0 p1 p2 p3 p4 p5 p6 p7 p8 p9, scope, [("__class__", cc)], cda⟩
  show codeAny _ _ (.func (initBody p0 p1 p2 p3 p4 p5 p6 p7 p8 p9) (NdefX.envF NFI fI s.heap.objs.size)) _ _
  have I : Inv (NdefX.ncx CX0 P w K mg base ["self", "value", "__class__"] NFI fI A outer s H E) [] (NdefX.startF ["self", "value", "__class__"] [.ref a, v] [none]) H { s with heap := h₁, toks := s.toks + ([("self", Value.ref a), ("value", u)] : List (Str × Value)).length } :=
    NdefX.inv_startN (F := NFI) S hr.hd e0 hus (.cons rfl (.cons rv .nil)) cells hns kp
  refine PySem.ks_codeAny_funcAt ?_
  unfold initBody
  obtain ⟨pl, he⟩ := hev (NdefX.envF NFI fI s.heap.objs.size)
  refine PySem.ks_wpAt_execs_cons (PySem.ks_wpAt_Expr_any (PySem.ks_wpAt_MethodCall (pl := pl) ?_ he) ?_ (hsw _))
  · obtain ⟨ar, har, hself⟩ : ∃ ar, (params.posonlyargs ++ params.args).head? = some ar ∧ ar.arg = "self" := by
      cases q : (params.posonlyargs ++ params.args).head? with
      | none => rw [q] at hp; cases hp
      | some ar => rw [q] at hp; exact ⟨ar, rfl, Option.some.inj hp⟩
    have KX1 : K.In h₁ := KX.keeps kp
    refine PySem.ks_wpAt_super_base (env := NdefX.envF NFI fI s.heap.objs.size) (f := fI) (cc := cda) hks (S.frk "__class__" (by simp)) (by decide) rfl (KX1 _ _ lk) rfl har rfl (KX1 _ _ lkc) rfl hvs (by simp) T.top ?_
    have hk : (NdefX.envF NFI fI s.heap.objs.size).scope.kind = .function := S.kind
    obtain ⟨mb, hb1, hb2⟩ := I.mod.blt
    refine PySem.W.ks_loadName_global hk hks (Calls.loadGlobal_builtin (env := NdefX.envF NFI fI s.heap.objs.size) (I.mod.glob.keeps I.bk) T.sup (hb1.keeps I.bk) ((hb2 "super" (by decide)).trans (by decide +kernel)) ⟨rfl, ?_⟩)
    refine wpAny_loadName_free hk (S.frk "__class__" (by simp)) rfl ⟨_, KX1 _ _ lkcell, rfl⟩ ?_
    rw [hself]
    refine wpAny_loadName_local hk (S.par "self" (by simp)) hns rfl ?_
    refine PySem.ks_wpAny_isType_cls (KX1 _ _ hoD) hoDd ⟨rfl, ?_⟩
    obtain ⟨t1, hx⟩ := exo_at I.hok ea
    refine PySem.ks_wpAny_call_super (KX1 _ _ hoD) hoDd hx rfl (fun c e => by cases e) (PySem.W.looks_mroIn KX1 EC.mr) (fun h2 hso k2 => ?_)
    have I2 : Inv (NdefX.ncx CX0 P w K mg base ["self", "value", "__class__"] NFI fI A outer s H E) [] (NdefX.startF ["self", "value", "__class__"] [.ref a, v] [none]) H { s with heap := h2, toks := s.toks + ([("self", Value.ref a), ("value", u)] : List (Str × Value)).length } := I.kept k2
    have KX2 : K.In h2 := KX1.keeps k2
    obtain ⟨cd, hcdC⟩ : ∃ cd, PySem.W.clsIn K C = some cd := by
      have := EC.su
      unfold PySem.W.ks_superIn at this
      cases q : PySem.W.clsIn K C with
      | none => rw [q] at this; cases this
      | some cd => exact ⟨cd, rfl⟩
    have hal : PySem.W.alongIn K "__init__" ((cd.mro.dropWhile (· != .ref D)).drop 1) = some (some (.builtin "ValueError.__init__")) := by
      have := EC.su
      unfold PySem.W.ks_superIn at this
      rw [hcdC] at this
      exact this
    have hx2 : h2.get? a = some _ := k2 _ _ hx
    have LT : PySem.W.Looks (model P w) h2 (typeOf (.ref a)) (.ref C) := fun A Q E s k q => wpAny_typeOf_ref (k _ _ hx2) q
    have LI : PySem.W.Looks (model P w) h2 (isInstance (.ref a) (.type "ValueError")) true := PySem.W.Looks.andThen LT (PySem.W.looks_subIn KX2 EC.ve)
    have haC : a ≠ C := fun z => by
      obtain ⟨oC, hoC, _⟩ := clsIn_obj hcdC
      have := (e0.bs C _ (e0.mod.kin _ _ hoC)).2
      rw [← z, ea] at this; cases this
    refine PySem.W.kxs_getMethod PySem.W.kxs_ValueError hso (PySem.W.looks_opaque KX2 T.tp) (l₀ := cd.mro) (fun A Q E s k q => wpAny_bind ((PySem.W.looks_clsIn KX2 hcdC) A _ E s k (wpAny_pure q))) rfl KX2 hal LI haC (by decide) ?_
    show wpAny _ _ (callWith p4 (.ref h2.objs.size) [] (backTo p4 (starEach [.Name "value" p3] (NdefX.envF NFI fI s.heap.objs.size))) []) _ _ _
    refine PySem.W.kxs_callWith (i := "ValueError.__init__") (x := a) rfl (Calls.evalArgs_plain ?_)
    let X := NdefX.ncx CX0 P w K mg base ["self", "value", "__class__"] NFI fI A outer s H E
    have I3 : Inv X [] (NdefX.startF ["self", "value", "__class__"] [.ref a, v] [none]) H
        ⟨h2.push (PySem.W.kxs_mw "ValueError.__init__" a), s.gens, s.drawn, s.toks + ([("self", Value.ref a), ("value", u)] : List (Str × Value)).length + 1, s.os⟩ :=
      I2.kept (fun b o e => Heap.get?_push_of_some _ e)
    have hpa : PA X [.Name "value" p3] (tCons (tVar 1) tNil) := pa_cons (pe_var (i := 1) rfl (.inl (S.par "value" (by simp)))) pa_nil
    have I4 : Inv X [(h2.objs.size, PySem.W.kxs_mw "ValueError.__init__" a)] (NdefX.startF ["self", "value", "__class__"] [.ref a, v] [none]) H
        ⟨h2.push (PySem.W.kxs_mw "ValueError.__init__" a), s.gens, s.drawn, s.toks + ([("self", Value.ref a), ("value", u)] : List (Str × Value)).length + 1, s.os⟩ := by
      refine I3.pins_of fun p hp => ?_
      rw [List.mem_singleton] at hp
      subst hp
      refine ⟨Heap.get?_push_at rfl rfl, I2.hok.fresh (Nat.le_refl _), fun z => ?_, I2.nofs (Nat.le_refl _), fun v e => by cases e⟩
      have := I2.lt
      exact absurd (show h2.objs.size = X.env.locals from z) (Nat.ne_of_gt this)
    refine thn (hpa.run p4 _ _ _ _ (fun vs' H' => vs' = [v] ∧ H' = H) I4 ⟨v, rfl, rfl, rfl⟩) fun us' s5 ⟨vs', H', I5, r5, ev, eH⟩ => ?_
    subst ev eH
    have hmw := (I5.pin (h2.objs.size, PySem.W.kxs_mw "ValueError.__init__" a) (by simp)).1
    refine ⟨hmw, ?_⟩
    obtain ⟨t5, hx5⟩ := exo_at I5.hok ea
    obtain ⟨u', rfl, rv'⟩ : ∃ u', us' = [u'] ∧ RelV v u' := by
      cases r5 with
      | cons r1 r2 => cases r2; exact ⟨_, rfl, r1⟩
    obtain ⟨nm, q, Nn, bs, bm, sn, sub, ab, col, dd, k0, k1, k2', k3, k5, hC, hbm⟩ := EC.o.cls
    obtain ⟨h5, g5, d5, tk5, os5⟩ := s5
    have hC5 := (show K.In h5 from I5.kIn) _ _ hC
    show wpAny _ _ (call (.ref h2.objs.size) [u']) _ _ _
    refine mw_call hC5 hx5 hmw (by show 1 ≤ sizeLine; decide) fun h6 t6 k6 e6 => ?_
    have I6 := I5.write (t' := tk5) (x := a) (e := a) (o := exo a C none) (by rw [ea]; exact True.intro) (.inl rfl) k6 ⟨_, e6⟩ (exo_ok e6)
    have eu : upd H' a (exo a C none) = H' := by
      funext b
      by_cases hb : b = a
      · rw [hb, upd_same, ea]
      · rw [upd_ne hb]
    rw [eu] at I6
    have hps : PSs X [.Assign [.Attribute (.Name "self" p6) "value" p7] (.Name "value" p8) p9] (tOst X.K "value" (tVar 0) (tVar 1)) :=
      pss_one (ps_ost (pe_var (i := 0) rfl (.inl (S.par "self" (by simp)))) (pe_var (i := 1) rfl (.inl (S.par "value" (by simp)))) (hsw2 _))
    refine wpAt_of_wpAny ?_
    have hgoal : tOst X.K "value" (tVar 0) (tVar 1) { nx := fun _ H' => Q .non H', rt := Q } (NdefX.startF ["self", "value", "__class__"] [.ref a, v] [none]) H' :=
      ⟨v, rfl, .ref a, rfl, a, C, rfl, EC.o, EC.vn, .inl ⟨ea, fun dx n ne => hq dx n ne⟩⟩
    refine wpAny_mono (hps.run _ _ _ _ _ I6 hgoal) (fun fl s' hs => ?_) fun e s' hs => hs
    have fin : ∀ {σ' : L2.St} {H2 : Hp} {v : V} {u : Value}, Inv X [(h2.objs.size, PySem.W.kxs_mw "ValueError.__init__" a)] σ' H2 s' → RelV v u → Q v H2 → CE outer P w H' s Q u s' :=
      fun {σ' H2 v u} J rv q => ⟨v, H2, J.os, J.bare, J.base, J.hok, rv, q⟩
    cases fl with
    | ret u =>
      obtain ⟨v, σ', H', J, rv, q⟩ := hs
      exact fin J rv q
    | next =>
      obtain ⟨σ', H', J, q⟩ := hs
      exact fin (v := V.non) (u := Value.none) J rfl q
    | brk =>
      obtain ⟨_, _, _, q⟩ := hs
      exact False.elim q
    | cont =>
      obtain ⟨_, _, _, q⟩ := hs
      exact False.elim q
  · exact I.quiet
end G137
namespace G137
open PySem PySem.Spec PyProof.Rows L2

/-- C(e): an error of the class C, its dict d has value -/
def tErr (C : Addr) (te : TE) : L2.St → Hp → XK → Prop := fun σ H Q => te σ H fun v H1 => ∀ d, H1 d = none → Q (.ref C) (some d) (upd H1 d (.xd [("value", v)]))

/-- what a class of errors needs -/
structure ErrM (P : Program) (w : World) (K : PySem.W.Frag) (mg : Str → Option Value) (base : Heap) (D C : Addr) : Prop where
  c : ErrC K D C
  init : ∃ fI fd, PySem.W.findIn K (.ref C) "__init__" = some (some (.ref fI)) ∧ PySem.W.typeIn K (.ref fI) = some (.type "function") ∧
    FnOk P w K mg base CX0 1 fI fd ["self", "value"] (spInit K D) ∧ Binds K fd ["self", "value"] []

theorem PMk.imp {X : Cx} {e : Expr} {t t' : L2.St → Hp → XK → Prop} (h : PMk X e t) (hi : ∀ σ H Q, t' σ H Q → t σ H Q) : PMk X e t' := fun pins s σ H Q I q => h pins s σ H Q I (hi _ _ _ q)

def monoT (te : TE) : TE := fun σ H Q => ∃ R : VK, te σ H R ∧ ∀ v H', R v H' → Q v H'
theorem pe_mono {X : Cx} {e : Expr} {te : TE} (h : PE X e te) : PE X e (monoT te) :=
  ⟨fun pins s σ H Q I ⟨R, hR, hi⟩ => wpAny_mono (h.run pins s σ H R I hR) (fun u s' ⟨v, H', J, r, q⟩ => ⟨v, H', J, r, hi _ _ q⟩) fun _ _ x => x⟩

theorem upd_comm {H : Hp} {a b : Addr} {o u : HO} (h : a ≠ b) : upd (upd H a o) b u = upd (upd H b u) a o := by
  funext c
  unfold upd
  by_cases h1 : c = a
  · subst h1; simp [h]
  · by_cases h2 : c = b
    · subst h2; simp [h1]
    · simp [h1, h2]

section
variable {X : Cx} {x : Str} {p pos : Pos} {e : Expr} {te : TE} {D C : Addr}
theorem pmk_err (M : ErrM X.prog X.w X.K X.mg X.base D C) (hr : Room 2 X.A) (hg : Gl X x) (hm : X.mg x = some (.ref C)) (he : PE X e te) (hdb : (x == ("__debug__" : Str)) = false := by decide)
    (hs : starEach [e] X.env = (false, eval e X.env) :: starEach [] X.env := by rfl) :
    PMk X (.Call (.Name x p) [e] [] pos) (tErr C te) := by
  obtain ⟨fI, fd, h1, h2, h3, h4⟩ := M.init
  refine PMk.imp (pmk_oex M.c.o h1 h2 h3 hr h4 .nil pass0 hg hm (pa_cons (pe_mono he) pa_nil hs) hdb hs rfl) fun σ H Q h => ?_
  refine ⟨_, h, fun v H1 q => ⟨by show 1 ≤ 1000; decide, fun a na => ⟨a, C, v, rfl, M.c, upd_same, fun dx nd ne => ⟨rfl, dx, [("value", v)], upd_same, ?_, ?_, ?_⟩⟩⟩⟩
  · rw [upd_ne ne, upd_same]
  · rw [upd_ne ne] at nd; exact nd
  · have e1 : upd (L2.del (upd (upd (upd H1 a (exo a C none)) dx (exd dx [("value", v)])) a (exo a C (some dx))) a) dx (.xd [("value", v)]) = upd H1 dx (.xd [("value", v)]) := by
      funext b
      by_cases hb : b = dx
      · rw [hb, upd_same, upd_same]
      · rw [upd_ne hb, upd_ne hb]
        by_cases hba : b = a
        · rw [hba, L2.del_same, na]
        · rw [L2.del_ne hba, upd_ne hba, upd_ne hb, upd_ne hba]
    rw [e1]
    rw [upd_ne ne] at nd
    exact q dx nd
end

/-! ### an error as a value -/
/-- at a: an exception of class cls, its dict d -/
def ExK (cls : Value) (d : Option Addr) (a : Addr) : HO := .ext fun h => ∃ (oe : Obj) (vs : Array Value), h.get? a = some oe ∧ Zc cls d oe ∧ oe.data = .fields vs
theorem exK_ok {P : Program} {w : World} {H : Hp} {h : Heap} {a : Addr} {cls : Value} {d : Option Addr} {oe : Obj} {vs : Array Value} (e : h.get? a = some oe) (z : Zc cls d oe) (dt : oe.data = .fields vs) : ObjOk P w H h a (ExK cls d a) :=
  ⟨⟨oe, vs, e, z, dt⟩, ⟨oe, e⟩, fun h1 h2 ⟨oe, vs, e, z, dt⟩ k => ⟨oe, vs, k _ e, z, dt⟩⟩
theorem exK_at {P : Program} {w : World} {H : Hp} {h : Heap} {a : Addr} {cls : Value} {d : Option Addr} (hok : HOk P w H h) (e : H a = some (ExK cls d a)) : ∃ (oe : Obj) (vs : Array Value), h.get? a = some oe ∧ Zc cls d oe ∧ oe.data = .fields vs :=
  (hok a _ e).1
/-- an error made, as a value -/
theorem pe_of_pmk {X : Cx} {e : Expr} {t : L2.St → Hp → XK → Prop} (hm : PMk X e t) : PE X e (fun σ H Q => t σ H fun cls d H' => ∀ a, H' a = none → Q (.ref a) (upd H' a (ExK cls d a))) := by
  refine ⟨fun pins s σ H Q I h => wpAny_mono (hm pins s σ H _ I h) (fun u s' hu => ?_) fun _ _ x => x⟩
  obtain ⟨a, oe, vs, sI, H', cls, d, rfl, J, k, hne, ha, hz, hd, h1, na, os, ag, r, q⟩ := hu
  refine ⟨.ref a, _, J.call' (ch := []) os (Un.laidN k hne na) (J.hok.laidN k na (exK_ok ha hz hd)) ag (fun b hb => absurd hb (by simp)), rfl, q a na⟩

/-- what the written part says of an error's class for its field and its kind -/
structure ErrK (K : PySem.W.Frag) (C : Addr) : Prop where
  f : XfC K C
  e : ExcC K C
  c : (PySem.W.clsIn K C).isSome = true

def tExv (K : PySem.W.Frag) (n : Str) (te : TE) : TE := fun σ H Q => te σ H fun x H1 => ∃ (a C dd : Addr) (fs : List (Str × V)) (v : V), x = .ref a ∧ ErrK K C ∧ PySem.W.findIn K (.ref C) n = some none ∧ H1 a = some (ExK (.ref C) (some dd) a) ∧ H1 dd = some (.xd fs) ∧ fs.lookup n = some v ∧ Q v H1
/-- e.n of an error kept as a value -/
theorem pe_exv {X : Cx} {e : Expr} {te : TE} {pos : Pos} {n : Str} (he : PE X e te) (hb : attributeBase e n X.env (eval e X.env) = eval e X.env := by rfl) :
    PE X (.Attribute e n pos) (tExv X.K n te) := by
  refine ⟨fun pins s σ H Q I h => ?_⟩
  refine attr_of hb (thn (he.run pins s σ H _ I h) fun u s1 hh => ?_)
  obtain ⟨x, H1, I1, rx, a, C, dd, fs, v, ex, T, hno, ea, ed, l, q⟩ := hh
  subst ex
  obtain rfl : u = Value.ref a := rx
  obtain ⟨oe, vs, ha, hz, hd⟩ := exK_at I1.hok ea
  have hx : ObjOk X.prog X.w H1 s1.heap dd (.xd fs) := I1.hok dd _ ed
  obtain ⟨mA, hns, hr⟩ := hx
  obtain ⟨od, ho, hl⟩ := lookIn_ns hns
  obtain ⟨u, hu, ru⟩ := RelO.some_of (v := v) (o := mA n) (by rw [← l]; exact hr n)
  have J : PySem.W.InstAt s1.heap a oe C (some od) := ⟨ha, hz.1, by unfold PySem.W.notCls; rw [hd] <;> rfl, by rw [hz.2]; exact ho⟩
  exact HandSPX.exc_get I1.kIn J T.f.ga T.f.gg T.f.exC (PySem.W.findObj_own T.f.hdC hno rfl (by rw [hl, hu])) (handed_of ru) ⟨v, H1, I1.tok _, ru, q⟩

/-- isinstance(e, c), e an error kept as a value -/
def rIsX (K : PySem.W.Frag) : List V → Hp → VK → Prop := fun xs H Q => ∃ (a C dd : Addr) (fs : List (Str × V)) (c : V) (cv : Value) (b : Bool), xs = [.ref a, c] ∧ ErrK K C ∧ H a = some (ExK (.ref C) (some dd) a) ∧ H dd = some (.xd fs) ∧ (∀ u, RelV c u → u = cv) ∧ PySem.W.kitOne K (.ref C) cv = some b ∧ Q (.bl b) H
theorem call_isX {X : Cx} : CallR X (.builtin "isinstance") (rIsX X.K) := by
  intro pins s σ H xs us Q I r h
  obtain ⟨a, C, dd, fs, c, cv, b, rfl, T, ea, ed, hcv, e, q⟩ := h
  cases r with
  | cons rx rr =>
    cases rr with
    | cons rt rr =>
      cases rr
      cases rx
      have ec := hcv _ rt
      subst ec
      obtain ⟨oe, vs, ha, hz, hd⟩ := exK_at I.hok ea
      have hx : ObjOk X.prog X.w H s.heap dd (.xd fs) := I.hok dd _ ed
      obtain ⟨mA, hns, hr⟩ := hx
      obtain ⟨od, ho, hl⟩ := lookIn_ns hns
      have J : PySem.W.InstAt s.heap a oe C (some od) := ⟨ha, hz.1, by unfold PySem.W.notCls; rw [hd] <;> rfl, by rw [hz.2]; exact ho⟩
      exact PySem.W.kia_one (PySem.W.kitx_exc (od := some od) T.c T.e.hg T.e.hk T.e.hs T.e.ha T.e.hn T.e.ht T.e.hm) I.kIn J e (fun z => nomatch z) fun tk => ⟨.bl b, H, I.kept (t' := tk) fun _ _ z => z, rfl, q⟩
end G137
namespace G137
open PySem PySem.Spec PyProof.Rows L2

section
variable {X : Cx} {pins : List (Addr × Obj)} {σ : L2.St} {H : Hp} {s : Shared}
/-- an object of ours that was pinned is tracked from now on -/
theorem inv_track {a : Addr} {oe : Obj} {vs : Array Value} {cls : Value} {d : Option Addr} (I : Inv X ((a, oe) :: pins) σ H s) (hz : Zc cls d oe) (hd : oe.data = .fields vs)
    (new : ∀ o, X.s_0.heap.get? a = some o → a ∈ X.ex) (hp : ∀ p ∈ X.pn ++ pins, p.1 ≠ a) : Inv X pins σ (upd H a (ExK cls d a)) s := by
  obtain ⟨ha, na, nL, nF, nc⟩ := I.pin (a, oe) (List.mem_append_right _ List.mem_cons_self)
  refine ⟨I.ok, I.os, I.bare, ⟨I.base.keep, I.base.slot, fun b o q n hx => ?_, I.base.there, fun b xs q => ?_, fun b o u q => ?_, fun b ps q => ?_⟩, I.loc, I.cell, ?_, fun x c e => ?_, fun p q => ?_, I.hok.laidN (fun _ _ q => q) na (exK_ok ha hz hd), I.len⟩
  · by_cases hb : b = a
    · subst hb; exact absurd (new o q) hx
    · rw [upd_ne hb]; exact I.base.free b o q n hx
  · have := I.base.tups b xs q
    rw [upd_ne (ne_of_none this na)]; exact this
  · have := I.base.frzs b o u q
    rw [upd_ne (ne_of_none this na)]; exact this
  · obtain ⟨more, this⟩ := I.base.tbls b ps q
    exact ⟨more, by rw [upd_ne (ne_of_none this na)]; exact this⟩
  · rw [upd_ne (Ne.symm nL)]; exact I.free
  · have hca : c ≠ a := fun z => by
      obtain ⟨v, o, ho, hv⟩ := I.cell x c e
      rw [z, ha] at ho; cases ho
      exact nc _ hv
    rw [upd_ne hca]; exact I.freeC x c e
  · obtain ⟨h1, h2, h3⟩ := I.pin p (by
      rcases List.mem_append.mp q with q | q
      · exact List.mem_append_left _ q
      · exact List.mem_append_right _ (List.mem_cons_of_mem _ q))
    exact ⟨h1, by rw [upd_ne (hp p q)]; exact h2, h3⟩
theorem inv_unsuiteK {a : Addr} {q : Addr × Obj} {pn' : List (Addr × Obj)} (I : Inv (X.suite a (q :: (X.pn ++ pins))) pn' σ H s) (ok : X.Ok) : Inv X (q :: pins) σ H s :=
  ⟨ok, I.os, I.bare, I.base, I.loc, I.cell, I.free, I.freeC, fun p hp => I.pin p (by
    show p ∈ (q :: (X.pn ++ pins)) ++ pn'
    rcases List.mem_append.mp hp with z | z
    · exact List.mem_append_left _ (List.mem_cons_of_mem _ (List.mem_append_left _ z))
    · rcases List.mem_cons.mp z with z | z
      · rw [z]; exact List.mem_append_left _ List.mem_cons_self
      · exact List.mem_append_left _ (List.mem_cons_of_mem _ (List.mem_append_right _ z))), I.hok, I.len⟩
end

abbrev Cl := Value × Nat × (Addr → Value → Option Addr → TS)
def endK (D : Ends) (i : Nat) (cls : Value) (d : Option Addr) (a : Addr) : Ends :=
  { nx := fun σ' H' => H' a = none → D.nx (σ'.set i none) (upd H' a (ExK cls d a)), rt := fun v H' => H' a = none → D.rt v (upd H' a (ExK cls d a)),
    bk := fun σ' H' => H' a = none → D.bk (σ'.set i none) (upd H' a (ExK cls d a)), ct := fun σ' H' => H' a = none → D.ct (σ'.set i none) (upd H' a (ExK cls d a)) }
def wKeep (K : PySem.W.Frag) (Wout : WX) (D : Ends) : List Cl → WX
  | [] => Wout
  | (c, i, ts) :: r => fun cls d σ H => ∃ b, PySem.W.exmOne K cls c = some b ∧ (b = true → ∀ a, H a = none → ts a cls d (endK D i cls d a) (σ.set i (some (.ref a))) H) ∧ (b = false → wKeep K Wout D r cls d σ H)
inductive HdsK (X : Cx) : List ExceptHandler → List Cl → Prop
  | nil : HdsK X [] []
  | cons {x n : Str} {i : Nat} {c : Value} {ts : Addr → Value → Option Addr → TS} {b₀ : Stmt} {suite : List Stmt} {np pos' : Pos} {hds : List ExceptHandler} {l : List Cl} (hi : X.N[i]? = some n) (hln : X.env.kindOf n = some .local) (hc : Names X x c)
      (hsu : ∀ (a : Addr) (oe : Obj) (cls : Value) (d : Option Addr) (pn : List (Addr × Obj)), Zc cls d oe → (∃ vs, oe.data = .fields vs) → PSs (X.suite a ((a, oe) :: pn)) (b₀ :: suite) (ts a cls d)) (r : HdsK X hds l) :
      HdsK X (.ExceptHandler (some (.Name x np)) (some n) (b₀ :: suite) pos' :: hds) ((c, i, ts) :: l)
section
variable {X : Cx} {body : List Stmt} {h₀ : ExceptHandler} {hds : List ExceptHandler} {l : List Cl} {pos : Pos} {tb : WX → TS} {Wout : WX}
/-- try: body / except c as n: suite / ..: what was caught is tracked behind the suite -/
theorem ps_try_keep (hs : X.stack = X.env :: X.outer) (hf : X.env.frame = some X.env.locals) (hN : X.N.Nodup) (tk : Takes X Wout)
    (hb : ∀ (W : WX) (pn : List (Addr × Obj)) (xe : Value → Shared → Prop), Takes (X.tr pn xe) W → PassesOwn (model X.prog X.w) X.A X.env xe → PSs (X.tr pn xe) body (tb W))
    (hh : HdsK X (h₀ :: hds) l) : PS X (.Try body (h₀ :: hds) [] [] pos) (fun D σ H => tb (wKeep X.K Wout D l) D σ H) := by
  refine ⟨fun pins s σ H D I h => ?_⟩
  have ok := I.ok
  have hfr : X.A.frames = some (X.env :: X.outer) := by rw [ok.frames, hs]
  refine wpAny_Try_except ?_
  refine wpAny_mono ((hb (wKeep X.K Wout D l) (X.pn ++ pins) (fun e s₁ => wpAny (model X.prog X.w) X.A (noteFrame e X.env) (fun _ s₂ => wpAny (model X.prog X.w) X.A (setFlight e none) (fun _ s₃ =>
    wpAny (model X.prog X.w) X.A (handleBy e X.env (h₀ :: hds)) (SP X pins D) X.xe s₃) X.xe s₂) X.xe s₁) (fun u s' xx => ?_) PassesOwn.looking).run [] s σ H D (I.toTry _) h) (fun f s1 hsp => ?_) (fun e s1 he => he)
  · -- the catch
    obtain ⟨a, B, sI, pins', σ', H', cls, d, rfl, J', nb, up, sky, na, os, ag, w⟩ := xx
    have J : Inv X pins σ' H' sI := J'.ofTry ok
    have sky' : Sky B (X.env :: X.outer) a (Zc cls d) X.env.locals s'.heap := by rw [← hs]; exact sky
    show wpAny (model X.prog X.w) X.A (noteFrame (.ref a) X.env) _ _ _
    refine Sky.land Zc.steady hfr hf sky' fun h3 fl3 up3 => ?_
    have J3 : Inv X pins σ' H' { s' with heap := h3 } := J.landed nb fl3.1 (up.trans up3) os ag
    obtain ⟨oe3, vs3, he3, hz3, hd3⟩ := fl3.there
    have notFr : ∀ {h : Heap} {o : Obj} {vs : Array Value}, h.FunFrames B (X.env :: X.outer) → h.get? a = some o → o.data = .fields vs → a ∉ frs (X.env :: X.outer) := fun {h o vs} ff e dd hm => by
      obtain ⟨_, o', e', hnf⟩ := ff.mem hm
      rw [e] at e'; cases e'
      exact hnf _ dd
    have nfr := notFr fl3.2.2.1 he3 hd3
    have nL : a ≠ X.env.locals := fun z => nfr (List.mem_filterMap.mpr ⟨X.env, List.mem_cons_self, by rw [hf, z]⟩)
    have nF : a ∉ X.fs := fun hm => by
      obtain ⟨e, he, q⟩ := List.mem_filterMap.mp hm
      exact nfr (List.mem_filterMap.mpr ⟨e, List.mem_cons_of_mem _ he, q⟩)
    have hBa : B.get? a = none := fl3.2.1
    have hIa : sI.heap.get? a = none := by
      cases q : sI.heap.get? a with
      | none => rfl
      | some o =>
        have := nb a o q (by rw [hs]; exact nfr)
        rw [hBa] at this; cases this
    have new : ∀ o, X.s_0.heap.get? a = some o → a ∈ X.ex := fun o q => by
      by_cases hx : a ∈ X.ex
      · exact hx
      · obtain ⟨o', q'⟩ := J.base.there a o q hx
        rw [hIa] at q'; cases q'
    have pne : ∀ p ∈ X.pn ++ pins, p.1 ≠ a := fun p hp z => by
      have := (J.pin p hp).1
      rw [z, hIa] at this; cases this
    have S3 := J3.suite he3 hd3 na nL nF
    have go : ∀ {hds' : List ExceptHandler} {l' : List Cl}, HdsK X hds' l' → wKeep X.K Wout D l' cls d σ' H' →
        wpAny (model X.prog X.w) X.A (handleBy (.ref a) X.env hds') (SP X pins D) X.xe { s' with heap := h3 } := by
      intro hds' l' hk
      induction hk with
      | nil =>
        intro w
        refine wpAny_handleBy_nil ?_
        obtain ⟨k1, k2, k3, oe, vs, T, oT, ts', he, hz, hd, h1, hr⟩ := id fl3
        unfold PySem.passOn
        refine wpAny_bind (wpAny_field he hd h1 ?_)
        rw [if_neg (show ¬ ((Value.ref T == Value.none) = true) from by simp)]
        have fin : wpAny (model X.prog X.w) X.A (setFlight (.ref a) X.env.frame) (fun _ s4 => wpAny (model X.prog X.w) X.A (throw (.ref a) : Sem Flow) (SP X pins D) X.xe s4) X.xe { s' with heap := h3 } := by
          rw [hf]
          refine HandSPX.setFlight_upZ fl3 fun h4 hh4 up4 => wpAny_throw (tk _ _ ?_)
          exact ⟨a, B, sI, pins, σ', H', cls, d, rfl, J, nb, (up.trans up3).trans up4, .inr (.inr (by rw [hs]; exact hh4)), na, os, ag, w⟩
        first
          | exact wpAny_bind (wpAny_pure (wpAny_bind fin))
          | exact wpAny_bind fin
      | @cons x n i c ts b₀ suite np pos' hds2 l2 hi hln hc hsu r ih =>
        intro w
        obtain ⟨b, hb1, hyes, hno⟩ := w
        have hloc : Loc X.env.scope n := .inl hln
        refine wpAny_handleBy_cons (codeAny_handlers_test ?_) (by intro q; cases q)
        have LT : PySem.W.Looks (model X.prog X.w) h3 (typeOf (.ref a)) cls := fun A Q E s k q => wpAny_typeOf_ref (k _ _ he3) (by rw [hz3.1]; exact q)
        have LM := PySem.W.exm_one (M := model X.prog X.w) (J3.kIn) LT hb1
        have test : ∀ {Q : Value → Shared → Prop} {E : Value → Shared → Prop}, Q c { s' with heap := h3 } → wpAny (model X.prog X.w) (X.A.mark (some (.ref a))) (eval (.Name x np) X.env) Q E { s' with heap := h3 } := fun {Q E} q => by
          obtain ⟨hg, hdbg, hm | ⟨hm, hv, hnn⟩⟩ := hc
          · exact ld_glob (X := X.suite a ((a, oe3) :: (X.pn ++ pins))) S3 hg hm q hdbg
          · exact ld_blt (X := X.suite a ((a, oe3) :: (X.pn ++ pins))) S3 hg hm hv q hnn hdbg
        refine test (LM.here ?_)
        cases b with
        | true =>
          refine codeAny_handlers_suite_as ?_
          refine HandSPX.lands_againZ fl3 fun h4 fl4 up4 => ?_
          have J4 : Inv X pins σ' H' { s' with heap := h4 } := J.landed nb fl4.1 ((up.trans up3).trans up4) os ag
          obtain ⟨oe4, vs4, he4, hz4, hd4⟩ := fl4.there
          have S4 := J4.suite he4 hd4 na nL nF
          refine store_ok (X := X.suite a ((a, oe4) :: (X.pn ++ pins))) (v := .ref a) S4 hN hi hloc rfl (fun s5 S5 => ?_) (.inr hln)
          refine wpAny_mono ((hsu a oe4 cls d (X.pn ++ pins) hz4 ⟨_, hd4⟩).run [] s5 _ H' _ S5 (hyes rfl a na)) (fun f s6 hsp => ?_) (fun _ _ z => False.elim z)
          have end_ : ∀ {σ6 : L2.St} {H6 : Hp} {Q : Shared → Prop}, Inv (X.suite a ((a, oe4) :: (X.pn ++ pins))) [] σ6 H6 s6 → (∀ s7, H6 a = none → Inv X pins (σ6.set i none) (upd H6 a (ExK cls d a)) s7 → Q s7) →
              wpAny (model X.prog X.w) X.A (do bindName X.env n .none; unbindBehindTheSuite X.env n pos') (fun _ s7 => Q s7) X.xe s6 := fun {σ6 H6 Q} S6 hq =>
            gone_ok (inv_unsuiteK S6 ok) hN hi hln fun s7 J7 => hq s7 ((J7.pin (a, oe4) (List.mem_append_right _ List.mem_cons_self)).2.1) (inv_track J7 hz4 hd4 new pne)
          cases f with
          | next =>
            obtain ⟨σ6, H6, S6, q6⟩ := hsp
            exact end_ S6 fun s7 n7 J7 => ⟨_, _, J7, q6 n7⟩
          | brk =>
            obtain ⟨σ6, H6, S6, q6⟩ := hsp
            exact end_ S6 fun s7 n7 J7 => ⟨_, _, J7, q6 n7⟩
          | cont =>
            obtain ⟨σ6, H6, S6, q6⟩ := hsp
            exact end_ S6 fun s7 n7 J7 => ⟨_, _, J7, q6 n7⟩
          | ret u =>
            obtain ⟨v6, σ6, H6, S6, r6, q6⟩ := hsp
            exact end_ S6 fun s7 n7 J7 => ⟨_, _, _, J7, r6, q6 n7⟩
        | false =>
          show wpAny _ X.A (handleBy (.ref a) X.env hds2) _ _ _
          exact ih (hno rfl)
    exact go hh w
  · cases f with
    | next =>
      obtain ⟨σ', H', J', q⟩ := hsp
      exact wpAny_execs_nil ⟨σ', H', J'.ofTry ok, q⟩
    | brk =>
      obtain ⟨σ', H', J', q⟩ := hsp
      exact ⟨σ', H', J'.ofTry ok, q⟩
    | cont =>
      obtain ⟨σ', H', J', q⟩ := hsp
      exact ⟨σ', H', J'.ofTry ok, q⟩
    | ret u =>
      obtain ⟨v, σ', H', J', r, q⟩ := hsp
      exact ⟨v, σ', H', J'.ofTry ok, r, q⟩
end
end G137
/-! Defs that are called where no repr is under way (repr of data within). -/
namespace G137
open PySem PySem.Spec PyProof.Rows L2

structure FnG (P : Program) (w : World) (K : PySem.W.Frag) (mg : Str → Option Value) (base : Heap) (CX : CXT) (k : Nat) (f : Addr) (fd : FuncData) (ps : List Str) (sp : Sp) : Prop where
  len : ∀ vs H Q E, sp vs H Q E → vs.length = ps.length
  run : ∀ (A : Around) (outer : List Env) (s : Shared) (H : Hp) (args : Args) (us : List Value) (vs : List V) (Q : VK) (E : XK), A.guards = some [] → Room k A → Env0 P w K mg base A outer s H → BindsTo s fd args (ps.zip us) → Vals vs us → sp vs H Q E →
    codeAny (model P w) A (.call (.ref f) args) (CR CX outer P w H s Q E) s
theorem FnG.ofOk {P : Program} {w : World} {K : PySem.W.Frag} {mg : Str → Option Value} {base : Heap} {CX : CXT} {k : Nat} {f : Addr} {fd : FuncData} {ps : List Str} {sp : Sp} (F : FnOk P w K mg base CX k f fd ps sp) : FnG P w K mg base CX k f fd ps sp :=
  ⟨F.len, fun A outer s H args us vs Q E _ => F.run A outer s H args us vs Q E⟩
theorem deeper_guards {A : Around} {env : Env} (h : A.guards = some []) : (A.deeper env).guards = some [] := by
  first | exact h | (simpa [Around.deeper] using h)

theorem fnG_of {CX : CXT} {P : Program} {w : World} {K : PySem.W.Frag} {mg : Str → Option Value} {base : Heap} {k : Nat} {f : Addr} {name qual : Str} {params : Arguments} {body : List Stmt} {scope : Scope} {dvs : List V} {kws : List (Str × V)} {fd : FuncData}
    {N ps : List Str} {sp : Sp} (F : FunD K name qual params body scope dvs kws f fd) (S : FnScope N ps scope)
    (len : ∀ vs H Q E, sp vs H Q E → vs.length = ps.length)
    (hbody : ∀ (cdv : Value) (A : Around) (outer : List Env) (s : Shared) (H : Hp) (vs : List V) (Q : VK) (E : XK), A.guards = some [] → Room k (A.deeper (envOfC qual scope s.heap.objs.size f cdv)) → sp vs H Q E →
      ∃ t, PSs (cxOf CX P w K mg base N qual scope f cdv A outer s H E) body t ∧ t { nx := fun _ H' => Q .non H', rt := Q } (start N vs) H) :
    FnG P w K mg base CX (k + 1) f fd ps sp := by
  obtain ⟨oc, od, dV, kV, doc, pm, an, cdv, ct, osl, rfl, lk, hcd, _, _⟩ := F.ex
  refine ⟨len, fun A outer s H args us vs Q E hgd hr e0 hb r hsp => ?_⟩
  have hl := len _ _ _ _ hsp
  have KX : K.In s.heap := e0.mod.kin.keeps fun b o e => (e0.bs b o e).1
  have lim : s.heap.NoLimit := e0.mod.nolimit.keeps fun b o e => (e0.bs b o e).1
  have hkind : ∀ y ∈ ps.zip us, scope.names.lookup y.1 = some .local ∨ (scope.names.lookup y.1 = some .cell ∧ ((cellsFrom (s.heap.objs.size + 1) scope.names []).lookup y.1).isSome = true) := fun ⟨n, v⟩ hy =>
    (S.par n (List.of_mem_zip hy).1).elim .inl fun q => .inr ⟨q, PySem.W.cellsFrom_some _ _ _ (.inl q)⟩
  refine codeAny_call_function hr.depth (KX _ _ lk) rfl S.co S.gen rfl (PySem.W.codeRec_of KX hcd) (hb _ _ _ _ ?_)
  refine wpAny_newFunctionEnv_cells S.kind hkind fun env he s1 x => ?_
  subst he
  obtain ⟨t, ht, hq⟩ := hbody cdv A outer s H vs Q E hgd (hr.deeper _) hsp
  have I : Inv (cxOf CX P w K mg base N qual scope f cdv A outer s H E) [] (start N vs) H s1 := inv_start S hr.hd e0 hl r x
  refine ⟨lim.keeps x.toInCall.keep, codeAny_func (wpAny_mono (ht.run [] s1 (start N vs) H _ I hq) (fun fl s' hs => ?_) fun e s' hs => hs)⟩
  match fl, hs with
  | .ret u, ⟨v, σ', H', J, rv, q⟩ => exact ⟨v, H', J.os, J.bare, J.base, J.hok, rv, q⟩
  | .next, ⟨σ', H', J, q⟩ => exact ⟨V.non, H', J.os, J.bare, J.base, J.hok, rfl, q⟩
  | .brk, ⟨_, _, _, q⟩ => exact False.elim q
  | .cont, ⟨_, _, _, q⟩ => exact False.elim q

section
variable {X : Cx} {CX : CXT} {k : Nat} {f : Addr} {fd : FuncData} {ps : List Str} {sp : Sp} {dvs : List V} {ds : List Value} {E : XK} {x : Str} {p pos : Pos} {e : Expr} {es : List Expr} {t : TA}
theorem pe_callG (F : FnG X.prog X.w X.K X.mg X.base CX k f fd ps sp) (hgd : X.A.guards = some []) (hr : Room k X.A) (hg : Gl X x) (hm : X.mg x = some (.ref f)) (hk : PySem.W.keepIn X.K (.ref f) = true) (hb : Binds X.K fd ps ds) (hd : Vals dvs ds) (hx : Passes CX X E)
    (ha : PA X (e :: es) t) (hdb : (x == ("__debug__" : Str)) = false := by decide) (he : starEach (e :: es) X.env = (false, eval e X.env) :: starEach es X.env := by rfl) (hpl : (backTo pos (starEach es X.env)).any (·.1) = false := by rfl) :
    PE X (.Call (.Name x p) (e :: es) [] pos) (tCall sp dvs E t) := by
  refine ⟨fun pins s σ H Q I h => wpAny_Call_Name_kw (ld_glob I hg hm ?_ hdb)⟩
  refine PySem.W.callWith_K (h₀ := X.base) I.ok.mod.kin hk (thn (ha.run pos pins s σ H _ I h) fun us s1 ⟨vs, H1, I1, r, q⟩ => ⟨I1.kIn, ?_⟩) he hpl
  have r2 : Vals (vs ++ dvs) (us ++ ds) := r.append hd
  have hl : (us ++ ds).length = ps.length := r2.length.symm.trans (F.len _ _ _ _ q)
  refine wpAny_call (codeAny_mono (F.run X.A X.stack s1 H1 ⟨us, []⟩ (us ++ ds) (vs ++ dvs) Q E hgd hr I1.env0 (hb s1 us I1.kIn hl) r2 q) fun r s' hq => ?_)
  match r, hq with
  | .error e, hq => exact hx pins σ H1 s1 e s' I1 hq
  | .ok (.ret u), hq => exact I1.after hq
  | .ok .next, hq => exact False.elim hq
  | .ok .brk, hq => exact False.elim hq
  | .ok .cont, hq => exact False.elim hq
end

/-- the law's own call -/
theorem law_callG {P : Program} {w : World} {K : PySem.W.Frag} {mg mb : Str → Option Value} {CX : CXT} {k : Nat} {fa a : Addr} {fd : FuncData} {x : Str} {sp : Sp} {s₁ : Shared} {vs : List Value} {ns : List Int}
    (KX : K.In s₁.heap) (hns : s₁.heap.Ns mainGlobals mg) (hb : s₁.heap.Ns builtinsNs mb) (hbb : ∀ x : Str, x ≠ "__name__" → mb x = bootBuiltins x) (hlim : s₁.heap.NoLimit) (hg : s₁.gens = #[])
    (ha : s₁.heap.get? a = some { cls := .type "list", data := .seq vs.toArray }) (hi : IntsAre vs ns) (hl : ns.length ≤ sizeLine) (hr : Room k callerA)
    (F : ∀ base : Heap, K.In base → base.Ns mainGlobals mg → FnG P w K mg base CX k fa fd [x] sp) (hbind : ∀ (s : Shared) (u : Value), BindsTo s fd ⟨[u], []⟩ [(x, u)])
    (hsp : ∀ H : Hp, Only H → SqL K H a (ns.map V.int) → sp [.ref a] H (fun v _ => v = .bl true) fun _ _ _ => False)
    (hCX : ∀ H e s', CX [] H s₁ (fun _ _ _ => False) e s' → False) :
    codeAny (model P w) callerA (.call (.ref fa) ⟨[.ref a], []⟩) (fun r s' => r = .ok (.ret (.bool true)) ∧ OldK s₁.heap s'.heap ∧ s'.os = s₁.os ∧ AllBare s'.gens) s₁ := by
  -- the same through a promise that is kept by callerA alone: F at its one place
  have rv := vals_ints hi
  have lenV := hi.length
  have core : ∀ H : Hp, Only H → SqL K H a (ns.map V.int) → HOk P w H s₁.heap → (∀ b, H b ≠ none → b = a) → (H a ≠ none → K.lookup a = none) →
      codeAny (model P w) callerA (.call (.ref fa) ⟨[.ref a], []⟩) (fun r s' => r = .ok (.ret (.bool true)) ∧ OldK s₁.heap s'.heap ∧ s'.os = s₁.os ∧ AllBare s'.gens) s₁ := by
    intro H hO hS hok hA hK
    have same : ∀ {b : Addr}, H b ≠ none → b = a := fun {b} z => hA b z
    have noA : ∀ {b : Addr} {o : Obj} {es : Array DictEntry} {ep : Nat}, s₁.heap.get? b = some o → o.data = .dict es ep → H b = none := fun {b o es ep} e d => by
      refine Classical.byContradiction fun z => ?_
      have e' := same z
      subst e'
      rw [ha] at e; cases e
      cases d
    have nsK : ∀ {b : Addr} {m : Str → Option Value}, s₁.heap.Ns b m → (hidT s₁.heap H).Ns b m := fun {b m} ⟨o, es, ep, e, d, r⟩ => ⟨o, es, ep, hidT_get e (noA e d), d, r⟩
    have hKb : K.In (hidT s₁.heap H) := fun b o e => hidT_get (KX b o e) (Classical.byContradiction fun z => by
      have e' := same z
      subst e'
      rw [hK z] at e; cases e)
    have hM : Mod K mg (hidT s₁.heap H) := ⟨hKb, nsK hns, ⟨mb, nsK hb, hbb⟩, let ⟨mc, h1, h2⟩ := hlim; ⟨mc, nsK h1, h2⟩⟩
    have e0 : Env0 P w K mg (hidT s₁.heap H) callerA [] s₁ H := ⟨rfl, hM, fun b o e => of_hidT e, Nat.le_of_eq (hidT_size _ _), trivial, fun b hb => absurd hb (by intro z; cases z), hok, .of_eq hg⟩
    refine codeAny_mono ((F _ hKb (nsK hns)).run callerA [] s₁ H ⟨[.ref a], []⟩ [.ref a] [.ref a] _ _ rfl hr e0 (hbind s₁ (.ref a)) (.cons rfl .nil) (hsp H hO hS)) fun r s' h => ?_
    match r, h with
    | .error e, h => exact (hCX H e s' h).elim
    | .ok .next, h => exact False.elim h
    | .ok .brk, h => exact False.elim h
    | .ok .cont, h => exact False.elim h
    | .ok (.ret u), ⟨v, H', os, bare, un, hok', r', q⟩ =>
      have q' : v = .bl true := q
      subst q'
      obtain rfl : u = Value.bool true := r'
      refine ⟨rfl, OldK.of_keep fun b o e => ?_, os, bare⟩
      cases q : H b with
      | none => exact un.keep b o e q (by intro z; cases z) (by intro z; cases z)
      | some u =>
        rcases hO b with z | ⟨ob, xs, z⟩
        · rw [q] at z; cases z
        · have z2 := un.frzs b ob _ z
          obtain ⟨e1, _⟩ := hok b _ z
          obtain ⟨e2, _⟩ := hok' b _ z2
          rw [e] at e1; cases e1
          exact e2
  cases hk : K.lookup a with
  | some o =>
    have e := KX a o hk
    rw [ha] at e
    cases e
    exact core (fun _ => none) (fun _ => .inl rfl) (.inr ⟨_, vs.toArray, _, hk, rfl, rfl, rfl, by rw [List.size_toArray, lenV]; exact hl, by simpa using rv⟩) (fun b u z => by cases z) (fun b z => absurd rfl z) (fun z => absurd rfl z)
  | none =>
    refine core (upd (fun _ => none) a (.frz { cls := .type "list", data := .seq vs.toArray } (.lst (ns.map V.int)))) (fun b => ?_) (.inl (.inr ⟨{ cls := .type "list", data := .seq vs.toArray }, upd_same⟩)) (fun b u z => ?_) (fun b z => ?_) fun _ => hk
    · by_cases hb : b = a
      · subst hb; exact .inr ⟨_, _, upd_same⟩
      · exact .inl (by rw [upd_ne hb])
    · by_cases hb : b = a
      · subst hb
        rw [upd_same] at z
        cases z
        exact ⟨ha, by rw [List.length_map]; exact hl, vs, _, rv, ha⟩
      · rw [upd_ne hb] at z; cases z
    · by_cases hb : b = a
      · exact hb
      · exact absurd (by rw [upd_ne hb]) z

theorem walk_ofG {l : PySem.W.OpenLaw} {n k : Nat} {q : Program} {loose : List Str} {XP : (Str → Option Value) → Heap → Prop} {YP : World → Heap → Prop} {d : DefRec} {CX : CXT} {x : Str}
    (hn : l.most = some n) (hn2 : n ≤ sizeLine) (hdf : d.params.defaults = []) (hr : Room k callerA)
    (F : ∀ (w : World) (mg : Str → Option Value) (fa : Addr) (h : Heap), YP w h → h.Ns mainGlobals mg → mg d.name = some (.ref fa) →
      ∃ (K : PySem.W.Frag) (fd : FuncData) (sp : Sp), K.In h ∧ (∀ (s : Shared) (u : Value), BindsTo s fd ⟨[u], []⟩ [(x, u)]) ∧
        (∀ (H : Hp) (a : Addr) (ns : List Int), ns.length ≤ n → Only H → SqL K H a (ns.map V.int) → sp [.ref a] H (fun v _ => v = .bl true) fun _ _ _ => False) ∧
        ∀ base : Heap, K.In base → base.Ns mainGlobals mg → FnG l.prog w K mg base CX k fa fd [x] sp)
    (hCX : ∀ (H : Hp) (s : Shared) (e : Value) (s' : Shared), CX [] H s (fun _ _ _ => False) e s' → False) :
    PySem.W.WalkO q loose XP YP l.row.toRowW d [] (fun f vs => PySem.call f vs) := by
  refine Att.attach_call hn hdf fun w s₀ s₁ mg mb fa o pm cd doc a vs ns G Y ho hd hcd hmg hobj hints hlen hg => ?_
  obtain ⟨K, fd, sp, KX, hb, hsp, hF⟩ := F w mg fa _ Y G.T.g hmg
  exact law_callG KX G.T.g G.T.b G.T.builtins G.T.nolimit hg hobj hints (Nat.le_trans hlen hn2) hr hF hb (fun H hO hS => hsp H a ns hlen hO hS) fun H e s' => hCX H s₁ e s'
end G137
/-! Data as a whole (lists, tuples, dicts with flat keys, nested), and its repr. -/
namespace G137
open PySem PySem.Spec PyProof.Rows L2

/-- a flat key of a dict -/
def FlatR : PyData → Value → Prop
  | .none, u => u = .none
  | .int i, u => ∃ t, u = .int i t
  | .str x, u => ∃ t, u = .str x t
  | _, _ => False
/-- a dict with flat keys of any kind, by its entries -/
def DicO (ks : List PyData) (xs : List V) (a : Addr) : HO := .ext fun h => ∃ o es n, h.get? a = some o ∧ o.cls = .type "dict" ∧ o.data = .dict es n ∧ Paired FlatR ks (es.toList.map (·.key)) ∧ Vals xs (es.toList.map (·.val))
theorem dicO_ok {P : Program} {w : World} {H : Hp} {h : Heap} {a : Addr} {ks : List PyData} {xs : List V} {o : Obj} {es : Array DictEntry} {n : Nat} (e : h.get? a = some o) (c : o.cls = .type "dict") (d : o.data = .dict es n)
    (hk : Paired FlatR ks (es.toList.map (·.key))) (hv : Vals xs (es.toList.map (·.val))) : ObjOk P w H h a (DicO ks xs a) :=
  ⟨⟨o, es, n, e, c, d, hk, hv⟩, ⟨o, e⟩, fun h1 h2 ⟨o, es, n, e, c, d, hk, hv⟩ k => ⟨o, es, n, k _ e, c, d, hk, hv⟩⟩
theorem dicO_at {P : Program} {w : World} {H : Hp} {h : Heap} {a : Addr} {ks : List PyData} {xs : List V} (hok : HOk P w H h) (e : H a = some (DicO ks xs a)) :
    ∃ o es n, h.get? a = some o ∧ o.cls = .type "dict" ∧ o.data = .dict es n ∧ Paired FlatR ks (es.toList.map (·.key)) ∧ Vals xs (es.toList.map (·.val)) := (hok a _ e).1

mutual
/-- v is the data d, all its objects tracked -/
inductive DR (H : Hp) : V → PyData → Prop
  | non : DR H .non .none
  | bl (b : Bool) : DR H (.bl b) (.bool b)
  | int (i : Int) : DR H (.int i) (.int i)
  | str (x : Str) : DR H (.str x) (.str x)
  | lst {a : Addr} {xs : List V} {ds : List PyData} : H a = some (.lst xs) → DRs H xs ds → DR H (.ref a) (.list ds)
  | tup {a : Addr} {xs : List V} {ds : List PyData} : H a = some (.tup xs) → DRs H xs ds → DR H (.ref a) (.tuple ds)
  | dic {a : Addr} {ks : List PyData} {xs : List V} {ds : List PyData} : H a = some (DicO ks xs a) → DRs H xs ds → DR H (.ref a) (.dict (ks.zip ds))
inductive DRs (H : Hp) : List V → List PyData → Prop
  | nil : DRs H [] []
  | cons {v : V} {vs : List V} {d : PyData} {ds : List PyData} : DR H v d → DRs H vs ds → DRs H (v :: vs) (d :: ds)
end
mutual
theorem DR.mono {H H' : Hp} (e : ∀ b o, H b = some o → H' b = some o) : ∀ {v : V} {d : PyData}, DR H v d → DR H' v d
  | _, _, .non => .non
  | _, _, .bl b => .bl b
  | _, _, .int i => .int i
  | _, _, .str x => .str x
  | _, _, .lst h r => .lst (e _ _ h) (DRs.mono e r)
  | _, _, .tup h r => .tup (e _ _ h) (DRs.mono e r)
  | _, _, .dic h r => .dic (e _ _ h) (DRs.mono e r)
theorem DRs.mono {H H' : Hp} (e : ∀ b o, H b = some o → H' b = some o) : ∀ {v : List V} {d : List PyData}, DRs H v d → DRs H' v d
  | _, _, .nil => .nil
  | _, _, .cons h r => .cons (DR.mono e h) (DRs.mono e r)
end
theorem DRs.length {H : Hp} : ∀ {xs : List V} {ds : List PyData}, DRs H xs ds → xs.length = ds.length
  | _, _, .nil => rfl
  | _, _, .cons _ r => congrArg Nat.succ (DRs.length r)
theorem flat_reads {h : Heap} : ∀ {ks : List PyData} {us : List Value}, Paired FlatR ks us → ReadsAll h us ks []
  | _, _, .nil => .nil
  | _, _, .cons (a := k) (b := u) r t => by
    have q : Reads h u k [] := by
      cases k with
      | none => cases r; exact .none
      | int i => obtain ⟨_, rfl⟩ := r; exact .int _ _
      | str x => obtain ⟨_, rfl⟩ := r; exact .str _ _
      | bool b => exact False.elim r
      | list xs => exact False.elim r
      | tuple xs => exact False.elim r
      | dict xs => exact False.elim r
    exact .cons q (flat_reads t)
theorem zip_fst {α β : Type} : ∀ {l : List α} {r : List β}, l.length = r.length → (l.zip r).map (·.1) = l
  | [], [], _ => rfl
  | a :: l, b :: r, h => by simp only [List.zip_cons_cons, List.map_cons]; rw [zip_fst (Nat.succ.inj h)]
  | [], _ :: _, h => by cases h
  | _ :: _, [], h => by cases h
theorem zip_snd {α β : Type} : ∀ {l : List α} {r : List β}, l.length = r.length → (l.zip r).map (·.2) = r
  | [], [], _ => rfl
  | a :: l, b :: r, h => by simp only [List.zip_cons_cons, List.map_cons]; rw [zip_snd (Nat.succ.inj h)]
  | [], _ :: _, h => by cases h
  | _ :: _, [], h => by cases h
theorem isTup_reads {H : Hp} {h : Heap} {a : Addr} {its : List Value} {ds : List PyData} {as : List Addr} (tp : IsTup h a its.toArray) (r1 : ReadsAll h its ds as) (r2 : ∀ b ∈ as, H b ≠ none) : ∃ as, Reads h (.ref a) (.tuple ds) as ∧ ∀ b ∈ as, H b ≠ none := by
  obtain ⟨ob, ho, hc⟩ := tp
  first
    | exact ⟨_, .tuple ho hc.1 hc.2 (by simpa using r1), r2⟩
    | (obtain ⟨h1, n, h2⟩ := hc; exact ⟨_, .tuple ho h1 h2 (by simpa using r1), r2⟩)
    | (subst hc; exact ⟨_, .tuple ho rfl rfl (by simpa using r1), r2⟩)
mutual
theorem DR.reads {P : Program} {w : World} {H : Hp} {h : Heap} (ok : HOk P w H h) : ∀ {v : V} {d : PyData} {u : Value}, DR H v d → RelV v u → ∃ as, Reads h u d as ∧ ∀ b ∈ as, H b ≠ none
  | _, _, _, .non, r => by cases r; exact ⟨_, .none, fun b hb => nomatch hb⟩
  | _, _, _, .bl b, r => by cases r; exact ⟨_, .bool b, fun b hb => nomatch hb⟩
  | _, _, _, .int i, r => by obtain ⟨t, rfl⟩ := r; exact ⟨_, .int i t, fun b hb => nomatch hb⟩
  | _, _, _, .str x, r => by obtain ⟨t, rfl⟩ := r; exact ⟨_, .str x t, fun b hb => nomatch hb⟩
  | _, _, _, .lst (a := a) e q, r => by
    cases r
    obtain ⟨_, its, n, rv, ho⟩ := ok _ _ e
    obtain ⟨as, r1, r2⟩ := DRs.reads ok q rv
    refine ⟨_, .list ho rfl rfl (by simpa using r1), fun b hb => ?_⟩
    rcases List.mem_cons.mp hb with z | z
    · rw [z, e]; exact fun z => nomatch z
    · exact r2 b z
  | _, _, _, .tup (a := a) e q, r => by
    cases r
    obtain ⟨_, its, rv, tp⟩ := ok _ _ e
    obtain ⟨as, r1, r2⟩ := DRs.reads ok q rv
    exact isTup_reads tp r1 r2
  | _, _, _, .dic (a := a) e q, r => by
    cases r
    obtain ⟨o, es, n, ho, hc, hd, hk, hv⟩ := dicO_at ok e
    obtain ⟨as, r1, r2⟩ := DRs.reads ok q hv
    have l1 := q.length
    have l2 : _ = _ := Paired.length hk
    have l3 : _ = _ := Paired.length hv
    rw [List.length_map] at l2 l3
    have l4 := l2.trans (l3.symm.trans l1)
    refine ⟨_, .dict (as := []) ho hc hd (by rw [zip_fst l4]; exact flat_reads hk) (by rw [zip_snd l4]; exact r1), fun b hb => ?_⟩
    rcases List.mem_append.mp hb with z | z
    · rcases List.mem_cons.mp z with z | z
      · rw [z, e]; exact fun z => nomatch z
      · exact nomatch z
    · exact r2 b z
theorem DRs.reads {P : Program} {w : World} {H : Hp} {h : Heap} (ok : HOk P w H h) : ∀ {v : List V} {d : List PyData} {u : List Value}, DRs H v d → Vals v u → ∃ as, ReadsAll h u d as ∧ ∀ b ∈ as, H b ≠ none
  | _, _, _, .nil, r => by cases r; exact ⟨_, .nil, fun b hb => nomatch hb⟩
  | _, _, _, .cons q t, r => by
    cases r with
    | cons r1 r2 =>
      obtain ⟨as, h1, h2⟩ := DR.reads ok q r1
      obtain ⟨bs, h3, h4⟩ := DRs.reads ok t r2
      refine ⟨_, .cons h1 h3, fun b hb => ?_⟩
      rcases List.mem_append.mp hb with z | z
      · exact h2 b z
      · exact h4 b z
end

/-- repr(v), v data -/
def rRepr : List V → Hp → VK → Prop := fun xs H Q => ∃ v d, xs = [v] ∧ DR H v d ∧ d.showable = true ∧ d.depth ≤ 60 ∧ d.shown.length ≤ sizeLine ∧ Q (.str d.shown) H
theorem call_reprD {X : Cx} {osys : Obj} (hgd : X.A.guards = some []) (hu : X.A.units + 64 < cLine) (hsys : X.K.lookup sysModules = some osys) : CallR X (.builtin "repr") rRepr := by
  intro pins s σ H xs us Q I r h
  obtain ⟨v, d, rfl, hd, hs, hdp, hl, q⟩ := h
  obtain ⟨u, rfl, ru⟩ := vals1 r
  have hn : H sysModules = none := (I.bs sysModules osys (I.ok.mod.kin _ _ hsys)).2
  have fin : ∀ {h' : Heap} {tk tt : Nat}, (∀ b o, s.heap.get? b = some o → h'.get? b = some o) → EP X pins σ Q (.str d.shown tt) { s with heap := h', toks := tk } := fun {h' tk tt} k => ⟨.str d.shown, H, I.kept k, ⟨_, rfl⟩, q⟩
  have same : ∀ b o, s.heap.get? b = some o → s.heap.get? b = some o := fun _ _ e => e
  cases hd with
  | non => cases ru; exact PySem.P.repr_of_none (fin same)
  | bl b => cases ru; exact PySem.P.repr_of_bool (by cases b <;> exact fin same)
  | int i => obtain ⟨t, rfl⟩ := ru; exact PySem.P.repr_of_int (of_decide_eq_true hs) (fin same)
  | str x => obtain ⟨t, rfl⟩ := ru; exact PySem.P.repr_of_str (fin same) hl
  | lst e qq =>
    obtain ⟨as, r1, r2⟩ := DR.reads I.hok (.lst e qq) ru
    cases ru
    exact repr_of_reads' r1 hs (fun _ hb => r2 _ hb hn) hgd (by omega) same (fun h' u tk k => fin k) hl
  | tup e qq =>
    obtain ⟨as, r1, r2⟩ := DR.reads I.hok (.tup e qq) ru
    cases ru
    exact repr_of_reads' r1 hs (fun _ hb => r2 _ hb hn) hgd (by omega) same (fun h' u tk k => fin k) hl
  | dic e qq =>
    obtain ⟨as, r1, r2⟩ := DR.reads I.hok (.dic e qq) ru
    cases ru
    exact repr_of_reads' r1 hs (fun _ hb => r2 _ hb hn) hgd (by omega) same (fun h' u tk k => fin k) hl
end G137
/-! Dicts whose keys may be None: their making from a list of pairs. -/
namespace G137
open PySem PySem.Spec PyProof.Rows L2
section
variable {prog : Program} {w : World} {A : Around} {E : Value → Shared → Prop} {s : Shared}
theorem pyHash_none {Q : Int → Shared → Prop} (h : Q 4238894112 { s with toks := s.toks + 1 }) : wpAny (model prog w) A (pyHash .none) Q E s := by
  unfold pyHash pyHashByItsType
  have hT : s.TypeIs .none "NoneType" := typeIs_none s
  refine wpAny_bind ?_
  rw [cRoomFor, if_neg (by exact Bool.false_ne_true)]; refine wpAny_pure ?_
  refine wpAny_bind (wpAny_specialOf hT PySem.F.slot_NoneType_hash.lookup ?_)
  rw [if_neg (by rw [beq_builtin_none]; exact Bool.false_ne_true)]
  refine wpAny_bind (wpAny_specialOf hT PySem.F.slot_NoneType_hash.lookup ?_)
  show wpAny _ _ (callSpecialIfBoundUnlessNone? .none "__hash__" _ >>= _) Q E s
  refine wpAny_bind (wpAny_callSpecialIfBoundUnlessNone?_slot hT PySem.F.slot_NoneType_hash
    (wpAny_call_entry PySem.F.slot_NoneType_hash hT PySem.F.entry_NoneType_hash
      (show wpAny _ _ (do ret (← mkInt 0xFCA86420)) _ _ s from wpAny_ret_mkInt ?_) (PySem.F.args_NoneType_hash_1 _)))
  exact wpAny_pure h
end

abbrev KeyN := Option L2.Key
def keyNIs : KeyN → Value → Bool
  | none, v => v == .none
  | some k, v => L2.keyIs k v
theorem keyNIs_shape : ∀ {k : KeyN} {v : Value}, keyNIs k v = true → (k = none ∧ v = .none) ∨ (∃ i t, k = some (.inl i) ∧ v = .int i t) ∨ (∃ x t, k = some (.inr x) ∧ v = .str x t)
  | none, v, h => .inl ⟨rfl, eq_of_beq h⟩
  | some k, v, h => by
    rcases L2.keyIs_shape h with ⟨i, t, rfl, rfl⟩ | ⟨x, t, rfl, rfl⟩
    · exact .inr (.inl ⟨i, t, rfl, rfl⟩)
    · exact .inr (.inr ⟨x, t, rfl, rfl⟩)
theorem eqBool_none {prog : Program} {w : World} {A : Around} {E : Value → Shared → Prop} {s : Shared} {Q : Bool → Shared → Prop} (h : Q true s) : wpAny (model prog w) A (eqBool .none .none) Q E s := by
  unfold eqBool
  refine wpAny_holding ?_
  rw [if_pos (by decide)]
  exact wpAny_bind (wpAny_rule (wpAny_pure h))
def optKind (prog : Program) (w : World) : PySem.KeyKind prog w KeyN where
  is := keyNIs
  hash := fun k => match k with | none => 4238894112 | some k => L2.keyH w k
  inj := fun v a b ha hb => by
    rcases keyNIs_shape ha with ⟨rfl, rfl⟩ | ⟨i, t, rfl, rfl⟩ | ⟨x, t, rfl, rfl⟩
    · rcases keyNIs_shape hb with ⟨rfl, _⟩ | ⟨i, t, _, e⟩ | ⟨x, t, _, e⟩
      · rfl
      · cases e
      · cases e
    · rcases keyNIs_shape hb with ⟨_, e⟩ | ⟨i, t, rfl, e⟩ | ⟨x, t, _, e⟩
      · cases e
      · cases e; rfl
      · cases e
    · rcases keyNIs_shape hb with ⟨_, e⟩ | ⟨i, t, _, e⟩ | ⟨x, t, rfl, e⟩
      · cases e
      · cases e
      · cases e; rfl
  byValue := fun k v h => by
    rcases keyNIs_shape h with ⟨rfl, rfl⟩ | ⟨i, t, rfl, rfl⟩ | ⟨x, t, rfl, rfl⟩ <;> rfl
  pyHash := fun hv h => by
    rcases keyNIs_shape hv with ⟨rfl, rfl⟩ | ⟨i, t, rfl, rfl⟩ | ⟨x, t, rfl, rfl⟩
    · exact pyHash_none h
    · exact wpAny_pyHash_int h
    · exact wpAny_pyHash_str h
  eqBool := fun hu hv h => by
    rcases keyNIs_shape hu with ⟨rfl, rfl⟩ | ⟨i, t, rfl, rfl⟩ | ⟨x, t, rfl, rfl⟩
    · rcases keyNIs_shape hv with ⟨rfl, rfl⟩ | ⟨j, u, rfl, rfl⟩ | ⟨y, u, rfl, rfl⟩
      · exact eqBool_none (by simpa using h)
      · exact SeqAt.EqAt.none_int j u _ _ _ _ (by simpa using h)
      · exact SeqAt.EqAt.none_str y u _ _ _ _ (by simpa using h)
    · rcases keyNIs_shape hv with ⟨rfl, rfl⟩ | ⟨j, u, rfl, rfl⟩ | ⟨y, u, rfl, rfl⟩
      · exact SeqAt.EqAt.int_none i t _ _ _ _ (by simpa using h)
      · refine wpAny_eqBool_int ?_
        have e : decide ((some (Sum.inl i) : KeyN) = some (Sum.inl j)) = (i == j) := by
          rw [← L2.key_ll]
          exact decide_eq_decide.mpr ⟨fun z => Option.some.inj z, fun z => congrArg some z⟩
        rw [e] at h
        exact h
      · exact SeqAt.EqAt.int_str i t y u _ _ _ _ (by simpa using h)
    · rcases keyNIs_shape hv with ⟨rfl, rfl⟩ | ⟨j, u, rfl, rfl⟩ | ⟨y, u, rfl, rfl⟩
      · exact SeqAt.EqAt.str_none x t _ _ _ _ (by simpa using h)
      · exact SeqAt.EqAt.str_int x t j u _ _ _ _ (by simpa using h)
      · exact wpAny_eqBool_str (by simpa using h)
  «strs» := fun k x t v h => by
    rcases keyNIs_shape h with ⟨rfl, e⟩ | ⟨i, u, rfl, e⟩ | ⟨y, u, rfl, e⟩
    · cases e
    · cases e
    · cases e
      show L2.keyIs (.inr x) v = _
      cases v <;> rfl

section
variable {prog : Program} {w : World} {A : Around} {E : Value → Shared → Prop} {κ : Type} [DecidableEq κ] {knd : PySem.KeyKind prog w κ}
/-- the pairs of a list go into a dict, whatever the kind of keys -/
theorem pairs_loop {R : Result → Shared → Prop} {S I l : Addr} {items : Array Value} {res : Value} (hh : A.handled = none) (hlI : l ≠ I) (hSI : S ≠ I) (hSl : S ≠ l) :
    ∀ (rest : List (κ × Value)) (i : Nat) (acc : List (κ × Value)) (ix : Int) (t : Tok) (s : Shared), items.size = i + rest.length → acc.length + rest.length ≤ sizeLine →
      (∀ (j : Nat) (q : κ × Value), rest[j]? = some q → ∃ (b : Addr) (u : Value), items[i + j]? = some (.ref b) ∧ b ≠ S ∧ b ≠ I ∧ IsTup s.heap b #[u, q.2] ∧ knd.is q.1 u = true) →
      s.heap.IsListIter I l i → s.heap.IsList l items → s.heap.DictOf knd S acc →
      (∀ h' tk, h'.DictOf knd S (merged acc rest) → (∀ b o, b ≠ S → b ≠ I → s.heap.get? b = some o → h'.get? b = some o) → R (.ok (.ret res)) { s with heap := h', toks := tk }) →
      codeAny (model prog w) A (.builtin "dict.update.loop" ⟨[.ref S, .ref I, .int ix t, res], []⟩) R s
  | [], i, acc, ix, t, s, hsz, hln, ht, hit, hl, hm, hR => by
    refine codeAny_builtin ud_entry ?_
    rw [Around.under_plainId ud_plain _]
    show wpAny _ A.in1 (pyNext (.ref I) >>= _) _ _ s
    refine wpAny_bind (wpAny_pyNext_list_end (A := A.in1) hh hit hl (by simp at hsz; simp; omega) fun h' he => ?_)
    show wpAny _ A.in1 (Builtin.Dict.addKeywords S [] >>= _) _ _ _
    exact wpAny_bind (wpAny_pure (wpAny_pure (hR h' s.toks (hm.extBut he hSI) fun b o _ hb e => he b o hb e)))
  | q :: rest, i, acc, ix, t, s, hsz, hln, ht, hit, hl, hm, hR => by
    obtain ⟨b, u, hb, hbS, hbI, htup, hk⟩ := ht 0 q rfl
    rw [List.length_cons] at hsz hln
    refine codeAny_builtin ud_entry ?_
    rw [Around.under_plainId ud_plain _]
    show wpAny _ A.in1 (pyNext (.ref I) >>= _) _ _ s
    refine wpAny_bind (wpAny_pyNext_list_item (x := .ref b) hit hl (by simpa using hb) fun h1 hit1 hs1 => ?_)
    obtain ⟨o, ho, hc, n, hd⟩ := id (htup.extBut hs1.extBut hbI)
    show wpAny _ A.in1 (holding [Value.ref b] _ >>= _) _ _ _
    refine wpAny_bind (wpAny_holding (wpAny_bind (wpAny_tryCatch ?_)))
    unfold Builtin.Dict.pairItems
    refine wpAny_bind (wpAny_typeOf (T := "tuple") ⟨o, ho, hc⟩ ?_)
    rw [if_pos (by first | decide | rfl | simp)]
    refine wpAny_bind (wpAny_seqItems ho hd (wpAny_pure ?_))
    show wpAny _ A.in1 (holding [u, q.2] (dictSet S u q.2)) _ _ _
    refine wpAny_holding (wpAny_dictSet_pairs (knd := knd) (k := q.1) hk (hm.extBut hs1.extBut hSI) (fun h2 hm2 hs2 => ?_) (by omega))
    refine wpAny_pure ⟨plainId_quiet ud_plain _, pairs_loop (items := items) hh hlI hSI hSl rest (i + 1) (stored acc q.1 q.2) (ix + 1) 0 _ (show items.size = i + 1 + rest.length by omega) ?_ (fun j q' e => ?_) ?_ ?_ hm2 fun h' tk hd' k => ?_⟩
    · have z := stored_length_le acc q.1 q.2
      omega
    · obtain ⟨b', u', hb', hbS', hbI', htup', hk'⟩ := ht (j + 1) q' (by simpa using e)
      exact ⟨b', u', by rw [show i + 1 + j = i + (j + 1) by omega]; exact hb', hbS', hbI', (htup'.extBut hs1.extBut hbI').extBut hs2.extBut hbS', hk'⟩
    · exact hit1.at fun o' e => hs2.extBut I o' (Ne.symm hSI) e
    · exact (hl.extBut hs1.extBut hlI).extBut hs2.extBut (Ne.symm hSl)
    · exact hR h' tk hd' fun c oc h3 h4 e => k c oc h3 h4 (hs2.extBut c oc h3 (hs1.extBut c oc h4 e))
/-- dict(l), l a list of pairs -/
theorem call_dict_of {s : Shared} {l : Addr} {ol : Obj} {items : Array Value} {n : Nat} {prs : List (κ × Value)} {Q : Value → Shared → Prop} (hh : A.handled = none) (hl : s.heap.get? l = some ol) (hc : ol.cls = .type "list") (hd : ol.dict = none)
    (hdat : ol.data = .seq items n) (hsz : items.size = prs.length) (hln : prs.length ≤ sizeLine)
    (ht : ∀ (j : Nat) (q : κ × Value), prs[j]? = some q → ∃ (b : Addr) (u : Value), items[j]? = some (.ref b) ∧ IsTup s.heap b #[u, q.2] ∧ knd.is q.1 u = true)
    (h : ∀ h' tk, h'.DictOf knd s.heap.objs.size (merged [] prs) → (∀ b o, s.heap.get? b = some o → h'.get? b = some o) → Q (.ref s.heap.objs.size) { s with heap := h', toks := tk }) :
    wpAny (model prog w) A (call (.type "dict") [.ref l]) Q E s := by
  refine callType_codes (Q₁ := fun obj s₁ => obj = .ref s.heap.objs.size ∧ s₁ = { s with heap := s.heap.push { cls := .type "dict", data := .dict #[] } }) PySem.F.kt_called_dict (PySem.F.kt_typeCall_dict_1 _) PySem.F.entry_dict_init (kt_code_dict_new _ ⟨rfl, rfl⟩) ?_
  rintro obj s₁ ⟨rfl, rfl⟩
  have hnew : (s.heap.push { cls := .type "dict", data := .dict #[] }).DictOf knd s.heap.objs.size [] := Heap.DictOf.new s.heap
  have k0 : ∀ b o, s.heap.get? b = some o → (s.heap.push { cls := .type "dict", data := .dict #[] }).get? b = some o := fun b o e => Heap.get?_push_of_some _ e
  refine ⟨hnew.typeIs, PySem.F.args_dict_init_2 _ _, ?_⟩
  unfold Builtin.«dict.__init__» Builtin.Dict.selfAndRest
  refine wpAny_bind (wpAny_bind (wpAny_notOrdered_dict hnew.typeIs ?_))
  show wpAny _ _ (pure (s.heap.objs.size, [Value.ref l])) _ _ _
  refine wpAny_pure ?_
  show wpAny _ _ (Builtin.Dict.updateFrom "dict.__init__" s.heap.objs.size (.ref l) [] .none) _ _ _
  unfold Builtin.Dict.updateFrom
  refine wpAny_bind (wpAny_typeOf (T := "list") ⟨ol, k0 _ _ hl, hc⟩ ?_)
  rw [if_pos (by first | decide | rfl | simp)]
  refine wpAny_bind (miss_list (k0 _ _ hl) hc hdat hd hh fun h1 tk1 hk1 => ?_)
  rw [if_pos (show (none : Option Value).isNone = true from rfl)]
  refine wpAny_bind (wpAny_rule ?_)
  have hl1 : h1.IsList l items := ⟨ol, hk1 _ _ (k0 _ _ hl), hc, n, hdat⟩
  have hS1 : s.heap.objs.size < h1.objs.size := Heap.lt_size (hk1 _ _ (Heap.get?_push_size s.heap (o := { cls := .type "dict", data := .dict #[] }) rfl))
  refine wpAny_bind (wpAny_pyIter_list hl1 ?_)
  have k2 : ∀ b o, h1.get? b = some o → (h1.push { cls := .type "list_iterator", data := .fields #[.ref l, .int 0 0] }).get? b = some o := fun b o e => Heap.get?_push_of_some _ e
  have hlt : l < s.heap.objs.size := Heap.lt_size hl
  have key := pairs_loop (knd := knd) (A := A.in1) (R := wants (fun r s₂ => r = .none ∧ Q (.ref s.heap.objs.size) s₂) E) (S := s.heap.objs.size) (I := h1.objs.size) (l := l) (items := items) (res := Value.none) hh
    (Nat.ne_of_lt (Nat.lt_trans hlt hS1)) (Nat.ne_of_lt hS1) (Nat.ne_of_gt hlt) prs 0 [] 0 0
    { s with heap := h1.push { cls := .type "list_iterator", data := .fields #[.ref l, .int 0 0] }, toks := tk1 } (by rw [hsz, Nat.zero_add]) (by rw [List.length_nil, Nat.zero_add]; exact hln)
    (fun j q e => by
      obtain ⟨b, u, e1, e2, e3⟩ := ht j q e
      have hb : b < s.heap.objs.size := e2.lt
      exact ⟨b, u, by rw [Nat.zero_add]; exact e1, Nat.ne_of_lt hb, Nat.ne_of_lt (Nat.lt_trans hb hS1), e2.keeps fun c o z => k2 _ _ (hk1 _ _ (k0 _ _ z)), e3⟩)
    ⟨_, Heap.get?_push_size _ rfl, rfl, rfl⟩ (hl1.at fun o e => k2 _ _ e) ((hnew.at fun o e => hk1 _ _ e).at fun o e => k2 _ _ e)
    (fun h' tk hd' k => ⟨rfl, h h' tk hd' fun b o e => k b o (Nat.ne_of_lt (Heap.lt_size e)) (Nat.ne_of_lt (Nat.lt_trans (Heap.lt_size e) hS1)) (k2 _ _ (hk1 _ _ (k0 _ _ e)))⟩)
  first
    | exact wpAny_pure ⟨plainId_quiet ud_plain _, key⟩
    | exact wpAny_bind (wpAny_pure (wpAny_pure ⟨plainId_quiet ud_plain _, key⟩))
end
end G137
/-! list(zip(xs, ys)) of two lists, and dict of it. -/
namespace G137
open PySem PySem.Spec PyProof.Rows L2
theorem nolen_zip : typeLookup (.type "zip") "__len__" = pure none := by rw [typeLookup_type, builtinLookup_eq_fast]; kernel_rfl
theorem nohint_zip : typeLookup (.type "zip") "__length_hint__" = pure none := by rw [typeLookup_type, builtinLookup_eq_fast]; kernel_rfl

/-- a zip over two lists, i turns gone, S apart from it -/
structure ZipSt (z TI TO i1 i2 l1 l2 S : Addr) (xs ys : Array Value) (i : Nat) (h : Heap) : Prop where
  ti : IsPair h TI (.ref i1) (.ref i2)
  h1 : h.IsListIter i1 l1 i
  h2 : h.IsListIter i2 l2 i
  l1 : h.IsList l1 xs
  l2 : h.IsList l2 ys
  zp : (PySem.IsZip h z TI TO .none ∧ ∃ a b, IsPair h TO a b) ∨ ∃ T f oT, IsZipHeld h z TI TO T f ∧ h.get? T = some oT ∧ T ≠ z ∧ T ≠ i1 ∧ T ≠ i2 ∧ T ≠ S
structure Off (z TI TO i1 i2 l1 l2 S : Addr) : Prop where
  a : S ≠ z
  b : S ≠ TI
  c : S ≠ TO
  d : S ≠ i1
  e : S ≠ i2
  f : S ≠ l1
  g : S ≠ l2
theorem ZipSt.keep {z TI TO i1 i2 l1 l2 S : Addr} {xs ys : Array Value} {i : Nat} {h h' : Heap} (O : Off z TI TO i1 i2 l1 l2 S) (st : ZipSt z TI TO i1 i2 l1 l2 S xs ys i h) (k : ∀ b o, b ≠ S → h.get? b = some o → h'.get? b = some o) : ZipSt z TI TO i1 i2 l1 l2 S xs ys i h' := by
  refine ⟨k _ _ O.b.symm st.ti, st.h1.at fun o e => k _ o O.d.symm e, st.h2.at fun o e => k _ o O.e.symm e, st.l1.at fun o e => k _ o O.f.symm e, st.l2.at fun o e => k _ o O.g.symm e, ?_⟩
  rcases st.zp with ⟨hz, a, b, ho⟩ | ⟨T, f, oT, hz, hT, r1, r2, r3, r4⟩
  · exact .inl ⟨k _ _ O.a.symm hz, a, b, k _ _ O.c.symm ho⟩
  · exact .inr ⟨T, f, oT, k _ _ O.a.symm hz, k _ _ r4 hT, r1, r2, r3, r4⟩

section
variable {prog : Program} {w : World} {A : Around} {E : Value → Shared → Prop} {z TI TO i1 i2 l1 l2 S : Addr} {xs ys : Array Value}
theorem zip_item {s : Shared} {i : Nat} {x y : Value} {Q : Option Value → Shared → Prop} (D : PySem.ZipApart z TI TO i1 i2 l1 l2) (O : Off z TI TO i1 i2 l1 l2 S) (hS : S < s.heap.objs.size) (st : ZipSt z TI TO i1 i2 l1 l2 S xs ys i s.heap) (ex : xs[i]? = some x) (ey : ys[i]? = some y)
    (hQ : ∀ h', ZipSt z TI TO i1 i2 l1 l2 S xs ys (i + 1) h' → IsPair h' s.heap.objs.size x y → h'.objs.size = s.heap.objs.size + 1 → (∀ c o, c ≠ z → c ≠ TO → c ≠ i1 → c ≠ i2 → s.heap.get? c = some o → h'.get? c = some o) → Q (some (.ref s.heap.objs.size)) { s with heap := h' }) :
    wpAny (model prog w) A (pyNext (.ref z)) Q E s := by
  have lt : ∀ {c o}, s.heap.get? c = some o → s.heap.objs.size ≠ c := fun e => Nat.ne_of_gt (Heap.lt_size e)
  have n1 : s.heap.objs.size ≠ i1 := let ⟨_, e, _⟩ := st.h1; lt e
  have n2 : s.heap.objs.size ≠ i2 := let ⟨_, e, _⟩ := st.h2; lt e
  rcases st.zp with ⟨hz, a, b, hTO⟩ | ⟨T, f, oT, hz, hT, r1, r2, r3, r4⟩
  · refine wpAny_pyNext_zip_item D hz st.ti hTO st.h1 st.h2 st.l1 st.l2 ex ey fun h' a1 a2 a3 a4 a5 a6 hk => hQ h' ?_ a5 a6 hk
    exact ⟨hk _ _ D.TIz D.TITO D.TIi1 D.TIi2 st.ti, a3, a4, st.l1.at fun o e => hk _ o D.l1z D.l1TO D.l1i1 D.l1i2 e, st.l2.at fun o e => hk _ o D.l2z D.l2TO D.l2i1 D.l2i2 e, .inr ⟨s.heap.objs.size, false, _, a1, a5, lt hz, n1, n2, Nat.ne_of_gt hS⟩⟩
  · refine wpAny_pyNext_zip_item_held D hz hT st.ti st.h1 st.h2 st.l1 st.l2 ex ey fun h' a1 a3 a4 a5 a6 hk => hQ h' ?_ a5 a6 fun c o c1 _ c3 c4 e => hk c o c1 c3 c4 e
    exact ⟨hk _ _ D.TIz D.TIi1 D.TIi2 st.ti, a3, a4, st.l1.at fun o e => hk _ o D.l1z D.l1i1 D.l1i2 e, st.l2.at fun o e => hk _ o D.l2z D.l2i1 D.l2i2 e, .inr ⟨T, true, oT, a1, hk _ _ r1 r2 r3 hT, r1, r2, r3, r4⟩⟩
theorem zip_done {s : Shared} {i : Nat} {Q : Option Value → Shared → Prop} (hh : A.handled = none) (D : PySem.ZipApart z TI TO i1 i2 l1 l2) (st : ZipSt z TI TO i1 i2 l1 l2 S xs ys i s.heap) (hend : xs[i]? = none ∨ ys[i]? = none)
    (hQ : ∀ h', (∀ c o, c ≠ z → c ≠ TO → c ≠ i1 → c ≠ i2 → s.heap.get? c = some o → h'.get? c = some o) → Q none { s with heap := h' }) :
    wpAny (model prog w) A (pyNext (.ref z)) Q E s := by
  rcases st.zp with ⟨hz, a, b, hTO⟩ | ⟨T, f, oT, hz, hT, r1, r2, r3, r4⟩
  · exact wpAny_pyNext_zip_end hh D hz st.ti hTO st.h1 st.h2 st.l1 st.l2 hend fun h' hk => hQ h' hk
  · exact wpAny_pyNext_zip_end_held hh D hz hT st.ti st.h1 st.h2 st.l1 st.l2 hend fun h' hk => hQ h' fun c o c1 _ c3 c4 e => hk c o c1 c3 c4 e

/-- what the list S has got: pairs at new places above lo -/
structure Got (xs ys : Array Value) (lo : Addr) (h : Heap) (as : List Addr) : Prop where
  above : ∀ a ∈ as, lo < a
  pairs : ∀ (j : Nat) (a : Addr), as[j]? = some a → ∃ x y, xs[j]? = some x ∧ ys[j]? = some y ∧ IsPair h a x y

theorem zip_loop {R : Result → Shared → Prop} {s : Shared} (hh : A.handled = none) (D : PySem.ZipApart z TI TO i1 i2 l1 l2) (O : Off z TI TO i1 i2 l1 l2 S) (lo : Addr) (hlo : z ≤ lo ∧ TO ≤ lo ∧ i1 ≤ lo ∧ i2 ≤ lo ∧ S ≤ lo) (res : Value) {h₁ : Heap} {n : Nat} (hn : n ≤ 1000)
    (hsome : ∀ i, i < n → (∃ x, xs[i]? = some x) ∧ ∃ y, ys[i]? = some y) (hend : xs[n]? = none ∨ ys[n]? = none)
    (hR : ∀ h' tk acc c as, (∀ b o, b ≠ S → b ≠ z → b ≠ TO → b ≠ i1 → b ≠ i2 → h₁.get? b = some o → h'.get? b = some o) → h'.get? S = some { cls := .type "list", dict := none, data := .seq acc c, slots := #[] } → as.length = n → Got xs ys lo h' as →
      acc.toList = as.map Value.ref → R (.ok (.ret res)) { s with heap := h', toks := tk }) :
    ∀ (k i : Nat) (h : Heap) (tk c : Nat) (acc : Array Value) (as : List Addr), n - i = k → i ≤ n → ZipSt z TI TO i1 i2 l1 l2 S xs ys i h → (∀ b o, b ≠ S → b ≠ z → b ≠ TO → b ≠ i1 → b ≠ i2 → h₁.get? b = some o → h.get? b = some o) →
      h.get? S = some { cls := .type "list", dict := none, data := .seq acc c, slots := #[] } → acc.toList = as.map Value.ref → as.length = i → Got xs ys lo h as → lo < h.objs.size →
      codeAny (model prog w) A (.builtin "list.extend.loop" ⟨[.ref S, .ref z, res], []⟩) R { s with heap := h, toks := tk } := by
  have above_ne : ∀ {a : Addr}, lo < a → a ≠ z ∧ a ≠ TO ∧ a ≠ i1 ∧ a ≠ i2 ∧ a ≠ S := fun {a} q =>
    ⟨Nat.ne_of_gt (Nat.lt_of_le_of_lt hlo.1 q), Nat.ne_of_gt (Nat.lt_of_le_of_lt hlo.2.1 q), Nat.ne_of_gt (Nat.lt_of_le_of_lt hlo.2.2.1 q), Nat.ne_of_gt (Nat.lt_of_le_of_lt hlo.2.2.2.1 q), Nat.ne_of_gt (Nat.lt_of_le_of_lt hlo.2.2.2.2 q)⟩
  intro k
  induction k with
  | zero =>
    intro i h tk c acc as hk hi hst hkeep hS hacc hal hG hIs
    have hin : i = n := by omega
    subst hin
    refine codeAny_builtin PySem.F.entry_extend_loop ?_
    rw [Around.under_plainId PySem.F.plain_extend_loop _]
    show wpAny _ A.in1 (pyNext (.ref z) >>= _) _ _ _
    refine wpAny_bind (zip_done (s := { s with heap := h, toks := tk }) (A := A.in1) hh D hst hend fun h' he => ?_)
    refine wpAny_pure (hR h' tk acc c as (fun b o b1 b2 b3 b4 b5 e => he b o b2 b3 b4 b5 (hkeep b o b1 b2 b3 b4 b5 e)) (he S _ O.a O.c O.d O.e hS) hal ⟨hG.above, fun j a hj => ?_⟩ hacc)
    obtain ⟨x, y, e1, e2, e3⟩ := hG.pairs j a hj
    obtain ⟨q1, q2, q3, q4, q5⟩ := above_ne (hG.above a (List.mem_of_getElem? hj))
    exact ⟨x, y, e1, e2, he a _ q1 q2 q3 q4 e3⟩
  | succ k ih =>
    intro i h tk c acc as hk hi hst hkeep hS hacc hal hG hIs
    have hlt : i < n := by omega
    have hsz : acc.size = i := by rw [← Array.length_toList, hacc, List.length_map, hal]
    obtain ⟨⟨x, ex⟩, y, ey⟩ := hsome i hlt
    refine codeAny_builtin PySem.F.entry_extend_loop ?_
    rw [Around.under_plainId PySem.F.plain_extend_loop _]
    show wpAny _ A.in1 (pyNext (.ref z) >>= _) _ _ _
    refine wpAny_bind (zip_item (s := { s with heap := h, toks := tk }) D O (Heap.lt_size hS) hst ex ey fun h' hst' ht hz hkp => ?_)
    dsimp only at ht hz hkp ⊢
    have hS' := hkp S _ O.a O.c O.d O.e hS
    have up : ∀ b o, b ≠ S → h'.get? b = some o → (h'.update S (Obj.mapSeq (·.push (Value.ref h.objs.size)))).get? b = some o := fun b o hb e => (Heap.get?_update_other _ _ (Ne.symm hb)).trans e
    obtain ⟨p1, p2, p3, p4, p5⟩ := above_ne hIs
    show wpAny _ A.in1 (updateSeq S (·.push (Value.ref h.objs.size)) >>= _) _ _ _
    refine wpAny_bind ?_
    refine wpAny_updateSeq hS' rfl (wpAny_pure ⟨plainId_quiet PySem.F.plain_extend_loop _, ih (i + 1) _ tk _ (acc.push (Value.ref h.objs.size)) (as ++ [h.objs.size]) (by omega) hlt (hst'.keep O up)
      (fun b o b1 b2 b3 b4 b5 e => up b o b1 (hkp b o b2 b3 b4 b5 (hkeep b o b1 b2 b3 b4 b5 e))) (Heap.get?_update_self _ hS' rfl) (by rw [Array.toList_push, hacc, List.map_append]; rfl) (by rw [List.length_append, hal]; rfl) ⟨?_, ?_⟩ ?_⟩)
      (by rw [hsz]; show i ≤ _; have := sizeLine_eq; omega) (by show (acc.push (Value.ref h.objs.size)).size ≤ sizeLine + 1; rw [Array.size_push, hsz, sizeLine_eq]; omega)
    · intro a ha
      rcases List.mem_append.mp ha with ha | ha
      · exact hG.above a ha
      · rw [List.mem_singleton.mp ha]; exact hIs
    · intro j b hj
      rcases Nat.lt_trichotomy j as.length with q | q | q
      · rw [List.getElem?_append_left q] at hj
        obtain ⟨x', y', e1, e2, e3⟩ := hG.pairs j b hj
        obtain ⟨q1, q2, q3, q4, q5⟩ := above_ne (hG.above b (List.mem_of_getElem? hj))
        exact ⟨x', y', e1, e2, up b _ q5 (hkp b _ q1 q2 q3 q4 e3)⟩
      · subst q
        have hb : h.objs.size = b := by simpa using hj
        subst hb
        exact ⟨x, y, by rw [hal]; exact ex, by rw [hal]; exact ey, up _ _ p5 ht⟩
      · have hnone : (as ++ [h.objs.size])[j]? = none := List.getElem?_eq_none (by rw [List.length_append, List.length_singleton]; omega)
        rw [hnone] at hj; cases hj
    · have e := Heap.lt_size (up _ _ p5 ht)
      exact Nat.lt_trans hIs e
/-- list(z), z a zip that has not begun -/
theorem call_list_zip {s : Shared} {Q : Value → Shared → Prop} {n : Nat} (hh : A.handled = none) (D : PySem.ZipApart z TI TO i1 i2 l1 l2) (hz : PySem.IsZip s.heap z TI TO .none) (hti : IsPair s.heap TI (.ref i1) (.ref i2)) {oa ob : Value} (hto : IsPair s.heap TO oa ob)
    (h1 : s.heap.IsListIter i1 l1 0) (h2 : s.heap.IsListIter i2 l2 0) (hl1 : s.heap.IsList l1 xs) (hl2 : s.heap.IsList l2 ys) (hn : n ≤ 1000)
    (hsome : ∀ i, i < n → (∃ x, xs[i]? = some x) ∧ ∃ y, ys[i]? = some y) (hend : xs[n]? = none ∨ ys[n]? = none)
    (hQ : ∀ h' tk acc c as, (∀ b o, b ≠ z → b ≠ TO → b ≠ i1 → b ≠ i2 → s.heap.get? b = some o → h'.get? b = some o) → h'.get? s.heap.objs.size = some { cls := .type "list", dict := none, data := .seq acc c, slots := #[] } → as.length = n → Got xs ys s.heap.objs.size h' as →
      acc.toList = as.map Value.ref → Q (.ref s.heap.objs.size) { s with heap := h', toks := tk }) :
    wpAny (model prog w) A (call (.type "list") [.ref z]) Q E s := by
  have zl := Heap.lt_size hz
  have til := Heap.lt_size hti
  have tol := Heap.lt_size hto
  have i1l : i1 < s.heap.objs.size := let ⟨_, e, _⟩ := h1; Heap.lt_size e
  have i2l : i2 < s.heap.objs.size := let ⟨_, e, _⟩ := h2; Heap.lt_size e
  have l1l : l1 < s.heap.objs.size := let ⟨_, e, _⟩ := hl1; Heap.lt_size e
  have l2l : l2 < s.heap.objs.size := let ⟨_, e, _⟩ := hl2; Heap.lt_size e
  have O : Off z TI TO i1 i2 l1 l2 s.heap.objs.size := ⟨Nat.ne_of_gt zl, Nat.ne_of_gt til, Nat.ne_of_gt tol, Nat.ne_of_gt i1l, Nat.ne_of_gt i2l, Nat.ne_of_gt l1l, Nat.ne_of_gt l2l⟩
  have st0 : ZipSt z TI TO i1 i2 l1 l2 s.heap.objs.size xs ys 0 s.heap := ⟨hti, h1, h2, hl1, hl2, .inl ⟨hz, oa, ob, hto⟩⟩
  refine callType_codes (Q₁ := fun obj s₁ => obj = .ref s.heap.objs.size ∧ s₁ = { s with heap := s.heap.push { cls := .type "list", data := .seq #[] } }) PySem.F.called_list (PySem.F.typeCall_list_1 _) PySem.F.entry_list_init
    (code_list_new _ ⟨rfl, rfl⟩) fun obj s₁ e₁ => ?_
  obtain ⟨rfl, rfl⟩ := e₁
  have hS : (s.heap.push { cls := .type "list", data := .seq #[] }).get? s.heap.objs.size = some { cls := .type "list", data := .seq #[] } := Heap.get?_push_size _ rfl
  refine ⟨⟨_, hS, rfl⟩, PySem.F.args_list_init_2 _ _, ?_⟩
  show wpAny _ A.in1.in1 (do let old ← Builtin.List.listItems (.ref s.heap.objs.size); Builtin.List.listUpdate (.ref s.heap.objs.size) (fun _ => #[]); letGo old.toList.reverse; Builtin.List.listExtendWith (.ref s.heap.objs.size) (.ref z) .none) _ _ _
  refine wpAny_bind ?_
  unfold Builtin.List.listItems
  refine wpAny_bind (wpAny_seqItems hS rfl (wpAny_pure ?_))
  show wpAny _ A.in1.in1 (updateSeq s.heap.objs.size (fun _ => #[]) >>= fun _ => letGo (#[] : Array Value).toList.reverse >>= fun _ => Builtin.List.listExtendWith (.ref s.heap.objs.size) (.ref z) .none) _ _ _
  refine wpAny_bind (wpAny_updateSeq hS rfl ?_)
  have hS2 := Heap.get?_update_self (Obj.mapSeq (fun _ => (#[] : Array Value))) hS rfl
  refine wpAny_bind (wpAny_letGo ?_)
  unfold Builtin.List.listExtendWith
  have up : ∀ (h : Heap) (f : Obj → Obj), (∀ b o, b ≠ s.heap.objs.size → s.heap.get? b = some o → h.get? b = some o) → ∀ b o, b ≠ s.heap.objs.size → s.heap.get? b = some o → (h.update s.heap.objs.size f).get? b = some o := fun h f q b o hb e =>
    (Heap.get?_update_other _ _ (Ne.symm hb)).trans (q b o hb e)
  have k1 : ∀ b o, b ≠ s.heap.objs.size → s.heap.get? b = some o → (s.heap.push { cls := .type "list", data := .seq #[] }).get? b = some o := fun b o _ e => Heap.get?_push_of_some _ e
  have k2 := up _ (Obj.mapSeq (fun _ => (#[] : Array Value))) k1
  have zT : ∀ {h : Heap} {tk : Nat}, (∀ b o, b ≠ s.heap.objs.size → s.heap.get? b = some o → h.get? b = some o) → Shared.TypeIs { s with heap := h, toks := tk } (.ref z) "zip" := fun {h tk} q => ⟨_, q _ _ O.a.symm hz, rfl⟩
  refine wpAny_bind (wpAny_typeOf (zT k2) ?_)
  have e1 : Builtin.List.listSameRef (.ref s.heap.objs.size) (.ref z) = false := by simp [Builtin.List.listSameRef, O.a]
  have e2 : (Value.type "zip" == Value.type "list") = false := by decide
  have e3 : (Value.type "zip" == Value.type "tuple") = false := by decide
  simp only [e1, e2, e3, Bool.or_false, Bool.false_eq_true, if_false]
  refine wpAny_bind (wpAny_pyIter_zip (k2 _ _ O.a.symm hz) ?_)
  refine wpAny_bind (wpAny_holding ?_)
  unfold Builtin.List.listLengthHint
  refine wpAny_bind (wpAny_specialOf (zT k2) nolen_zip ?_)
  show wpAny _ A.in1.in1 (specialOf (Value.ref z) (Str.ofString "__length_hint__") >>= _) _ _ _
  refine wpAny_bind (wpAny_specialOf (zT k2) nohint_zip ?_)
  refine wpAny_pure ?_
  show wpAny _ A.in1.in1 (rule "list.extend.makes-room" >>= fun _ => Builtin.List.listTouch (.ref s.heap.objs.size) >>= fun _ =>
    again (.builtin "list.extend.loop" ⟨[.ref s.heap.objs.size, .ref z, .none], []⟩)) _ _ _
  refine wpAny_bind (wpAny_rule ?_)
  refine wpAny_bind ?_
  show wpAny _ A.in1.in1 (updateSeq s.heap.objs.size (·.push .none) >>= fun _ => updateSeq s.heap.objs.size (·.pop)) _ _ _
  refine wpAny_bind (wpAny_updateSeq hS2 rfl ?_)
  have hS3 := Heap.get?_update_self (Obj.mapSeq (·.push Value.none)) hS2 rfl
  refine wpAny_updateSeq (hz := by seq_fits) hS3 rfl ?_
  have hS4 := Heap.get?_update_self (Obj.mapSeq (·.pop)) hS3 rfl
  have k4 := up _ (Obj.mapSeq (·.pop)) (up _ (Obj.mapSeq (·.push Value.none)) k2)
  refine wpAny_pure ⟨plainId_quiet PySem.F.plain_extend_loop _, ?_⟩
  refine zip_loop (A := A.in1) (s := s) (h₁ := s.heap) (n := n) hh D O s.heap.objs.size ⟨Nat.le_of_lt zl, Nat.le_of_lt tol, Nat.le_of_lt i1l, Nat.le_of_lt i2l, Nat.le_refl _⟩ .none hn hsome hend (fun h' tk acc c as hk hS' hl hG hacc => ⟨rfl, hQ h' tk acc c as (fun b o b2 b3 b4 b5 e => hk b o (Nat.ne_of_lt (Heap.lt_size e)) b2 b3 b4 b5 e) hS' hl hG hacc⟩)
    n 0 _ s.toks _ #[] [] (Nat.sub_zero _) (Nat.zero_le _) (st0.keep O k4) (fun b o b1 _ _ _ _ e => k4 b o b1 e) hS4 rfl rfl ⟨fun _ ha => (nomatch ha), fun j a hj => by simp at hj⟩ (Heap.lt_size hS4)
end
end G137
namespace G137
open PySem PySem.Spec PyProof.Rows L2
def knV : KeyN → V
  | none => .non
  | some k => kV k
def knD : KeyN → PyData
  | none => .none
  | some (.inl i) => .int i
  | some (.inr x) => .str x
theorem knV_is {k : KeyN} {u : Value} (r : RelV (knV k) u) : keyNIs k u = true := by
  match k, r with
  | none, r => cases r; rfl
  | some (.inl i), ⟨t, e⟩ => subst e; exact L2.keyIs_int i t
  | some (.inr x), ⟨t, e⟩ => subst e; exact L2.keyIs_str x t
theorem knD_flat {k : KeyN} {u : Value} (h : keyNIs k u = true) : FlatR (knD k) u := by
  rcases keyNIs_shape h with ⟨rfl, rfl⟩ | ⟨i, t, rfl, rfl⟩ | ⟨x, t, rfl, rfl⟩
  · rfl
  · exact ⟨_, rfl⟩
  · exact ⟨_, rfl⟩

/-- T(e) of a built-in class, its argument evaluated by any means -/
theorem call_ty1 {X : Cx} {x : Str} {p pos : Pos} {e : Expr} {T : String} {pins : List (Addr × Obj)} {s : Shared} {σ : L2.St} {H : Hp} {Q : Value → Shared → Prop} {E : Value → Shared → Prop} (I : Inv X pins σ H s) (hg : Gl X x) (hm : X.mg x = none) (hv : bootBuiltins x = some (.type T))
    (h : wpAny (model X.prog X.w) X.A (eval e X.env) (fun u s1 => wpAny (model X.prog X.w) X.A (call (.type T) [u]) Q E s1) E s) (hn : x ≠ "__name__" := by decide) (hdb : (x == ("__debug__" : Str)) = false := by decide)
    (he : starEach [e] X.env = (false, eval e X.env) :: starEach [] X.env := by rfl) : wpAny (model X.prog X.w) X.A (eval (.Call (.Name x p) [e] [] pos) X.env) Q E s := by
  refine wpAny_Call_Name_kw (ld_blt I hg hm hv ?_ hn hdb)
  refine PyProof.Rows.callWith_type1 ?_ he rfl
  rw [he]
  show wpAny _ _ (spliced ((false, eval e X.env) :: backTo pos (starEach [] X.env))) _ _ s
  exact Calls.spliced_cons (wpAny_mono h (fun u s1 q => Calls.spliced_nil q) fun _ _ z => z)

def tDlz (t : TA) : TE := fun σ H Q => t σ H fun vs H1 => ∃ (a b : Addr) (ks : List KeyN) (ys : List V), vs = [.ref a, .ref b] ∧ H1 a = some (.lst (ks.map knV)) ∧ H1 b = some (.lst ys) ∧ a ≠ b ∧ ks.Nodup ∧ ys.length ≤ ks.length ∧ ks.length ≤ 100 ∧
  ∀ p, H1 p = none → Q (.ref p) (upd H1 p (DicO ((ks.take ys.length).map knD) ys p))
theorem pairs_split {prog : Program} {w : World} : ∀ {es : List DictEntry} {prs : List (KeyN × Value)}, Pairs (optKind prog w) es prs → Paired FlatR (prs.map fun q => knD q.1) (es.map (·.key)) ∧ es.map (·.val) = prs.map (·.2)
  | _, _, .nil => ⟨.nil, rfl⟩
  | _, _, .cons h1 h2 r => by
    obtain ⟨q1, q2⟩ := pairs_split r
    exact ⟨.cons (knD_flat h1) q1, by rw [List.map_cons, List.map_cons, q2, h2]⟩
theorem vals_key {ks : List KeyN} {us : List Value} (r : Vals (ks.map knV) us) {j : Nat} {k : KeyN} (h : ks[j]? = some k) : ∃ u, us[j]? = some u ∧ keyNIs k u = true := by
  obtain ⟨u, e, q⟩ := r.get (i := j) (x := knV k) (by rw [List.getElem?_map, h]; rfl)
  exact ⟨u, e, knV_is q⟩

theorem ne_up {b N d : Nat} (h : b < N) : b ≠ N + d := by omega
theorem zip_apart (N a b : Nat) (ha : a < N) (hb : b < N) : PySem.ZipApart (N + 4) (N + 2) (N + 3) N (N + 1) a b := by
  constructor
  all_goals (intro z; change @Eq Nat _ _ at z; omega)
theorem pe_dlz {X : Cx} {q1 q2 q3 q4 q5 q6 : Pos} {e1 e2 : Expr} {t : TA} (hc : X.calm = true) (gd : Gl X "dict") (gl : Gl X "list") (gz : Gl X "zip") (md : X.mg "dict" = none) (ml : X.mg "list" = none) (mz : X.mg "zip" = none) (ha : PA X [e1, e2] t)
    (h1 : starEach [.Call (.Name "list" q2) [.Call (.Name "zip" q3) [e1, e2] [] q4] [] q5] X.env = (false, eval (.Call (.Name "list" q2) [.Call (.Name "zip" q3) [e1, e2] [] q4] [] q5) X.env) :: starEach [] X.env := by rfl)
    (h2 : starEach [.Call (.Name "zip" q3) [e1, e2] [] q4] X.env = (false, eval (.Call (.Name "zip" q3) [e1, e2] [] q4) X.env) :: starEach [] X.env := by rfl)
    (h3 : starEach [e1, e2] X.env = (false, eval e1 X.env) :: starEach [e2] X.env := by rfl) (h4 : (backTo q4 (starEach [e2] X.env)).any (·.1) = false := by rfl) :
    PE X (.Call (.Name "dict" q1) [.Call (.Name "list" q2) [.Call (.Name "zip" q3) [e1, e2] [] q4] [] q5] [] q6) (tDlz t) := by
  refine ⟨fun pins s σ H Q I h => ?_⟩
  refine call_ty1 (T := "dict") I gd md (by decide +kernel) (call_ty1 (T := "list") I gl ml (by decide +kernel) ?_ (he := h2)) (he := h1)
  refine wpAny_Call_Name_kw (ld_blt (u := .type "zip") I gz mz (by decide +kernel) ?_ (by decide) (by decide))
  refine PyProof.Rows.callWith_type1 (thn (ha.run q4 pins s σ H _ I h) fun us s1 ⟨vs, H1, I1, r1, a, b, ks, ys, ev, ea, eb, hab, nd, hle, hks, q⟩ => ?_) h3 h4
  subst ev
  obtain ⟨rfl⟩ : us = [.ref a, .ref b] := by
    cases r1 with
    | cons x1 x2 => cases x2 with
      | cons x3 x4 => cases x4; cases x1; cases x3; rfl
  obtain ⟨_, ia, na, ra, oa⟩ := I1.hok a _ ea
  obtain ⟨_, ib, nb, rb, ob⟩ := I1.hok b _ eb
  have la : s1.heap.IsList a ia.toArray := ⟨_, oa, rfl, _, rfl⟩
  have lb : s1.heap.IsList b ib.toArray := ⟨_, ob, rfl, _, rfl⟩
  have hh := I1.ok.hd hc
  have al := Heap.lt_size oa
  have bl := Heap.lt_size ob
  refine call_zip_2 la lb fun h' hz hti hto hi1 hi2 hsz k => ?_
  have lena : ia.length = ks.length := by rw [← ra.length, List.length_map]
  have lenb : ib.length = ys.length := rb.length.symm
  have D : PySem.ZipApart (s1.heap.objs.size + 4) (s1.heap.objs.size + 2) (s1.heap.objs.size + 3) s1.heap.objs.size (s1.heap.objs.size + 1) a b := by
    exact zip_apart _ a b al bl
  refine call_list_zip (n := ys.length) hh D hz hti hto hi1 hi2 (la.at fun o e => k _ o e) (lb.at fun o e => k _ o e) (by omega) (fun i hi => ?_) (.inr ?_) fun h2 tk acc c as k2 hS hal hG hacc => ?_
  · have q1 : i < ia.length := by omega
    have q2 : i < ib.length := by omega
    exact ⟨⟨ia[i], by simp [q1]⟩, ib[i], by simp [q2]⟩
  · simp [lenb]
  · have hlen : as.length ≤ ks.length := by omega
    -- the pairs, by keys
    have hkeep : ∀ b o, s1.heap.get? b = some o → h2.get? b = some o := fun b o e => by
      have bl' := Heap.lt_size e
      exact k2 b o (ne_up (d := 4) bl') (ne_up (d := 3) bl') (ne_up (d := 0) bl') (ne_up (d := 1) bl') (k b o e)
    let prs : List (KeyN × Value) := (ks.take ys.length).zip ib
    have plen : prs.length = ys.length := by
      show ((ks.take ys.length).zip ib).length = _
      rw [List.length_zip, List.length_take]; omega
    have pget : ∀ (j : Nat) (q : KeyN × Value), prs[j]? = some q → j < ys.length ∧ ks[j]? = some q.1 ∧ ib[j]? = some q.2 := fun j q e => by
      have hj : j < prs.length := (List.getElem?_eq_some_iff.mp e).1
      have e' : ((ks.take ys.length).zip ib)[j]? = some q := e
      rw [List.getElem?_zip_eq_some] at e'
      obtain ⟨e1, e2⟩ := e'
      rw [List.getElem?_take] at e1
      split at e1
      · exact ⟨by omega, e1, e2⟩
      · cases e1
    have accs : acc = (as.map Value.ref).toArray := by rw [← hacc]
    refine call_dict_of (knd := optKind X.prog X.w) (prs := prs) hh hS rfl rfl rfl (by rw [accs]; simp; rw [plen]; omega) (by rw [plen, sizeLine_eq]; omega) (fun j q' e => ?_) fun h3 tk3 hd3 k3 => ?_
    · obtain ⟨j1, j2, j3⟩ := pget j q' e
      obtain ⟨p, hp⟩ : ∃ p, as[j]? = some p := ⟨as[j]'(by omega), List.getElem?_eq_getElem _⟩
      obtain ⟨x, y, ex, ey, hpair⟩ := hG.pairs j p hp
      obtain ⟨u, hu, hku⟩ := vals_key ra j2
      have ex' : ia[j]? = some x := by simpa using ex
      have ey' : ib[j]? = some y := by simpa using ey
      rw [hu] at ex'; cases ex'
      rw [j3] at ey'; cases ey'
      exact ⟨p, x, by rw [accs]; simp [hp], ⟨_, hpair, rfl, _, rfl⟩, hku⟩
    · have ndp : (prs.map (·.1)).Nodup := by
        have e : prs.map (·.1) = ks.take ys.length := by
          show ((ks.take ys.length).zip ib).map (·.1) = _
          exact zip_fst (by rw [List.length_take, lenb]; omega)
        rw [e]
        exact nd.sublist (List.take_sublist _ _)
      rw [merged_nil_of_nodup _ ndp] at hd3
      obtain ⟨o, es, ep, ho, hex, hdt, _, hpr, _⟩ := hd3
      obtain ⟨f1, f2⟩ := pairs_split hpr
      have e1 : prs.map (fun q => knD q.1) = (ks.take ys.length).map knD := by
        have e : prs.map (·.1) = ks.take ys.length := by
          show ((ks.take ys.length).zip ib).map (·.1) = _
          exact zip_fst (by rw [List.length_take, lenb]; omega)
        rw [← e, List.map_map]; rfl
      have e2 : prs.map (·.2) = ib := by
        show ((ks.take ys.length).zip ib).map (·.2) = _
        exact zip_snd (by rw [List.length_take, lenb]; omega)
      rw [e1] at f1
      rw [e2] at f2
      have big : s1.heap.objs.size ≤ h2.objs.size := by
        have := Heap.lt_size hS
        exact Nat.le_trans (Nat.le_trans (Nat.le_add_right _ 5) (by rw [← hsz]; exact Nat.le_refl _)) (Nat.le_of_lt this)
      have fr : H1 h2.objs.size = none := I1.hok.fresh big
      refine ⟨.ref h2.objs.size, _, I1.laid (t' := tk3) (fun b o e => k3 b o (hkeep b o e)) big (dicO_ok ho hex.1 hdt f1 (by rw [f2]; exact rb)), rfl, q _ fr⟩
end G137
/-! What the head tells: the defs, the error classes. -/
namespace G137
open PySem PySem.Spec PyProof.Rows L2
abbrev Frag := PySem.W.Frag
/-! ### error classes -/
def oexB (K : Frag) (C : Addr) : Bool := match K.lookup C with
  | some ⟨.type "type", _, .cls cd, sl⟩ => (match cd.mro, sl.toList with
    | .ref C' :: bm, [_, _, _, _, some (.builtin n), _] => C' == C && n == "ValueError.__new__" && !cd.hasDel && cd.hasDict && PySem.HandSPX.refsVE bm
    | _, _ => false)
  | _ => false
theorem oexB_ok {K : Frag} {C : Addr} (h : oexB K C = true) : ∃ nm q N bs bm sn sub ab col dd k0 k1 k2 k3 k5, K.lookup C = some (excClassObj nm q C N bs bm true sn sub ab col dd k0 k1 k2 k3 k5 "ValueError.__new__") ∧ PySem.HandSPX.refsVE bm = true := by
  unfold oexB at h
  split at h
  · rename_i dd cd sl ho
    split at h
    · rename_i C' bm k0 k1 k2 k3 n k5 hm hs
      simp only [Bool.and_eq_true, beq_iff_eq, Bool.not_eq_true'] at h
      obtain ⟨⟨⟨⟨rfl, rfl⟩, hdel⟩, hd⟩, hr⟩ := h
      obtain ⟨nm, bs, mro, ns, qn, hdct, sn, sub, ab, col, del⟩ := cd
      dsimp only at hm hdel hd
      subst hm hdel hd
      have hsl : sl = #[k0, k1, k2, k3, some (.builtin "ValueError.__new__"), k5] := by
        obtain ⟨l⟩ := sl
        simp only at hs
        rw [hs]
      subst hsl
      exact ⟨nm, qn, ns, bs, bm, sn, sub, ab, col, dd, k0, k1, k2, k3, k5, ho, hr⟩
    · cases h
  · cases h
def oO (a b : Option (Option Value)) : Bool := decide (a = b)
def oB (a b : Option Bool) : Bool := decide (a = b)
def errB (K : Frag) (D C : Addr) : Bool :=
  oexB K C && (oO (PySem.W.findIn K (.ref C) "__setattr__") (some (some (.builtin "object.__setattr__"))) && (oB (PySem.W.subIn K (.ref C) (.type "BaseException")) (some true) && (decide (PySem.W.typeIn K (.ref C) = some (.type "type")) && (PySem.W.keepIn K (.ref C) &&
  (oB (PySem.W.mroIn K C (.ref D)) (some true) && (oO (PySem.W.ks_superIn K C D "__init__") (some (some (.builtin "ValueError.__init__"))) && (oB (PySem.W.subIn K (.ref C) (.type "ValueError")) (some true) && (oO (PySem.W.findIn K (.ref C) "value") (some none) &&
  (oO (PySem.W.findIn K (.ref C) "__getattribute__") (some (some (.builtin "BaseException.__getattribute__"))) && (oO (PySem.W.findIn K (.ref C) "__getattr__") (some none) && (PySem.W.hasDictIn K C && (oO (PySem.W.findIn K (.ref C) "__class__") (some (some (.builtin "object.__class__"))) &&
  (oB (PySem.W.mroIn K C (.type "object")) (some true) && (oO (PySem.W.findIn K (.ref C) "__init__") (some (some (.ref (He.ma K D "__init__")))) && (PySem.W.clsIn K C).isSome))))))))))))))
structure ErrF (K : Frag) (D C : Addr) : Prop where
  c : ErrC K D C
  k : ErrK K C
  i : PySem.W.findIn K (.ref C) "__init__" = some (some (.ref (He.ma K D "__init__")))
theorem spec_class (K : Frag) : PySem.W.specialIn K (.builtin "object.__class__") "__get__" = some (some (.builtin "getset_descriptor.__get__")) := by kernel_rfl
theorem takes_class (K : Frag) : PySem.W.takesIn K (.builtin "object.__class__") = some true := by kernel_rfl
theorem errB_ok {K : Frag} {D C : Addr} (h : errB K D C = true) : ErrF K D C := by
  unfold errB at h
  simp only [Bool.and_eq_true] at h
  obtain ⟨h1, h2, h3, h4, h5, h6, h7, h8, h9, h10, h11, h12, h13, h14, h15, h16⟩ := h
  have d2 := of_decide_eq_true h2
  have d3 := of_decide_eq_true h3
  have d10 := of_decide_eq_true h10
  have d11 := of_decide_eq_true h11
  exact ⟨⟨⟨oexB_ok h1, d2, d3, of_decide_eq_true h4, h5⟩, of_decide_eq_true h6, of_decide_eq_true h7, of_decide_eq_true h8, of_decide_eq_true h9⟩,
    ⟨⟨d10, d11, d3, h12⟩, ⟨d10, d11, d3, h12, of_decide_eq_true h13, spec_class K, takes_class K, of_decide_eq_true h14⟩, h16⟩, of_decide_eq_true h15⟩
/-! ### the one __init__ -/
abbrev FnI : Type := Option (Str × Str × Arguments × FuncBody × Scope × Addr × List Str × Addr)
def fnI (K : Frag) (a : Addr) : FnI := match K.lookup a with
  | some ⟨_, _, .func fd, _⟩ => some (fd.name, fd.qualname, fd.params, fd.body, fd.scope, fd.globals, fd.closure.map (·.1), fd.builtins)
  | _ => none
def initB (file qual : Str) (K : Frag) (D a : Addr) : Bool := match K.lookup a with
  | some ⟨.type "function", _, .func fd, _⟩ => (match fd.closure, fd.code, fd.defaults with
    | [(_, cc)], .ref cda, .none =>
      (match K.lookup cc with
        | some ⟨_, _, .cell (some (.ref D')), _⟩ => D' == D
        | _ => false) &&
      ((match K.lookup cda with
        | some ⟨_, _, .fields vs, _⟩ => (match (vs[2]? : Option Value) with
          | some (Value.str f _) => f == file
          | _ => false)
        | _ => false) && PySem.W.codeIn K (.ref cda) qual)
    | _, _, _ => false)
  | _ => false
theorem initAt_of {P : Program} {K : Frag} {mg : Str → Option Value} {D a : Addr} {qual : Str} {params : Arguments} {body : List Stmt} {scope : Scope} (e : fnI K a = (some (("__init__" : Str), qual, params, FuncBody.stmts body, scope, mainGlobals, ([("__class__" : Str)] : List Str), builtinsNs) : FnI))
    (b : initB (P.main.file : Str) qual K D a = true) (hc : (PySem.W.clsIn K D).isSome = true) (hs : mg "super" = none) (ht : (P.main.scope.names.lookup ("super" : Str)).isSome = false) (tp : PySem.W.nsIn K cStatics "thirdparty.any" = some none) :
    ∃ cc cda fd, InitAt P K mg D a cc cda qual params body scope fd ∧ fd.defaults = .none ∧ ∃ od osl, K.lookup a = some ⟨.type "function", od, .func fd, osl⟩ := by
  unfold initB at b
  split at b
  · rename_i od fd osl ho
    split at b
    · rename_i n cc cda hcl hco hdf
      simp only [Bool.and_eq_true] at b
      obtain ⟨b1, b2, b3⟩ := b
      unfold fnI at e
      rw [ho] at e
      obtain ⟨n1, n2, n3, n4, n5, n6, n7, n8, n9, n10, n11, n12, n13, n14, n15⟩ := fd
      dsimp only at hcl hco hdf
      subst hcl hco hdf
      simp only [Option.some.injEq, Prod.mk.injEq] at e
      obtain ⟨g1, g2, g3, g4, g5, g6, g7, g8⟩ := e
      have g7' : n = ("__class__" : Str) := by
        have : ([n] : List Str) = [("__class__" : Str)] := g7
        exact (List.cons.inj this).1
      subst g1 g2 g3 g4 g5 g6 g7' g8
      refine ⟨cc, cda, _, ⟨⟨_, _, .none, n9, n10, n11, n12, n14, _, rfl, ho⟩, b3, ?_, ?_, Option.isSome_iff_exists.mp hc, hs, ht, tp⟩, rfl, _, _, ho⟩
      · split at b2
        · rename_i c1 c2 vs c3 hv
          split at b2
          · rename_i f tf hf
            have : f = (P.main.file : Str) := beq_iff_eq.mp b2
            subst this
            exact ⟨_, _, _, _, _, hv, hf⟩
          · cases b2
        · cases b2
      · split at b1
        · rename_i c1 c2 D' c3 hv
          have : D' = D := beq_iff_eq.mp b1
          subst this
          exact ⟨_, _, _, hv⟩
        · cases b1
    · cases b
  · cases b
/-! ### the Hook -/
def clos (o : Obj) : List Addr := match o.data with
  | .func fd => fd.closure.map (·.2)
  | _ => []
def asE (g : Addr → Option Obj) (n : Nat) : List Addr := let l := He.asD g n; (sysModules :: cStatics :: (l ++ l.flatMap fun a => match g a with
  | some o => clos o
  | none => [])).eraseDups
def kG (g : Addr → Option Obj) (n : Nat) : Frag := He.frG g (asE g n)
abbrev AlG : Type := He.AlD × FnI × Bool
def obsG (n : Nat) (fa : List He.Fa) (fn : List He.DefD) (ini : Frag → Addr) (ex : Frag → Bool) (g : Addr → Option Obj) : AlG := (fun K : Frag => (He.obsD fa fn K, fnI K (ini K), ex K)) (kG g n)
structure SaysG (fa : List He.Fa) (fn : List He.DefD) (ini : Frag → Addr) (vi : FnI) (ex : Frag → Bool) (K : Frag) : Prop where
  d : He.SaysD fa fn K
  i : fnI K (ini K) = vi
  x : ex K = true
def hookG (n : Nat) (fa : List He.Fa) (fn : List He.DefD) (ini : Frag → Addr) (vi : FnI) (ex : Frag → Bool) : PySem.W.Hook where
  α := AlG
  obs := fun s => obsG n fa fn ini ex s.heap.get?
  val := fun _ => (He.valD fn, vi, true)
  says := fun _ h => ∃ K : Frag, K.In h ∧ SaysG fa fn ini vi ex K
  of := fun _ s e => ⟨kG s.heap.get? n, He.frG_in, ⟨congrArg (fun z : AlG => z.1) e, congrArg (fun z : AlG => z.2.1) e, congrArg (fun z : AlG => z.2.2) e⟩⟩
  keeps := fun _ _ _ ⟨K, hK, c⟩ k => ⟨K, PySem.W.Frag.In.keeps hK k, c⟩
theorem obsG_eq {n : Nat} {fa : List He.Fa} {fn : List He.DefD} {ini : Frag → Addr} {vi : FnI} {ex : Frag → Bool} {g : Addr → Option Obj} {s : Shared} (h : ∀ a, g a = s.heap.get? a) : obsG n fa fn ini ex g = (hookG n fa fn ini vi ex).obs s := by
  have e : g = s.heap.get? := funext h
  rw [e] <;> rfl
end G137
/-! Sleeping generators stay as they are: a run that is known from a table whose sleeping generators are stuck never wakes one of them. -/
namespace G137
open PySem
open Sem (wp)

def isGenF : Frame → Bool
  | .gen .. => true
  | _ => false
def NoG (fs : List Frame) : Prop := ∀ f ∈ fs, isGenF f = false
def poi : GenState → GenState
  | .suspended _ l c p fs cl => .suspended (fun _ => .unsupported "asleep") l c p fs cl
  | x => x
def isSus : GenState → Bool
  | .suspended .. => true
  | _ => false
theorem poi_seen (x : GenState) : (poi x).seen = x.seen := by cases x <;> rfl
theorem poi_bare (x : GenState) : (poi x).bare = x.bare := by cases x <;> rfl
theorem NoG.split : ∀ {fs : List Frame}, NoG fs → splitAtGen fs = none
  | [], _ => rfl
  | .gen .. :: _, h => by have := h _ List.mem_cons_self; cases this
  | .ret .. :: r, h => by
    show (splitAtGen r).map _ = none
    rw [NoG.split (fs := r) fun f hf => h f (List.mem_cons_of_mem _ hf)]; rfl
theorem NoG.nil : NoG [] := fun _ h => nomatch h
theorem NoG.of_split : ∀ {fs : List Frame}, splitAtGen fs = none → NoG fs
  | [], _ => NoG.nil
  | .gen .. :: _, h => by cases h
  | .ret .. :: r, h => by
    have h' : (splitAtGen r).map _ = none := h
    have h2 : splitAtGen r = none := by
      cases q : splitAtGen r with
      | none => rfl
      | some x => rw [q] at h'; cases h'
    intro f hf
    rcases List.mem_cons.mp hf with rfl | hf
    · rfl
    · exact NoG.of_split h2 f hf

/-- G: the table at the start; a: in the stuck run; b: in the true one -/
structure GSim (G a b : Array GenState) : Prop where
  sz : a.size = b.size
  old : ∀ (i : Nat) (x : GenState), G[i]? = some x → isSus x = true → a[i]? = some (poi x) ∧ b[i]? = some x
  new : ∀ (i : Nat), (∀ x, G[i]? = some x → isSus x = false) → a[i]? = b[i]?
  nog : ∀ (i : Nat) k l c p fs cl, (∀ x, G[i]? = some x → isSus x = false) → a[i]? = some (.suspended k l c p fs cl) → NoG fs
def Old (G : Array GenState) (i : Nat) : Prop := ∃ x, G[i]? = some x ∧ isSus x = true
theorem not_old {G : Array GenState} {i : Nat} (h : ¬ Old G i) : ∀ x, G[i]? = some x → isSus x = false := fun x hx => by
  cases q : isSus x with
  | false => rfl
  | true => exact absurd ⟨x, hx, q⟩ h
def stNoG : GenState → Prop
  | .suspended _ _ _ _ fs _ => NoG fs
  | _ => True
theorem GSim.set {G a b : Array GenState} (h : GSim G a b) {g : Nat} (hg : ¬ Old G g) {x : GenState} (hx : stNoG x) : GSim G (a.setIfInBounds g x) (b.setIfInBounds g x) := by
  refine ⟨by simp [h.sz], fun i y hy hs => ?_, fun i hi => ?_, fun i k l c p fs cl hi e => ?_⟩
  · have hne : g ≠ i := fun z => hg (z ▸ ⟨y, hy, hs⟩)
    rw [Array.getElem?_setIfInBounds_ne hne, Array.getElem?_setIfInBounds_ne hne]
    exact h.old i y hy hs
  · by_cases z : g = i
    · subst z
      rw [Array.getElem?_setIfInBounds_self, Array.getElem?_setIfInBounds_self, h.sz]
    · rw [Array.getElem?_setIfInBounds_ne z, Array.getElem?_setIfInBounds_ne z]
      exact h.new i hi
  · by_cases z : g = i
    · subst z
      rw [Array.getElem?_setIfInBounds_self] at e
      split at e
      · cases e; exact hx
      · cases e
    · rw [Array.getElem?_setIfInBounds_ne z] at e
      exact h.nog i k l c p fs cl hi e
theorem GSim.push {G a b : Array GenState} (h : GSim G a b) {x : GenState} (hx : stNoG x) : GSim G (a.push x) (b.push x) := by
  have lt : ∀ {i : Nat} {y : GenState} {a : Array GenState}, a[i]? = some y → i < a.size := fun {i y a} e => (Array.getElem?_eq_some_iff.mp e).1
  refine ⟨by simp [h.sz], fun i y hy hs => ?_, fun i hi => ?_, fun i k l c p fs cl hi e => ?_⟩
  · obtain ⟨e1, e2⟩ := h.old i y hy hs
    have l1 := lt e1
    have l2 := lt e2
    rw [Array.getElem?_push, Array.getElem?_push, if_neg (Nat.ne_of_lt l1), if_neg (Nat.ne_of_lt l2)]
    exact ⟨e1, e2⟩
  · rw [Array.getElem?_push, Array.getElem?_push, h.sz]
    split
    · rfl
    · exact h.new i hi
  · rw [Array.getElem?_push] at e
    split at e
    · cases e; exact hx
    · exact h.nog i k l c p fs cl hi e
theorem GSim.at {G a b : Array GenState} (h : GSim G a b) {g : Nat} {x : GenState} (e : a[g]? = some x) (hx : isSus x = false) : ¬ Old G g ∧ b[g]? = some x := by
  have hn : ¬ Old G g := by
    rintro ⟨y, hy, hs⟩
    have := (h.old g y hy hs).1
    rw [e] at this
    cases this
    cases y <;> simp_all [poi, isSus]
  exact ⟨hn, (h.new g (not_old hn)).symm.trans e⟩
def EndNoG : End → Prop
  | .ret _ => True
  | .susp _ _ _ _ _ _ fs => NoG fs
theorem EndNoG.st {e : End} (h : EndNoG e) : stNoG e.genState := by
  cases e with
  | ret r => trivial
  | susp => exact h
theorem no_unsup {M : Model} {Γ : Ctx} {p : Pos} {x : String} {fs : List Frame} {s s' : Shared} {e : End} : ¬ Runs M Γ p (.unsupported x) fs s e s' := by
  have h0 : ∀ {Γ : Ctx} {p : Pos} {s s' : Shared} {e : End}, ¬ Runs M Γ p (.unsupported x) [] s e s' := fun h => nomatch h
  intro h
  cases h with
  | segRet h1 _ => exact h0 h1
  | segGen h1 _ => exact h0 h1
  | segSuspOut _ h1 => exact h0 h1
  | segSuspGen _ h1 _ _ => exact h0 h1
theorem runs_sim {M : Model} {G : Array GenState} {Γ : Ctx} {p : Pos} {t : Sem PySem.Fin} {fs : List Frame} {s s' : Shared} {e : End} (h : Runs M Γ p t fs s e s') : ∀ b, GSim G s.gens b → NoG fs →
    ∃ b', Runs M Γ p t fs { s with gens := b } e { s' with gens := b' } ∧ GSim G s'.gens b' ∧ EndNoG e := by
  induction h with
  | done => intro b hb _; exact ⟨b, .done, hb, trivial⟩
  | raise => intro b hb _; exact ⟨b, .raise, hb, trivial⟩
  | again hq _ ih => intro b hb hf; obtain ⟨b', h1, h2, h3⟩ := ih b hb hf; exact ⟨b', .again hq h1, h2, h3⟩
  | rule _ ih => intro b hb hf; obtain ⟨b', h1, h2, h3⟩ := ih b hb hf; exact ⟨b', .rule h1, h2, h3⟩
  | «at» _ ih => intro b hb hf; obtain ⟨b', h1, h2, h3⟩ := ih b hb hf; exact ⟨b', .at h1, h2, h3⟩
  | load ho _ ih => intro b hb hf; obtain ⟨b', h1, h2, h3⟩ := ih b hb hf; exact ⟨b', .load ho h1, h2, h3⟩
  | update ha _ ih => intro b hb hf; obtain ⟨b', h1, h2, h3⟩ := ih b hb hf; exact ⟨b', .update ha h1, h2, h3⟩
  | loadIfAlive _ ih => intro b hb hf; obtain ⟨b', h1, h2, h3⟩ := ih b hb hf; exact ⟨b', .loadIfAlive h1, h2, h3⟩
  | point _ ih => intro b hb hf; obtain ⟨b', h1, h2, h3⟩ := ih b hb hf; exact ⟨b', .point h1, h2, h3⟩
  | alloc _ ih => intro b hb hf; obtain ⟨b', h1, h2, h3⟩ := ih b hb hf; exact ⟨b', .alloc h1, h2, h3⟩
  | fresh _ ih => intro b hb hf; obtain ⟨b', h1, h2, h3⟩ := ih b hb hf; exact ⟨b', .fresh h1, h2, h3⟩
  | ask _ ih => intro b hb hf; obtain ⟨b', h1, h2, h3⟩ := ih b hb hf; exact ⟨b', .ask h1, h2, h3⟩
  | choose hn _ ih => intro b hb hf; obtain ⟨b', h1, h2, h3⟩ := ih b hb hf; exact ⟨b', .choose hn h1, h2, h3⟩
  | os _ ih => intro b hb hf; obtain ⟨b', h1, h2, h3⟩ := ih b hb hf; exact ⟨b', .os h1, h2, h3⟩
  | handled _ ih => intro b hb hf; obtain ⟨b', h1, h2, h3⟩ := ih b hb hf; exact ⟨b', .handled h1, h2, h3⟩
  | genState hg _ ih =>
    rename_i g st Γ₁ p₁ k₁ s₁ e₁ s₁' hr
    intro b hb hf
    obtain ⟨b', h1, h2, h3⟩ := ih b hb hf
    by_cases hO : Old G g
    · obtain ⟨x, hx, hs⟩ := hO
      obtain ⟨e1, e2⟩ := hb.old _ x hx hs
      rw [hg] at e1
      cases e1
      rw [poi_seen] at h1
      exact ⟨b', .genState e2 h1, h2, h3⟩
    · exact ⟨b', .genState ((hb.new _ (not_old hO)).symm.trans hg) h1, h2, h3⟩
  | stack _ ih => intro b hb hf; obtain ⟨b', h1, h2, h3⟩ := ih b hb hf; exact ⟨b', .stack h1, h2, h3⟩
  | thread _ ih => intro b hb hf; obtain ⟨b', h1, h2, h3⟩ := ih b hb hf; exact ⟨b', .thread h1, h2, h3⟩
  | newGen _ ih =>
    intro b hb hf
    obtain ⟨b', h1, h2, h3⟩ := ih (b.push (.fresh _)) (hb.push trivial) hf
    rw [hb.sz] at h1
    exact ⟨b', .newGen h1, h2, h3⟩
  | call _ _ ih1 ih2 =>
    intro b hb hf
    obtain ⟨b1, h1, h2, h3⟩ := ih1 b hb NoG.nil
    obtain ⟨b', k1, k2, k3⟩ := ih2 b1 h2 hf
    exact ⟨b', .call h1 k1, k2, k3⟩
  | callSusp _ ih1 =>
    intro b hb hf
    obtain ⟨b1, h1, h2, h3⟩ := ih1 b hb NoG.nil
    refine ⟨b1, .callSusp h1, h2, fun f hf => ?_⟩
    rcases List.mem_append.mp hf with z | z
    · exact h3 f z
    · rw [List.mem_singleton.mp z]; rfl
  | yield => intro b hb _; exact ⟨b, .yield, hb, NoG.nil⟩
  | @resumeFresh Γ p g l k s c e₁ s₁ e s' hg _ hq _ ih1 ih2 =>
    intro b hb hf
    obtain ⟨hO, hg'⟩ := hb.at hg rfl
    obtain ⟨b1, h1, h2, h3⟩ := ih1 _ (hb.set hO (x := .running) trivial) NoG.nil
    obtain ⟨b', k1, k2, k3⟩ := ih2 _ (h2.set hO h3.st) hf
    exact ⟨b', .resumeFresh hg' h1 hq k1, k2, k3⟩
  | @resumeSuspended Γ p g r l k s k₀ l₀ c₀ p₀ fs cl e₁ s₁ e s' hg hr hq _ ih1 ih2 =>
    intro b hb hf
    by_cases hO : Old G g
    · obtain ⟨x, hx, hs⟩ := hO
      have e1 := (hb.old g x hx hs).1
      rw [hg] at e1
      cases x with
      | suspended k l c p fs cl =>
        simp only [poi, Option.some.injEq, GenState.suspended.injEq] at e1
        obtain ⟨rfl, _⟩ := e1
        exact absurd hr no_unsup
      | _ => cases hs
    · have hg' := (hb.new g (not_old hO)).symm.trans hg
      obtain ⟨b1, h1, h2, h3⟩ := ih1 _ (hb.set hO (x := .running) trivial) (hb.nog g _ _ _ _ _ _ (not_old hO) hg)
      obtain ⟨b', k1, k2, k3⟩ := ih2 _ (h2.set hO h3.st) hf
      exact ⟨b', .resumeSuspended hg' h1 hq k1, k2, k3⟩
  | resumeJustStarted hg hv _ ih =>
    intro b hb hf
    obtain ⟨hO, hg'⟩ := hb.at hg rfl
    obtain ⟨b', h1, h2, h3⟩ := ih b hb hf
    exact ⟨b', .resumeJustStarted hg' hv h1, h2, h3⟩
  | resumeThrowFresh hg _ ih =>
    intro b hb hf
    obtain ⟨hO, hg'⟩ := hb.at hg rfl
    obtain ⟨b', h1, h2, h3⟩ := ih _ (hb.set hO (x := .finished) trivial) hf
    exact ⟨b', .resumeThrowFresh hg' h1, h2, h3⟩
  | resumeRunning hg _ ih =>
    intro b hb hf
    obtain ⟨hO, hg'⟩ := hb.at hg rfl
    obtain ⟨b', h1, h2, h3⟩ := ih b hb hf
    exact ⟨b', .resumeRunning hg' h1, h2, h3⟩
  | resumeFinished hg _ ih =>
    intro b hb hf
    obtain ⟨hO, hg'⟩ := hb.at hg rfl
    obtain ⟨b', h1, h2, h3⟩ := ih b hb hf
    exact ⟨b', .resumeFinished hg' h1, h2, h3⟩
  | segRet _ _ ih1 ih2 =>
    intro b hb hf
    obtain ⟨b1, h1, h2, h3⟩ := ih1 b hb NoG.nil
    obtain ⟨b', k1, k2, k3⟩ := ih2 b1 h2 fun f z => hf f (List.mem_cons_of_mem _ z)
    exact ⟨b', .segRet h1 k1, k2, k3⟩
  | segGen _ _ _ _ => intro b hb hf; have := hf _ List.mem_cons_self; cases this
  | segSuspOut hs _ ih =>
    intro b hb hf
    obtain ⟨b1, h1, h2, h3⟩ := ih b hb NoG.nil
    refine ⟨b1, .segSuspOut hs h1, h2, fun f z => ?_⟩
    rcases List.mem_append.mp z with z | z
    · exact h3 f z
    · exact hf f z
  | segSuspGen hs _ _ _ _ _ => intro b hb hf; rw [hf.split] at hs; cases hs
theorem wakes_sim {M : Model} {G : Array GenState} {Γ : Ctx} {p : Pos} {g : Nat} {r : Resume} {s s' : Shared} {res : GenResult} (h : Wakes M Γ p g r s res s') (b : Array GenState) (hb : GSim G s.gens b) :
    ∃ b', Wakes M Γ p g r { s with gens := b } res { s' with gens := b' } ∧ GSim G s'.gens b' := by
  have h0 : Runs M Γ p (.resume g r [] fun _ => .pure (.done .next)) [] s (.ret (.ok .next)) s' := (Sem.runs_resume_iff M _).mpr ⟨res, s', h, .done⟩
  unfold Wakes at h
  split at h
  · exact h.elim
  · rename_i c hg
    obtain ⟨hO, hg'⟩ := hb.at hg rfl
    split at h
    · obtain ⟨e₁, s₁, hr, hq, rfl, rfl⟩ := h
      obtain ⟨b1, h1, h2, h3⟩ := runs_sim hr _ (hb.set hO (x := .running) trivial) NoG.nil
      refine ⟨b1.setIfInBounds g e₁.genState, ?_, h2.set hO h3.st⟩
      unfold Wakes
      rw [show ({ s with gens := b } : Shared).gens[g]? = _ from hg']
      exact ⟨e₁, _, h1, hq, rfl, rfl⟩
    · rename_i v hv
      obtain ⟨rfl, rfl⟩ := h
      refine ⟨b, ?_, hb⟩
      exact Sem.wakes_justStarted M Γ hg' (fun z => hv (by rw [z]))
    · obtain ⟨rfl, rfl⟩ := h
      refine ⟨b.setIfInBounds g .finished, ?_, hb.set hO trivial⟩
      unfold Wakes
      rw [show ({ s with gens := b } : Shared).gens[g]? = _ from hg']
      exact ⟨rfl, rfl⟩
  · rename_i k₀ l₀ c₀ p₀ fs cl hg
    obtain ⟨e₁, s₁, hr, hq, rfl, rfl⟩ := h
    by_cases hO : Old G g
    · obtain ⟨x, hx, hs⟩ := hO
      have e1 := (hb.old g x hx hs).1
      rw [hg] at e1
      cases x with
      | suspended k l c p fs cl =>
        simp only [poi, Option.some.injEq, GenState.suspended.injEq] at e1
        obtain ⟨rfl, _⟩ := e1
        exact absurd hr no_unsup
      | _ => cases hs
    · have hg' := (hb.new g (not_old hO)).symm.trans hg
      obtain ⟨b1, h1, h2, h3⟩ := runs_sim hr _ (hb.set hO (x := .running) trivial) (hb.nog g _ _ _ _ _ _ (not_old hO) hg)
      refine ⟨b1.setIfInBounds g e₁.genState, ?_, h2.set hO h3.st⟩
      unfold Wakes
      rw [show ({ s with gens := b } : Shared).gens[g]? = _ from hg']
      exact ⟨e₁, _, h1, hq, rfl, rfl⟩
  · rename_i hg
    obtain ⟨hO, hg'⟩ := hb.at hg rfl
    obtain ⟨rfl, hs⟩ := h
    rw [hs]
    refine ⟨b, ?_, hb⟩
    unfold Wakes
    rw [show ({ s with gens := b } : Shared).gens[g]? = _ from hg']
    exact ⟨rfl, rfl⟩
  · rename_i hg
    obtain ⟨hO, hg'⟩ := hb.at hg rfl
    obtain ⟨rfl, hs⟩ := h
    rw [hs]
    refine ⟨b, ?_, hb⟩
    unfold Wakes
    rw [show ({ s with gens := b } : Shared).gens[g]? = _ from hg']
    exact ⟨rfl, rfl⟩

theorem returns_sim {M : Model} {G : Array GenState} {Γ : Ctx} {p : Pos} {s s' : Shared} {r : Result} (h : Returns M Γ p s r s') (b : Array GenState) (hb : GSim G s.gens b) : ∃ b', Returns M Γ p { s with gens := b } r { s' with gens := b' } ∧ GSim G s'.gens b' := by
  obtain ⟨b', h1, h2, _⟩ := runs_sim h b hb NoG.nil
  exact ⟨b', h1, h2⟩
def SimP (G : Array GenState) {β : Type} (Q : β → Pos → Shared → Prop) : β → Pos → Shared → Prop := fun a p s => ∃ s1, Q a p s1 ∧ ∃ b, s = { s1 with gens := b } ∧ GSim G s1.gens b
theorem wp_sim {α : Type} (M : Model) (Γ : Ctx) (G : Array GenState) (t : Sem α) : ∀ (Q : α → Pos → Shared → Prop) (E : Value → Pos → Shared → Prop) (p : Pos) (s : Shared), wp M Γ t Q E p s → ∀ b, GSim G s.gens b →
    wp M Γ t (SimP G Q) (SimP G E) p { s with gens := b } := by
  induction t with
  | pure a => intro Q E p s h b hb; exact ⟨s, h, b, rfl, hb⟩
  | raise e => intro Q E p s h b hb; exact ⟨s, h, b, rfl, hb⟩
  | unsupported _ => intro Q E p s h; exact h.elim
  | finish _ => intro Q E p s h; exact h.elim
  | rule _ k ih => intro Q E p s h b hb; exact ih () Q E p s h b hb
  | «at» p' k ih => intro Q E p s h b hb; exact ih () Q E p' s h b hb
  | load a _ k ih => intro Q E p s h b hb; obtain ⟨o, ho, h⟩ := h; exact ⟨o, ho, ih o Q E p s h b hb⟩
  | update a _ f k ih => intro Q E p s h b hb; exact ⟨h.1, ih () Q E p _ h.2 b hb⟩
  | loadIfAlive a k ih => intro Q E p s h b hb; exact ih _ Q E p s h b hb
  | point _ k ih => intro Q E p s h b hb; exact ih () Q E p s h b hb
  | register _ _ => intro Q E p s h; exact h.elim
  | alloc o k ih => intro Q E p s h b hb; exact ih _ Q E p _ h b hb
  | fresh k ih => intro Q E p s h b hb; exact ih _ Q E p _ h b hb
  | ask k ih => intro Q E p s h b hb; exact ih _ Q E p s h b hb
  | choose src m k ih => intro Q E p s h b hb; exact ⟨h.1, ih _ Q E p _ h.2 b hb⟩
  | os q _ k ih => intro Q E p s h b hb; exact ih _ Q E p _ h b hb
  | call c hd _ _ k ih =>
    intro Q E p s h b hb
    obtain ⟨r, s', hr, h⟩ := h
    obtain ⟨b', h1, h2⟩ := returns_sim hr b hb
    exact ⟨r, _, h1, ih r Q E p s' h b' h2⟩
  | handled own k ih => intro Q E p s h b hb; exact ih _ Q E p s h b hb
  | genState g k ih =>
    intro Q E p s h b hb
    obtain ⟨st, hs, h⟩ := h
    have q := ih _ Q E p s h b hb
    by_cases hO : Old G g
    · obtain ⟨x, hx, hs'⟩ := hO
      obtain ⟨e1, e2⟩ := hb.old g x hx hs'
      rw [hs] at e1
      cases e1
      rw [poi_seen] at q
      exact ⟨x, e2, q⟩
    · exact ⟨st, (hb.new g (not_old hO)).symm.trans hs, q⟩
  | newGen c k ih =>
    intro Q E p s h b hb
    have q := ih s.gens.size Q E p _ h (b.push (.fresh c)) (hb.push trivial)
    rw [hb.sz] at q
    exact q
  | resume g r _ k ih =>
    intro Q E p s h b hb
    obtain ⟨res, s', hw, h⟩ := h
    obtain ⟨b', h1, h2⟩ := wakes_sim hw b hb
    exact ⟨res, _, h1, ih res Q E p s' h b' h2⟩
  | yield _ _ _ _ => intro Q E p s h; exact h.elim
  | stack k ih => intro Q E p s h b hb; exact ih _ Q E p s h b hb
  | fork _ _ => intro Q E p s h; exact h.elim
  | thread k ih => intro Q E p s h b hb; exact ih _ Q E p s h b hb
  | await _ _ _ _ _ => intro Q E p s h; exact h.elim
def SimS (G : Array GenState) {β : Type} (Q : β → Shared → Prop) : β → Shared → Prop := fun a s => ∃ s1, Q a s1 ∧ ∃ b, s = { s1 with gens := b } ∧ GSim G s1.gens b
theorem wpAny_sim {α : Type} {M : Model} {A : Around} {G : Array GenState} {t : Sem α} {Q : α → Shared → Prop} {E : Value → Shared → Prop} {s : Shared} (h : wpAny M A t Q E s) {b : Array GenState} (hb : GSim G s.gens b) : wpAny M A t (SimS G Q) (SimS G E) { s with gens := b } :=
  fun Γ p hΓ => wp_sim M Γ G t _ _ p s (h Γ p hΓ) b hb
/-- the table with its sleeping generators stuck -/
def pois (s : Shared) : Shared := { s with gens := s.gens.map poi }
theorem GSim.start (G : Array GenState) : GSim G (G.map poi) G := by
  refine ⟨by simp, fun i x hx hs => ⟨by simp [hx], hx⟩, fun i hi => ?_, fun i k l c p fs cl hi e => ?_⟩
  · cases q : G[i]? with
    | none => simp [q]
    | some x =>
      have := hi x q
      cases x <;> simp_all [poi, isSus]
  · cases q : G[i]? with
    | none => simp [q] at e
    | some x =>
      have := hi x q
      cases x <;> simp_all [poi, isSus]
theorem wpAny_pois {α : Type} {M : Model} {A : Around} {t : Sem α} {Q : α → Shared → Prop} {E : Value → Shared → Prop} {s : Shared} (h : wpAny M A t Q E (pois s)) : wpAny M A t (SimS s.gens Q) (SimS s.gens E) s :=
  wpAny_sim h (GSim.start s.gens)
open PyProof.Rows in
theorem GSim.bare {G a b : Array GenState} (h : GSim G a b) (ha : AllBare a) : AllBare b := by
  intro y hy
  obtain ⟨i, hi, rfl⟩ := Array.mem_iff_getElem.mp hy
  by_cases hO : Old G i
  · obtain ⟨x, hx, hs⟩ := hO
    obtain ⟨e1, e2⟩ := h.old i x hx hs
    rw [Array.getElem?_eq_getElem hi] at e2
    rw [Option.some.inj e2, ← poi_bare]
    exact ha _ (Array.mem_of_getElem? e1)
  · have e := h.new i (not_old hO)
    rw [Array.getElem?_eq_getElem hi] at e
    exact ha _ (Array.mem_of_getElem? e)
open PyProof.Rows in
theorem pois_bare {s : Shared} (h : AllBare s.gens) : AllBare (pois s).gens := by
  intro y hy
  obtain ⟨x, hx, rfl⟩ := Array.mem_map.mp hy
  rw [poi_bare]
  exact h x hx
theorem GSim.kept {G a b : Array GenState} (h : GSim G a b) {i : Nat} {x : GenState} (hx : G[i]? = some x) (hs : isSus x = true) : b[i]? = some x := (h.old i x hx hs).2
end G137
/-! One segment of a generator's run, its wake, next of it. -/
namespace G137
open PySem PySem.Spec PyProof.Rows L2 GenW

section
variable {M : Model} {A : Around} {Po : End → Shared → Prop} {c : Code} {fs : List Frame} {s : Shared} {α β : Type}
def Sg (M : Model) (A : Around) (Po : End → Shared → Prop) (c : Code) (t : Sem PySem.Fin) (fs : List Frame) (s : Shared) : Prop := ∀ Γ p, Γ.code = c → Γ.Woken A → ∃ e s', Runs M Γ p t fs s e s' ∧ Po e s'
theorem sg_mono {Po' : End → Shared → Prop} {t : Sem PySem.Fin} (h : Sg M A Po c t fs s) (i : ∀ e s', Po e s' → Po' e s') : Sg M A Po' c t fs s := fun Γ p hc hΓ =>
  let ⟨e, s', hr, hp⟩ := h Γ p hc hΓ
  ⟨e, s', hr, i e s' hp⟩
theorem sg_wrap {m : Sem α} {K : α → Sem PySem.Fin} {J : Value → Sem PySem.Fin} {gd : Bool → Bool} {lv : List Value → List Value} (h : wpAny M (A.over c fs) m (fun a s' => Sg M A Po c (K a) fs s') (fun x s' => Sg M A Po c (J x) fs s') s) :
    Sg M A Po c (m.wrap K J gd lv) fs s := by
  rintro Γ p rfl hΓ
  exact runs_wrap_of_wp K J gd lv m (h (Γ.over fs) p (hΓ.over fs)) (fun a p' s' h' => h' Γ p' rfl hΓ) (fun x p' s' h' => h' Γ p' rfl hΓ)
theorem sg_bind_wrap {m : Sem α} {f : α → Sem β} {K : β → Sem PySem.Fin} {J : Value → Sem PySem.Fin} {gd : Bool → Bool} {lv : List Value → List Value}
    (h : wpAny M (A.over c fs) m (fun a s' => Sg M A Po c ((f a).wrap K J gd lv) fs s') (fun x s' => Sg M A Po c (J x) fs s') s) : Sg M A Po c ((m >>= f).wrap K J gd lv) fs s := by
  rw [Sem.bind_eq_wrap', Sem.wrap_wrap]; exact sg_wrap h
theorem sg_bind {m : Sem α} {K : α → Sem PySem.Fin} (h : wpAny M (A.over c fs) m (fun a s' => Sg M A Po c (K a) fs s') (fun x s' => Sg M A Po c (.raise x) fs s') s) : Sg M A Po c (m >>= K) fs s := by
  rw [Sem.bind_eq_wrap']; exact sg_wrap h
theorem sg_at {p' : Pos} {k : Unit → Sem PySem.Fin} (h : Sg M A Po c (k ()) fs s) : Sg M A Po c (.at p' k) fs s :=
  sg_wrap (m := standAt p') (K := k) (J := .raise) (gd := id) (lv := id) (wpAny_standAt h)
theorem sg_point {l : List Value} {k : Unit → Sem PySem.Fin} (h : Sg M A Po c (k ()) fs s) : Sg M A Po c (.point l k) fs s :=
  sg_wrap (m := point) (K := k) (J := .raise) (gd := id) (lv := fun _ => l) (wpAny_point h)
theorem sg_call {c' : Code} {h : Option Value} {g : Bool} {l : List Value} {k : Result → Sem PySem.Fin} (hc : ∀ p, Sg M A Po c' (M.den c') (.ret k h g l c p [] :: fs) s) : Sg M A Po c (.call c' h g l k) fs s := by
  rintro Γ p rfl hΓ
  obtain ⟨e, s', hr, he⟩ := hc p (Γ.goto c') p rfl (hΓ.goto c')
  exact ⟨e, s', runs_call_seg hr, he⟩
theorem sg_leaf {k : Result → Sem PySem.Fin} {h : Option Value} {g : Bool} {l : List Value} {c₁ : Code} {p₁ : Pos} {kp : List Value} (r : Result) (hk : Sg M A Po c₁ (k r) fs s) : Sg M A Po c (leafOf r) (.ret k h g l c₁ p₁ kp :: fs) s := by
  rintro Γ p rfl hΓ
  obtain ⟨e, s', hr, he⟩ := hk (Γ.goto c₁) p₁ rfl (hΓ.goto c₁)
  exact ⟨e, s', Runs.pop r hr, he⟩
theorem sg_again {c' : Code} (hq : c'.quiet = true) (hc : Sg M A Po c' (M.den c') fs s) : Sg M A Po c (.pure (.again c')) fs s := by
  rintro Γ p rfl hΓ
  obtain ⟨e, s', hr, he⟩ := hc (Γ.goto c') p rfl (hΓ.goto c')
  exact ⟨e, s', Runs.head (c₁ := c') (fun _ _ x => .again hq x) hr, he⟩
theorem sg_end (r : Result) (h : Po (.ret r) s) : Sg M A Po c (leafOf r) [] s := by
  rintro Γ p rfl _
  exact ⟨.ret r, s, Runs.leaf r, h⟩
theorem sg_yield {v : Value} {g : Bool} {l : List Value} {k : Resume → Sem PySem.Fin} (hfs : splitAtGen fs = none) (h : ∀ p, Po (.susp v g l k c p fs) s) : Sg M A Po c (.yield v g l k) fs s := by
  rintro Γ p rfl _
  exact ⟨_, s, Runs.yield' fs hfs, h p⟩
/-- a generator's state goes on so -/
def GoesS (M : Model) (A : Around) (Po : End → Shared → Prop) (gs : GenState) (s : Shared) : Prop := match gs with
  | .fresh c => Sg M A Po c (M.den c) [] s
  | .suspended k _ c _ fs _ => Sg M A Po c (k (.send .none)) fs s
  | _ => False
theorem goesS_mono {Po' : End → Shared → Prop} {gs : GenState} (h : GoesS M A Po gs s) (i : ∀ e s', Po e s' → Po' e s') : GoesS M A Po' gs s := by
  cases gs with
  | fresh c => exact sg_mono h i
  | suspended => exact sg_mono h i
  | running => exact h.elim
  | finished => exact h.elim
theorem wpAny_resumeS {E : Value → Shared → Prop} {g : Nat} {gs : GenState} {l : List Value} {k : GenResult → Sem α} {Q : α → Shared → Prop} (hg : s.gens[g]? = some gs) (hgo : GoesS M A Po gs (s.setGen g .running))
    (hk : ∀ e s₁, Po e s₁ → e.quiet = true ∧ wpAny M A (k e.result) Q E (s₁.setGen g e.genState)) : wpAny M A (.resume g (.send .none) l k) Q E s := by
  intro Γ p hΓ
  rw [Sem.wp_resume]
  have hB : ∀ c, (Γ.wake c p).Woken A := fun c => hΓ.wake c p
  cases gs with
  | fresh c =>
    obtain ⟨e₁, s₁, hr, he⟩ := hgo (Γ.wake c p) p rfl (hB c)
    obtain ⟨hq, hw⟩ := hk e₁ s₁ he
    exact ⟨_, _, by unfold Wakes; rw [hg]; exact ⟨e₁, s₁, hr, hq, rfl, rfl⟩, hw Γ p hΓ⟩
  | suspended k₀ l₀ c₀ p₀ fs₀ cl =>
    obtain ⟨e₁, s₁, hr, he⟩ := hgo (Γ.wake c₀ p) p₀ rfl (hB c₀)
    obtain ⟨hq, hw⟩ := hk e₁ s₁ he
    exact ⟨_, _, by unfold Wakes; rw [hg]; exact ⟨e₁, s₁, hr, hq, rfl, rfl⟩, hw Γ p hΓ⟩
  | running => exact hgo.elim
  | finished => exact hgo.elim
end
section
variable {P : Program} {w : World} {A : Around} {E : Value → Shared → Prop} {s : Shared}
/-- a wake of it yields, or ends it -/
def NextPo (g : Nat) (Qy : Value → Shared → Prop) (Qe : Shared → Prop) : End → Shared → Prop := fun e s₁ => match e with
  | .susp v .. => e.quiet = true ∧ Qy v (s₁.setGen g e.genState)
  | .ret (.ok (.ret .none)) => ∀ h', (∀ b o, s₁.heap.get? b = some o → h'.get? b = some o) → Qe { s₁.setGen g .finished with heap := h' }
  | _ => False
theorem next_genS {a : Addr} {g : Nat} {gs : GenState} {Q : Option Value → Shared → Prop} (hh : A.handled = none) (hl : s.heap.NoLimit) (hroom : A.depth < recursionLimit) (hg : s.heap.IsGen a g) (hgs : s.gens[g]? = some gs)
    (hgo : GoesS (model P w) A.in1 (NextPo g (fun v => Q (some v)) (Q none)) gs (s.setGen g .running)) : wpAny (model P w) A (pyNext (.ref a)) Q E s := by
  unfold pyNext
  refine wpAny_bind (wpAny_attempt (wpAny_callSpecial?_slot (name := Str.ofString "__next__") hg.typeIs slot_gen_next
    (wpAny_call_entry slot_gen_next hg.typeIs entry_gen_next ?_ (args_gen_next _))))
  show wpAny _ A.in1 (Builtin.Generator.genWake (.ref a) (.send .none)) _ _ s
  unfold Builtin.Generator.genWake
  refine wpAny_bind (wpAny_holding (wpAny_genNumber hg (wpAny_bind (wpAny_genState hgs ?_))))
  cases gs with
  | running => exact hgo.elim
  | finished => exact hgo.elim
  | _ =>
    refine wpAny_bind (wpAny_roomToWake hl hroom ?_)
    show wpAny _ A.in1 (.resume g (.send .none) [] _) _ _ s
    refine wpAny_resumeS hgs hgo (fun e s₁ he => ?_)
    cases e with
    | susp v g' l k c p fs =>
      obtain ⟨hq, hQ⟩ := he
      exact ⟨hq, wpAny_pure ⟨v, rfl, wpAny_pure hQ⟩⟩
    | ret r =>
      cases r with
      | error x => exact he.elim
      | ok f =>
        cases f with
        | ret u =>
          cases u with
          | none =>
            refine ⟨rfl, ?_⟩
            show wpAny _ A.in1 (newExc (.type "StopIteration") [] >>= _) _ _ _
            refine wpAny_bind ?_
            simp only [newExc, newTuple]
            refine wpAny_bind (wpAny_newObj_type ?_ (by size_fits))
            refine wpAny_bind (m := firstArgMember _ _) (wpAny_of_eq (a := Value.none) (by first | rfl | (simp only [firstArgMember]; rfl)) ?_)
            refine wpAny_newObj_type ?_ (by size_fits)
            simp only [raiseNew]
            refine wpAny_bind (wpAny_bind (wpAny_handled ?_))
            first | rw [show A.in1.handled = none from hh] | rw [hh]
            refine wpAny_throw ?_
            refine wpAny_bind (wpAny_isInstance (T := "StopIteration") (b := true) ⟨_, Heap.get?_push_size _ rfl, rfl⟩ isSubtype_stop ?_)
            exact wpAny_pure (he _ fun b o hb => Heap.get?_push_of_some _ (Heap.get?_push_of_some _ hb))
          | _ => exact he.elim
        | _ => exact he.elim
/-- __next__ of a generator that ends -/
theorem special_genS {a : Addr} {g : Nat} {gs : GenState} {Q : Option Value → Shared → Prop} (hh : A.handled = none) (hl : s.heap.NoLimit) (hroom : A.depth < recursionLimit) (hg : s.heap.IsGen a g) (hgs : s.gens[g]? = some gs)
    (hgo : GoesS (model P w) A.in1 (fun e s₁ => e = .ret (.ok (.ret .none)) ∧ ∀ x h', StopX x h' → (∀ b o, s₁.heap.get? b = some o → h'.get? b = some o) → E x { s₁.setGen g .finished with heap := h' }) gs (s.setGen g .running)) :
    wpAny (model P w) A (callSpecial? (.ref a) "__next__") Q E s := by
  refine wpAny_callSpecial?_slot (name := Str.ofString "__next__") hg.typeIs slot_gen_next (wpAny_call_entry slot_gen_next hg.typeIs entry_gen_next ?_ (args_gen_next _))
  show wpAny _ A.in1 (Builtin.Generator.genWake (.ref a) (.send .none)) _ _ s
  unfold Builtin.Generator.genWake
  refine wpAny_bind (wpAny_holding (wpAny_genNumber hg (wpAny_bind (wpAny_genState hgs ?_))))
  cases gs with
  | running => exact hgo.elim
  | finished => exact hgo.elim
  | _ =>
    refine wpAny_bind (wpAny_roomToWake hl hroom ?_)
    show wpAny _ A.in1 (.resume g (.send .none) [] _) _ _ s
    refine wpAny_resumeS hgs hgo (fun e s₁ he => ?_)
    obtain ⟨rfl, he⟩ := he
    refine ⟨rfl, ?_⟩
    show wpAny _ A.in1 (newExc (.type "StopIteration") [] >>= _) _ _ _
    refine wpAny_bind ?_
    simp only [newExc, newTuple]
    refine wpAny_bind (wpAny_newObj_type ?_ (by size_fits))
    refine wpAny_bind (m := firstArgMember _ _) (wpAny_of_eq (a := Value.none) (by first | rfl | (simp only [firstArgMember]; rfl)) ?_)
    refine wpAny_newObj_type ?_ (by size_fits)
    simp only [raiseNew]
    refine wpAny_bind (wpAny_bind (wpAny_handled ?_))
    first | rw [show A.in1.handled = none from hh] | rw [hh]
    refine wpAny_throw ?_
    refine he _ _ ⟨_, _, _, rfl, Heap.get?_push_size _ rfl, rfl, rfl, ?_⟩ fun b o hb => Heap.get?_push_of_some _ (Heap.get?_push_of_some _ hb)
    first
      | rfl
      | (rw [Array.getElem?_append_left (by decide)]; rfl)
      | kernel_rfl
end
end G137
/-! The generator's context, made anew at each wake; the consumer's state behind a wake; the statements of a generator in one segment. -/
namespace G137
open PySem PySem.Spec PyProof.Rows L2 GenW

/-! ### the heap cut at L -/
def cut (L : Nat) (h : Heap) : Heap := { h with objs := h.objs.extract 0 L }
theorem cut_size {L : Nat} {h : Heap} (hL : L ≤ h.objs.size) : (cut L h).objs.size = L := by
  show (h.objs.extract 0 L).size = L
  simp; omega
theorem cut_get {L : Nat} {h : Heap} {b : Nat} (hb : b < L) : (cut L h).get? b = h.get? b := by
  have e : (cut L h).objs[b]? = h.objs[b]? := by
    show (h.objs.extract 0 L)[b]? = _
    rw [Array.getElem?_extract]
    split
    · rw [Nat.zero_add]
    · rename_i hn
      have : h.objs.size ≤ b := by omega
      exact (Array.getElem?_eq_none this).symm
  unfold Heap.get?
  rw [e]
theorem of_cut {L : Nat} {h : Heap} {b : Nat} {o : Obj} (e : (cut L h).get? b = some o) : b < L ∧ h.get? b = some o := by
  have hb : b < L := by
    have : b < (cut L h).objs.size := Heap.lt_size e
    have e2 : (cut L h).objs.size = min L h.objs.size := by
      show (h.objs.extract 0 L).size = _
      simp
    omega
  exact ⟨hb, by rw [← cut_get hb]; exact e⟩
def cutS (L : Nat) (s : Shared) : Shared := { s with heap := cut L s.heap }

theorem _root_.L2.Inv.gensTo {X : Cx} {pins : List (Addr × Obj)} {σ : L2.St} {H : Hp} {s : Shared} (I : Inv X pins σ H s) {g : Array GenState} (hg : AllBare g) : Inv X pins σ H { s with gens := g } :=
  ⟨I.ok, I.os, hg, I.base, I.loc, I.cell, I.free, I.freeC, I.pin, I.hok, I.len⟩
/-- the consumer, behind a wake -/
theorem _root_.L2.Inv.resumed {X : Cx} {pins : List (Addr × Obj)} {σ : L2.St} {H H' : Hp} {s s' : Shared} {L : Addr} (I : Inv X pins σ H s) (hL : X.env.locals < L) (hcell : ∀ x c, X.env.cells.lookup x = some c → c < L) (hpin : ∀ p ∈ X.pn ++ pins, p.1 < L)
    (ho : s'.os = s.os) (u : Un (frs X.stack) [] H H' (cut L s.heap) s'.heap) (hok : HOk X.prog X.w H' s'.heap) (hg : AllBare s'.gens) : Inv X pins σ H' s' := by
  obtain ⟨h', g', d', t', o'⟩ := s'
  have e : o' = s.os := ho
  subst e
  have lt : ∀ b o, b ∉ (List.range s.heap.objs.size).filter (fun b => decide (L ≤ b)) → s.heap.get? b = some o → (cut L s.heap).get? b = some o := fun b o hb e => by
    have hbL : b < L := by
      refine Nat.lt_of_not_le fun z => hb (List.mem_filter.mpr ⟨List.mem_range.mpr (Heap.lt_size e), decide_eq_true z⟩)
    rw [cut_get hbL]; exact e
  have ge : ∀ b ∈ (List.range s.heap.objs.size).filter (fun b => decide (L ≤ b)), L ≤ b := fun b hb => of_decide_eq_true (List.mem_filter.mp hb).2
  obtain ⟨m, ⟨o, es, ep, hoL, r⟩, _⟩ := id I.loc
  obtain ⟨sl, hLo⟩ := u.any (show (cut L s.heap).get? X.env.locals = some o by rw [cut_get hL]; exact hoL) I.free (by simp)
  refine I.step (ch := (List.range s.heap.objs.size).filter (fun b => decide (L ≤ b))) (fun b hb => ⟨.inr ?_, ?_, fun x c e z => ?_, fun p hp z => ?_⟩) (fun b o hbL hb hc e n => u.keep b o (lt b o hc e) n (fun z => (List.mem_cons.mp (I.stkSub b z)).elim hbL hb) (by simp))
    (fun b o _ _ hc e n => u.any (lt b o hc e) n (by simp)) (fun b o hc e n => u.free b o (lt b o hc e) n (by simp)) (fun b o hc e => u.there b o (lt b o hc e) (by simp)) u.tups u.frzs u.tbls (fun m' hm => ?_) hok hg
  · exact Nat.le_trans I.ok.above (Nat.le_of_lt (Nat.lt_of_lt_of_le hL (ge b hb)))
  · exact Nat.ne_of_gt (Nat.lt_of_lt_of_le hL (ge b hb))
  · exact absurd (Nat.lt_of_lt_of_le (hcell x c e) (ge b hb)) (by rw [z]; exact Nat.lt_irrefl _)
  · exact absurd (Nat.lt_of_lt_of_le (hpin p hp) (ge b hb)) (by rw [z]; exact Nat.lt_irrefl _)
  · obtain ⟨o', es', ep', ho', r'⟩ := hm
    rw [hoL] at ho'; cases ho'
    exact ⟨_, es', ep', hLo, r'⟩

/-! ### the generator's context -/
section
variable (P : Program) (w : World) (K : PySem.W.Frag) (mg : Str → Option Value) (base : Heap) (N : List Str) (qual : Str) (scope : Scope) (f : Addr) (cd : Value)
def gX (A : Around) (outer : List Env) (L : Addr) (s : Shared) (H : Hp) : Cx where
  prog := P
  w := w
  K := K
  mg := mg
  base := base
  A := A.deeper (envOfC qual scope L f cd)
  N := N
  s_0 := s
  H_0 := H
  env := envOfC qual scope L f cd
  outer := outer
  stack := envOfC qual scope L f cd :: outer
  ex := []
  calm := true
  fn := fun _ => true
  pn := []
  xe := fun _ _ => False
end
section
variable {P : Program} {w : World} {K : PySem.W.Frag} {mg : Str → Option Value} {base : Heap} {N ps : List Str} {qual : Str} {scope : Scope} {f : Addr} {cd : Value} {A A' : Around} {outer : List Env} {L : Addr}
/-- a generator def without cells -/
def NoCells (scope : Scope) : Prop := ∀ n, cellsFrom n scope.names [] = []
theorem inv_new {s s1 : Shared} {H : Hp} {us : List Value} {vs : List V} (S : GScope N ps scope) (hd : A.handled = none) (e0 : Env0 P w K mg base A outer s H) (hl : vs.length = ps.length) (r : Vals vs us)
    (x : InCallC s s.heap.objs.size (bindL (envOfC qual scope s.heap.objs.size f cd).kindOf (ps.zip us) fun _ => none) (cellsFrom (s.heap.objs.size + 1) scope.names []) (bindC (envOfC qual scope s.heap.objs.size f cd).kindOf (ps.zip us) fun _ => none) s1) :
    Inv (gX P w K mg base N qual scope f cd A outer s.heap.objs.size s H) [] (start N vs) H s1 := by
  have I := inv_startG (f := f) (cd := cd) (qual := qual) (E := fun _ _ _ => False) S hd e0 hl r x
  exact ⟨⟨I.ok.mod, I.ok.kind, I.ok.glob, I.ok.blt, I.ok.above, I.ok.inj, I.ok.has, I.ok.cab, I.ok.hd, I.ok.frames, I.ok.stk, I.ok.exf, I.ok.bs, I.ok.bsz, I.ok.noex, I.ok.exfs, I.ok.funs, I.ok.frf⟩, I.os, I.bare, I.base, I.loc, I.cell, I.free, I.freeC, I.pin, I.hok, I.len⟩
theorem inv_wake {s0 s s2 : Shared} {H0 H H2 : Hp} {pins : List (Addr × Obj)} {σ : L2.St} (I : Inv (gX P w K mg base N qual scope f cd A outer L s0 H0) pins σ H s) (hc : NoCells scope) (e0 : Env0 P w K mg base A' outer s2 H2) (hd : A'.handled = none)
    (hfr : ∀ b ∈ frs outer, b < L) (hbz : base.objs.size ≤ L) (hsz : L ≤ s2.heap.objs.size) (hLs : ∀ o, s.heap.get? L = some o → s2.heap.get? L = some o) (hL2 : H2 L = none) (hpin : ∀ p ∈ pins, s2.heap.get? p.1 = some p.2 ∧ H2 p.1 = none) :
    Inv (gX P w K mg base N qual scope f cd A' outer L (cutS L s2) H2) pins σ H2 s2 := by
  have noc : ∀ x c, (envOfC qual scope L f cd).cells.lookup x ≠ some c := fun x c e => by
    have e' : (cellsFrom (L + 1) scope.names []).lookup x = some c := e
    rw [hc] at e'; cases e'
  have csz : (cut L s2.heap).objs.size = L := cut_size hsz
  have bget : ∀ b o, base.get? b = some o → b < L := fun b o e => Nat.lt_of_lt_of_le (Heap.lt_size e) hbz
  refine ⟨⟨I.ok.mod, I.ok.kind, I.ok.glob, I.ok.blt, ?_, I.ok.inj, I.ok.has, fun x c _ e => (noc x c e).elim, fun _ => hd, Around.frames_deeper e0.frames, .inr ⟨rfl, rfl⟩, (fun b z => nomatch z), (fun b o e => ⟨?_, (e0.bs b o e).2⟩), ?_, (fun b _ _ z => nomatch z), (fun b z => nomatch z), ?_, e0.frf⟩,
    rfl, e0.bare, Un.kept fun b u e => (of_cut e).2, ?_, fun x c e => (noc x c e).elim, hL2, fun x c e => (noc x c e).elim, fun p hp => ?_, e0.hok, I.len⟩
  · show (cut L s2.heap).objs.size ≤ L
    rw [csz]; exact Nat.le_refl _
  · show (cut L s2.heap).get? b = some o
    rw [cut_get (bget b o e)]
    exact (e0.bs b o e).1
  · show base.objs.size ≤ (cut L s2.heap).objs.size
    rw [csz]; exact hbz
  · show (cut L s2.heap).FunFrames base outer
    have all : ∀ (l : List Env), (∀ b ∈ frs l, b < L) → s2.heap.FunFrames base l → (cut L s2.heap).FunFrames base l := by
      intro l
      induction l with
      | nil => intro _ _; trivial
      | cons env r ih =>
        intro hs hl
        obtain ⟨hk, ⟨L', o, hf, hn, ho, hd'⟩, hr⟩ := hl
        have hL : L' < L := hs L' (by unfold frs; rw [List.filterMap_cons, hf]; exact List.mem_cons_self)
        exact ⟨hk, ⟨L', o, hf, hn, by rw [cut_get hL]; exact ho, hd'⟩, ih (fun b hb => hs b (by unfold frs; rw [List.filterMap_cons, hf]; exact List.mem_cons_of_mem _ hb)) hr⟩
    exact all outer hfr e0.funs
  · obtain ⟨m, ⟨o, es, ep, ho, hr⟩, hl⟩ := I.loc
    refine ⟨m, ⟨o, es, ep, hLs o ho, hr⟩, fun i x v h1 h2 h3 => ?_⟩
    obtain ⟨u, ru, lk⟩ := hl i x v h1 h2 h3
    refine ⟨u, ru, ?_⟩
    rcases lk with lk | ⟨_, c, e, _⟩
    · exact .inl lk
    · exact (noc x c e).elim
  · have hp' : p ∈ pins := hp
    obtain ⟨_, _, n1, n2, n3⟩ := I.pin p hp
    exact ⟨(hpin p hp').1, (hpin p hp').2, n1, n2, n3⟩
end

/-! ### statements in a segment -/
section
variable {X : Cx} {A : Around} {Po : End → Shared → Prop} {c : Code} {fs : List Frame} {s : Shared} {K : Flow → Sem PySem.Fin} {J : Value → Sem PySem.Fin} {gd : Bool → Bool} {lv : List Value → List Value} {pins : List (Addr × Obj)} {σ : L2.St} {H : Hp}
abbrev MX (X : Cx) : Model := model X.prog X.w
theorem sg_ps {st : Stmt} {t : TS} (h : PS X st t) (hx : ∀ e s, ¬ X.xe e s) (ho : A.over c fs = X.A) (I : Inv X pins σ H s) {D : Ends} (ht : t D σ H) (k : ∀ f s', SP X pins D f s' → Sg (MX X) A Po c (K f) fs s') :
    Sg (MX X) A Po c ((exec st X.env).wrap K J gd lv) fs s := by
  refine sg_wrap ?_
  rw [ho]
  exact wpAny_mono (h.run pins s σ H D I ht) (fun f s' hs => k f s' hs) fun x s' z => (hx x s' z).elim
theorem sg_execs_cons {M : Model} {env : Env} {st : Stmt} {rest : List Stmt} (h : Sg M A Po c ((exec st env).wrap (fun f => match f with | .next => (execs rest env).wrap K J gd lv | f => K f) J gd lv) fs s) : Sg M A Po c ((execs (st :: rest) env).wrap K J gd lv) fs s := by
  rw [execs_cons_wrap]; exact h
theorem sg_execs_nil {M : Model} {env : Env} (h : Sg M A Po c (K .next) fs s) : Sg M A Po c ((execs [] env).wrap K J gd lv) fs s := h
theorem sg_func {P : Program} {w : World} {env : Env} {body : List Stmt} (h : Sg (model P w) A Po (.func body env) ((execs body env).wrap (fun f => .pure (.done (.ret (match f with | .ret v => v | _ => .none)))) (fun e => (leaving env e).wrap (fun _ => .raise e) .raise id id) id id) fs s) :
    Sg (model P w) A Po (.func body env) ((model P w).den (.func body env)) fs s := by
  show Sg _ A Po _ (.point [] fun _ => ((execs body env).onRaise (leaving env)) >>= _) fs s
  refine sg_point ?_
  rw [Sem.onRaise_eq_wrap, Sem.bind_eq_wrap', Sem.wrap_wrap]
  rw [Sem.wrap_congr (execs body env) _ _ (K' := fun f => .pure (.done (.ret (match f with | .ret v => v | _ => .none))))
    (H' := fun e => (leaving env e).wrap (fun _ => .raise e) .raise id id) (fun f => by cases f <;> rfl)
    (fun e => by rw [Sem.bind_eq_wrap, Sem.wrap_wrap]; rfl)]
  exact h
theorem sg_Yield {M : Model} {env : Env} {e : Expr} {yp pos : Pos} (hfs : splitAtGen fs = none)
    (h : wpAny M (A.over c fs) (eval e env) (fun v s' => ∀ (l : List Value) (k : Resume → Sem PySem.Fin) (p : Pos), (∀ (Po' : End → Shared → Prop) (s'' : Shared), Sg M A Po' c (K .next) fs s'' → Sg M A Po' c (k (.send .none)) fs s'') → Po (.susp v (gd false) l k c p fs) s')
      (fun x s' => Sg M A Po c (J x) fs s') s) (hco : env.scope.isCoroutine = false := by rfl) (hi : interactive env = false := by rfl) :
    Sg M A Po c ((exec (.Expr (.Yield (some e) yp) pos) env).wrap K J gd lv) fs s := by
  rw [exec_Expr env _ pos hi rfl]
  show Sg M A Po c (.at pos fun _ => ((eval e env >>= fun v => (standAt yp >>= fun _ => yieldOut env v)) >>= fun x => dropValue (.Yield (some e) yp) pos x).wrap K J gd lv) fs s
  have hy : ∀ v, yieldOut env v = yieldValue v := fun v => by simp only [yieldOut, hco, Bool.false_eq_true, if_false]
  simp only [hy]
  refine sg_at ?_
  rw [Sem.bind_eq_wrap', Sem.bind_eq_wrap', Sem.wrap_wrap, Sem.wrap_wrap]
  refine sg_wrap (wpAny_mono h (fun v s' h' => ?_) fun _ _ x => x)
  refine sg_at (sg_yield hfs fun p => ?_)
  exact h' _ _ p fun Po' s'' hx => hx
/-- what a loop's call does with what comes back -/
def backK (env : Env) (K : Flow → Sem PySem.Fin) (J : Value → Sem PySem.Fin) (gd : Bool → Bool) (lv : List Value → List Value) : Result → Sem PySem.Fin := fun r => ((match r with | .ok f => (.pure f : Sem Flow) | .error e => .raise e).onRaise (cameBack env)).wrap K J gd lv
theorem sg_For {M : Model} {env : Env} {tg iter : Expr} {body orelse : List Stmt} {pos : Pos}
    (h : wpAny M (A.over c fs) (eval iter env) (fun x s₁ => wpAny M (A.over c fs) (pyIter x) (fun it s₂ => ∀ p, Sg M A Po (.forLoop tg it body orelse env) (M.den (.forLoop tg it body orelse env)) (.ret (backK env K J gd lv) none (gd false) (lv []) c p [] :: fs) s₂)
      (fun x s' => Sg M A Po c (J x) fs s') s₁) (fun x s' => Sg M A Po c (J x) fs s') s) (hs : ∀ x, foldedSetIterable iter env x = pure x := by intro _; rfl) :
    Sg M A Po c ((exec (.For tg iter body orelse pos) env).wrap K J gd lv) fs s := by
  rw [exec_For]
  refine sg_bind_wrap (wpAny_standAt ?_)
  refine sg_bind_wrap (wpAny_mono h (fun x s₁ h₁ => ?_) fun _ _ z => z)
  refine sg_bind_wrap (wpAny_of_eq (hs x) ?_)
  refine sg_bind_wrap (wpAny_standAt ?_)
  refine sg_bind_wrap (wpAny_holding (wpAny_mono h₁ (fun it s₂ h₂ => ?_) fun _ _ z => z))
  exact sg_call h₂
/-- one turn of the loop -/
theorem sg_forLoop {P : Program} {w : World} {env : Env} {tg : Expr} {it : Value} {body orelse : List Stmt} 
    (h : wpAny (model P w) (A.over (.forLoop tg it body orelse env) fs) (pyNext it) (fun r s₁ => match r with
      | none => Sg (model P w) A Po (.forLoop tg it body orelse env) (.pure (.again (.block orelse env))) fs s₁
      | some v => wpAny (model P w) (A.over (.forLoop tg it body orelse env) fs) (letOwnedTupleGo tg it v) (fun _ s₂ => wpAny (model P w) (A.over (.forLoop tg it body orelse env) fs) (assign tg env v) (fun _ s₃ =>
          Sg (model P w) A Po (.forLoop tg it body orelse env) ((execs body env).wrap (fun f => match f with
            | .next | .cont => .pure (.again (.forLoop tg it body orelse env))
            | .brk => .pure (.done .next)
            | .ret v => .pure (.done (.ret v))) (fun e => ((do noteFrame e env; theTreesLotGoes e : Sem Unit)).bind fun _ => .raise e) id id) fs s₃) (fun _ _ => False) s₂) (fun _ _ => False) s₁) (fun _ _ => False) s) :
    Sg (model P w) A Po (.forLoop tg it body orelse env) ((model P w).den (.forLoop tg it body orelse env)) fs s := by
  show Sg _ A Po _ ((forTurn tg it body orelse env).onRaise (fun x => do noteFrame x env; theTreesLotGoes x)) fs s
  unfold forTurn
  rw [Sem.onRaise_eq_wrap]
  refine sg_bind_wrap (wpAny_standAt ?_)
  refine sg_bind_wrap (wpAny_onRaise (wpAny_mono h (fun r s₁ h₁ => ?_) fun _ _ z => z.elim))
  cases r with
  | none => exact h₁
  | some v =>
    refine sg_bind_wrap (wpAny_mono h₁ (fun _ s₂ h₂ => ?_) fun _ _ z => z.elim)
    refine sg_bind_wrap (wpAny_mono h₂ (fun _ s₃ h₃ => ?_) fun _ _ z => z.elim)
    rw [Sem.bind_eq_wrap', Sem.wrap_wrap]
    refine Eq.mpr (congrArg (fun t => Sg (model P w) A Po (.forLoop tg it body orelse env) t fs s₃) ?_) h₃
    exact Sem.wrap_congr _ _ _ (fun f => by cases f <;> rfl) (fun e => rfl)
theorem sg_block {P : Program} {w : World} {env : Env} {l : List Value} {k : Result → Sem PySem.Fin} {hh : Option Value} {g : Bool} {c₁ : Code} {p₁ : Pos} {kp : List Value} (hk : Sg (model P w) A Po c₁ (k (.ok .next)) fs s) :
    Sg (model P w) A Po c (.pure (.again (.block [] env))) (.ret k hh g l c₁ p₁ kp :: fs) s := by
  refine sg_again rfl ?_
  show Sg _ A Po _ (do return Fin.done (← (execs [] env).onRaise (fun x => do noteFrame x env; theTreesLotGoes x))) _ s
  refine sg_bind ?_
  refine wpAny_onRaise (wpAny_execs_nil ?_)
  exact sg_leaf (.ok .next) hk
theorem sg_forLoopB {P : Program} {w : World} {B : Around} {env : Env} {tg : Expr} {it : Value} {body orelse : List Stmt} (ho : A.over (.forLoop tg it body orelse env) fs = B)
    (h : wpAny (model P w) B (pyNext it) (fun r s₁ => match r with
      | none => Sg (model P w) A Po (.forLoop tg it body orelse env) (.pure (.again (.block orelse env))) fs s₁
      | some v => wpAny (model P w) B (letOwnedTupleGo tg it v) (fun _ s₂ => wpAny (model P w) B (assign tg env v) (fun _ s₃ =>
          Sg (model P w) A Po (.forLoop tg it body orelse env) ((execs body env).wrap (fun f => match f with
            | .next | .cont => .pure (.again (.forLoop tg it body orelse env))
            | .brk => .pure (.done .next)
            | .ret v => .pure (.done (.ret v))) (fun e => ((do noteFrame e env; theTreesLotGoes e : Sem Unit)).bind fun _ => .raise e) id id) fs s₃) (fun _ _ => False) s₂) (fun _ _ => False) s₁) (fun _ _ => False) s) :
    Sg (model P w) A Po (.forLoop tg it body orelse env) ((model P w).den (.forLoop tg it body orelse env)) fs s := by
  subst ho
  exact sg_forLoop h
theorem sg_ForB {M : Model} {B : Around} {env : Env} {tg iter : Expr} {body orelse : List Stmt} {pos : Pos} (ho : A.over c fs = B)
    (h : wpAny M B (eval iter env) (fun x s₁ => wpAny M B (pyIter x) (fun it s₂ => ∀ p, Sg M A Po (.forLoop tg it body orelse env) (M.den (.forLoop tg it body orelse env)) (.ret (backK env K J gd lv) none (gd false) (lv []) c p [] :: fs) s₂)
      (fun x s' => False) s₁) (fun x s' => False) s) (hs : ∀ x, foldedSetIterable iter env x = pure x := by intro _; rfl) :
    Sg M A Po c ((exec (.For tg iter body orelse pos) env).wrap K J gd lv) fs s := by
  subst ho
  exact sg_For (wpAny_mono h (fun _ _ h1 => wpAny_mono h1 (fun _ _ z => z) fun _ _ z => z.elim) fun _ _ z => z.elim) hs
theorem sg_YieldB {M : Model} {B : Around} {env : Env} {e : Expr} {yp pos : Pos} (ho : A.over c fs = B) (hfs : splitAtGen fs = none)
    (h : wpAny M B (eval e env) (fun v s' => ∀ (l : List Value) (k : Resume → Sem PySem.Fin) (p : Pos), (∀ (Po' : End → Shared → Prop) (s'' : Shared), Sg M A Po' c (K .next) fs s'' → Sg M A Po' c (k (.send .none)) fs s'') → Po (.susp v (gd false) l k c p fs) s')
      (fun x s' => False) s) (hco : env.scope.isCoroutine = false := by rfl) (hi : interactive env = false := by rfl) :
    Sg M A Po c ((exec (.Expr (.Yield (some e) yp) pos) env).wrap K J gd lv) fs s := by
  subst ho
  exact sg_Yield hfs (wpAny_mono h (fun _ _ z => z) fun _ _ z => z.elim) hco hi
end
end G137
/-! A for over a generator that hands out pairs. -/
namespace G137
open PySem PySem.Spec PyProof.Rows L2 GenW

/-- a pair that is handed out, and what must be true before it is woken again -/
abbrev Item := V × V × Prop
/-- what a wake finds -/
structure Wk (P : Program) (w : World) (K : PySem.W.Frag) (mg : Str → Option Value) (base : Heap) (A : Around) (outer : List Env) (Hg : Hp) (L : Addr) (own : List Addr) (s₁ s₂ : Shared) (H₂ : Hp) : Prop where
  e0 : Env0 P w K mg base A outer s₂ H₂
  sub : Same Hg H₂
  sz : L ≤ s₂.heap.objs.size
  own : ∀ b ∈ own, H₂ b = none ∧ ∀ o, s₁.heap.get? b = some o → s₂.heap.get? b = some o
/-- what it leaves -/
structure Wd (P : Program) (w : World) (outer : List Env) (L : Addr) (H₂ H₁ : Hp) (s₂ s₁ : Shared) : Prop where
  os : s₁.os = s₂.os
  bare : AllBare s₁.gens
  same : Same H₂ H₁
  un : Un (frs outer) [] H₂ H₁ (cut L s₂.heap) s₁.heap
  hok : HOk P w H₁ s₁.heap
/-- the generator's own objects -/
def OwnOk (L : Addr) (H : Hp) (own : List Addr) (h : Heap) : Prop := ∀ b ∈ own, L ≤ b ∧ H b = none ∧ ∃ o, h.get? b = some o ∧ ∀ v, o.data ≠ .cell v
def GPost (P : Program) (w : World) (K : PySem.W.Frag) (mg : Str → Option Value) (base : Heap) (A : Around) (outer : List Env) (Hg : Hp) (L a : Addr) (g : Nat) : List Item → Hp → Shared → End → Shared → Prop
  | [] => fun H₂ s₂ e s₁ => e = .ret (.ok (.ret .none)) ∧ ∃ H₁, Wd P w outer L H₂ H₁ s₂ s₁
  | (x, y, ok) :: r => fun H₂ s₂ e s₁ => match e with
    | .ret _ => False
    | .susp v gd l k c p fs => (End.susp v gd l k c p fs).quiet = true ∧ ∃ (T : Addr) (H₁ : Hp) (own : List Addr), v = .ref T ∧ Wd P w outer L H₂ H₁ s₂ s₁ ∧ H₁ T = some (.tup [x, y]) ∧ s₁.heap.IsGen a g ∧ a ∈ own ∧ OwnOk L H₁ own s₁.heap ∧
      (ok → ∀ H₃ s₃, Wk P w K mg base A outer Hg L own s₁ s₃ H₃ → Sg (model P w) A (GPost P w K mg base A outer Hg L a g r H₃ s₃) c (k (.send .none)) fs s₃)
/-- the consumer's own things lie below L -/
structure Low (X : Cx) (pins : List (Addr × Obj)) (L : Addr) : Prop where
  loc : X.env.locals < L
  cell : ∀ x c, X.env.cells.lookup x = some c → c < L
  pin : ∀ p ∈ X.pn ++ pins, p.1 < L
theorem low_of {X : Cx} {pins : List (Addr × Obj)} {σ : L2.St} {H : Hp} {s : Shared} {L : Addr} (I : Inv X pins σ H s) (h : s.heap.objs.size ≤ L) : Low X pins L :=
  ⟨Nat.lt_of_lt_of_le I.lt h, fun x c e => by
    obtain ⟨v, q⟩ := I.cell x c e
    exact Nat.lt_of_lt_of_le q.lt h, fun p hp => Nat.lt_of_lt_of_le (Heap.lt_size (I.pin p hp).1) h⟩
/-- one that has not begun -/
def GNew (X : Cx) (kk : Nat) (Hg : Hp) (L a : Addr) (g : Nat) (items : List Item) (H : Hp) (s : Shared) : Prop :=
  s.heap.IsGen a g ∧ ∃ gs own, s.gens[g]? = some gs ∧ a ∈ own ∧ OwnOk L H own s.heap ∧ ∀ Aw, Room kk Aw → Aw.frames = some X.stack → ∀ H₃ s₃, Wk X.prog X.w X.K X.mg X.base Aw X.stack Hg L own s s₃ H₃ → GoesS (MX X) Aw (GPost X.prog X.w X.K X.mg X.base Aw X.stack Hg L a g items H₃ s₃) gs s₃
abbrev TGw := L2.St → Hp → (List Item → Hp → Prop) → Prop
structure PGn (X : Cx) (kk : Nat) (e : Expr) (tw : TGw) : Prop where
  run : ∀ (pins : List (Addr × Obj)) (s : Shared) (σ : L2.St) (H : Hp) (R : List Item → Hp → Prop), Inv X pins σ H s → tw σ H R → wpAny (MX X) X.A (eval e X.env)
    (fun u s' => ∃ (a L : Addr) (g : Nat) (H1 : Hp) (items : List Item), u = .ref a ∧ Inv X pins σ H1 s' ∧ Low X pins L ∧ L ≤ s'.heap.objs.size ∧ GNew X kk H1 L a g items H1 s' ∧ R items H1) X.xe s
/-- what an exception leaves does not hang on the table of generators -/
def XeSim (X : Cx) : Prop := ∀ (G b : Array GenState) (e : Value) (s : Shared), X.xe e s → GSim G s.gens b → X.xe e { s with gens := b }
def tForG (tw : TGw) (g : TG) (tb : TS) : TS := fun D σ H => tw σ H fun items H1 => ∃ W : Nat → L2.St → Hp → Prop, W 0 σ H1 ∧ (∀ i σ H, W i σ H → Same H1 H) ∧ ∀ i σ H, W i σ H → ∀ H', Same H H' →
  (items[i]? = none → D.nx σ H') ∧ ∀ x y ok, items[i]? = some (x, y, ok) → ∀ T, H' T = some (.tup [x, y]) → g (.ref T) σ H' fun σ2 H2 => tb { D with nx := fun σ3 H3 => ok ∧ W (i + 1) σ3 H3, ct := fun σ3 H3 => ok ∧ W (i + 1) σ3 H3, bk := D.nx } σ2 H2
theorem env0_run {P : Program} {w : World} {K : PySem.W.Frag} {mg : Str → Option Value} {base : Heap} {A A' : Around} {outer : List Env} {s : Shared} {H : Hp} (e : Env0 P w K mg base A outer s H) (hf : A'.frames = A.frames) (g : Nat) : Env0 P w K mg base A' outer (s.setGen g .running) H :=
  ⟨hf.trans e.frames, e.mod, e.bs, e.bsz, e.funs, e.frf, e.hok, allBare_setGen e.bare rfl⟩
theorem ps_forG {X : Cx} {kk : Nat} {tg e : Expr} {body : List Stmt} {tw : TGw} {gt : TG} {tb : TS} {pos : Pos} (hp : PassesOwn (MX X) X.A X.env X.xe) (hc : X.calm = true) (hx : XeSim X) (hroom : Room (kk + 1) X.A) (hi : PGn X kk e tw) (hg : PG X tg gt) (hb : PSs X body tb)
    (hs : ∀ x, foldedSetIterable e X.env x = pure x := by intro _; rfl) : PS X (.For tg e body [] pos) (tForG tw gt tb) := by
  refine ⟨fun pins s σ H D I h => ?_⟩
  refine wpAny_For (thn (hi.run pins s σ H _ I h) fun u s1 h1 => ?_) hs
  obtain ⟨a, L, g, H1, items, rfl, I1, low, hsz, ⟨hgen, gs, own, hgs, hao, hown, hrdy0⟩, W, w0, wsub, turn⟩ := h1
  have hrdy := hrdy0 X.A.in1 hroom.in1 I1.ok.frames
  refine wpAny_pyIter_gen hgen ?_
  refine codeAny_forLoop_any (fun n s' => ∃ i σ' H' gs own, n = items.length - i ∧ i ≤ items.length ∧ Inv X pins σ' H' s' ∧ L ≤ s'.heap.objs.size ∧ s'.heap.IsGen a g ∧ s'.gens[g]? = some gs ∧ a ∈ own ∧ OwnOk L H' own s'.heap ∧
    (∀ H₃ s₃, Wk X.prog X.w X.K X.mg X.base X.A.in1 X.stack H1 L own s' s₃ H₃ → GoesS (MX X) X.A.in1 (GPost X.prog X.w X.K X.mg X.base X.A.in1 X.stack H1 L a g (items.drop i) H₃ s₃) gs s₃) ∧ W i σ' H') ?_ items.length
    ⟨0, σ, H1, gs, own, rfl, Nat.zero_le _, I1, hsz, hgen, hgs, hao, hown, hrdy, w0⟩
  rintro n s2 ⟨i, σ2, H2, gs2, own2, rfl, hi2, I2, hsz2, hgen2, hgs2, hao2, hown2, hrdy2, w2⟩
  have hgl : g < s2.gens.size := (Array.getElem?_eq_some_iff.mp hgs2).1
  refine wpAny_gsz (n := g + 1) hgl (next_genS (I2.ok.hd hc) I2.nolimit hroom.depth hgen2 hgs2 (goesS_mono (hrdy2 H2 (s2.setGen g .running) ⟨env0_run (A' := X.A.in1) I2.env0 rfl g, wsub i σ2 H2 w2, hsz2, fun b hb => ⟨(hown2 b hb).2.1, fun o eo => eo⟩⟩) fun e s3 he => ?_))
  have back : ∀ {H3 : Hp} {s3 s4 : Shared}, Wd X.prog X.w X.stack L H2 H3 (s2.setGen g .running) s3 → s4.os = s3.os → AllBare s4.gens → (∀ b o, s3.heap.get? b = some o → s4.heap.get? b = some o) → Inv X pins σ2 H3 s4 := fun {H3 s3 s4} wd ho hba hk =>
    I2.resumed low.loc low.cell low.pin (ho.trans wd.os) (wd.un.trans (Un.kept hk)) (wd.hok.kept hk) hba
  by_cases hlt : i < items.length
  · obtain ⟨⟨x, y, ok⟩, hit⟩ : ∃ t, items[i]? = some t := ⟨_, List.getElem?_eq_getElem hlt⟩
    have hdr : items.drop i = (x, y, ok) :: items.drop (i + 1) := by
      rw [List.drop_eq_getElem_cons hlt]
      congr 1
      rw [List.getElem?_eq_getElem hlt] at hit
      exact Option.some.inj hit
    rw [hdr] at he
    cases e with
    | ret r => exact he.elim
    | susp v gd l k c p fs =>
      obtain ⟨hq, T, H3, own3, rfl, wd, hT, hgen3, hao3, hown3, hgo3⟩ := he
      refine ⟨hq, fun hgl3 => ?_⟩
      have hgl3' : g < s3.gens.size := by
        have e := setGen_size s3 g (End.susp (Value.ref T) gd l k c p fs).genState
        rw [e] at hgl3
        exact hgl3
      have hst : (End.susp (Value.ref T) gd l k c p fs).genState.bare = true := End.bare_of_quiet hq
      have I3 : Inv X pins σ2 H3 (s3.setGen g (End.susp (Value.ref T) gd l k c p fs).genState) := back (s4 := s3.setGen g (End.susp (Value.ref T) gd l k c p fs).genState) wd rfl (allBare_setGen wd.bare hst) fun _ _ e => e
      obtain ⟨og, nm, qn, hog, hogc, hogd, hogs⟩ := id hgen3
      refine go_of (s := s3.setGen g (End.susp (Value.ref T) gd l k c p fs).genState) (n := "generator") (vs := #[.int g 0, nm, qn]) hog hogc hogd (by decide) ?_
      have hfp : ∀ b ∈ own3, FpOk X pins H3 b := fun b hb => by
        obtain ⟨h1, h2, _⟩ := hown3 b hb
        refine ⟨h2, Nat.ne_of_gt (Nat.lt_of_lt_of_le low.loc h1), fun z => ?_, .inr (Nat.le_trans I2.ok.above (Nat.le_of_lt (Nat.lt_of_lt_of_le low.loc h1))), fun x c e z => ?_, fun p hp z => ?_⟩
        · obtain ⟨_, o, ho, _⟩ := I2.ok.funs.mem z
          exact absurd (Nat.lt_of_lt_of_le (Nat.lt_of_lt_of_le (Heap.lt_size ho) I2.ok.above) (Nat.le_of_lt (Nat.lt_of_lt_of_le low.loc h1))) (Nat.lt_irrefl _)
        · exact absurd (Nat.lt_of_lt_of_le (low.cell x c e) h1) (by rw [z]; exact Nat.lt_irrefl _)
        · exact absurd (Nat.lt_of_lt_of_le (low.pin p hp) h1) (by rw [z]; exact Nat.lt_irrefl _)
      have I3' := I3.pinned hfp (fun b hb => (hown3 b hb).2.2)
      have hW := turn i σ2 H2 w2 H3 wd.same
      have q := hW.2 x y ok hit T hT
      have rT : RelV (V.ref T) (Value.ref T) := rfl
      refine wpAny_passesOwn hp ?_
      refine wpAny_mono (wpAny_pois (hg.run _ _ σ2 H3 _ _ _ (I3'.gensTo (pois_bare I3'.bare)) rT q)) (fun _ s6 hs6 => ?_) (fun x s6 hs6 => ?_)
      · obtain ⟨s6m, ⟨σ6, H6, I6, q6⟩, b6, rfl, g6⟩ := hs6
        refine wpAny_passesOwn hp ?_
        refine wpAny_mono (wpAny_sim (hb.run _ s6m σ6 H6 _ I6 q6) g6) (fun f s7 hs7 => ?_) (fun x s7 hs7 => ?_)
        · obtain ⟨s7m, q7, b7, rfl, g7⟩ := hs7
          have kept : (({ s7m with gens := b7 } : Shared)).gens[g]? = some (End.susp (Value.ref T) gd l k c p fs).genState := g7.kept (setGen_at hgl3') rfl
          have again : ∀ {σ7 : L2.St} {H7 : Hp}, Inv X (pins ++ pinsAt own3 s3.heap) σ7 H7 s7m → (ok ∧ W (i + 1) σ7 H7) → ∃ m, m < items.length - i ∧ ∃ i' σ' H' gs own, m = items.length - i' ∧ i' ≤ items.length ∧ Inv X pins σ' H' { s7m with gens := b7 } ∧ L ≤ s7m.heap.objs.size ∧ s7m.heap.IsGen a g ∧ b7[g]? = some gs ∧ a ∈ own ∧ OwnOk L H' own s7m.heap ∧
              (∀ H₃ s₃, Wk X.prog X.w X.K X.mg X.base X.A.in1 X.stack H1 L own { s7m with gens := b7 } s₃ H₃ → GoesS (MX X) X.A.in1 (GPost X.prog X.w X.K X.mg X.base X.A.in1 X.stack H1 L a g (items.drop i') H₃ s₃) gs s₃) ∧ W i' σ' H' := fun {σ7 H7} I7 n7 => by
            have pk : ∀ b ∈ own3, ∀ o, s3.heap.get? b = some o → s7m.heap.get? b = some o ∧ H7 b = none := fun b hb o eo => by
              have := I7.pin (b, o) (List.mem_append_right _ (List.mem_append_right _ (mem_pinsAt hb eo)))
              exact ⟨this.1, this.2.1⟩
            have hL7 : L ≤ s7m.heap.objs.size := by
              obtain ⟨h1, _, o, ho, _⟩ := hown3 a hao3
              exact Nat.le_trans h1 (Nat.le_of_lt (Heap.lt_size (pk a hao3 o ho).1))
            refine ⟨items.length - (i + 1), by omega, i + 1, σ7, H7, _, own3, rfl, hlt, I7.unpinned.gensTo (g7.bare I7.bare), hL7, ⟨og, nm, qn, (pk a hao3 og hog).1, hogc, hogd, hogs⟩, kept, hao3, fun b hb => ?_, fun H8 s8 wk => ?_, n7.2⟩
            · obtain ⟨h1, _, o, ho, hnc⟩ := hown3 b hb
              exact ⟨h1, (pk b hb o ho).2, o, (pk b hb o ho).1, hnc⟩
            · refine hgo3 n7.1 H8 s8 ⟨wk.e0, wk.sub, wk.sz, fun b hb => ⟨(wk.own b hb).1, fun o eo => (wk.own b hb).2 o (pk b hb o eo).1⟩⟩
          cases f with
          | next => obtain ⟨σ7, H7, I7, n7⟩ := q7; exact again I7 n7
          | cont => obtain ⟨σ7, H7, I7, n7⟩ := q7; exact again I7 n7
          | brk => obtain ⟨σ7, H7, I7, q7⟩ := q7; exact ⟨σ7, H7, I7.unpinned.gensTo (g7.bare I7.bare), q7⟩
          | ret v => obtain ⟨vv, σ7, H7, I7, rv, q7⟩ := q7; exact ⟨vv, σ7, H7, I7.unpinned.gensTo (g7.bare I7.bare), rv, q7⟩
        · obtain ⟨s7m, q7, b7, rfl, g7⟩ := hs7
          exact hx _ _ _ _ q7 g7
      · obtain ⟨s6m, q6, b6, rfl, g6⟩ := hs6
        exact hx _ _ _ _ q6 g6
  · have hdr : items.drop i = [] := List.drop_eq_nil_of_le (Nat.le_of_not_lt hlt)
    rw [hdr] at he
    obtain ⟨rfl, H3, wd⟩ := he
    intro h' hk hgl3
    refine wpAny_execs_nil ⟨σ2, H3, back wd rfl (allBare_setGen wd.bare rfl) hk, ?_⟩
    exact (turn i σ2 H2 w2 H3 wd.same).1 (List.getElem?_eq_none (Nat.le_of_not_lt hlt))
end G137
/-! Generator defs by their bodies; o.m(..) of one; yield from one that ends at its first wake. -/
namespace G137
open PySem PySem.Spec PyProof.Rows L2 GenW

abbrev SpI := List V → Hp → (List Item → Hp → Prop) → Prop
def GMd (P : Program) (w : World) (K : PySem.W.Frag) (mg : Str → Option Value) (base : Heap) (k : Nat) (outer : List Env) (H : Hp) (s : Shared) (R : List Item → Hp → Prop) (u : Value) (s' : Shared) : Prop :=
  ∃ (a L : Addr) (g : Nat) (gs : GenState) (own : List Addr) (items : List Item), u = .ref a ∧ s.heap.objs.size ≤ L ∧ L ≤ s'.heap.objs.size ∧ s'.os = s.os ∧ AllBare s'.gens ∧ (∀ b o, s.heap.get? b = some o → s'.heap.get? b = some o) ∧
    s'.heap.IsGen a g ∧ s'.gens[g]? = some gs ∧ a ∈ own ∧ OwnOk L H own s'.heap ∧ R items H ∧
    ∀ Aw, Room k Aw → Aw.frames = some outer → ∀ H₃ s₃, Wk P w K mg base Aw outer H L own s' s₃ H₃ → GoesS (model P w) Aw (GPost P w K mg base Aw outer H L a g items H₃ s₃) gs s₃
structure GFnS (P : Program) (w : World) (K : PySem.W.Frag) (mg : Str → Option Value) (base : Heap) (k : Nat) (f : Addr) (fd : FuncData) (ps : List Str) (sp : SpI) : Prop where
  len : ∀ vs H R, sp vs H R → vs.length = ps.length
  run : ∀ (A : Around) (outer : List Env) (s : Shared) (H : Hp) (args : Args) (us : List Value) (vs : List V) (R : List Item → Hp → Prop), Room k A → Env0 P w K mg base A outer s H → BindsTo s fd args (ps.zip us) → Vals vs us → sp vs H R →
    codeAny (model P w) A (.call (.ref f) args) (fun r s' => match r with | .ok (.ret u) => GMd P w K mg base k outer H s R u s' | _ => False) s
theorem GFnS.mono {P : Program} {w : World} {K : PySem.W.Frag} {mg : Str → Option Value} {base : Heap} {j k : Nat} {f : Addr} {fd : FuncData} {ps : List Str} {sp : SpI} (F : GFnS P w K mg base j f fd ps sp) (h : j ≤ k) : GFnS P w K mg base k f fd ps sp :=
  ⟨F.len, fun A outer s H args us vs R hr e0 hb r hsp => codeAny_mono (F.run A outer s H args us vs R (hr.mono h) e0 hb r hsp) fun res s' hq => by
    cases res with
    | error e => exact hq
    | ok fl =>
      cases fl with
      | ret u =>
        obtain ⟨a, L, g, gs, own, items, q1, q2, q3, q4, q5, q6, q7, q8, q9, q10, q11, q12⟩ := hq
        exact ⟨a, L, g, gs, own, items, q1, q2, q3, q4, q5, q6, q7, q8, q9, q10, q11, fun Aw hA => q12 Aw (hA.mono h)⟩
      | next => exact hq
      | brk => exact hq
      | cont => exact hq⟩
/-- what stays as it is through a generator's life -/
structure Gst (base : Heap) (outer : List Env) (L a : Addr) (g : Nat) (go : Obj) : Prop where
  fr : ∀ b ∈ frs outer, b < L
  bz : base.objs.size ≤ L
  la : L < a
  cls : go.cls = .type "generator"
  dat : ∃ nm qn, go.data = .fields #[.int g 0, nm, qn]
  sl : go.slots = #[]
theorem Gst.gen {base : Heap} {outer : List Env} {L a : Addr} {g : Nat} {go : Obj} (G : Gst base outer L a g go) {h : Heap} (e : h.get? a = some go) : h.IsGen a g := by
  obtain ⟨nm, qn, hd⟩ := G.dat
  exact ⟨go, nm, qn, e, G.cls, hd, G.sl⟩
theorem Gst.nocell {base : Heap} {outer : List Env} {L a : Addr} {g : Nat} {go : Obj} (G : Gst base outer L a g go) : ∀ v, go.data ≠ .cell v := fun v z => by
  obtain ⟨nm, qn, hd⟩ := G.dat
  rw [hd] at z; cases z
abbrev genK : Flow → Sem PySem.Fin := fun f => .pure (.done (.ret (match f with | .ret v => v | _ => .none)))
abbrev genJ (env : Env) : Value → Sem PySem.Fin := fun e => (leaving env e).wrap (fun _ => .raise e) .raise id id
theorem gfnS_of {P : Program} {w : World} {K : PySem.W.Frag} {mg : Str → Option Value} {base : Heap} {k : Nat} {f : Addr} {name qual : Str} {params : Arguments} {body : List Stmt} {scope : Scope} {dvs : List V} {kws : List (Str × V)} {fd : FuncData} {N ps : List Str} {sp : SpI}
    (F : FunD K name qual params body scope dvs kws f fd) (S : GScope N ps scope) (nc : NoCells scope) (len : ∀ vs H R, sp vs H R → vs.length = ps.length)
    (hbody : ∀ (cdv : Value) (vs : List V) (H : Hp) (R : List Item → Hp → Prop), sp vs H R → ∃ items, R items H ∧ ∀ (Aw : Around) (outer : List Env) (L a : Addr) (g : Nat) (go : Obj) (H₃ : Hp) (s₃ : Shared), Gst base outer L a g go → Room k (Aw.deeper (envOfC qual scope L f cdv)) → Same H H₃ →
      Inv (gX P w K mg base N qual scope f cdv Aw outer L (cutS L s₃) H₃) [(a, go)] (start N vs) H₃ s₃ → Sg (model P w) Aw (GPost P w K mg base Aw outer H L a g items H₃ s₃) (.func body (envOfC qual scope L f cdv)) ((execs body (envOfC qual scope L f cdv)).wrap genK (genJ (envOfC qual scope L f cdv)) id id) [] s₃) :
    GFnS P w K mg base (k + 1) f fd ps sp := by
  obtain ⟨oc, od, dV, kV, doc, pm, an, cdv, ct, osl, rfl, lk, hcd, _, _⟩ := F.ex
  refine ⟨len, fun A outer s H args us vs R hr e0 hb r hsp => ?_⟩
  have hl := len _ _ _ hsp
  have KX : K.In s.heap := e0.mod.kin.keeps fun b o e => (e0.bs b o e).1
  have lim : s.heap.NoLimit := e0.mod.nolimit.keeps fun b o e => (e0.bs b o e).1
  have hkind : ∀ y ∈ ps.zip us, scope.names.lookup y.1 = some .local ∨ (scope.names.lookup y.1 = some .cell ∧ ((cellsFrom (s.heap.objs.size + 1) scope.names []).lookup y.1).isSome = true) := fun ⟨n, v⟩ hy => by
    rcases S.par n (List.of_mem_zip hy).1 with q | q
    · exact .inl q
    · exact .inr ⟨q, PySem.W.cellsFrom_some _ _ _ (.inl q)⟩
  refine codeAny_call_generator hr.depth (KX _ _ lk) rfl S.co S.gen rfl (PySem.W.codeRec_of KX hcd) (hb _ _ _ _ ?_)
  refine wpAny_newFunctionEnv_cells S.kind hkind fun env he s1 x => ?_
  subst he
  have lim1 : s1.heap.NoLimit := lim.keeps x.toInCall.keep
  refine ⟨lim1, ?_⟩
  obtain ⟨h1, tk, es1, hk1⟩ := x.done
  have os1 : s1.os = s.os := by rw [es1]
  have gen1 : s1.gens = s.gens := by rw [es1]
  have lt1 : s.heap.objs.size < s1.heap.objs.size := x.toInCall.ns.lt
  have kp1 : ∀ b o, s.heap.get? b = some o → s1.heap.get? b = some o := x.toInCall.keep
  obtain ⟨items, hR, main⟩ := hbody cdv vs H R hsp
  generalize hgo : ({ cls := .type "generator", data := .fields #[.int s1.gens.size 0, .str (PySem.W.fnOf name qual params body scope dV kV doc pm an cdv ct).name s1.toks, .str (PySem.W.fnOf name qual params body scope dV kV doc pm an cdv ct).qualname (s1.toks + 1)] } : Obj) = go
  have hpush : (s1.heap.push go).get? s1.heap.objs.size = some go := Heap.get?_push_size _ (by rw [← hgo]; rfl)
  have G : Gst base outer s.heap.objs.size s1.heap.objs.size s1.gens.size go := by
    refine ⟨fun b hb => ?_, e0.bsz, lt1, by rw [← hgo], by rw [← hgo]; exact ⟨_, _, rfl⟩, by rw [← hgo]⟩
    obtain ⟨_, o, ho, _⟩ := e0.funs.mem hb
    exact Heap.lt_size ho
  refine ⟨s1.heap.objs.size, s.heap.objs.size, s1.gens.size, _, [s.heap.objs.size, s1.heap.objs.size], items, rfl, Nat.le_refl _, ?_, os1, ?_, fun b o e => Heap.get?_push_of_some _ (kp1 b o e), G.gen hpush, Array.getElem?_push_size .., by simp, fun b hb => ?_, hR, fun Aw hrw hfr H₃ s₃ wk => ?_⟩
  · show _ ≤ (s1.heap.push _).objs.size
    rw [Heap.size_push]; exact Nat.le_of_lt (Nat.lt_succ_of_lt lt1)
  · exact AllBare.push (by rw [gen1]; exact e0.bare) rfl
  · rcases List.mem_cons.mp hb with rfl | hb
    · obtain ⟨o, es, ep, ho, hd, _⟩ := x.toInCall.ns
      exact ⟨Nat.le_refl _, e0.hok.fresh (Nat.le_refl _), o, Heap.get?_push_of_some _ ho, fun v z => by rw [hd] at z; cases z⟩
    · rw [List.mem_singleton.mp hb]
      exact ⟨Nat.le_of_lt lt1, e0.hok.fresh (Nat.le_of_lt lt1), go, hpush, G.nocell⟩
  · have e0w : Env0 P w K mg base Aw outer s H := ⟨hfr, e0.mod, e0.bs, e0.bsz, e0.funs, e0.frf, e0.hok, e0.bare⟩
    have I1 := inv_new (N := N) (f := f) (cd := cdv) (qual := qual) S hrw.hd e0w hl r x
    have I3 := inv_wake I1 nc wk.e0 hrw.hd G.fr G.bz wk.sz (fun o eo => (wk.own _ (by simp)).2 o (Heap.get?_push_of_some _ eo)) (wk.own _ (by simp)).1 (fun p hp => nomatch hp)
    have hra := wk.own s1.heap.objs.size (by simp)
    have I4 : Inv (gX P w K mg base N qual scope f cdv Aw outer s.heap.objs.size (cutS s.heap.objs.size s₃) H₃) [(s1.heap.objs.size, go)] (start N vs) H₃ s₃ := I3.pins_of fun p hp => by
      rw [List.mem_singleton.mp hp]
      refine ⟨hra.2 go hpush, hra.1, Nat.ne_of_gt lt1, fun z => ?_, G.nocell⟩
      exact absurd (Nat.lt_trans lt1 (G.fr _ z)) (Nat.lt_irrefl _)
    exact sg_func (main Aw outer _ _ _ go H₃ s₃ G (hrw.deeper _) wk.sub I4)

/-! ### o.m(..) of a generator method -/
section
variable {X : Cx} {k : Nat} {f C : Addr} {fd : FuncData} {ps : List Str} {sp : SpI} {dvs : List V} {ds : List Value} {m : Str} {pos pos' apos : Pos} {o : Expr} {ta : TE}
def tMethW (C : Addr) (m : Str) (sp : SpI) (dvs : List V) (ta : TE) (t : TA) : TGw := fun σ H R => ta σ H fun x H1 => ∃ a dx fs, x = .ref a ∧ H1 a = some (.ins C dx fs) ∧ fs.lookup m = none ∧ t σ H1 fun vs H2 => sp (x :: (vs ++ dvs)) H2 R
theorem pgn_meth {pl : Sem Bool} {e : Expr} {es : List Expr} {t : TA} (he : PE X o ta) (c : Cls X.K C) (hm : Meth X.K C m f) (F : GFnS X.prog X.w X.K X.mg X.base k f fd ps sp) (hr : Room k X.A) (hb : Binds X.K fd ps ds) (hd : Vals dvs ds) (ha : PA X (e :: es) t)
    (hst : starEach (e :: es) X.env = (false, eval e X.env) :: starEach es X.env := by rfl) (hpl : (backTo pos' (starEach es X.env)).any (·.1) = false := by rfl)
    (ht : eval (.Call (.Attribute o m apos) (e :: es) [] pos') X.env = (do
      let ov ← eval o X.env
      standAt apos.atName
      let (f, first) ← holding [ov] (getMethod ov m pl)
      callWith pos' f first (backTo pos' (starEach (e :: es) X.env)) (backToKw pos' (keywordEach [] X.env))) := by rfl) :
    PGn X k (.Call (.Attribute o m apos) (e :: es) [] pos') (tMethW C m sp dvs ta t) := by
  refine ⟨fun pins s σ H R I h => ?_⟩
  refine PySem.W.methodCall_KW (pl := pl) (thn (he.run pins s σ H _ I h) fun u s1 ⟨x, H1, I1, rx, a, dx, fs, ex, ea, l, q⟩ => ?_) ht
  subst ex
  obtain rfl : u = Value.ref a := rx
  refine getmeth_ok I1 ea c hm l ?_
  refine PySem.W.callWith_K (first := [.ref a]) (h₀ := X.base) I.ok.mod.kin hm.kp (thn (ha.run pos' pins s1 σ H1 _ I1 q) fun us s2 ⟨vs, H2, I2, r, q2⟩ => ⟨I2.kIn, ?_⟩) hst hpl
  have r2 : Vals (.ref a :: (vs ++ dvs)) (.ref a :: (us ++ ds)) := .cons rfl (r.append hd)
  have hl2 : (Value.ref a :: us ++ ds).length = ps.length := by
    have := F.len _ _ _ q2
    rw [← this, r2.length]; rfl
  refine wpAny_call (codeAny_mono (F.run X.A X.stack s2 H2 ⟨.ref a :: us, []⟩ (.ref a :: us ++ ds) (.ref a :: (vs ++ dvs)) R hr I2.env0 (hb s2 (.ref a :: us) I2.kIn hl2) r2 q2) fun res s3 hq => ?_)
  cases res with
  | error e => exact False.elim hq
  | ok fl =>
    cases fl with
    | ret u =>
      obtain ⟨a', L, g, gs, own, items, q1, q3, q4, q5, q6, q7, q8, q9, q10, q11, q12, q13⟩ := hq
      exact ⟨a', L, g, H2, items, q1, I2.call' (ch := []) q5 (Un.kept q7) (I2.hok.kept q7) q6 (fun b z => nomatch z), low_of I2 q3, q4, ⟨q8, gs, own, q9, q10, q11, q13⟩, q12⟩
    | next => exact False.elim hq
    | brk => exact False.elim hq
    | cont => exact False.elim hq

/-! ### yield from a generator that ends at its first wake -/
def tYf0 (tw : TGw) : TS := fun D σ H => tw σ H fun items H1 => items = [] ∧ ∀ H2, Same H1 H2 → D.nx σ H2
theorem ps_yf0 {e : Expr} {yp : Pos} {tw : TGw} (he : PGn X k e tw) (hr : Room (k + 2) X.A) (hi : interactive X.env = false := by rfl) : PS X (.Expr (.YieldFrom e yp) pos) (tYf0 tw) := by
  refine ⟨fun pins s σ H D I h => ?_⟩
  rw [exec_Expr X.env _ pos hi rfl]
  show wpAny _ _ (.at pos fun _ => ((eval e X.env >>= fun v => (standAt yp >>= fun _ => yieldFrom X.env v)) >>= fun x => dropValue (.YieldFrom e yp) pos x)) _ _ s
  refine wpAny_bind (m := standAt pos) (wpAny_standAt ?_)
  refine wpAny_bind (wpAny_bind (thn (he.run pins s σ H _ I h) fun u s1 h1 => ?_))
  obtain ⟨a, L, g, H1, items, rfl, I1, low, hsz, ⟨hgen, gs, own, hgs, hao, hown, hrdy⟩, rfl, hQ⟩ := h1
  refine wpAny_bind (wpAny_standAt ?_)
  unfold yieldFrom
  refine wpAny_bind (wpAny_typeOf hgen.typeIs ?_)
  rw [if_neg (by decide)]
  refine wpAny_bind (wpAny_holding (wpAny_pyIter_gen hgen ?_))
  have hr1 : Room (k + 1) X.A.in1 := hr.in1
  have hr2 : Room k X.A.in1.in1 := hr1.in1
  refine wpAny_runValue (codeAny_builtin entry_yf ?_)
  rw [Around.under_plainId plain_yf _]
  unfold Builtin.«proto.yield_from»
  try dsimp only
  refine wpAny_bind (wpAny_pure ?_)
  try dsimp only
  refine wpAny_bind (wpAny_attempt (wpAny_holding ?_))
  rw [if_neg Bool.false_ne_true, if_pos (show (Value.none == Value.none) = true from rfl)]
  refine wpAny_bind (wpAny_rule (wpAny_bind ?_))
  have hgl : g < s1.gens.size := (Array.getElem?_eq_some_iff.mp hgs).1
  refine special_genS hr1.hd I1.nolimit hr1.depth hgen hgs (goesS_mono (hrdy _ hr2 I1.ok.frames H1 (s1.setGen g .running) ⟨env0_run (A' := X.A.in1.in1) I1.env0 rfl g, Same.refl _, hsz, fun b hb => ⟨(hown b hb).2.1, fun o eo => eo⟩⟩) fun en s3 hen => ?_)
  obtain ⟨rfl, H3, wd⟩ := hen
  refine ⟨rfl, fun x h' hS hk => ?_⟩
  obtain ⟨ax, ox, vs, rfl, hoa, hcls, hdat, h5⟩ := hS
  try dsimp only
  refine wpAny_bind (wpAny_endsTurn hoa hcls ?_)
  try dsimp only
  rw [if_pos rfl]
  rw [if_neg Bool.false_ne_true]
  refine wpAny_bind (wpAny_rule (wpAny_bind (wpAny_field hoa hdat h5 ?_)))
  refine wpAny_pure ?_
  show wpAny _ _ (pure Flow.next) _ _ _
  refine wpAny_pure ⟨σ, H3, ?_, hQ H3 wd.same⟩
  exact I1.resumed low.loc low.cell low.pin (show s3.os = s1.os from wd.os) (wd.un.trans (Un.kept hk)) (wd.hok.kept hk) (allBare_setGen wd.bare rfl)
end
end G137
/-! Small tools. -/
namespace G137
open PySem PySem.Spec PyProof.Rows L2
theorem same_upd {H : Hp} {T : Addr} {o : HO} (h : H T = none) : Same H (upd H T o) := fun b o' e => by rw [upd_ne (ne_of_none e h)]; exact e
theorem pe_never {X : Cx} {e : Expr} : PE X e (fun _ _ _ => False) := ⟨fun _ _ _ _ _ _ h => h.elim⟩
theorem ps_never {X : Cx} {st : Stmt} : PS X st (fun _ _ _ => False) := ⟨fun _ _ _ _ _ _ h => h.elim⟩
theorem pss_never {X : Cx} {st : List Stmt} : PSs X st (fun _ _ _ => False) := ⟨fun _ _ _ _ _ _ h => h.elim⟩
theorem pt_never {X : Cx} {e : Expr} : PT X e (fun _ _ _ => False) := ⟨fun _ _ _ _ _ _ h => h.elim⟩
/-- a text, an int of the module -/
theorem pe_gs {X : Cx} {x z : Str} {pos : Pos} (hg : Gl X x) (h : ∃ t, X.mg x = some (.str z t)) (hd : (x == ("__debug__" : Str)) = false := by decide) : PE X (.Name x pos) (tC (.str z)) := by
  obtain ⟨t, hm⟩ := h
  exact pe_glob hg hm ⟨t, rfl⟩ hd
theorem pe_gi {X : Cx} {x : Str} {i : Int} {pos : Pos} (hg : Gl X x) (h : ∃ t, X.mg x = some (.int i t)) (hd : (x == ("__debug__" : Str)) = false := by decide) : PE X (.Name x pos) (tC (.int i)) := by
  obtain ⟨t, hm⟩ := h
  exact pe_glob hg hm ⟨t, rfl⟩ hd
theorem iY {b : Bool} {A B : Prop} (hb : b = true) (h : A) : if b = true then A else B := by rw [if_pos hb]; exact h
theorem iN {b : Bool} {A B : Prop} (hb : b = false) (h : B) : if b = true then A else B := by rw [hb, if_neg Bool.false_ne_true]; exact h
/-! ### defs, methods, makers that let nothing out -/
section
variable (P : Program) (w : World) (K : PySem.W.Frag) (mg : Str → Option Value) (base : Heap) (k : Nat)
structure FOk (x : Str) (ps : List Str) (sp : Sp) : Prop where
  ex : ∃ (f : Addr) (fd : FuncData), FnOk P w K mg base CX0 k f fd ps sp ∧ Binds K fd ps [] ∧ mg x = some (.ref f) ∧ PySem.W.keepIn K (.ref f) = true
structure MOk (C : Addr) (m : Str) (ps : List Str) (sp : Sp) : Prop where
  ex : ∃ (f : Addr) (fd : FuncData), FnOk P w K mg base CX0 k f fd ps sp ∧ Binds K fd ps [] ∧ L2.Cls K C ∧ Meth K C m f
structure NOk (C : Addr) (x : Str) (ps : List Str) (sp : Sp) : Prop where
  ex : ∃ (f : Addr) (fd : FuncData), FnOk P w K mg base CX0 k f fd ps sp ∧ Binds K fd ps [] ∧ Mk K C f ∧ mg x = some (.ref C)
end
section
variable {X : Cx} {k : Nat} {x m : Str} {C : Addr} {ps : List Str} {sp : Sp} {p pos apos : Pos} {e o : Expr} {es : List Expr} {t : TA} {ta : TE}
theorem pe_callF (h : FOk X.prog X.w X.K X.mg X.base k x ps sp) (hr : Room k X.A) (hg : Gl X x) (ha : PA X (e :: es) t) (hdb : (x == ("__debug__" : Str)) = false := by decide)
    (he : starEach (e :: es) X.env = (false, eval e X.env) :: starEach es X.env := by rfl) (hpl : (backTo pos (starEach es X.env)).any (·.1) = false := by rfl) : PE X (.Call (.Name x p) (e :: es) [] pos) (tCall sp [] E0 t) := by
  obtain ⟨f, fd, F, b, hm, kp⟩ := h.ex
  exact pe_call F hr hg hm kp b .nil pass0 ha hdb he hpl
theorem pe_methF {pl : Sem Bool} (ho : PE X o ta) (h : MOk X.prog X.w X.K X.mg X.base k C m ps sp) (hr : Room k X.A) (ha : PA X (e :: es) t)
    (hst : starEach (e :: es) X.env = (false, eval e X.env) :: starEach es X.env := by rfl) (hpl : (backTo pos (starEach es X.env)).any (·.1) = false := by rfl)
    (ht : eval (.Call (.Attribute o m apos) (e :: es) [] pos) X.env = (do
      let ov ← eval o X.env
      standAt apos.atName
      let (f, first) ← holding [ov] (getMethod ov m pl)
      callWith pos f first (backTo pos (starEach (e :: es) X.env)) (backToKw pos (keywordEach [] X.env))) := by rfl) :
    PE X (.Call (.Attribute o m apos) (e :: es) [] pos) (tMeth C m sp [] E0 ta t) := by
  obtain ⟨f, fd, F, b, c, mm⟩ := h.ex
  exact pe_meth (pl := pl) ho c mm F hr b .nil pass0 ha hst hpl ht
theorem pe_methF0 {pl : Sem Bool} (ho : PE X o ta) (h : MOk X.prog X.w X.K X.mg X.base k C m ps sp) (hr : Room k X.A)
    (ht : eval (.Call (.Attribute o m apos) [] [] pos) X.env = (do
      let ov ← eval o X.env
      standAt apos.atName
      let (f, first) ← holding [ov] (getMethod ov m pl)
      callWith pos f first (backTo pos (starEach [] X.env)) (backToKw pos (keywordEach [] X.env))) := by rfl) :
    PE X (.Call (.Attribute o m apos) [] [] pos) (tMeth C m sp [] E0 ta tNil) := by
  obtain ⟨f, fd, F, b, c, mm⟩ := h.ex
  exact pe_meth0 (pl := pl) ho c mm F hr b .nil pass0 ht
theorem pe_makeF (h : NOk X.prog X.w X.K X.mg X.base k C x ps sp) (hr : Room (k + 1) X.A) (hg : Gl X x) (ha : PA X (e :: es) t) (hdb : (x == ("__debug__" : Str)) = false := by decide)
    (he : starEach (e :: es) X.env = (false, eval e X.env) :: starEach es X.env := by rfl) (hpl : (backTo pos (starEach es X.env)).any (·.1) = false := by rfl) : PE X (.Call (.Name x p) (e :: es) [] pos) (tMake C sp [] E0 t) := by
  obtain ⟨f, fd, F, b, M, hm⟩ := h.ex
  exact pe_make M F hr hg hm b .nil pass0 ha hdb he hpl
end
section
variable {P : Program} {w : World} {K : PySem.W.Frag} {mg : Str → Option Value} {base : Heap} {k : Nat} {x qual : Str} {st : Stmt} {f C : Addr} {fd : FuncData} {N ps : List Str} {sp : Sp}
/-- how a def is proved -/
abbrev BodyOk (P : Program) (w : World) (K : PySem.W.Frag) (mg : Str → Option Value) (base : Heap) (k : Nat) (qual : Str) (st : Stmt) (f : Addr) (N ps : List Str) (sp : Sp) : Prop :=
  ∀ (cdv : Value) (A : Around) (outer : List Env) (s : Shared) (H : Hp) (vs : List V) (Q : VK) (E : XK), Room k (A.deeper (envOfC qual (defScope st) s.heap.objs.size f cdv)) → sp vs H Q E →
    ∃ t, PSs (cxOf CX0 P w K mg base N qual (defScope st) f cdv A outer s H E) (defBody st) t ∧ t { nx := fun _ H' => Q .non H', rt := Q } (start N vs) H
theorem FOk.of (F : FunD K x x (defArgs st) (defBody st) (defScope st) [] [] f fd) (hm : mg x = some (.ref f)) (S : FnScope N ps (defScope st))
    (hb : ∀ (kV doc pm : Value) (an : Option Addr) (cdv ct : Value) (us : List Value), us.length = ps.length → bindArgs (PySem.W.fnOf x x (defArgs st) (defBody st) (defScope st) .none kV doc pm an cdv ct) ⟨us, []⟩ = pure (ps.zip us))
    (len : ∀ vs H Q E, sp vs H Q E → vs.length = ps.length) (body : BodyOk P w K mg base k x st f N ps sp) : FOk P w K mg base (k + 1) x ps sp :=
  ⟨f, fd, F.ok S len body, F.bindsN hb, hm, F.kp⟩
theorem MOk.of (F : FunD K x qual (defArgs st) (defBody st) (defScope st) [] [] f fd) (c : L2.Cls K C) (mm : Meth K C x f) (S : FnScope N ps (defScope st))
    (hb : ∀ (kV doc pm : Value) (an : Option Addr) (cdv ct : Value) (us : List Value), us.length = ps.length → bindArgs (PySem.W.fnOf x qual (defArgs st) (defBody st) (defScope st) .none kV doc pm an cdv ct) ⟨us, []⟩ = pure (ps.zip us))
    (len : ∀ vs H Q E, sp vs H Q E → vs.length = ps.length) (body : BodyOk P w K mg base k qual st f N ps sp) : MOk P w K mg base (k + 1) C x ps sp :=
  ⟨f, fd, F.ok S len body, F.bindsN hb, c, mm⟩
theorem NOk.of {cx : Str} (F : FunD K x qual (defArgs st) (defBody st) (defScope st) [] [] f fd) (M : Mk K C f) (hm : mg cx = some (.ref C)) (S : FnScope N ps (defScope st))
    (hb : ∀ (kV doc pm : Value) (an : Option Addr) (cdv ct : Value) (us : List Value), us.length = ps.length → bindArgs (PySem.W.fnOf x qual (defArgs st) (defBody st) (defScope st) .none kV doc pm an cdv ct) ⟨us, []⟩ = pure (ps.zip us))
    (len : ∀ vs H Q E, sp vs H Q E → vs.length = ps.length) (body : BodyOk P w K mg base k qual st f N ps sp) : NOk P w K mg base (k + 1) C cx ps sp :=
  ⟨f, fd, F.ok S len body, F.bindsN hb, M, hm⟩
theorem FOk.mono {j : Nat} (h : FOk P w K mg base j x ps sp) (hj : j ≤ k) : FOk P w K mg base k x ps sp :=
  let ⟨f, fd, F, r⟩ := h.ex
  ⟨f, fd, F.mono hj, r⟩
end

/-! ### comprehensions -/
def KeepD (D : Addr) (H H' : Hp) : Prop := ∀ b o, b ≠ D → H b = some o → H' b = some o
theorem KeepD.of {D : Addr} {H H' : Hp} (h : Same H H') : KeepD D H H' := fun b o _ e => h b o e
theorem KeepD.trans {D : Addr} {H H1 H2 : Hp} (a : KeepD D H H1) (b : KeepD D H1 H2) : KeepD D H H2 := fun c o h e => b c o h (a c o h e)
theorem KeepD.same {D : Addr} {H H' : Hp} (h : KeepD D H H') (n : H D = none) : Same H H' := fun b o e => h b o (ne_of_none e n) e
theorem KeepD.rf {D : Addr} {H : Hp} : KeepD D H H := fun _ _ _ e => e
/-- a comprehension by the list as it grows: for lc_it -/
def AccP (ac : Nat → List V) (D : Addr) (H1 : Hp) (i : Nat) (H : Hp) : Prop := H D = some (.lst (ac i)) ∧ KeepD D H1 H
theorem acc_start {ac : Nat → List V} {D : Addr} {H1 : Hp} (h : ac 0 = []) : AccP ac D H1 0 (upd H1 D (.lst [])) := ⟨by rw [upd_same, h], fun b o hb e => by rw [upd_ne hb]; exact e⟩
theorem acc_step {ac : Nat → List V} {D : Addr} {H1 H H4 : Hp} {i : Nat} {y : V} (p : AccP ac D H1 i H) (k : Same H H4) (hl : (ac i).length < sizeLine) (e : ac (i + 1) = ac i ++ [y]) :
    ∃ acc, H4 D = some (.lst acc) ∧ acc.length < sizeLine ∧ AccP ac D H1 (i + 1) (upd H4 D (.lst (acc ++ [y]))) :=
  ⟨ac i, k _ _ p.1, hl, by rw [upd_same, e], fun b o hb eb => by rw [upd_ne hb]; exact k _ _ (p.2 b o hb eb)⟩
theorem acc_skip {ac : Nat → List V} {D : Addr} {H1 H H3 : Hp} {i : Nat} (p : AccP ac D H1 i H) (k : Same H H3) (e : ac (i + 1) = ac i) : AccP ac D H1 (i + 1) H3 := ⟨by rw [e]; exact k _ _ p.1, fun b o hb eb => k _ _ (p.2 b o hb eb)⟩
theorem AccP.same {ac : Nat → List V} {D : Addr} {H1 H : Hp} {i : Nat} (p : AccP ac D H1 i H) (n : H1 D = none) : Same H1 H := p.2.same n
/-! ### types -/
/-- the type's name of a plain value -/
def tyO : Option HO → Option String
  | some (.lst _) => some "list"
  | some (.tup _) => some "tuple"
  | some (.dK _) => some "dict"
  | _ => none
def tyS (H : Hp) : V → Option String
  | .non => some "NoneType"
  | .bl _ => some "bool"
  | .int _ => some "int"
  | .str _ => some "str"
  | .ref a => tyO (H a)
  | _ => none
theorem tyO_some {o : Option HO} {T : String} (h : tyO o = some T) : (T = "list" ∧ ∃ xs, o = some (.lst xs)) ∨ (T = "tuple" ∧ ∃ xs, o = some (.tup xs)) ∨ (T = "dict" ∧ ∃ xs, o = some (.dK xs)) := by
  unfold tyO at h
  split at h
  · cases h; exact .inl ⟨rfl, _, rfl⟩
  · cases h; exact .inr (.inl ⟨rfl, _, rfl⟩)
  · cases h; exact .inr (.inr ⟨rfl, _, rfl⟩)
  · cases h
theorem tyS_tyx {K : PySem.W.Frag} {H : Hp} {v : V} {T : String} (h : tyS H v = some T) : TyX K H v (.type T) := by
  cases v with
  | non => cases h; exact .base .non
  | bl b => cases h; exact .base (.bl b)
  | int b => cases h; exact .base (.int b)
  | str b => cases h; exact .base (.str b)
  | ref a =>
    rcases tyO_some h with ⟨rfl, xs, e⟩ | ⟨rfl, xs, e⟩ | ⟨rfl, xs, e⟩
    · exact .base (.lst e)
    · exact .base (.tup e)
    · exact .base (.dK e)
  | byt b => cases h
  | flt b => cases h
  | ty b => cases h
def tyNames : List String := ["NoneType", "bool", "int", "str", "list", "tuple", "dict"]
theorem tyS_mem {H : Hp} {v : V} {T : String} (h : tyS H v = some T) : T ∈ tyNames := by
  cases v with
  | non => cases h; decide
  | bl b => cases h; decide
  | int b => cases h; decide
  | str b => cases h; decide
  | ref a =>
    rcases tyO_some h with ⟨rfl, xs, e⟩ | ⟨rfl, xs, e⟩ | ⟨rfl, xs, e⟩ <;> decide
  | byt b => cases h
  | flt b => cases h
  | ty b => cases h
theorem tyS_same {H H' : Hp} {v : V} {T : String} (s : Same H H') (h : tyS H v = some T) : tyS H' v = some T := by
  cases v with
  | ref a =>
    rcases tyO_some h with ⟨rfl, xs, e⟩ | ⟨rfl, xs, e⟩ | ⟨rfl, xs, e⟩ <;> (show tyO (H' a) = _; rw [s _ _ e]; rfl)
  | _ => exact h
/-- isinstance of a plain value and a plain type -/
def isB (T c : String) : Bool := T == c || (T == "bool" && c == "int")
def tyCls : List String := ["int", "bool", "str", "tuple", "list"]
theorem kit_isB {K : PySem.W.Frag} {T c : String} (hT : T ∈ tyNames) (hc : c ∈ tyCls) : PySem.W.kitOne K (.type T) (.type c) = some (isB T c) := by
  have h : ∀ T ∈ tyNames, ∀ c ∈ tyCls, kitB T c = some (isB T c) := by decide +kernel
  exact kit_ty (h T hT c hc)
theorem call_isT {X : Cx} : CallR X (.builtin "isinstance") (fun xs H Q => ∃ v T c, xs = [v, .ty c] ∧ tyS H v = some T ∧ c ∈ tyCls ∧ Q (.bl (isB T c)) H) := by
  intro pins s σ H xs us Q I r h
  obtain ⟨v, T, c, rfl, hT, hc, q⟩ := h
  exact call_isi pins s σ H _ us Q I r ⟨v, _, _, _, _, rfl, .ty c, tyS_tyx hT, kit_isB (tyS_mem hT) hc, q⟩
end G137
/-! Small tools: slices, tests that store a name. -/
namespace G137
open PySem PySem.Spec PyProof.Rows L2
theorem cutV_from (xs : List V) (k : Nat) : cutV xs (some (k : Int)) none = xs.drop k := by
  unfold cutV
  rw [HT.sIx_nat, HT.sIx_none]
  by_cases h : k ≤ xs.length
  · rw [Nat.min_eq_left h]
    exact List.take_of_length_le (by rw [List.length_drop]; exact Nat.le_refl _)
  · rw [Nat.min_eq_right (by omega), List.drop_of_length_le (Nat.le_refl _), List.drop_of_length_le (by omega), List.take_nil]
theorem cutV_to (xs : List V) (k : Nat) : cutV xs none (some (k : Int)) = xs.take k := by
  unfold cutV
  rw [HT.sIx_nat, HT.sIx_none, Nat.sub_zero, List.drop_zero]
  by_cases h : k ≤ xs.length
  · rw [Nat.min_eq_left h]
  · rw [Nat.min_eq_right (by omega), List.take_of_length_le (Nat.le_refl _), List.take_of_length_le (by omega)]
/-! ### data whose == is told -/
theorem lay_list {ds : List PyData} (h : ∀ d ∈ ds, d.canLay0 = true) : PyData.canLayAll0 ds = true := by
  induction ds with
  | nil => simp [PyData.canLayAll0]
  | cons a l ih =>
    simp only [PyData.canLayAll0, Bool.and_eq_true]
    exact ⟨h a (by simp), ih fun d hd => h d (by simp [hd])⟩
theorem depth_list {ds : List PyData} {n : Nat} (h : ∀ d ∈ ds, d.depth ≤ n) : PyData.depthAll ds ≤ n := by
  induction ds with
  | nil => simp [PyData.depthAll]
  | cons a l ih =>
    simp only [PyData.depthAll]
    have := h a (by simp)
    have := ih fun d hd => h d (by simp [hd])
    omega
theorem shaped_list {ds : List PyData} {n : Nat} (h : ∀ d ∈ ds, d.canLay0 = true ∧ d.depth ≤ n) (hn : n < 64) : SeqAt.shaped (.list ds) = true := by
  unfold SeqAt.shaped
  rw [Bool.and_eq_true]
  refine ⟨by simp only [PyData.canLay0]; exact lay_list fun d hd => (h d hd).1, decide_eq_true ?_⟩
  have := depth_list fun d hd => (h d hd).2
  simp only [PyData.depth]
  omega
theorem shaped_tup {ds : List PyData} {n : Nat} (h : ∀ d ∈ ds, d.canLay0 = true ∧ d.depth ≤ n) (hn : n < 64) : SeqAt.shaped (.tuple ds) = true := by
  unfold SeqAt.shaped
  rw [Bool.and_eq_true]
  refine ⟨by simp only [PyData.canLay0]; exact lay_list fun d hd => (h d hd).1, decide_eq_true ?_⟩
  have := depth_list fun d hd => (h d hd).2
  simp only [PyData.depth]
  omega
section
variable {X : Cx} {a b : Expr} {rest : List Expr} {pos : Pos}
def wAnd (t : TTw) (u : TT) : TTw := fun σ H Q => t σ H fun c σ1 H1 => if c = true then u σ1 H1 (fun k H2 => Q k σ1 H2) else Q false σ1 H1
theorem ptw_and {tA : TTw} {tB : TT} (ha : PTw X a tA) (hb : PW X (.BoolOp .And (b :: rest) pos) tB) : PTw X (.BoolOp .And (a :: b :: rest) pos) (wAnd tA tB) := by
  refine ⟨fun pins s σ H Q I h => ?_⟩
  refine isTrue_and (thn (ha.run pins s σ H _ I h) fun c s1 ⟨σ1, H1, I1, q1⟩ => ?_)
  cases c with
  | true => exact thn (hb.run _ pins s1 σ1 H1 _ I1 q1) fun k s2 ⟨H2, I2, q2⟩ => ⟨σ1, H2, I2, q2⟩
  | false => exact ⟨σ1, H1, I1, q1⟩
end
end G137
/-! Dict comprehensions over any walk; dicts with text keys in order. -/
namespace G137
open PySem PySem.Spec PyProof.Rows L2
theorem dc_it {J : It} {n : Nat} {G : Hp → Prop} {Y : Nat → Hp → V → Hp → Prop} (w : Walk J n G Y) {g : TG} {tt : TT} {tk tv : TE} {vs : List Nat} {σ : L2.St} {H1 : Hp} {D : Addr} {Qd : Hp → Prop} (Pv : Nat → Hp → Prop) (h0 : Pv 0 (upd H1 D (.dK []))) (hG : ∀ i H, i ≤ n → Pv i H → G H)
    (hs : ∀ i x H H', i < n → Pv i H → Y i H x H' → g x (wipe σ vs) H' fun σ2 H2 => wipe σ2 vs = wipe σ vs ∧ tt σ2 H2 fun b H3 =>
      if b = true then tk σ2 H3 fun y H4 => tv σ2 H4 fun z H5 => ∃ kvs k, y = kV k ∧ H5 D = some (.dK kvs) ∧ kvs.length < sizeLine ∧ Pv (i + 1) (upd H5 D (.dK (putK kvs k z))) else Pv (i + 1) H3) (hd : ∀ H, Pv n H → Qd H) :
    ∃ W : Nat → Nat → Hp → Prop, (∃ m, W 0 m (upd H1 D (.dK []))) ∧ ∀ i m H, W i m H →
      (J.stop i H ∧ Qd H) ∨ (J.go i H ∧ ∃ Nx : Hp → Prop, (∀ H', Nx H' → ∃ m', m' < m ∧ W (i + 1) m' H') ∧ ∀ x H', J.yld i H x H' → g x (wipe σ vs) H' fun σ2 H2 => wipe σ2 vs = wipe σ vs ∧ tt σ2 H2 fun b H3 =>
        if b = true then tk σ2 H3 fun y H4 => tv σ2 H4 fun z H5 => ∃ kvs k, y = kV k ∧ H5 D = some (.dK kvs) ∧ kvs.length < sizeLine ∧ Nx (upd H5 D (.dK (putK kvs k z))) else Nx H3) := by
  refine ⟨fun i m H => m = n - i ∧ i ≤ n ∧ Pv i H, ⟨n, by simp, Nat.zero_le _, h0⟩, ?_⟩
  rintro i m H ⟨rfl, hi, p⟩
  have q := hG i H hi p
  by_cases hlt : i < n
  · exact .inr ⟨w.goes i H hlt q, Pv (i + 1), fun H' p' => ⟨n - (i + 1), by omega, rfl, hlt, p'⟩, fun x H' y => hs i x H H' hlt p (w.yields i H x H' hlt q y)⟩
  · have e : i = n := by omega
    subst e
    exact .inl ⟨w.stops H q, hd H p⟩
/-- a dict with text keys, in order -/
def mkD (xs : List (Str × V)) : List (Key × V) := xs.map fun p => (Sum.inr p.1, p.2)
theorem mkD_length (xs : List (Str × V)) : (mkD xs).length = xs.length := List.length_map _
theorem mkD_any (xs : List (Str × V)) (k : Str) : ((mkD xs).any fun kv => decide (kv.1 = Sum.inr k)) = decide (k ∈ xs.map (·.1)) := by
  induction xs with
  | nil => rfl
  | cons a l ih =>
    unfold mkD at ih ⊢
    rw [List.map_cons, List.any_cons, ih]
    by_cases h : a.1 = k
    · simp [h]
    · have h' : ¬ k = a.1 := fun z => h z.symm
      simp [h, h']
theorem mkD_put {xs : List (Str × V)} {k : Str} {v : V} (h : k ∉ xs.map (·.1)) : putK (mkD xs) (Sum.inr k) v = mkD (xs ++ [(k, v)]) := by
  unfold putK
  rw [mkD_any, decide_eq_false h, if_neg Bool.false_ne_true]
  unfold mkD
  rw [List.map_append]
  rfl
theorem mkD_val (xs : List (Str × V)) (k : Str) : valV (mkD xs) (Sum.inr k) = (xs.find? fun p => decide (p.1 = k)).map (·.2) := by
  induction xs with
  | nil => rfl
  | cons a l ih =>
    unfold mkD at ih ⊢
    rw [List.map_cons]
    by_cases h : a.1 = k
    · rw [valV_pos (by rw [h]), List.find?_cons, decide_eq_true h]; rfl
    · rw [valV_neg (fun z => h (Sum.inr.inj z)), List.find?_cons, decide_eq_false h]; exact ih
/-- a dict comprehension by the dict as it grows -/
def AccD (ac : Nat → List (Key × V)) (D : Addr) (H1 : Hp) (i : Nat) (H : Hp) : Prop := H D = some (.dK (ac i)) ∧ KeepD D H1 H
theorem accd_start {ac : Nat → List (Key × V)} {D : Addr} {H1 : Hp} (h : ac 0 = []) : AccD ac D H1 0 (upd H1 D (.dK [])) := ⟨by rw [upd_same, h], fun b o hb e => by rw [upd_ne hb]; exact e⟩
theorem accd_step {ac : Nat → List (Key × V)} {D : Addr} {H1 H H4 : Hp} {i : Nat} {k : Key} {y : V} (p : AccD ac D H1 i H) (s : Same H H4) (hl : (ac i).length < sizeLine) (e : ac (i + 1) = putK (ac i) k y) :
    H4 D = some (.dK (ac i)) ∧ (ac i).length < sizeLine ∧ AccD ac D H1 (i + 1) (upd H4 D (.dK (putK (ac i) k y))) :=
  ⟨s _ _ p.1, hl, by rw [upd_same, e], fun b o hb eb => by rw [upd_ne hb]; exact s _ _ (p.2 b o hb eb)⟩
theorem AccD.same {ac : Nat → List (Key × V)} {D : Addr} {H1 H : Hp} {i : Nat} (p : AccD ac D H1 i H) (n : H1 D = none) : Same H1 H := p.2.same n
end G137
/-! Own special methods of instances: x in o, len(o), o[i], o[i] = v, o == y; defs that may raise. -/
namespace G137
open PySem PySem.Spec PyProof.Rows L2
/-- a def called from a running body: its ways out are the body's -/
theorem run_own {X : Cx} {CX : CXT} {k : Nat} {f : Addr} {fd : FuncData} {ps : List Str} {sp : Sp} {E : XK} {pins : List (Addr × Obj)} {σ : L2.St} {H : Hp} {s : Shared} {vs : List V} {us : List Value} {Q : VK} {A : Around}
    (F : FnOk X.prog X.w X.K X.mg X.base CX k f fd ps sp) (hr : Room k A) (e0 : Env0 X.prog X.w X.K X.mg X.base A X.stack s H) (hb : Binds X.K fd ps []) (hx : Passes CX X E) (I : Inv X pins σ H s) (r : Vals vs us) (h : sp vs H Q E) :
    wpAny (model X.prog X.w) A (call (.ref f) us) (EP X pins σ Q) X.xe s := by
  have hl : us.length = ps.length := by rw [← F.len _ _ _ _ h, r.length]
  have hb' := hb s us I.kIn (by rw [List.append_nil]; exact hl)
  rw [List.append_nil] at hb'
  refine wpAny_call (codeAny_mono (F.run A X.stack s H ⟨us, []⟩ us vs Q E hr e0 hb' r h) fun res s' hq => ?_)
  match res, hq with
  | .error e, hq => exact hx pins σ H s e s' I hq
  | .ok (.ret u), hq => exact I.after hq
  | .ok .next, hq => exact False.elim hq
  | .ok .brk, hq => exact False.elim hq
  | .ok .cont, hq => exact False.elim hq
/-- the def of a special method, with its promise -/
structure Dun (X : Cx) (CX : CXT) (k : Nat) (C : Addr) (m : Str) (sp : Sp) : Prop where
  ex : ∃ (f : Addr) (fd : FuncData) (ps : List Str), FnOk X.prog X.w X.K X.mg X.base CX k f fd ps sp ∧ Binds X.K fd ps [] ∧ Meth X.K C m f ∧ PySem.W.fnIn X.K f = true
section
variable {X : Cx} {CX : CXT} {k : Nat} {C : Addr} {sp : Sp} {E : XK}
/-- x in o -/
def rInOwn (C : Addr) (sp : Sp) (E : XK) (neg : Bool) : R2 := fun x y H Q => ∃ a dx fs, y = .ref a ∧ H a = some (.ins C dx fs) ∧ sp [.ref a, x] H (fun r H' => ∃ b, r = .bl b ∧ Q (.bl (if neg then !b else b)) H') E
theorem op_inOwn (D : Dun X CX k C "__contains__" sp) (hr : Room k X.A) (hx : Passes CX X E) : OpR X (compareOp .In) (rInOwn C sp E false) := by
  intro pins s σ H x y v u Q I rx ry h
  obtain ⟨a, dx, fs, rfl, ea, q⟩ := h
  cases (show u = Value.ref a from ry)
  obtain ⟨f, fd, ps, F, hb, hm, _⟩ := D.ex
  obtain ⟨mA, O, _⟩ := ins_get I.hok ea
  obtain ⟨od, J, _⟩ := O.look
  obtain ⟨m, hF⟩ := I.fr
  refine PySem.W.in_K hF I.ok.mod.kin J hm.at_ hm.fn (wpAny_mono (run_own (vs := [.ref a, x]) (us := [.ref a, v]) F hr I.env0 hb hx I (.cons rfl (.cons rx .nil)) q) (fun r s' z => ?_) fun _ _ z => z)
  obtain ⟨rv, H', I', rr, b, rfl, q'⟩ := z
  cases rr
  exact wpAny_truthy_bool ⟨.bl b, H', I', rfl, q'⟩
theorem op_notInOwn (D : Dun X CX k C "__contains__" sp) (hr : Room k X.A) (hx : Passes CX X E) : OpR X (compareOp .NotIn) (rInOwn C sp E true) := by
  intro pins s σ H x y v u Q I rx ry h
  obtain ⟨a, dx, fs, rfl, ea, q⟩ := h
  cases (show u = Value.ref a from ry)
  obtain ⟨f, fd, ps, F, hb, hm, _⟩ := D.ex
  obtain ⟨mA, O, _⟩ := ins_get I.hok ea
  obtain ⟨od, J, _⟩ := O.look
  obtain ⟨m, hF⟩ := I.fr
  refine PySem.W.notIn_K hF I.ok.mod.kin J hm.at_ hm.fn (wpAny_mono (run_own (vs := [.ref a, x]) (us := [.ref a, v]) F hr I.env0 hb hx I (.cons rfl (.cons rx .nil)) q) (fun r s' z => ?_) fun _ _ z => z)
  obtain ⟨rv, H', I', rr, b, rfl, q'⟩ := z
  cases rr
  exact wpAny_truthy_bool ⟨.bl (!b), H', I', rfl, q'⟩
/-- len(o) -/
def rLenOwn (C : Addr) (sp : Sp) (E : XK) : List V → Hp → VK → Prop := fun xs H Q => ∃ a dx fs, xs = [.ref a] ∧ H a = some (.ins C dx fs) ∧ sp [.ref a] H (fun r H' => ∃ n : Nat, r = .int (n : Int) ∧ n < 2 ^ 62 ∧ Q (.int (n : Int)) H') E
theorem call_lenOwn (D : Dun X CX k C "__len__" sp) (hr : Room (k + 1) X.A) (hx : Passes CX X E) : CallR X (.builtin "len") (rLenOwn C sp E) := by
  intro pins s σ H xs us Q I r h
  obtain ⟨a, dx, fs, rfl, ea, q⟩ := h
  obtain ⟨u, rfl, ru⟩ := r.one
  cases (show u = Value.ref a from ru)
  obtain ⟨f, fd, ps, F, hb, hm, _⟩ := D.ex
  obtain ⟨mA, O, _⟩ := ins_get I.hok ea
  obtain ⟨od, J, _⟩ := O.look
  refine Calls.call_function_entry kind_len plain_len entry_len (args_len1 _) ?_
  unfold Builtin.«len»
  refine wpAny_bind (m := oneArg "len" _) (wpAny_pure ?_)
  refine wpAny_bind (m := callSpecial? (.ref a) (Str.ofString "__len__")) (PySem.W.special_fn I.kIn J hm.at_ (beq_iff_eq.mp hm.fn) (wpAny_mono (run_own (vs := [.ref a]) (us := [.ref a]) F (show Room k X.A.in1 from hr.in1) I.env0.in1 hb hx I (.cons rfl .nil) q) (fun rv s' z => ?_) fun _ _ z => z))
  obtain ⟨rv', H', I', rr, n, rfl, hn, q'⟩ := z
  obtain ⟨t, rfl⟩ := (show ∃ t, rv = Value.int (n : Int) t from rr)
  refine wpAny_bind (wpAny_holding (wpAny_pure (wpAny_bind (wpAny_letGo ?_))))
  show wpAny _ _ (if (n : Int) < 0 then _ else _) _ _ _
  rw [if_neg (by omega)]
  show wpAny _ _ (if (n : Int) ≥ 2 ^ 63 then _ else _) _ _ _
  rw [if_neg (by omega)]
  exact wpAny_bind (wpAny_mkInt (wpAny_pure ⟨_, rfl, .int (n : Int), H', I'.tok _, ⟨_, rfl⟩, q'⟩))
/-- o[i] -/
def tSubOwn (C : Addr) (sp : Sp) (E : XK) (ta tb : TE) : TE := fun σ H Q => ta σ H fun x H1 => tb σ H1 fun y H2 => ∃ a dx fs, x = .ref a ∧ H2 a = some (.ins C dx fs) ∧ sp [.ref a, y] H2 Q E
theorem pe_subOwn {a b : Expr} {ta tb : TE} {pos : Pos} (D : Dun X CX k C "__getitem__" sp) (hr : Room (k + 1) X.A) (hx : Passes CX X E) (ha : PE X a ta) (hb : PE X b tb)
    (hsl : ∀ v i, subscripted b true v i = runValue (.builtin "lifetime.subscript" ⟨[v, i], []⟩) := by intro _ _; rfl) : PE X (.Subscript a b pos) (tSubOwn C sp E ta tb) := by
  refine ⟨fun pins s σ H Q I h => ?_⟩
  refine Subscript_ (binT (R := fun x y H2 => ∃ a dx fs, x = .ref a ∧ H2 a = some (.ins C dx fs) ∧ sp [.ref a, y] H2 Q E) ha hb I h fun v u s2 x y H2 I2 rx ry q => ?_)
  obtain ⟨p, dx, fs, rfl, ea, q⟩ := q
  cases (show v = Value.ref p from rx)
  obtain ⟨f, fd, ps, F, hbi, hm, hfi⟩ := D.ex
  obtain ⟨mA, O, _⟩ := ins_get I2.hok ea
  obtain ⟨od, J, _⟩ := O.look
  obtain ⟨m, hF⟩ := I2.fr
  exact PySem.W.sub_K hF I2.ok.mod.kin J hm.at_ hfi hm.fn (run_own (vs := [.ref p, y]) (us := [.ref p, u]) F (show Room k X.A.in1 from hr.in1) I2.env0.in1 hbi hx I2 (.cons rfl (.cons ry .nil)) q) (hsl _ _)
/-- o[i] = v -/
def sPutOwn (C : Addr) (sp : Sp) (E : XK) (td ty tv : TE) : TS := fun D σ H => tv σ H fun v H1 => td σ H1 fun x H2 => ty σ H2 fun y H3 => ∃ a dx fs, x = .ref a ∧ H3 a = some (.ins C dx fs) ∧ sp [.ref a, y, v] H3 (fun _ H' => D.nx σ H') E
theorem ps_putOwn {o i value : Expr} {td ty tv : TE} {pos pos' : Pos} (D : Dun X CX k C "__setitem__" sp) (hq : PySem.W.noSeq X.K C = true) (hr : Room k X.A) (hx : Passes CX X E) (ho : PE X o td) (hi : PE X i ty) (hv : PE X value tv)
    (hs : swapsWith value (some (.Subscript o i pos')) pos.line X.env = pure false) : PS X (.Assign [.Subscript o i pos'] value pos) (sPutOwn C sp E td ty tv) := by
  refine ⟨fun pins s σ H Dn I h => ?_⟩
  refine wpAny_Assign_Subscript (thn (hv.run pins s σ H _ I h) fun r s1 ⟨v, H1, I1, rv, q1⟩ => thn (ho.run pins s1 σ H1 _ I1 q1) fun u s2 ⟨x, H2, I2, rx, q2⟩ => thn (hi.run pins s2 σ H2 _ I2 q2) fun iv s3 ⟨y, H3, I3, ry, q3⟩ => ?_) hs
  obtain ⟨a, dx, fs, rfl, ea, q⟩ := q3
  cases (show u = Value.ref a from rx)
  obtain ⟨f, fd, ps, F, hbi, hm, _⟩ := D.ex
  obtain ⟨mA, O, _⟩ := ins_get I3.hok ea
  obtain ⟨od, J, _⟩ := O.look
  unfold setItem sequenceKey
  refine wpAny_holding (wpAny_bind (wpAny_bind (J.type.here (wpAny_bind ((PySem.W.anyM_none I3.kIn hq).here ?_)))))
  rw [if_pos (show (!false) = true from rfl)]
  refine wpAny_pure (wpAny_bind (PySem.W.special_fn I3.kIn J hm.at_ (beq_iff_eq.mp hm.fn) (wpAny_mono (run_own (vs := [.ref a, y, v]) (us := [.ref a, iv, r]) F hr I3.env0 hbi hx I3 (.cons rfl (.cons ry (.cons rv .nil))) q) (fun rv' s' z => ?_) fun _ _ z => z)))
  obtain ⟨z', H', I', rr, q'⟩ := z
  exact wpAny_pure ⟨σ, H', I', q'⟩
/-- o == y by an own __eq__ -/
def rEqOwn (K : PySem.W.Frag) (C : Addr) (sp : Sp) (E : XK) : R2 := fun x y H Q => ∃ a dx fs tb, x = .ref a ∧ H a = some (.ins C dx fs) ∧ TyX K H y tb ∧ PySem.W.notFirst K C tb = true ∧ sp [.ref a, y] H Q E
theorem op_eqOwn (D : Dun X CX k C "__eq__" sp) (hr : Room k X.A) (hx : Passes CX X E) : OpR X (compareOp .Eq) (rEqOwn X.K C sp E) := by
  intro pins s σ H x y v u Q I rx ry h
  obtain ⟨a, dx, fs, tb, rfl, ea, ty, hn, q⟩ := h
  cases (show v = Value.ref a from rx)
  obtain ⟨f, fd, ps, F, hb, hm, _⟩ := D.ex
  obtain ⟨mA, O, _⟩ := ins_get I.hok ea
  obtain ⟨od, J, _⟩ := O.look
  obtain ⟨m, hF⟩ := I.fr
  obtain ⟨P, hk, hp, _⟩ := kit_of I ry ty
  show wpAny _ _ (richCompare .Eq (.ref a) u) _ _ _
  refine PySem.W.cmp_K (op := .Eq) (tb := tb) hr.units0 hF I.ok.mod.kin J (hk.ty _ _ I.kIn hp) hn hm.at_ hm.fn ?_
  refine wpAny_mono (run_own (vs := [.ref a, y]) (us := [.ref a, u]) F hr I.env0 hb hx I (.cons rfl (.cons ry .nil)) q) (fun w s' z => ?_) fun _ _ z => z
  obtain ⟨z', H', I', rz, qz⟩ := z
  exact SlX.cmpback rz ⟨z', H', I', rz, qz⟩
end
/-- what isinstance, ==, o[i] = v ask of a class of one's own -/
structure IsiF (K : PySem.W.Frag) (C : Addr) : Prop where
  ca : PySem.W.findIn K (.ref C) "__class__" = some (some (.builtin "object.__class__"))
  cm : PySem.W.mroIn K C (.type "object") = some true
  ns : PySem.W.noSeq K C = true
theorem IsiF.ty {K : PySem.W.Frag} {C a dx : Addr} {H : Hp} {fs : List (Str × V)} (h : IsiF K C) (c : L2.Cls K C) (e : H a = some (.ins C dx fs)) : TyX K H (.ref a) (.ref C) :=
  .base (.ins e c h.ca (by kernel_rfl) (by kernel_rfl) h.cm)
/-! ### defs, methods, makers that may raise -/
section
variable (P : Program) (w : World) (K : PySem.W.Frag) (mg : Str → Option Value) (base : Heap) (k : Nat)
structure FOkX (x : Str) (ps : List Str) (sp : Sp) : Prop where
  ex : ∃ (f : Addr) (fd : FuncData), FnOk P w K mg base (L2.CX P w) k f fd ps sp ∧ Binds K fd ps [] ∧ mg x = some (.ref f) ∧ PySem.W.keepIn K (.ref f) = true
structure MOkX (C : Addr) (m : Str) (ps : List Str) (sp : Sp) : Prop where
  ex : ∃ (f : Addr) (fd : FuncData), FnOk P w K mg base (L2.CX P w) k f fd ps sp ∧ Binds K fd ps [] ∧ L2.Cls K C ∧ Meth K C m f
structure NOkX (C : Addr) (x : Str) (ps : List Str) (sp : Sp) : Prop where
  ex : ∃ (f : Addr) (fd : FuncData), FnOk P w K mg base (L2.CX P w) k f fd ps sp ∧ Binds K fd ps [] ∧ Mk K C f ∧ mg x = some (.ref C)
/-- a property's getter -/
structure POk (C : Addr) (x : Str) (sp : Sp) : Prop where
  ex : ∃ (p g : Addr) (fd : FuncData), PropOf K C x p g ∧ FnOk P w K mg base CX0 k g fd ["self"] sp ∧ Binds K fd ["self"] [] ∧ L2.Cls K C
end
section
variable {X : Cx} {k : Nat} {x m : Str} {C : Addr} {ps : List Str} {sp : Sp} {p pos apos : Pos} {e o : Expr} {es : List Expr} {t : TA} {ta : TE} {E : XK}
theorem MOkX.dun (h : MOkX X.prog X.w X.K X.mg X.base k C m ps sp) (hf : ∀ f, Meth X.K C m f → PySem.W.fnIn X.K f = true) : Dun X (L2.CX X.prog X.w) k C m sp := by
  obtain ⟨f, fd, F, b, c, mm⟩ := h.ex
  exact ⟨f, fd, ps, F, b, mm, hf f mm⟩
theorem MOk.dun (h : MOk X.prog X.w X.K X.mg X.base k C m ps sp) (hf : ∀ f, Meth X.K C m f → PySem.W.fnIn X.K f = true) : Dun X CX0 k C m sp := by
  obtain ⟨f, fd, F, b, c, mm⟩ := h.ex
  exact ⟨f, fd, ps, F, b, mm, hf f mm⟩
theorem pe_callX (h : FOkX X.prog X.w X.K X.mg X.base k x ps sp) (hr : Room k X.A) (hx : Passes (L2.CX X.prog X.w) X E) (hg : Gl X x) (ha : PA X (e :: es) t) (hdb : (x == ("__debug__" : Str)) = false := by decide)
    (he : starEach (e :: es) X.env = (false, eval e X.env) :: starEach es X.env := by rfl) (hpl : (backTo pos (starEach es X.env)).any (·.1) = false := by rfl) : PE X (.Call (.Name x p) (e :: es) [] pos) (tCall sp [] E t) := by
  obtain ⟨f, fd, F, b, hm, kp⟩ := h.ex
  exact pe_call F hr hg hm kp b .nil hx ha hdb he hpl
theorem pe_methX {pl : Sem Bool} (ho : PE X o ta) (h : MOkX X.prog X.w X.K X.mg X.base k C m ps sp) (hr : Room k X.A) (hx : Passes (L2.CX X.prog X.w) X E) (ha : PA X (e :: es) t)
    (hst : starEach (e :: es) X.env = (false, eval e X.env) :: starEach es X.env := by rfl) (hpl : (backTo pos (starEach es X.env)).any (·.1) = false := by rfl)
    (ht : eval (.Call (.Attribute o m apos) (e :: es) [] pos) X.env = (do
      let ov ← eval o X.env
      standAt apos.atName
      let (f, first) ← holding [ov] (getMethod ov m pl)
      callWith pos f first (backTo pos (starEach (e :: es) X.env)) (backToKw pos (keywordEach [] X.env))) := by rfl) :
    PE X (.Call (.Attribute o m apos) (e :: es) [] pos) (tMeth C m sp [] E ta t) := by
  obtain ⟨f, fd, F, b, c, mm⟩ := h.ex
  exact pe_meth (pl := pl) ho c mm F hr b .nil hx ha hst hpl ht
theorem pe_makeX (h : NOkX X.prog X.w X.K X.mg X.base k C x ps sp) (hr : Room (k + 1) X.A) (hx : Passes (L2.CX X.prog X.w) X E) (hg : Gl X x) (ha : PA X (e :: es) t) (hdb : (x == ("__debug__" : Str)) = false := by decide)
    (he : starEach (e :: es) X.env = (false, eval e X.env) :: starEach es X.env := by rfl) (hpl : (backTo pos (starEach es X.env)).any (·.1) = false := by rfl) : PE X (.Call (.Name x p) (e :: es) [] pos) (tMake C sp [] E t) := by
  obtain ⟨f, fd, F, b, M, hm⟩ := h.ex
  exact pe_make M F hr hg hm b .nil hx ha hdb he hpl
theorem pe_propF (he : PE X o ta) (h : POk X.prog X.w X.K X.mg X.base k C m sp) (hr : Room (k + 1) X.A) (hab : attributeBase o m X.env (eval o X.env) = eval o X.env := by rfl) : PE X (.Attribute o m pos) (tProp C sp [] E0 ta) := by
  obtain ⟨p, g, fd, hp, F, b, c⟩ := h.ex
  exact pe_prop he c hp F hr b .nil pass0 hab
end
section
variable {P : Program} {w : World} {K : PySem.W.Frag} {mg : Str → Option Value} {base : Heap} {k : Nat} {x qual : Str} {st : Stmt} {f C : Addr} {fd : FuncData} {N ps : List Str} {sp : Sp}
abbrev BodyOkX (P : Program) (w : World) (K : PySem.W.Frag) (mg : Str → Option Value) (base : Heap) (k : Nat) (qual : Str) (st : Stmt) (f : Addr) (N ps : List Str) (sp : Sp) : Prop :=
  ∀ (cdv : Value) (A : Around) (outer : List Env) (s : Shared) (H : Hp) (vs : List V) (Q : VK) (E : XK), Room k (A.deeper (envOfC qual (defScope st) s.heap.objs.size f cdv)) → sp vs H Q E →
    ∃ t, PSs (cxOf (L2.CX P w) P w K mg base N qual (defScope st) f cdv A outer s H E) (defBody st) t ∧ t { nx := fun _ H' => Q .non H', rt := Q } (start N vs) H
theorem FOkX.of (F : FunD K x x (defArgs st) (defBody st) (defScope st) [] [] f fd) (hm : mg x = some (.ref f)) (S : FnScope N ps (defScope st))
    (hb : ∀ (kV doc pm : Value) (an : Option Addr) (cdv ct : Value) (us : List Value), us.length = ps.length → bindArgs (PySem.W.fnOf x x (defArgs st) (defBody st) (defScope st) .none kV doc pm an cdv ct) ⟨us, []⟩ = pure (ps.zip us))
    (len : ∀ vs H Q E, sp vs H Q E → vs.length = ps.length) (body : BodyOkX P w K mg base k x st f N ps sp) : FOkX P w K mg base (k + 1) x ps sp :=
  ⟨f, fd, F.ok S len body, F.bindsN hb, hm, F.kp⟩
theorem MOkX.of (F : FunD K x qual (defArgs st) (defBody st) (defScope st) [] [] f fd) (c : L2.Cls K C) (mm : Meth K C x f) (S : FnScope N ps (defScope st))
    (hb : ∀ (kV doc pm : Value) (an : Option Addr) (cdv ct : Value) (us : List Value), us.length = ps.length → bindArgs (PySem.W.fnOf x qual (defArgs st) (defBody st) (defScope st) .none kV doc pm an cdv ct) ⟨us, []⟩ = pure (ps.zip us))
    (len : ∀ vs H Q E, sp vs H Q E → vs.length = ps.length) (body : BodyOkX P w K mg base k qual st f N ps sp) : MOkX P w K mg base (k + 1) C x ps sp :=
  ⟨f, fd, F.ok S len body, F.bindsN hb, c, mm⟩
theorem NOkX.of {cx : Str} (F : FunD K x qual (defArgs st) (defBody st) (defScope st) [] [] f fd) (M : Mk K C f) (hm : mg cx = some (.ref C)) (S : FnScope N ps (defScope st))
    (hb : ∀ (kV doc pm : Value) (an : Option Addr) (cdv ct : Value) (us : List Value), us.length = ps.length → bindArgs (PySem.W.fnOf x qual (defArgs st) (defBody st) (defScope st) .none kV doc pm an cdv ct) ⟨us, []⟩ = pure (ps.zip us))
    (len : ∀ vs H Q E, sp vs H Q E → vs.length = ps.length) (body : BodyOkX P w K mg base k qual st f N ps sp) : NOkX P w K mg base (k + 1) C cx ps sp :=
  ⟨f, fd, F.ok S len body, F.bindsN hb, M, hm⟩
theorem POk.of {p : Addr} (F : FunD K x qual (defArgs st) (defBody st) (defScope st) [] [] f fd) (c : L2.Cls K C) (hp : PropOf K C x p f) (S : FnScope N ["self"] (defScope st))
    (hb : ∀ (kV doc pm : Value) (an : Option Addr) (cdv ct : Value) (us : List Value), us.length = (["self"] : List Str).length → bindArgs (PySem.W.fnOf x qual (defArgs st) (defBody st) (defScope st) .none kV doc pm an cdv ct) ⟨us, []⟩ = pure ((["self"] : List Str).zip us))
    (len : ∀ vs H Q E, sp vs H Q E → vs.length = 1) (body : BodyOk P w K mg base k qual st f N ["self"] sp) : POk P w K mg base (k + 1) C x sp :=
  ⟨p, f, fd, hp, F.ok S len body, F.bindsN hb, c⟩
end
end G137
/-! What the head tells, with properties and with the tables of code objects. -/
namespace G137
open PySem PySem.Spec PyProof.Rows L2
/-! ### properties -/
def prA (K : Frag) (q : Str × Str) : Addr := He.ma K (He.ga K q.1) q.2
def prG (K : Frag) (q : Str × Str) : Addr := match PySem.W.recIn K (prA K q) "property" with
  | some (.ref g :: _) => g
  | _ => 0
def fnA (K : Frag) (a : Addr) : He.FnW := match K.lookup a with
  | some ⟨_, _, .func fd, _⟩ => some (fd.name, fd.qualname, fd.params, fd.body, fd.scope, fd.globals, fd.closure, fd.builtins)
  | _ => none
def fnB (K : Frag) (a : Addr) (qual : Str) : Bool := PySem.W.keepIn K (.ref a) && (match K.lookup a with
  | some ⟨_, _, .func fd, _⟩ => PySem.W.codeIn K fd.code qual && He.dflB K fd.defaults []
  | _ => false)
def prB (K : Frag) (q : Str × Str) : Bool := oO (PySem.W.findIn K (.ref (He.ga K q.1)) q.2) (some (some (.ref (prA K q)))) && (oO (PySem.W.specialIn K (.ref (prA K q)) "__get__") (some (some (.builtin "property.__get__"))) && (oB (PySem.W.takesIn K (.ref (prA K q))) (some true) &&
  ((match PySem.W.recIn K (prA K q) "property" with
  | some (.ref _ :: _) => true
  | _ => false) && fnB K (prG K q) (q.1 ++ "." ++ q.2))))
theorem fnB_ok {K : Frag} {a : Addr} {x qual : Str} {params : Arguments} {body : List Stmt} {scope : Scope} (e : fnA K a = some (x, qual, params, .stmts body, scope, mainGlobals, [], builtinsNs)) (c : fnB K a qual = true) : ∃ fd, FunD K x qual params body scope [] [] a fd := by
  unfold fnB at c
  rw [Bool.and_eq_true] at c
  obtain ⟨kp, c⟩ := c
  unfold fnA at e
  split at c
  · rename_i oc od fd osl ho
    rw [ho] at e
    rw [Bool.and_eq_true] at c
    obtain ⟨n1, n2, n3, n4, n5, n6, n7, n8, n9, n10, n11, n12, n13, n14, n15⟩ := fd
    simp only [Option.some.injEq, Prod.mk.injEq] at e
    obtain ⟨g1, g2, g3, g4, g5, g6, g7, g8⟩ := e
    subst g1 g2 g3 g4 g5 g6 g7 g8
    exact ⟨_, ⟨oc, od, n8, n9, n10, n11, n12, n13, n14, osl, rfl, ho, c.1, He.dflB_ok c.2, .inl rfl⟩, kp⟩
  · cases c
theorem prB_ok {K : Frag} {C x : Str} {params : Arguments} {body : List Stmt} {scope : Scope} (e : fnA K (prG K (C, x)) = some (x, C ++ "." ++ x, params, .stmts body, scope, mainGlobals, [], builtinsNs)) (c : prB K (C, x) = true) : ∃ p g fd, PropOf K (He.ga K C) x p g ∧ FunD K x (C ++ "." ++ x) params body scope [] [] g fd := by
  unfold prB at c
  simp only [Bool.and_eq_true] at c
  obtain ⟨c1, c2, c3, c4, c5⟩ := c
  obtain ⟨fd, F⟩ := fnB_ok e c5
  refine ⟨prA K (C, x), prG K (C, x), fd, ⟨of_decide_eq_true c1, of_decide_eq_true c2, of_decide_eq_true c3, ?_⟩, F⟩
  split at c4
  · rename_i g rest er
    refine ⟨rest, ?_⟩
    have : prG K (C, x) = g := by unfold prG; rw [er]
    rw [this]
    exact er
  · cases c4
/-! ### slots -/
def slA (K : Frag) (C f : Str) : Addr := He.ma K (He.ga K C) f
def slcB (K : Frag) (C : Addr) : Bool := PySem.W.plainGet K C Str.empty && (PySem.W.isClsIn K C && (PySem.W.plainOver K C && oO (PySem.W.findIn K (.ref C) "__setattr__") (some (some (.builtin "object.__setattr__")))))
theorem slcB_ok {K : Frag} {C : Addr} (h : slcB K C = true) : SlX.SCls K C := by
  unfold slcB at h
  simp only [Bool.and_eq_true] at h
  exact ⟨h.1, h.2.1, h.2.2.1, of_decide_eq_true h.2.2.2⟩
def slB (K : Frag) (C f : Str) (i : Nat) : Bool := oO (PySem.W.findIn K (.ref (He.ga K C)) f) (some (some (.ref (slA K C f)))) && (oO (PySem.W.specialIn K (.ref (slA K C f)) "__get__") (some (some (.builtin "member_descriptor.__get__"))) && (oB (PySem.W.takesIn K (.ref (slA K C f))) (some true) &&
  (decide (PySem.W.typeIn K (.ref (slA K C f)) = some (.type "member_descriptor")) && (decide (PySem.W.slotIn K (slA K C f) (He.ga K C) = some i) && decide (i < 1000)))))
theorem slB_ok {K : Frag} {C f : Str} {i : Nat} (h : slB K C f i = true) : ∃ p, SlX.Slot1 K (He.ga K C) f p i := by
  unfold slB at h
  simp only [Bool.and_eq_true] at h
  obtain ⟨h1, h2, h3, h4, h5, h6⟩ := h
  exact ⟨_, of_decide_eq_true h1, of_decide_eq_true h2, of_decide_eq_true h3, of_decide_eq_true h4, of_decide_eq_true h5, of_decide_eq_true h6⟩
/-! ### what isinstance and == ask of a class -/
def isiB (K : Frag) (C : Addr) : Bool := oO (PySem.W.findIn K (.ref C) "__class__") (some (some (.builtin "object.__class__"))) && (oB (PySem.W.mroIn K C (.type "object")) (some true) && PySem.W.noSeq K C)
theorem isiB_ok {K : Frag} {C : Addr} (h : isiB K C = true) : IsiF K C := by
  unfold isiB at h
  simp only [Bool.and_eq_true] at h
  exact ⟨of_decide_eq_true h.1, of_decide_eq_true h.2.1, h.2.2⟩
/-! ### the Hook -/
abbrev AlY : Type := He.AlD × FnI × List He.FnW × Bool
abbrev Prp : Type := Str × Str × Stmt
def Prp.val (q : Prp) : He.FnW := some (q.2.1, q.1 ++ "." ++ q.2.1, defArgs q.2.2, .stmts (defBody q.2.2), defScope q.2.2, mainGlobals, [], builtinsNs)
/-- what an object leads to: a def its code and cells, a class its names, a dict its values, a property its getter -/
def nxt (g : Addr → Option Obj) (a : Addr) : List Addr := match g a with
  | some ⟨c, _, d, _⟩ => (match d with
    | .func fd => He.refV fd.code ++ fd.closure.map (·.2)
    | .cls cd => [cd.ns]
    | .dict es _ => es.toList.flatMap fun e => He.refV e.val
    | .fields vs => (match c with
      | .type n => if n == "property" then vs.toList.flatMap He.refV else []
      | _ => [])
    | _ => [])
  | none => []
def lay (g : Addr → Option Obj) : Nat → List Addr
  | 0 => nxt g mainGlobals
  | n + 1 => (lay g n).flatMap (nxt g)
def asF (g : Addr → Option Obj) : Nat → List Addr
  | 0 => lay g 0
  | n + 1 => asF g n ++ lay g (n + 1)
def kT (g : Addr → Option Obj) (n : Nat) : Frag := He.frT g (mainGlobals :: sysModules :: cStatics :: asF g n)
structure Wish where
  fa : List He.Fa
  fn : List He.DefD
  pr : List Prp
  ini : Frag → Addr
  vi : FnI
  tf : List He.Defn
  ex : Frag → Bool
def lookY (W : Wish) (g : Addr → Option Obj) (K : Frag) : AlY := (He.obsD W.fa W.fn K, fnI K (W.ini K), W.pr.map (fun q => fnA K (prG K (q.1, q.2.1))), (W.pr.all fun q => prB K (q.1, q.2.1)) && (W.ex K && He.tabsB g W.tf K))
def valY (W : Wish) : AlY := (He.valD W.fn, W.vi, W.pr.map Prp.val, true)
def obsY (n : Nat) (W : Wish) (g : Addr → Option Obj) : AlY := lookY W g (kT g n)
structure SaysY (W : Wish) (h : Heap) (K : Frag) : Prop where
  d : He.SaysD W.fa W.fn K
  i : fnI K (W.ini K) = W.vi
  p : W.pr.map (fun q => fnA K (prG K (q.1, q.2.1))) = W.pr.map Prp.val
  b : ∀ q ∈ W.pr, prB K (q.1, q.2.1) = true
  x : W.ex K = true
  hd : ∀ p ∈ W.tf, PySem.W.codeHdIn K (He.cT K p).1 (He.cT K p).2 = true
  no : ∀ p ∈ W.tf, K.lookup (He.cT K p).2 = none
  em : ∀ p ∈ W.tf, h.get? (He.cT K p).2 = some { cls := .none, data := .fields #[] }
theorem tab_at {tf : List He.Defn} {g : Addr → Option Obj} {K : Frag} (h : He.tabsB g tf K = true) {p : He.Defn} (hp : p ∈ tf) : PySem.W.codeHdIn K (He.cT K p).1 (He.cT K p).2 = true ∧ ∃ o, g (He.cT K p).2 = some o ∧ He.emptyTab o = true := by
  have h1 := List.all_eq_true.mp (show tf.all _ = true from h) p hp
  rw [Bool.and_eq_true] at h1
  refine ⟨h1.1, ?_⟩
  have h2 := h1.2
  split at h2
  · rename_i o e
    exact ⟨o, e, h2⟩
  · cases h2
theorem saysY_of {n : Nat} {W : Wish} {h : Heap} (e : obsY n W h.get? = valY W) : SaysY W h (kT h.get? n) := by
  have e3 : ((W.pr.all fun q => prB (kT h.get? n) (q.1, q.2.1)) && (W.ex (kT h.get? n) && He.tabsB h.get? W.tf (kT h.get? n))) = true := congrArg (fun z : AlY => z.2.2.2) e
  rw [Bool.and_eq_true, Bool.and_eq_true] at e3
  exact {
    d := congrArg (fun z : AlY => z.1) e
    i := congrArg (fun z : AlY => z.2.1) e
    p := congrArg (fun z : AlY => z.2.2.1) e
    b := fun q hq => List.all_eq_true.mp e3.1 q hq
    x := e3.2.1
    hd := fun p hp => (tab_at e3.2.2 hp).1
    no := fun p hp => by
      obtain ⟨_, o, q, z⟩ := tab_at e3.2.2 hp
      exact He.frT_none q z
    em := fun p hp => by
      obtain ⟨_, o, q, z⟩ := tab_at e3.2.2 hp
      rw [q, He.emptyTab_eq z] }
theorem SaysY.prop {W : Wish} {h : Heap} {K : Frag} (c : SaysY W h K) (i : Nat) {C x : Str} {st : Stmt} (hi : W.pr[i]? = some (C, x, st)) : ∃ p g fd, PropOf K (He.ga K C) x p g ∧ FunD K x (C ++ "." ++ x) (defArgs st) (defBody st) (defScope st) [] [] g fd := by
  have e : (W.pr.map (fun q => fnA K (prG K (q.1, q.2.1))))[i]? = (W.pr.map Prp.val)[i]? := by rw [c.p]
  rw [List.getElem?_map, List.getElem?_map, hi] at e
  exact prB_ok (Option.some.inj e) (c.b _ (List.mem_of_getElem? hi))
def hookY (n : Nat) (W : Wish) : PySem.W.Hook where
  α := AlY
  obs := fun s => obsY n W s.heap.get?
  val := fun _ => valY W
  says := fun _ h => ∃ K : Frag, K.In h ∧ SaysY W h K
  of := fun _ s e => ⟨kT s.heap.get? n, He.frT_in, saysY_of e⟩
  keeps := fun _ _ _ ⟨K, hK, c⟩ k => ⟨K, PySem.W.Frag.In.keeps hK k, { c with em := fun p hp => k _ _ (c.em p hp) }⟩
theorem obsY_eq {n : Nat} {W : Wish} {g : Addr → Option Obj} {s : Shared} (h : ∀ a, g a = s.heap.get? a) : obsY n W g = (hookY n W).obs s := by
  have e : g = s.heap.get? := funext h
  rw [e] <;> rfl
theorem join5 {α A B C D : Type} {x : Option α} {f0 : α → A} {f1 f2 : α → Bool} {f3 : α → B} {f4 : α → C} {g : α → D} {v0 : A} {v3 : B} {v4 : C} {v : D} (h0 : x.map f0 = some v0) (h1 : x.map f1 = some true) (h2 : x.map f2 = some true) (h3 : x.map f3 = some v3) (h4 : x.map f4 = some v4)
    (hg : ∀ s, f0 s = v0 → f1 s = true → f2 s = true → f3 s = v3 → f4 s = v4 → g s = v) : x.map g = some v := by
  cases x with
  | none => cases h0
  | some s => exact congrArg some (hg s (Option.some.inj h0) (Option.some.inj h1) (Option.some.inj h2) (Option.some.inj h3) (Option.some.inj h4))
end G137
/-! xs[::2] of a list of one; x not in a tuple of data. -/
namespace G137
open PySem PySem.Spec PyProof.Rows L2
section
variable {X : Cx}
def tStep2 (K : PySem.W.Frag) (te : TE) : TE := fun σ H Q => te σ H fun x H1 => ∃ a v, x = .ref a ∧ SqL K H1 a [v] ∧ ∀ p, H1 p = none → Q (.ref p) (upd H1 p (.lst [v]))
theorem pe_step2 {e : Expr} {te : TE} {k : Nat} {p1 p3 pos : Pos} (he : PE X e te) : PE X (.Subscript e (.Slice none none (some (.Constant (.int 2) k p1)) p3) pos) (tStep2 X.K te) := by
  refine ⟨fun pins s σ H Q I h => ?_⟩
  refine Subscript_ (thn (he.run pins s σ H _ I h) fun v s1 ⟨x, H1, I1, r1, q1⟩ => ?_)
  obtain ⟨a, v0, ex, hx, q⟩ := q1
  subst ex
  cases r1
  have hst : PO X (some (.Constant (.int 2) k p1)) (tPart (tC (.int 2))) := po_some pe_int
  refine wpAny_Slice (thn (po_none.run pins s1 σ H1 (fun o H2 => o = none ∧ H2 = H1) I1 ⟨rfl, rfl⟩) fun vl s2 ⟨l, H2, I2, pl, el, e2⟩ => ?_)
  subst el e2
  refine thn (po_none.run pins s2 σ H2 (fun o H3 => o = none ∧ H3 = H2) I2 ⟨rfl, rfl⟩) fun vu s3 ⟨u, H3, I3, pu, eu, e3⟩ => ?_
  subst eu e3
  refine thn (hst.run pins s3 σ H3 (fun o H4 => o = some 2 ∧ H4 = H3) I3 ⟨2, rfl, rfl, rfl⟩) fun vs s4 ⟨o, H4, I4, ps, eo, e4⟩ => ?_
  subst eo e4
  have I5 : Inv X pins σ H4 { s4 with heap := s4.heap.push { cls := .type "slice", data := .fields #[vl, vu, vs] } } := I4.kept (t' := s4.toks) fun b ob q => Heap.get?_push_of_some _ q
  obtain ⟨its, r, ht, hz⟩ := I5.list hx
  have hlen := r.length
  show wpAny (model X.prog X.w) X.A (subscriptTail e (.Slice none none (some (.Constant (.int 2) k p1)) p3) (.ref a) (.ref s4.heap.objs.size)) (EP X pins σ Q) X.xe { s4 with heap := s4.heap.push { cls := .type "slice", data := .fields #[vl, vu, vs] } }
  refine tail_any (ops := [.ref a, .ref s4.heap.objs.size]) ht.isList.typeIs (PySem.slot_list_getitem.lookup) ?_ (by with_unfolding_all rfl)
  refine wpAny_getItem_list_slice ht.isList (Heap.IsSliceOf.new _ vl vu vs) pl pu ps (by decide) ?_ (by rw [List.size_toArray]; omega)
  obtain ⟨u0, rfl⟩ : ∃ u0, its = [u0] := by
    cases its with
    | nil => cases hlen
    | cons a l =>
      cases l with
      | nil => exact ⟨a, rfl⟩
      | cons b l => simp at hlen
  have ep : slicePick #[u0] none none (some 2) = #[u0] := by kernel_rfl
  rw [ep]
  exact ⟨.ref _, _, I5.laid (t' := s4.toks) (o := .lst [v0]) (fun b ob q => Heap.get?_push_of_some _ q) (Nat.le_refl _) ⟨hz, [u0], 0, r, Heap.get?_push_size _ rfl⟩, rfl, q _ (I5.hok.fresh (Nat.le_refl _))⟩
/-- x not in a tuple of data -/
def rNotInDT (K : PySem.W.Frag) : R2 := fun x y H Q => ∃ d ds, Dp K H x d ∧ Dp K H y (.tuple ds) ∧ SeqAt.shaped d = true ∧ SeqAt.shaped (.tuple ds) = true ∧ Q (.bl (!ds.any fun z => PyData.eqv z d)) H
theorem op_notInDT (hu : X.A.units + 65 < cLine) : OpR X (compareOp .NotIn) (rNotInDT X.K) := by
  intro pins s σ H x y v u Q I rx ry h
  obtain ⟨d, ds, hd, he, sd, se, q⟩ := h
  obtain ⟨as, r1⟩ := Dp.reads I d x v hd rx
  obtain ⟨bs, r2⟩ := Dp.reads I (.tuple ds) y u he ry
  exact SeqAt.notIn_tuple_reads r2 r1 (SeqAt.canLay_of_shaped se) (SeqAt.canLay_of_shaped sd) (room_in_shaped sd hu) ⟨.bl _, H, I, rfl, q⟩
end
end G137
/-! enumerate(tuple). -/
namespace G137
open PySem PySem.Spec PyProof.Rows L2
open AutoSeq1 (wpAny_loadPart')
/-- the iterator of a tuple, drawn -/
theorem drawsT {P : Program} {w : World} {A : Around} (hh : A.handled = none) (it l : Addr) (hne : l ≠ it) (xs : Array Value) :
    Draws P w A it [it, l] xs.size (fun i v => xs[i]? = some v) (fun i h => h.IsTupleIter it l i ∧ h.IsTuple l xs) where
  live := fun _ _ q => let ⟨o, ho, _⟩ := q.1; ⟨o, ho⟩
  frame := fun _ _ _ q k => ⟨q.1.at fun o e => k it (by simp) o e, q.2.at fun o e => k l (by simp) o e⟩
  item := fun i s Q E lt q hQ => RZ.nextOf_tuple_item q.1 q.2 (x := xs[i]) (by simp [lt]) fun h' r1 r2 => hQ _ h' s.toks (by simp [lt]) ⟨r1, q.2.extBut r2.extBut hne⟩ r2
  done := fun s Q E q hE => RZ.nextOf_tuple_end hh q.1 q.2 (by simp) hE
theorem meets_enumT (l : Addr) (xs : Array Value) (n : Nat) (dc : Option Addr) (sl : Array (Option Value)) :
    Meets (Builtin.«enumerate.__new__» ⟨[.type "enumerate", .ref l], []⟩) (fun _ R s => s.heap.get? l = some { cls := .type "tuple", dict := dc, data := .seq xs n, slots := sl } ∧
      R (.ok (.ret (.ref (s.heap.push { cls := .type "tuple_iterator", data := .fields #[.ref l, .int 0 0] }).objs.size)))
        { s with heap := (s.heap.push { cls := .type "tuple_iterator", data := .fields #[.ref l, .int 0 0] }).push { cls := .type "enumerate", data := .fields #[.none, .bool false, .ref s.heap.objs.size, rawInt 0, .none, .none] } }) :=
  .of_wp fun P w A R s h => by
    obtain ⟨hp, g, d, tk, os⟩ := s
    obtain ⟨ht, hR⟩ := h
    have sub := sub_enumerate
    have hT : Heap.IsTuple (Shared.heap ⟨hp, g, d, tk, os⟩) l xs := ⟨_, ht, rfl, n, rfl⟩
    wp_walk using wpAny_loadPart' ht
    refine wpAny_stack_any fun st => wpAny_pure ?_
    split
    · rename_i c _ _ _ _ _
      cases (c == Value.type "enumerate")
      · wp_walk using wpAny_loadPart' ht, wpAny_pyIter_tuple hT
        exact ⟨_, rfl, hR⟩
      · wp_walk using wpAny_loadPart' ht, wpAny_pyIter_tuple hT
        exact ⟨_, rfl, hR⟩
    · wp_walk using wpAny_loadPart' ht, wpAny_pyIter_tuple hT
      exact ⟨_, rfl, hR⟩
theorem call_enumT {P : Program} {w : World} {A : Around} {E : Value → Shared → Prop} {s : Shared} {l : Addr} {xs : Array Value} {Q : Value → Shared → Prop} (hL : s.heap.IsTuple l xs)
    (hQ : ∀ h', IsEnum h' (s.heap.objs.size + 1) s.heap.objs.size 0 .none → h'.IsTupleIter s.heap.objs.size l 0 → (∀ b o, s.heap.get? b = some o → h'.get? b = some o) → Q (.ref (s.heap.objs.size + 1)) { s with heap := h' }) :
    wpAny (model P w) A (call (.type "enumerate") [.ref l]) Q E s := by
  obtain ⟨⟨c, dc, dt, sl⟩, ht, hc, n, hd⟩ := hL
  obtain rfl : c = .type "tuple" := hc
  obtain rfl : dt = .seq xs n := hd
  refine callType_new F.called_enumerate (by decide) (F.typeCall_enumerate_1 _) (F.newCall_enumerate_1 _) (fun obj => F.args_object_init_2 obj _) F.entry_enumerate_new (meets_enumT l xs n dc sl) ⟨ht, ?_⟩
  have ez : (s.heap.push { cls := .type "tuple_iterator", data := .fields #[.ref l, .int 0 0] }).objs.size = s.heap.objs.size + 1 := Heap.size_push ..
  show _ ∧ _
  rw [ez]
  have hE : IsEnum ((s.heap.push { cls := .type "tuple_iterator", data := .fields #[.ref l, .int 0 0] }).push { cls := .type "enumerate", data := .fields #[.none, .bool false, .ref s.heap.objs.size, rawInt 0, .none, .none] }) (s.heap.objs.size + 1) s.heap.objs.size 0 .none := by
    have q := Heap.get?_push_size (s.heap.push { cls := .type "tuple_iterator", data := .fields #[.ref l, .int 0 0] }) (o := { cls := .type "enumerate", data := .fields #[.none, .bool false, .ref s.heap.objs.size, rawInt 0, .none, .none] }) rfl
    rw [ez] at q
    exact q
  exact ⟨⟨_, hE, rfl⟩, hQ _ hE ⟨_, Heap.get?_push_of_some _ (Heap.get?_push_size _ rfl), rfl, rfl⟩ fun b o x => Heap.get?_push_of_some _ (Heap.get?_push_of_some _ x)⟩
/-- the tuple at a, each item in a new pair -/
def IteT (K : PySem.W.Frag) (a : Addr) : It :=
  ⟨fun i H => ∃ (xs : List V) (x : V), SqT K H a xs ∧ xs[i]? = some x, fun i H v H' => ∃ T x, v = .ref T ∧ H T = none ∧ H' = upd H T (.tup [.int (i : Nat), x]) ∧ ∀ xs, SqT K H a xs → xs[i]? = some x, fun i H => ∃ xs : List V, SqT K H a xs ∧ xs.length ≤ i⟩
theorem turn_enumT {P : Program} {w : World} {K : PySem.W.Frag} {es : List Expr} {kk : Nat} {tpos : Pos} (a e it : Addr) (hae : a ≠ it) (hea : e ≠ a) :
    Turn P w K (.Tuple es kk tpos) (IteT K a) [e, it] e (fun i h => (∃ old, IsEnum h e it ((i : Nat) : Int) old) ∧ h.IsTupleIter it a i ∧ e ≠ it) where
  mem := by simp
  obj := fun i h q b hb => by
    obtain ⟨⟨old, h1⟩, ⟨o, ho, hc, hd⟩, _⟩ := q
    rcases (show b = e ∨ b = it by simpa using hb) with rfl | rfl
    · exact ⟨_, h1, fun v z => nomatch z⟩
    · exact ⟨o, ho, fun v z => by rw [hd] at z; cases z⟩
  keep := fun i h h' q k => let ⟨⟨old, h1⟩, h2, h3⟩ := q; ⟨⟨old, k e (by simp) _ h1⟩, h2.at fun o z => k it (by simp) o z, h3⟩
  item := by
    intro X hP hw hK hc i pins s σ H E I hf q hg
    subst hP hw hK
    obtain ⟨⟨old, h1⟩, h2, hne⟩ := q
    obtain ⟨xs, x, hx1, hx2⟩ := hg
    obtain ⟨its, rv, p, _⟩ := I.tuple hx1
    obtain ⟨u, hu, ru⟩ := rv.get hx2
    have hu' : its.toArray[i]? = some u := by simpa using hu
    have el : e < s.heap.objs.size := Heap.lt_size h1
    have il : it < s.heap.objs.size := by obtain ⟨_, z, _⟩ := h2; exact Heap.lt_size z
    have lt : i < its.toArray.size := (Array.getElem?_eq_some_iff.mp hu').1
    refine wpAny_pyNext_enum_itemD (drawsT (show X.A.in1.handled = none from I.ok.hd hc) it a hae its.toArray) h1 ⟨h2, p⟩ lt hne (by simp [hne, hea]) fun y h' tk hy ho st' hT hsz hk => ?_
    obtain rfl : u = y := Option.some.inj (hu'.symm.trans hy)
    refine ⟨_, rfl, wpAny_letOwnedTupleGo_enum (s := { s with heap := h', toks := tk + 1 }) ho fun h'' ho' sb => ?_⟩
    have hT' : h''.get? s.heap.objs.size = some { cls := .type "tuple", data := .seq #[.int i tk, u] } := (sb.2 _ (Nat.ne_of_gt el)).trans hT
    have new : ObjOk X.prog X.w (upd H s.heap.objs.size (.tup [.int (i : Nat), x])) h'' s.heap.objs.size (.tup [.int (i : Nat), x]) := ⟨by show 2 ≤ sizeLine; decide, [.int i tk, u], .cons ⟨_, rfl⟩ (.cons ru .nil), ⟨_, hT', rfl, _, rfl⟩⟩
    have J : Inv X pins σ (upd H s.heap.objs.size (.tup [.int (i : Nat), x])) { s with heap := h'', toks := tk + 1 } :=
      I.turnedNew (ch := [e, it]) (fun b ob nb z => (sb.2 b (fun y => nb (by simp [y]))).trans (hk b ob (fun y => nb (by simp [y])) (fun y => nb (by simp [y])) z)) hf (Nat.le_refl _) new
    refine ⟨.ref s.heap.objs.size, _, J, rfl, ⟨_, x, rfl, I.hok.fresh (Nat.le_refl _), rfl, fun ys hy => by rw [I.tuple_inj hy hx1]; exact hx2⟩, ⟨⟨u, ?_⟩, st'.1.at fun o z => (sb.2 it (Ne.symm hne)).trans z, hne⟩, fun b hb => ?_⟩
    · have e1 : ((i + 1 : Nat) : Int) = (i : Int) + 1 := by omega
      rw [e1]
      exact ho'
    · have lb : b < s.heap.objs.size := by
        rcases (show b = e ∨ b = it by simpa using hb) with rfl | rfl
        · exact el
        · exact il
      rw [upd_ne (Nat.ne_of_lt lb)]
      exact (hf b hb).1
  done := by
    intro X hP hw hK hc i pins s σ H E I hf q hg
    subst hP hw hK
    obtain ⟨⟨old, h1⟩, h2, hne⟩ := q
    obtain ⟨xs, hx1, hx2⟩ := hg
    obtain ⟨its, rv, p, _⟩ := I.tuple hx1
    obtain ⟨f0, f1, f2, f3, f4, f5⟩ := hf it (by simp)
    have hl := rv.length
    have hn : its.toArray[i]? = none := by simp; omega
    have hT : s.TypeIs (.ref e) "enumerate" := ⟨_, h1, rfl⟩
    unfold pyNext
    refine wpAny_bind (wpAny_attempt (wpAny_callSpecial?_slot (name := Str.ofString "__next__") hT F.slot_enumerate_next (wpAny_call_entry F.slot_enumerate_next hT F.entry_enumerate_next ?_ (F.args_enumerate_next_1 _))))
    show wpAny _ _ (field (.ref e) 2 >>= _) _ _ _
    refine wpAny_bind (wpAny_field h1 rfl (x := .ref it) rfl ?_)
    refine wpAny_bind (RZ.nextOf_tuple_end (show X.A.in1.handled = none from I.ok.hd hc) h2 p hn fun h' z hz1 hz2 => ?_)
    obtain ⟨oz, ho, hcz⟩ := hz2
    refine wpAny_bind (wpAny_isInstance (T := "StopIteration") (b := true) ⟨oz, ho, hcz⟩ isSubtype_stop ?_)
    exact wpAny_pure ⟨rfl, I.turned (t' := s.toks) (fun b o nb z => hz1 b o nb z) f0 f1 f3 f4 f5⟩
  self := fun A i s Q E q h => let ⟨⟨_, h1⟩, _⟩ := q; wpAny_pyIter_enum h1 h
def iEnumT (K : PySem.W.Frag) (ta : TA) : TI := fun σ H R => ta σ H fun vs H1 => ∃ a xs, vs = [.ref a] ∧ SqT K H1 a xs ∧ R (IteT K a) H1
theorem pi_enumT {X : Cx} {e : Expr} {ta : TA} {p pos tpos : Pos} {es : List Expr} {kk : Nat} (hg : Gl X "enumerate") (hm : X.mg "enumerate" = none) (ha : PA X [e] ta) (hs : starEach [e] X.env = [(false, eval e X.env)] := by rfl) :
    PI X (.Tuple es kk tpos) (.Call (.Name "enumerate" p) [e] [] pos) (iEnumT X.K ta) := by
  refine ⟨fun pins s σ H R I h => ?_⟩
  refine Call_ (ld_blt I hg hm boot_enumerate (PyProof.Rows.callWith_type1 (thn (ha.run pos pins s σ H _ I h) fun us s1 ⟨vs, H1, I1, r1, q1⟩ => ?_) hs rfl))
  obtain ⟨a, xs, ev, hq, q⟩ := q1
  subst ev
  cases r1 with
  | cons r rr =>
    cases rr
    cases r
    obtain ⟨its, rv, p', _⟩ := I1.tuple hq
    have la : a < s1.heap.objs.size := by obtain ⟨o, z, _⟩ := p'; exact Heap.lt_size z
    refine call_enumT p' fun h' h1 h2 hk => wpAny_pyIter_enum h1 ?_
    have J : Inv X pins σ H1 { s1 with heap := h' } := I1.kept (t' := s1.toks) hk
    refine ⟨s1.heap.objs.size + 1, [s1.heap.objs.size + 1, s1.heap.objs.size], _, _, H1, rfl, J, turn_enumT a (s1.heap.objs.size + 1) s1.heap.objs.size (Nat.ne_of_lt la) (Nat.ne_of_gt (Nat.lt_succ_of_lt la)), ⟨⟨.none, h1⟩, h2, Nat.succ_ne_self _⟩, fun b hb => ?_, q⟩
    have le : s1.heap.objs.size ≤ b := by
      rcases (show b = s1.heap.objs.size + 1 ∨ b = s1.heap.objs.size by simpa using hb) with z | z <;> rw [z]
      · exact Nat.le_add_right _ _
      · exact Nat.le_refl _
    exact I1.fpOk le (I1.hok.fresh le)
theorem walk_enumT {K : PySem.W.Frag} {a : Addr} {xs : List V} : Walk (IteT K a) xs.length (fun H => SqT K H a xs) (YPair (fun i => some (.int (i : Nat))) (fun i => xs[i]?)) where
  goes := fun i H hi h => ⟨xs, xs[i], h, by simp [hi]⟩
  stops := fun H h => ⟨xs, h, Nat.le_refl _⟩
  yields := fun i H x H' hi h y => by
    obtain ⟨T, v, e1, e2, e3, e4⟩ := y
    exact ⟨T, .int (i : Nat), v, e1, e2, e3, rfl, e4 xs h⟩
end G137
/-! == of two lists of unlike length, whatever they hold. -/
namespace G137
open PySem PySem.SeqAt L2
open AutoSeq1 (wpAny_loadPart')
section
variable {prog : Program} {w : World} {A : Around} {R : Result → Shared → Prop}
theorem list_eq_len (l b : Addr) {o1 o2 : Obj} {items items2 : Array Value} {n n2 : Nat} {s : Shared} (hl1 : s.heap.get? l = some o1) (hl2 : o1.cls = .type "list") (hl3 : o1.data = .seq items n) (hb1 : s.heap.get? b = some o2) (hb2 : o2.cls = .type "list") (hb3 : o2.data = .seq items2 n2) (hsz : items.size ≠ items2.size) (hR : R (.ok (.ret (.bool false))) s) :
    wpAny (model prog w) A.in1 (Builtin.«list.__eq__» ⟨[.ref l, .ref b], []⟩) (GQ.FinOf prog w A R) (fun e s' => R (.error e) s') s := by
  obtain ⟨hp, g, d, tk, os⟩ := s
  obtain ⟨c1, d1, e1, f1⟩ := o1
  obtain ⟨c2, d2, e2, f2⟩ := o2
  simp only at hl2 hl3 hb2 hb3
  subst hl2 hl3 hb2 hb3
  have f3 := AutoSeq1.sub_list_list
  have hne : (items.size != items2.size) = true := by simp [hsz]
  wp_walk using wpAny_loadPart' hl1, wpAny_loadPart' hb1
  exact hR
end
/-- x == y, two lists of unlike length -/
def rEqLen (K : PySem.W.Frag) : R2 := fun x y H Q => ∃ a b xs ys, x = .ref a ∧ y = .ref b ∧ SqL K H a xs ∧ SqL K H b ys ∧ xs.length ≠ ys.length ∧ Q (.bl false) H
theorem op_eqLen {X : Cx} (hu : X.A.units < cLine) : OpR X (compareOp .Eq) (rEqLen X.K) := by
  intro pins s σ H x y v u Q I rx ry h
  obtain ⟨a, b, xs, ys, ex, ey, h1, h2, hl, q⟩ := h
  subst ex ey
  obtain rfl : v = Value.ref a := rx
  obtain rfl : u = Value.ref b := ry
  obtain ⟨its, r1, ⟨o1, n1, g1, g2, g3, g4⟩, z1⟩ := I.list h1
  obtain ⟨its2, r2, ⟨o2, n2, k1, k2, k3, k4⟩, z2⟩ := I.list h2
  show wpAny (model X.prog X.w) X.A (richCompare .Eq (.ref a) (.ref b)) (EP X pins σ Q) X.xe s
  refine wpAny_richCompare_same_room (op := .Eq) ⟨_, g1, g2⟩ ⟨_, k1, k2⟩ F.slot_list_eq (GQ.call_here F.slot_list_eq ⟨_, g1, g2⟩ F.entry_list_eq (F.args_list_eq_2 _ _) ?_) hu
  refine list_eq_len (R := wants (fun v s' => v ≠ .notImplemented ∧ EP X pins σ Q v s') X.xe) a b g1 g2 (by assumption) k1 k2 (by assumption) ?_ ⟨(fun z => nomatch z), .bl false, H, I, rfl, q⟩
  rw [List.size_toArray, List.size_toArray, ← r1.length, ← r2.length]
  exact hl
end G137
/-! x, *rest = a list. -/
namespace G137
open PySem PySem.Spec PyProof.Rows L2
theorem walks_from {prog : Program} {w : World} {A : Around} (hh : A.handled = none) {I l : Addr} (hne : l ≠ I) (items : Array Value) (k n : Nat) (hk : k + n = items.size) :
    WalksS prog w A I [I, l] [I] (fun a b => a = b) n (fun j v => items[k + j]? = some v) (fun j s => s.heap.IsListIter I l (k + j) ∧ s.heap.IsList l items) where
  sub := fun b hb => by simp at hb; simp [hb]
  grefl := fun _ => rfl
  gtrans := fun _ _ _ a b => a.trans b
  frame := fun _ _ _ _ st _ hk => ⟨st.1.at fun o e => hk I (by simp) o e, st.2.at fun o e => hk l (by simp) o e⟩
  item := fun i s Q E hi st hQ => by
    have hlt : k + i < items.size := by omega
    refine wpAny_pyNext_list_item st.1 st.2 (x := items[k + i]) (by simp [hlt]) fun h' hit' hs' => ?_
    exact hQ _ _ (by simp [hlt]) ⟨hit', st.2.extBut hs'.extBut hne⟩ ⟨fun b o hb e => hs'.extBut b o (fun h => hb (by simp [h])) e, rfl, rfl, rfl, Nat.le_refl _⟩
  done := fun s Q E st hQ => wpAny_pyNext_list_end hh st.1 st.2 (by simp; omega) fun h' he' => hQ _ ⟨fun b o hb e => he' b o (fun h => hb (by simp [h])) e, rfl, rfl, rfl, Nat.le_refl _⟩
  self := fun _ _ _ _ st hQ => wpAny_pyIter_listiter st.1 hQ
section
variable {X : Cx} {pos p2 : Pos}
def gHdr (K : PySem.W.Frag) (t u : TG) : TG := fun v σ H Q => ∃ a x xs, v = .ref a ∧ SqL K H a (x :: xs) ∧ ∀ p, H p = none → t x σ (upd H p (.lst xs)) fun σ' H' => u (.ref p) σ' H' Q
theorem pg_hdr {e1 e2 : Expr} {k : Nat} {t u : TG} (hc : X.calm = true) (h1 : PG X e1 t) (h2 : PG X e2 u) (hst : assignEach [e1, .Starred e2 p2] X.env = [(false, assign e1 X.env), (true, assign e2 X.env)] := by rfl) : PG X (.Tuple [e1, .Starred e2 p2] k pos) (gHdr X.K t u) := by
  refine ⟨fun pins s σ H v w Q I r hw => ?_⟩
  obtain ⟨a, x, xs, e, hq, hw⟩ := hw
  subst e
  cases r
  obtain ⟨its, rv, pl, hz⟩ := I.list hq
  have hl' : s.heap.IsList a its.toArray := by
    obtain ⟨o, m, e, c, d, q⟩ := pl
    exact ⟨o, e, c, m, q⟩
  cases rv with
  | cons rx rxs =>
  rename_i u0 us
  have hh := I.ok.hd hc
  have hlt : a ≠ s.heap.objs.size := by obtain ⟨o, ho, _⟩ := hl'; exact Nat.ne_of_lt (Heap.lt_size ho)
  rw [PyProof.Rows.assign_Tuple, hst]
  refine wpAny_bind (wpAny_standAt ?_)
  unfold unpack
  refine wpAny_bind (wpAny_holding ?_)
  show wpAny _ _ (unpackItems (.ref a) 2 (some 1)) _ _ _
  unfold unpackItems
  refine wpAny_bind ?_
  unfold notIterableAtAll
  refine wpAny_bind (wpAny_specialOf hl'.typeIs PySem.slot_list_iter.lookup ?_)
  refine wpAny_pure ?_
  simp only [Bool.false_eq_true, if_false]
  refine wpAny_bind (wpAny_holding (wpAny_pyIter_list hl' ?_))
  have hit0 : (s.heap.push { cls := .type "list_iterator", data := .fields #[.ref a, .int 0 0] }).IsListIter s.heap.objs.size a 0 := ⟨_, Heap.get?_push_size _ rfl, rfl, rfl⟩
  refine wpAny_bind (wpAny_holding (PySem.W.kun_draw hlt 1 0 _ _ hit0 (hl'.push _) (by simp) fun h₁ hit₁ hs₁ => ?_))
  have hl₁ : h₁.IsList a (u0 :: us).toArray := (hl'.push _).extBut hs₁.extBut hlt
  have et1 : List.take 1 (List.drop 0 (u0 :: us).toArray.toList) = [u0] := rfl
  rw [et1]
  rw [if_neg (by simp)]
  have hI1 : s.heap.objs.size < h₁.objs.size := by
    obtain ⟨o, ho, _⟩ := hit₁
    exact Heap.lt_size ho
  have ha1 : a < h₁.objs.size := by
    obtain ⟨o, ho, _⟩ := hl₁
    exact Heap.lt_size ho
  have hz' : us.length + 1 ≤ sizeLine := by
    have := rxs.length
    simp only [List.length_cons] at hz
    omega
  refine wpAny_bind (wpAny_holding (wpAny_collect_iter (T := "list_iterator") (n := us.length) (.inr (.inr (.inl rfl))) (walks_from (A := X.A.in1) hh hlt (u0 :: us).toArray 1 us.length (by simp; omega)) (fun i s' st => ?_) ⟨hit₁, hl₁⟩ (fun b hb => ?_) (by simp) (fun s' acc hm hacc => ?_) (by omega)))
  · obtain ⟨o, ho, hcl, _⟩ := st.1
    exact ⟨o, ho, hcl⟩
  · simp at hb
    rcases hb with rfl | rfl
    · exact hI1
    · exact ha1
  have eacc : acc.toList = us := by
    refine List.ext_getElem? fun j => ?_
    by_cases hj : j < us.length
    · have hj' : j < acc.size := by rw [hacc.1]; exact hj
      have := hacc.2 j acc[j] (by simp [hj'])
      simp only [Array.getElem?_toList, Array.getElem?_eq_getElem hj']
      rw [← this]
      rw [Nat.add_comm 1 j]
      simp
    · rw [List.getElem?_eq_none (by simp [hacc.1]; omega), List.getElem?_eq_none (by omega)]
  rw [eacc]
  try dsimp only
  rw [if_neg (by simp)]
  have I1 : Inv X pins σ H s' := by
    have : s' = { s with heap := s'.heap, toks := s'.toks } := by
      have h1 : s.gens = s'.gens := hm.gens
      have h2 : s'.os = s.os := hm.os
      have h3 := hm.drawn
      cases s'
      cases s
      simp at h1 h2 h3 ⊢
      exact ⟨h1.symm, h3, h2⟩
    rw [this]
    exact I.kept (t' := s'.toks) fun b o e => hm.heap b o (fun z => by simp at z; exact absurd (z ▸ Heap.lt_size e) (Nat.lt_irrefl _)) (hs₁.extBut b o (Nat.ne_of_lt (Heap.lt_size e)) (Heap.get?_push_of_some _ e))
  refine wpAny_bind (wpAny_newList ?_)
  refine wpAny_pure ?_
  have hp := I1.hok.fresh (Nat.le_refl s'.heap.objs.size)
  have hxs : xs.length ≤ sizeLine := by simp only [List.length_cons] at hz; omega
  have I2 : Inv X pins σ (upd H s'.heap.objs.size (.lst xs)) { s' with heap := s'.heap.push { cls := .type "list", data := .seq us.toArray } } := I1.laid (t' := s'.toks) (fun b u q => Heap.get?_push_of_some _ q) (Nat.le_refl _) ⟨hxs, us, _, rxs, Heap.get?_push_size _ rfl⟩
  have q := hw _ hp
  have ed : List.drop (us.length - (2 - 1 - 1)) us = [] := List.drop_eq_nil_of_le (by omega)
  have etk : List.take (us.length - (2 - 1 - 1)) us = us := List.take_of_length_le (by omega)
  rw [ed, etk]
  show wpAny _ _ (assignInOrder [assign e1 X.env, assign e2 X.env] [u0, .ref s'.heap.objs.size]) _ _ _
  refine assignInOrder_cons (thn (h1.run pins _ σ _ x u0 _ I2 rx q) fun _ s3 ⟨σ3, H3, I3, q3⟩ => ?_)
  refine assignInOrder_cons (thn (h2.run pins _ σ3 _ (.ref s'.heap.objs.size) _ Q I3 rfl q3) fun _ s4 ⟨σ4, H4, I4, q4⟩ => ?_)
  exact assignInOrder_nil ⟨σ4, H4, I4, q4⟩
end
end G137
/-! Where the defs stand (printed by genhd.py). -/
namespace KP
open PySem PySem.Spec PyProof.Rows L2 G137
abbrev PG : PySem.Program := PySem.Challenge.pw_onlytell_k05_stores_by_own_ledger
def top (i : Nat) : Stmt := PG.main.body.getD i (.Pass ⟨0, 0, 0, 0⟩)
def clsBody : Stmt → List Stmt
  | .ClassDef _ _ _ b _ _ _ _ _ _ _ => b
  | _ => []
def inCls (i j : Nat) : Stmt := (clsBody (top i)).getD j (.Pass ⟨0, 0, 0, 0⟩)
abbrev d_wall : Stmt := top 0
abbrev m_OnlyError_init : Stmt := inCls 2 0
abbrev m_RunView_init : Stmt := inCls 20 0
abbrev m_RunView_seen : Stmt := inCls 20 1
abbrev m_RunView_put : Stmt := inCls 20 2
abbrev m_RunView_mark : Stmt := inCls 20 3
abbrev m_RunView_back : Stmt := inCls 20 4
abbrev m_RunView_for_blind : Stmt := inCls 20 5
abbrev d_is_integer : Stmt := top 26
abbrev d_is_between : Stmt := top 27
abbrev d_is_tuple : Stmt := top 28
abbrev d_is_name : Stmt := top 29
abbrev d_is_word_of : Stmt := top 30
abbrev d_number_in : Stmt := top 31
abbrev d_is_alike : Stmt := top 32
abbrev d_is_worth : Stmt := top 34
abbrev d_is_store : Stmt := top 35
abbrev d_check_store : Stmt := top 36
abbrev d_is_key : Stmt := top 37
abbrev d_is_worth_of : Stmt := top 38
abbrev m_Sum_init : Stmt := inCls 56 0
abbrev m_Sum_names : Stmt := inCls 56 1
abbrev m_Test_init : Stmt := inCls 57 0
abbrev m_Test_names : Stmt := inCls 57 1
abbrev m_Statement_init : Stmt := inCls 58 0
abbrev m_Statement_looked_at : Stmt := inCls 58 1
abbrev m_Statement_within : Stmt := inCls 58 2
abbrev m_Program_init : Stmt := inCls 59 0
abbrev m_Program_all_statements : Stmt := inCls 59 1
abbrev d_is_road : Stmt := top 63
abbrev d_is_effect : Stmt := top 64
abbrev d_are_effects : Stmt := top 65
abbrev d_put_in : Stmt := top 66
abbrev m_Telling_init : Stmt := inCls 68 0
abbrev m_Telling_book : Stmt := inCls 68 1
abbrev m_Telling_effects : Stmt := inCls 68 2
abbrev m_Telling_eq : Stmt := inCls 68 3
abbrev m_Telling_len : Stmt := inCls 68 4
abbrev m_Telling_contains : Stmt := inCls 68 5
abbrev m_Telling_iter : Stmt := inCls 68 6
abbrev m_Telling_getitem : Stmt := inCls 68 7
abbrev m_Telling_add : Stmt := inCls 68 8
abbrev m_Telling_back : Stmt := inCls 68 9
abbrev m_Store_init : Stmt := inCls 70 0
abbrev m_Store_book : Stmt := inCls 70 1
abbrev m_Store_worths : Stmt := inCls 70 2
abbrev m_Store_eq : Stmt := inCls 70 3
abbrev m_Store_len : Stmt := inCls 70 4
abbrev m_Store_contains : Stmt := inCls 70 5
abbrev m_Store_iter : Stmt := inCls 70 6
abbrev m_Store_getitem : Stmt := inCls 70 7
abbrev m_Store_setitem : Stmt := inCls 70 8
abbrev m_Store_ior : Stmt := inCls 70 9
abbrev m_Store_worth_of : Stmt := inCls 70 10
abbrev m_Store_let_be : Stmt := inCls 70 11
abbrev m_Store_drop : Stmt := inCls 70 12
abbrev m_Frame_init : Stmt := inCls 78 0
abbrev m_Frame_at_key : Stmt := inCls 78 1
abbrev m_Frame_key_by : Stmt := inCls 78 2
abbrev m_Actor_init : Stmt := inCls 79 0
abbrev m_Actor_do_letter : Stmt := inCls 79 1
abbrev m_Actor_do_deed : Stmt := inCls 79 2
abbrev m_Actor_do_block : Stmt := inCls 79 3
abbrev m_Actor_do_statement : Stmt := inCls 79 4
abbrev m_Actor_look : Stmt := inCls 79 5
abbrev m_Actor_reckoned : Stmt := inCls 79 6
abbrev m_Actor_do_change : Stmt := inCls 79 7
abbrev m_Actor_wake : Stmt := inCls 79 8
abbrev m_Actor_do_say : Stmt := inCls 79 9
abbrev m_Actor_is_so : Stmt := inCls 79 10
abbrev m_Actor_do_if : Stmt := inCls 79 11
abbrev m_Actor_do_other : Stmt := inCls 79 12
abbrev m_Actor_do_each : Stmt := inCls 79 13
abbrev d_acted : Stmt := top 80
abbrev m_Line_init : Stmt := inCls 102 1
abbrev m_Page_init : Stmt := inCls 103 0
abbrev d_is_new_name : Stmt := top 104
abbrev d_key_in : Stmt := top 105
abbrev d_many_stores : Stmt := top 106
abbrev d_group_in : Stmt := top 107
abbrev d_program_in : Stmt := top 108
abbrev d_part_in : Stmt := top 109
abbrev d_sum_in : Stmt := top 110
abbrev d_test_in : Stmt := top 111
abbrev d_statement_in : Stmt := top 112
abbrev m_Reader_init : Stmt := inCls 113 0
abbrev m_Reader_coming : Stmt := inCls 113 1
abbrev m_Reader_page : Stmt := inCls 113 2
abbrev m_Reader_keys_told : Stmt := inCls 113 3
abbrev m_Reader_groups_told : Stmt := inCls 113 4
abbrev m_Reader_deeds_told : Stmt := inCls 113 5
abbrev m_Reader_block_read : Stmt := inCls 113 6
abbrev m_Reader_statement : Stmt := inCls 113 7
abbrev m_Reader_is_deeper : Stmt := inCls 113 8
abbrev m_Reader_other_block : Stmt := inCls 113 9
abbrev d_page_in : Stmt := top 114
abbrev m_Names_init : Stmt := inCls 116 0
abbrev m_Names_with_rounds : Stmt := inCls 116 1
abbrev m_Names_keys_by : Stmt := inCls 116 2
abbrev m_Names_is_named : Stmt := inCls 116 3
abbrev m_Names_is_downward : Stmt := inCls 116 4
abbrev d_check_page : Stmt := top 117
abbrev m_Deed_init : Stmt := inCls 119 0
abbrev m_Deed_name : Stmt := inCls 119 1
abbrev m_Deed_book : Stmt := inCls 119 2
abbrev m_Deed_size : Stmt := inCls 119 3
abbrev m_Deed_is_blind : Stmt := inCls 119 4
abbrev m_Deed_eq : Stmt := inCls 119 5
abbrev m_Deed_call : Stmt := inCls 119 6
abbrev d_all_stores : Stmt := top 120
abbrev m_Book_init : Stmt := inCls 121 0
abbrev m_Book_text : Stmt := inCls 121 1
abbrev m_Book_key_rows : Stmt := inCls 121 2
abbrev m_Book_groups : Stmt := inCls 121 3
abbrev m_Book_deeds : Stmt := inCls 121 4
abbrev m_Book_stores : Stmt := inCls 121 5
abbrev m_Book_letters : Stmt := inCls 121 6
abbrev m_Book_eq : Stmt := inCls 121 7
abbrev m_Book_len : Stmt := inCls 121 8
abbrev m_Book_contains : Stmt := inCls 121 9
abbrev m_Book_iter : Stmt := inCls 121 10
abbrev m_Book_getitem : Stmt := inCls 121 11
abbrev m_Book_taught : Stmt := inCls 121 12
abbrev m_Book_are_blind : Stmt := inCls 121 13
abbrev m_Book_place_of : Stmt := inCls 121 14
abbrev m_Book_size_of : Stmt := inCls 121 15
abbrev m_Book_group_of : Stmt := inCls 121 16
abbrev m_Book_woken_by : Stmt := inCls 121 17
abbrev d_law_pot : Stmt := top 123
abbrev d_law_take : Stmt := top 124
abbrev d_law_of : Stmt := top 125
abbrev d_law_unlike : Stmt := top 126
abbrev d_law_names : Stmt := top 127
abbrev d_law_keys : Stmt := top 128
abbrev d_law_heard : Stmt := top 129
abbrev d_law_page : Stmt := top 130
abbrev d_law_worths : Stmt := top 131
abbrev d_law_let : Stmt := top 132
abbrev d_law_due : Stmt := top 133
abbrev d_law_turn : Stmt := top 134
abbrev d_law_is_told : Stmt := top 135
abbrev d_law_refused_right : Stmt := top 136
abbrev d_law_unlike_right : Stmt := top 137
abbrev d_law_right : Stmt := top 138
abbrev d_law : Stmt := top 139
def gNames : List Str := (["OnlyError", "BadStore", "NoKey", "Gone", "BadWorth", "Lasting", "is_integer", "is_between"] : List Str) ++ (["is_tuple", "is_name", "is_word_of", "number_in", "is_worth", "is_store", "check_store", "is_key"] : List Str) ++ (["is_worth_of", "Sum", "Statement", "Program", "Store", "Line", "Page", "is_new_name"] : List Str) ++ (["key_in", "many_stores", "program_in", "part_in", "sum_in", "statement_in", "Reader", "page_in"] : List Str) ++ (["Names", "check_page", "all_stores", "Book", "_law_pot", "_law_take", "_law_of", "_law_unlike"] : List Str) ++ (["_law_names", "_law_keys", "_law_heard", "_law_page", "_law_worths", "_law_let", "_law_due", "_law_turn"] : List Str) ++ (["_law_is_told", "_law_refused_right", "_law_unlike_right", "_law_right", "law"] : List Str)
def gFrees : List Str := (["all", "len", "list", "enumerate", "tuple", "range", "isinstance", "int"] : List Str) ++ (["str", "any", "zip", "min", "bool", "max", "repr", "super"] : List Str) ++ (["abs"] : List Str)
def gStrs : List (Str × Str) := ([("LETTERS", "abcdefghijklmnopqrstuvwxyz"), ("FIGURES", "0123456789"), ("SET", "set"), ("ADD", "add"), ("DROP", "drop"), ("SAY", "say"), ("IF", "if"), ("ASK", "ask")] : List (Str × Str)) ++ ([("TRY", "try"), ("REFUSE", "refuse"), ("EACH", "each"), ("IT", "it"), ("HERE", "here"), ("LACKS", "lacks"), ("LONG", "long"), ("BLANK", " ")] : List (Str × Str)) ++ ([("FEED", "\n"), ("PLUS", "+"), ("KEY", "key"), ("MAY", "may"), ("GROUP", "group"), ("DEED", "deed"), ("BLIND", "blind"), ("WHEN", "when")] : List (Str × Str))
def gInts : List (Str × Int) := ([("GONE", -1), ("MOST_LETTERS_words", 8), ("PAIR", 2), ("DEEPER", 2), ("MOST_DEEP", 3), ("MOST_BLOCK", 8), ("MOST_STATEMENTS_booklines", 24), ("MOST_KEYS", 4)] : List (Str × Int)) ++ ([("MOST_GROUPS", 2), ("MOST_DEEDS", 5), ("MOST_STORES", 60), ("MOST_LETTERS_booklines", 8), ("MOST_FIGURES", 3), ("TRIPLE_booklines", 3)] : List (Str × Int))
def gCls : List Str := (["Sum", "Statement", "Program", "Store", "Page", "Reader", "Names", "Book"] : List Str)
def gFld : List (Str × Str) := ([("Sum", "parts"), ("Statement", "word"), ("Statement", "line"), ("Statement", "key"), ("Statement", "total"), ("Statement", "test"), ("Statement", "target"), ("Statement", "block")] : List (Str × Str)) ++ ([("Statement", "other"), ("Program", "own_name"), ("Program", "line"), ("Program", "own_size"), ("Program", "own_is_blind"), ("Program", "when"), ("Program", "statements"), ("Store", "own_book")] : List (Str × Str)) ++ ([("Store", "own_key_rows"), ("Store", "own_worths"), ("Page", "told_keys"), ("Page", "told_groups"), ("Page", "told_deeds"), ("Reader", "own_lines"), ("Reader", "own_at"), ("Reader", "own_many")] : List (Str × Str)) ++ ([("Names", "own_keys"), ("Names", "own_groups"), ("Names", "own_places"), ("Names", "own_woken"), ("Book", "own_text"), ("Book", "own_key_rows"), ("Book", "own_groups"), ("Book", "programs")] : List (Str × Str)) ++ ([("Book", "key_names"), ("Book", "own_stores"), ("Book", "own_places"), ("Book", "own_woken")] : List (Str × Str))
def gMeth : List (Str × Str) := ([("Sum", "__init__"), ("Sum", "names"), ("Statement", "__init__"), ("Statement", "looked_at"), ("Program", "__init__"), ("Store", "__init__"), ("Store", "__eq__"), ("Store", "__len__")] : List (Str × Str)) ++ ([("Store", "__contains__"), ("Store", "__getitem__"), ("Store", "__setitem__"), ("Store", "worth_of"), ("Store", "let_be"), ("Store", "drop"), ("Page", "__init__"), ("Reader", "__init__")] : List (Str × Str)) ++ ([("Reader", "coming"), ("Reader", "page"), ("Reader", "keys_told"), ("Reader", "groups_told"), ("Reader", "deeds_told"), ("Reader", "block_read"), ("Reader", "statement"), ("Reader", "is_deeper")] : List (Str × Str)) ++ ([("Names", "__init__"), ("Names", "with_rounds"), ("Names", "keys_by"), ("Names", "is_named"), ("Names", "is_downward"), ("Book", "__init__"), ("Book", "__eq__"), ("Book", "place_of")] : List (Str × Str))
def gMk : List Str := (["Sum", "Statement", "Program", "Store", "Page", "Reader", "Names", "Book"] : List Str)
def gIsi : List Str := (["Store", "Book"] : List Str)
def gExc : List Str := (["BadStore", "NoKey", "Gone", "BadWorth", "Lasting"] : List Str)
def gFns : List He.DefD := ([⟨("is_integer", none), "is_integer", "is_integer", defArgs d_is_integer, defBody d_is_integer, defScope d_is_integer, [], []⟩, ⟨("is_between", none), "is_between", "is_between", defArgs d_is_between, defBody d_is_between, defScope d_is_between, [], []⟩, ⟨("is_tuple", none), "is_tuple", "is_tuple", defArgs d_is_tuple, defBody d_is_tuple, defScope d_is_tuple, [], []⟩, ⟨("is_name", none), "is_name", "is_name", defArgs d_is_name, defBody d_is_name, defScope d_is_name, [], []⟩, ⟨("is_word_of", none), "is_word_of", "is_word_of", defArgs d_is_word_of, defBody d_is_word_of, defScope d_is_word_of, [], []⟩, ⟨("number_in", none), "number_in", "number_in", defArgs d_number_in, defBody d_number_in, defScope d_number_in, [], []⟩, ⟨("is_worth", none), "is_worth", "is_worth", defArgs d_is_worth, defBody d_is_worth, defScope d_is_worth, [], []⟩, ⟨("is_store", none), "is_store", "is_store", defArgs d_is_store, defBody d_is_store, defScope d_is_store, [], []⟩] : List He.DefD) ++ ([⟨("check_store", none), "check_store", "check_store", defArgs d_check_store, defBody d_check_store, defScope d_check_store, [], []⟩, ⟨("is_key", none), "is_key", "is_key", defArgs d_is_key, defBody d_is_key, defScope d_is_key, [], []⟩, ⟨("is_worth_of", none), "is_worth_of", "is_worth_of", defArgs d_is_worth_of, defBody d_is_worth_of, defScope d_is_worth_of, [], []⟩, ⟨("Sum", some "__init__"), "__init__", "Sum.__init__", defArgs m_Sum_init, defBody m_Sum_init, defScope m_Sum_init, [], []⟩, ⟨("Sum", some "names"), "names", "Sum.names", defArgs m_Sum_names, defBody m_Sum_names, defScope m_Sum_names, [], []⟩, ⟨("Statement", some "__init__"), "__init__", "Statement.__init__", defArgs m_Statement_init, defBody m_Statement_init, defScope m_Statement_init, [], []⟩, ⟨("Statement", some "looked_at"), "looked_at", "Statement.looked_at", defArgs m_Statement_looked_at, defBody m_Statement_looked_at, defScope m_Statement_looked_at, [], []⟩, ⟨("Program", some "__init__"), "__init__", "Program.__init__", defArgs m_Program_init, defBody m_Program_init, defScope m_Program_init, [], []⟩] : List He.DefD) ++ ([⟨("Store", some "__init__"), "__init__", "Store.__init__", defArgs m_Store_init, defBody m_Store_init, defScope m_Store_init, [], []⟩, ⟨("Store", some "__eq__"), "__eq__", "Store.__eq__", defArgs m_Store_eq, defBody m_Store_eq, defScope m_Store_eq, [], []⟩, ⟨("Store", some "__len__"), "__len__", "Store.__len__", defArgs m_Store_len, defBody m_Store_len, defScope m_Store_len, [], []⟩, ⟨("Store", some "__contains__"), "__contains__", "Store.__contains__", defArgs m_Store_contains, defBody m_Store_contains, defScope m_Store_contains, [], []⟩, ⟨("Store", some "__getitem__"), "__getitem__", "Store.__getitem__", defArgs m_Store_getitem, defBody m_Store_getitem, defScope m_Store_getitem, [], []⟩, ⟨("Store", some "__setitem__"), "__setitem__", "Store.__setitem__", defArgs m_Store_setitem, defBody m_Store_setitem, defScope m_Store_setitem, [], []⟩, ⟨("Store", some "worth_of"), "worth_of", "Store.worth_of", defArgs m_Store_worth_of, defBody m_Store_worth_of, defScope m_Store_worth_of, [], []⟩, ⟨("Store", some "let_be"), "let_be", "Store.let_be", defArgs m_Store_let_be, defBody m_Store_let_be, defScope m_Store_let_be, [], []⟩] : List He.DefD) ++ ([⟨("Store", some "drop"), "drop", "Store.drop", defArgs m_Store_drop, defBody m_Store_drop, defScope m_Store_drop, [], []⟩, ⟨("Line", some "__init__"), "__init__", "Line.__init__", defArgs m_Line_init, defBody m_Line_init, defScope m_Line_init, [], []⟩, ⟨("Page", some "__init__"), "__init__", "Page.__init__", defArgs m_Page_init, defBody m_Page_init, defScope m_Page_init, [], []⟩, ⟨("is_new_name", none), "is_new_name", "is_new_name", defArgs d_is_new_name, defBody d_is_new_name, defScope d_is_new_name, [], []⟩, ⟨("key_in", none), "key_in", "key_in", defArgs d_key_in, defBody d_key_in, defScope d_key_in, [], []⟩, ⟨("many_stores", none), "many_stores", "many_stores", defArgs d_many_stores, defBody d_many_stores, defScope d_many_stores, [], []⟩, ⟨("program_in", none), "program_in", "program_in", defArgs d_program_in, defBody d_program_in, defScope d_program_in, [], []⟩, ⟨("part_in", none), "part_in", "part_in", defArgs d_part_in, defBody d_part_in, defScope d_part_in, [], []⟩] : List He.DefD) ++ ([⟨("sum_in", none), "sum_in", "sum_in", defArgs d_sum_in, defBody d_sum_in, defScope d_sum_in, [], []⟩, ⟨("statement_in", none), "statement_in", "statement_in", defArgs d_statement_in, defBody d_statement_in, defScope d_statement_in, [], []⟩, ⟨("Reader", some "__init__"), "__init__", "Reader.__init__", defArgs m_Reader_init, defBody m_Reader_init, defScope m_Reader_init, [], []⟩, ⟨("Reader", some "coming"), "coming", "Reader.coming", defArgs m_Reader_coming, defBody m_Reader_coming, defScope m_Reader_coming, [], []⟩, ⟨("Reader", some "page"), "page", "Reader.page", defArgs m_Reader_page, defBody m_Reader_page, defScope m_Reader_page, [], []⟩, ⟨("Reader", some "keys_told"), "keys_told", "Reader.keys_told", defArgs m_Reader_keys_told, defBody m_Reader_keys_told, defScope m_Reader_keys_told, [], []⟩, ⟨("Reader", some "groups_told"), "groups_told", "Reader.groups_told", defArgs m_Reader_groups_told, defBody m_Reader_groups_told, defScope m_Reader_groups_told, [], []⟩, ⟨("Reader", some "deeds_told"), "deeds_told", "Reader.deeds_told", defArgs m_Reader_deeds_told, defBody m_Reader_deeds_told, defScope m_Reader_deeds_told, [], []⟩] : List He.DefD) ++ ([⟨("Reader", some "block_read"), "block_read", "Reader.block_read", defArgs m_Reader_block_read, defBody m_Reader_block_read, defScope m_Reader_block_read, [], []⟩, ⟨("Reader", some "statement"), "statement", "Reader.statement", defArgs m_Reader_statement, defBody m_Reader_statement, defScope m_Reader_statement, [], []⟩, ⟨("Reader", some "is_deeper"), "is_deeper", "Reader.is_deeper", defArgs m_Reader_is_deeper, defBody m_Reader_is_deeper, defScope m_Reader_is_deeper, [], []⟩, ⟨("page_in", none), "page_in", "page_in", defArgs d_page_in, defBody d_page_in, defScope d_page_in, [], []⟩, ⟨("Names", some "__init__"), "__init__", "Names.__init__", defArgs m_Names_init, defBody m_Names_init, defScope m_Names_init, [], []⟩, ⟨("Names", some "with_rounds"), "with_rounds", "Names.with_rounds", defArgs m_Names_with_rounds, defBody m_Names_with_rounds, defScope m_Names_with_rounds, [], []⟩, ⟨("Names", some "keys_by"), "keys_by", "Names.keys_by", defArgs m_Names_keys_by, defBody m_Names_keys_by, defScope m_Names_keys_by, [], []⟩, ⟨("Names", some "is_named"), "is_named", "Names.is_named", defArgs m_Names_is_named, defBody m_Names_is_named, defScope m_Names_is_named, [], []⟩] : List He.DefD) ++ ([⟨("Names", some "is_downward"), "is_downward", "Names.is_downward", defArgs m_Names_is_downward, defBody m_Names_is_downward, defScope m_Names_is_downward, [], []⟩, ⟨("check_page", none), "check_page", "check_page", defArgs d_check_page, defBody d_check_page, defScope d_check_page, [], []⟩, ⟨("all_stores", none), "all_stores", "all_stores", defArgs d_all_stores, defBody d_all_stores, defScope d_all_stores, [], []⟩, ⟨("Book", some "__init__"), "__init__", "Book.__init__", defArgs m_Book_init, defBody m_Book_init, defScope m_Book_init, [], []⟩, ⟨("Book", some "__eq__"), "__eq__", "Book.__eq__", defArgs m_Book_eq, defBody m_Book_eq, defScope m_Book_eq, [], []⟩, ⟨("Book", some "place_of"), "place_of", "Book.place_of", defArgs m_Book_place_of, defBody m_Book_place_of, defScope m_Book_place_of, [], []⟩, ⟨("_law_pot", none), "_law_pot", "_law_pot", defArgs d_law_pot, defBody d_law_pot, defScope d_law_pot, [], []⟩, ⟨("_law_take", none), "_law_take", "_law_take", defArgs d_law_take, defBody d_law_take, defScope d_law_take, [], []⟩] : List He.DefD) ++ ([⟨("_law_of", none), "_law_of", "_law_of", defArgs d_law_of, defBody d_law_of, defScope d_law_of, [], []⟩, ⟨("_law_unlike", none), "_law_unlike", "_law_unlike", defArgs d_law_unlike, defBody d_law_unlike, defScope d_law_unlike, [], []⟩, ⟨("_law_names", none), "_law_names", "_law_names", defArgs d_law_names, defBody d_law_names, defScope d_law_names, [], []⟩, ⟨("_law_keys", none), "_law_keys", "_law_keys", defArgs d_law_keys, defBody d_law_keys, defScope d_law_keys, [], []⟩, ⟨("_law_heard", none), "_law_heard", "_law_heard", defArgs d_law_heard, defBody d_law_heard, defScope d_law_heard, [], []⟩, ⟨("_law_page", none), "_law_page", "_law_page", defArgs d_law_page, defBody d_law_page, defScope d_law_page, [], []⟩, ⟨("_law_worths", none), "_law_worths", "_law_worths", defArgs d_law_worths, defBody d_law_worths, defScope d_law_worths, [], []⟩, ⟨("_law_let", none), "_law_let", "_law_let", defArgs d_law_let, defBody d_law_let, defScope d_law_let, [], []⟩] : List He.DefD) ++ ([⟨("_law_due", none), "_law_due", "_law_due", defArgs d_law_due, defBody d_law_due, defScope d_law_due, [], []⟩, ⟨("_law_turn", none), "_law_turn", "_law_turn", defArgs d_law_turn, defBody d_law_turn, defScope d_law_turn, [], []⟩, ⟨("_law_is_told", none), "_law_is_told", "_law_is_told", defArgs d_law_is_told, defBody d_law_is_told, defScope d_law_is_told, [], []⟩, ⟨("_law_refused_right", none), "_law_refused_right", "_law_refused_right", defArgs d_law_refused_right, defBody d_law_refused_right, defScope d_law_refused_right, [], []⟩, ⟨("_law_unlike_right", none), "_law_unlike_right", "_law_unlike_right", defArgs d_law_unlike_right, defBody d_law_unlike_right, defScope d_law_unlike_right, [], []⟩, ⟨("_law_right", none), "_law_right", "_law_right", defArgs d_law_right, defBody d_law_right, defScope d_law_right, [], []⟩, ⟨("law", none), "law", "law", defArgs d_law, defBody d_law, defScope d_law, [], []⟩] : List He.DefD)
abbrev FD (K : Frag) (x qual : Str) (st : Stmt) (f : Addr) : Prop := ∃ fd, FunD K x qual (defArgs st) (defBody st) (defScope st) [] [] f fd
abbrev PD (K : Frag) (C x : Str) (st : Stmt) : Prop := ∃ p g fd, PropOf K (He.ga K C) x p g ∧ FunD K x (C ++ "." ++ x) (defArgs st) (defBody st) (defScope st) [] [] g fd
structure Pr (K : Frag) (mg : Str → Option Value) : Prop where
  glo : ∀ x ∈ gNames, mg x = some (.ref (He.ga K x))
  fre : ∀ x ∈ gFrees, mg x = none
  str : ∀ x z, (x, z) ∈ gStrs → ∃ t, mg x = some (.str z t)
  int : ∀ x i, (x, i) ∈ gInts → ∃ t, mg x = some (.int i t)
  cls : ∀ x ∈ gCls, L2.Cls K (He.ga K x)
  fld : ∀ x f, (x, f) ∈ gFld → NoAttr K (He.ga K x) f
  meth : ∀ x m, (x, m) ∈ gMeth → Meth K (He.ga K x) m (He.ma K (He.ga K x) m)
  mkr : ∀ x ∈ gMk, Mk K (He.ga K x) (He.ma K (He.ga K x) "__init__")
  fni : ∀ x m, (x, m) ∈ gMeth → PySem.W.fnIn K (He.ma K (He.ga K x) m) = true
  isi : ∀ x ∈ gIsi, IsiF K (He.ga K x)
  kitT : ∀ T ∈ tyNames, ∀ x ∈ gIsi, PySem.W.kitOne K (.type T) (.ref (He.ga K x)) = some false
  kitC : ∀ x ∈ gIsi, ∀ y ∈ gIsi, PySem.W.kitOne K (.ref (He.ga K x)) (.ref (He.ga K y)) = some (x == y)
  nfT : ∀ T ∈ tyNames, ∀ x ∈ gIsi, PySem.W.notFirst K (He.ga K x) (.type T) = true
  nfC : ∀ x ∈ gIsi, ∀ y ∈ gIsi, PySem.W.notFirst K (He.ga K x) (.ref (He.ga K y)) = true
  sc_Line : SlX.SCls K (He.ga K "Line")
  sm_Line : Mk K (He.ga K "Line") (He.ma K (He.ga K "Line") "__init__")
  ss_Line_depth : ∃ p, SlX.Slot1 K (He.ga K "Line") "depth" p 0
  ss_Line_number : ∃ p, SlX.Slot1 K (He.ga K "Line") "number" p 1
  ss_Line_words : ∃ p, SlX.Slot1 K (He.ga K "Line") "words" p 2
  p_Store_book : PD K "Store" "book" m_Store_book
  p_Store_worths : PD K "Store" "worths" m_Store_worths
  p_Book_key_rows : PD K "Book" "key_rows" m_Book_key_rows
  f_is_integer : FD K "is_integer" "is_integer" d_is_integer (He.ga K "is_integer")
  f_is_between : FD K "is_between" "is_between" d_is_between (He.ga K "is_between")
  f_is_tuple : FD K "is_tuple" "is_tuple" d_is_tuple (He.ga K "is_tuple")
  f_is_name : FD K "is_name" "is_name" d_is_name (He.ga K "is_name")
  f_is_word_of : FD K "is_word_of" "is_word_of" d_is_word_of (He.ga K "is_word_of")
  f_number_in : FD K "number_in" "number_in" d_number_in (He.ga K "number_in")
  f_is_worth : FD K "is_worth" "is_worth" d_is_worth (He.ga K "is_worth")
  f_is_store : FD K "is_store" "is_store" d_is_store (He.ga K "is_store")
  f_check_store : FD K "check_store" "check_store" d_check_store (He.ga K "check_store")
  f_is_key : FD K "is_key" "is_key" d_is_key (He.ga K "is_key")
  f_is_worth_of : FD K "is_worth_of" "is_worth_of" d_is_worth_of (He.ga K "is_worth_of")
  f_Sum_init : FD K "__init__" "Sum.__init__" m_Sum_init (He.ma K (He.ga K "Sum") "__init__")
  f_Sum_names : FD K "names" "Sum.names" m_Sum_names (He.ma K (He.ga K "Sum") "names")
  f_Statement_init : FD K "__init__" "Statement.__init__" m_Statement_init (He.ma K (He.ga K "Statement") "__init__")
  f_Statement_looked_at : FD K "looked_at" "Statement.looked_at" m_Statement_looked_at (He.ma K (He.ga K "Statement") "looked_at")
  f_Program_init : FD K "__init__" "Program.__init__" m_Program_init (He.ma K (He.ga K "Program") "__init__")
  f_Store_init : FD K "__init__" "Store.__init__" m_Store_init (He.ma K (He.ga K "Store") "__init__")
  f_Store_eq : FD K "__eq__" "Store.__eq__" m_Store_eq (He.ma K (He.ga K "Store") "__eq__")
  f_Store_len : FD K "__len__" "Store.__len__" m_Store_len (He.ma K (He.ga K "Store") "__len__")
  f_Store_contains : FD K "__contains__" "Store.__contains__" m_Store_contains (He.ma K (He.ga K "Store") "__contains__")
  f_Store_getitem : FD K "__getitem__" "Store.__getitem__" m_Store_getitem (He.ma K (He.ga K "Store") "__getitem__")
  f_Store_setitem : FD K "__setitem__" "Store.__setitem__" m_Store_setitem (He.ma K (He.ga K "Store") "__setitem__")
  f_Store_worth_of : FD K "worth_of" "Store.worth_of" m_Store_worth_of (He.ma K (He.ga K "Store") "worth_of")
  f_Store_let_be : FD K "let_be" "Store.let_be" m_Store_let_be (He.ma K (He.ga K "Store") "let_be")
  f_Store_drop : FD K "drop" "Store.drop" m_Store_drop (He.ma K (He.ga K "Store") "drop")
  f_Line_init : FD K "__init__" "Line.__init__" m_Line_init (He.ma K (He.ga K "Line") "__init__")
  f_Page_init : FD K "__init__" "Page.__init__" m_Page_init (He.ma K (He.ga K "Page") "__init__")
  f_is_new_name : FD K "is_new_name" "is_new_name" d_is_new_name (He.ga K "is_new_name")
  f_key_in : FD K "key_in" "key_in" d_key_in (He.ga K "key_in")
  f_many_stores : FD K "many_stores" "many_stores" d_many_stores (He.ga K "many_stores")
  f_program_in : FD K "program_in" "program_in" d_program_in (He.ga K "program_in")
  f_part_in : FD K "part_in" "part_in" d_part_in (He.ga K "part_in")
  f_sum_in : FD K "sum_in" "sum_in" d_sum_in (He.ga K "sum_in")
  f_statement_in : FD K "statement_in" "statement_in" d_statement_in (He.ga K "statement_in")
  f_Reader_init : FD K "__init__" "Reader.__init__" m_Reader_init (He.ma K (He.ga K "Reader") "__init__")
  f_Reader_coming : FD K "coming" "Reader.coming" m_Reader_coming (He.ma K (He.ga K "Reader") "coming")
  f_Reader_page : FD K "page" "Reader.page" m_Reader_page (He.ma K (He.ga K "Reader") "page")
  f_Reader_keys_told : FD K "keys_told" "Reader.keys_told" m_Reader_keys_told (He.ma K (He.ga K "Reader") "keys_told")
  f_Reader_groups_told : FD K "groups_told" "Reader.groups_told" m_Reader_groups_told (He.ma K (He.ga K "Reader") "groups_told")
  f_Reader_deeds_told : FD K "deeds_told" "Reader.deeds_told" m_Reader_deeds_told (He.ma K (He.ga K "Reader") "deeds_told")
  f_Reader_block_read : FD K "block_read" "Reader.block_read" m_Reader_block_read (He.ma K (He.ga K "Reader") "block_read")
  f_Reader_statement : FD K "statement" "Reader.statement" m_Reader_statement (He.ma K (He.ga K "Reader") "statement")
  f_Reader_is_deeper : FD K "is_deeper" "Reader.is_deeper" m_Reader_is_deeper (He.ma K (He.ga K "Reader") "is_deeper")
  f_page_in : FD K "page_in" "page_in" d_page_in (He.ga K "page_in")
  f_Names_init : FD K "__init__" "Names.__init__" m_Names_init (He.ma K (He.ga K "Names") "__init__")
  f_Names_with_rounds : FD K "with_rounds" "Names.with_rounds" m_Names_with_rounds (He.ma K (He.ga K "Names") "with_rounds")
  f_Names_keys_by : FD K "keys_by" "Names.keys_by" m_Names_keys_by (He.ma K (He.ga K "Names") "keys_by")
  f_Names_is_named : FD K "is_named" "Names.is_named" m_Names_is_named (He.ma K (He.ga K "Names") "is_named")
  f_Names_is_downward : FD K "is_downward" "Names.is_downward" m_Names_is_downward (He.ma K (He.ga K "Names") "is_downward")
  f_check_page : FD K "check_page" "check_page" d_check_page (He.ga K "check_page")
  f_all_stores : FD K "all_stores" "all_stores" d_all_stores (He.ga K "all_stores")
  f_Book_init : FD K "__init__" "Book.__init__" m_Book_init (He.ma K (He.ga K "Book") "__init__")
  f_Book_eq : FD K "__eq__" "Book.__eq__" m_Book_eq (He.ma K (He.ga K "Book") "__eq__")
  f_Book_place_of : FD K "place_of" "Book.place_of" m_Book_place_of (He.ma K (He.ga K "Book") "place_of")
  f_law_pot : FD K "_law_pot" "_law_pot" d_law_pot (He.ga K "_law_pot")
  f_law_take : FD K "_law_take" "_law_take" d_law_take (He.ga K "_law_take")
  f_law_of : FD K "_law_of" "_law_of" d_law_of (He.ga K "_law_of")
  f_law_unlike : FD K "_law_unlike" "_law_unlike" d_law_unlike (He.ga K "_law_unlike")
  f_law_names : FD K "_law_names" "_law_names" d_law_names (He.ga K "_law_names")
  f_law_keys : FD K "_law_keys" "_law_keys" d_law_keys (He.ga K "_law_keys")
  f_law_heard : FD K "_law_heard" "_law_heard" d_law_heard (He.ga K "_law_heard")
  f_law_page : FD K "_law_page" "_law_page" d_law_page (He.ga K "_law_page")
  f_law_worths : FD K "_law_worths" "_law_worths" d_law_worths (He.ga K "_law_worths")
  f_law_let : FD K "_law_let" "_law_let" d_law_let (He.ga K "_law_let")
  f_law_due : FD K "_law_due" "_law_due" d_law_due (He.ga K "_law_due")
  f_law_turn : FD K "_law_turn" "_law_turn" d_law_turn (He.ga K "_law_turn")
  f_law_is_told : FD K "_law_is_told" "_law_is_told" d_law_is_told (He.ga K "_law_is_told")
  f_law_refused_right : FD K "_law_refused_right" "_law_refused_right" d_law_refused_right (He.ga K "_law_refused_right")
  f_law_unlike_right : FD K "_law_unlike_right" "_law_unlike_right" d_law_unlike_right (He.ga K "_law_unlike_right")
  f_law_right : FD K "_law_right" "_law_right" d_law_right (He.ga K "_law_right")
  f_law : FD K "law" "law" d_law (He.ga K "law")
end KP
/-! The run of the top, and what it tells (printed by genrun.py). -/
namespace KP
open PySem PySem.Spec PyProof.Rows L2 G137
def gPrp : List Prp := ([("Store", "book", m_Store_book), ("Store", "worths", m_Store_worths), ("Book", "key_rows", m_Book_key_rows)] : List Prp)
def gLoose : List Str := (["__name__", "_wall", "OnlyError", "BadBook", "Unnamed", "Upward", "NoDeed", "BadStore"] : List Str) ++ (["NoKey", "Gone", "BadWorth", "Lasting", "OtherStore", "BadInput", "BadTelling", "NoEffect"] : List Str) ++ (["OtherBook", "Stuck", "RunView", "is_integer", "is_between", "is_tuple", "is_name", "is_word_of"] : List Str) ++ (["number_in", "is_alike", "is_worth", "is_store", "check_store", "is_key", "is_worth_of", "Sum"] : List Str) ++ (["Test", "Statement", "Program", "is_road", "is_effect", "are_effects", "put_in", "Telling"] : List Str) ++ (["Store", "Frame", "Actor", "acted", "Line", "Page", "is_new_name", "key_in"] : List Str) ++ (["many_stores", "group_in", "program_in", "part_in", "sum_in", "test_in", "statement_in", "Reader"] : List Str) ++ (["page_in", "Names", "check_page", "Deed", "all_stores", "Book", "_law_pot", "_law_take"] : List Str) ++ (["_law_of", "_law_unlike", "_law_names", "_law_keys", "_law_heard", "_law_page", "_law_worths", "_law_let"] : List Str) ++ (["_law_due", "_law_turn", "_law_is_told", "_law_refused_right", "_law_unlike_right", "_law_right", "GONE", "LETTERS"] : List Str) ++ (["FIGURES", "MOST_LETTERS_words", "PAIR", "SET", "ADD", "DROP", "SAY", "IF"] : List Str) ++ (["ELSE", "ASK", "TRY", "REFUSE", "EACH", "END", "IT", "HERE"] : List Str) ++ (["HAS", "LIKE", "UNLIKE", "REFUSED_effects", "TRIPLE_effects", "MOST_STATEMENTS_acting", "LACKS", "LONG"] : List Str) ++ (["REFUSED_acting", "GOES_ON", "OVER", "BLANK", "FEED", "PLUS", "KEY", "MAY"] : List Str) ++ (["GROUP", "DEED", "BLIND", "WHEN", "DEEPER", "MOST_DEEP", "MOST_BLOCK", "MOST_STATEMENTS_booklines"] : List Str) ++ (["MOST_KEYS", "MOST_GROUPS", "MOST_DEEDS", "MOST_STORES", "MOST_LETTERS_booklines", "MOST_FIGURES", "TRIPLE_booklines"] : List Str)
def hFa : List He.Fa := gNames.map He.Fa.glo ++ (gFrees.map He.Fa.free ++ (gStrs.map (fun p => He.Fa.str p.1 p.2) ++ (gInts.map (fun p => He.Fa.int p.1 p.2) ++ (gCls.map He.Fa.cls ++ (gFld.map (fun p => He.Fa.noat p.1 p.2) ++ (gMeth.map (fun p => He.Fa.meth p.1 p.2) ++ gMk.map He.Fa.mkr))))))
def hIni (K : Frag) : Addr := He.ma K (He.ga K "OnlyError") "__init__"
def hVi : FnI := some ("__init__", "OnlyError.__init__", defArgs m_OnlyError_init, .stmts (defBody m_OnlyError_init), defScope m_OnlyError_init, mainGlobals, ["__class__"], builtinsNs)
def hXe (K : Frag) (D : Addr) : Bool := errB K D D && (gExc.all (fun c => errB K D (He.ga K c)) && (initB "/claim/cut.py" "OnlyError.__init__" K D (hIni K) && (oO (PySem.W.nsIn K cStatics "thirdparty.any") (some none) && ((K.lookup sysModules).isSome &&
  (gExc.all (fun c => gExc.all fun d => oB (PySem.W.kitOne K (.ref (He.ga K c)) (.ref (He.ga K d))) (some (c == d))) && gExc.all (fun c => oB (PySem.W.exmOne K (.ref (He.ga K c)) (.ref D)) (some true)))))))
def hXi (K : Frag) : Bool := gMeth.all (fun p => PySem.W.fnIn K (He.ma K (He.ga K p.1) p.2)) && (gIsi.all (fun x => isiB K (He.ga K x)) && (tyNames.all (fun T => gIsi.all fun x => oB (PySem.W.kitOne K (.type T) (.ref (He.ga K x))) (some false) && PySem.W.notFirst K (He.ga K x) (.type T)) &&
  gIsi.all (fun x => gIsi.all fun y => oB (PySem.W.kitOne K (.ref (He.ga K x)) (.ref (He.ga K y))) (some (x == y)) && PySem.W.notFirst K (He.ga K x) (.ref (He.ga K y)))))
def hXs (K : Frag) : Bool := (slcB K (He.ga K "Line") && ((He.Fa.mkr "Line").ok K && (slB K "Line" "depth" 0 && slB K "Line" "number" 1 && slB K "Line" "words" 2)))
def hXl (K : Frag) : Bool := decide ((He.cT K ("_law_turn", none)).2 ≠ (He.cT K ("_law_refused_right", none)).2)
def hEx (K : Frag) : Bool := hXe K (He.ga K "OnlyError") && (hXi K && (hXs K && hXl K))
def hTf : List He.Defn := [("_law_turn", none), ("_law_refused_right", none)]
def hW : Wish := ⟨hFa, gFns, gPrp, hIni, hVi, hTf, hEx⟩
abbrev RR : PySem.W.OpenRow := PySem.W.OpenLaw.row PySem.Challenge.rw_onlytell_k05_stores_by_own_ledger
abbrev hHk : PySem.W.Hook := hookY 4 hW
def hOb (s : PySem.W.SharedT) : AlY := obsY 4 hW (HandSHeadRun.getT s)
theorem hOb_eq (s : PySem.W.SharedT) : hOb s = hHk.obs s.abs := obsY_eq (HandSHeadRun.getT_eq s)
open PySem.W PySem.Calls HandSHeadRun in
abbrev hQ : Program := view RR.prog [139]
open PySem.W PySem.Calls HandSHeadRun in
noncomputable abbrev hX (w : World) (os : OsState) : Option SharedT := endF (stepQ (denQ tabQ) RR.prog w) 60000 RR.prog w os
open PySem.W PySem.Calls HandSHeadRun in
noncomputable abbrev h0 (w : World) (s : SharedT) := (looksF RR.prog (boot_heap w.params) s.abs, seenQ hQ gLoose (importedModules RR.prog.main.body) (fun s => xlAt hQ [] s && recOk RR.toRowW.records s) s.abs)
abbrev hK (s : PySem.W.SharedT) : Frag := kT (HandSHeadRun.getT s) 4
abbrev h1 (s : PySem.W.SharedT) : Bool := (fun K : Frag => hFa.all fun f => f.ok K) (hK s)
abbrev h2 (s : PySem.W.SharedT) : Bool := (fun K : Frag => gFns.all fun d => d.ok K) (hK s)
abbrev h3 (s : PySem.W.SharedT) : List He.FnW := (fun K : Frag => gFns.map fun d => He.fnW K d.at_) (hK s)
abbrev h4 (s : PySem.W.SharedT) : FnI × List He.FnW × Bool := (fun K : Frag => (fnI K (hIni K), gPrp.map (fun q => fnA K (prG K (q.1, q.2.1))), (gPrp.all fun q => prB K (q.1, q.2.1)) && (hEx K && He.tabsB (HandSHeadRun.getT s) hTf K))) (hK s)
end KP
namespace KP
open PySem PySem.Spec PyProof.Rows L2 G137
open PySem.W PySem.Calls HandSHeadRun in
theorem hR0 (w : World) (os : OsState) : (hX w os).map (h0 w) = some (true, openGood hQ gLoose) := by kernel_rfl
end KP
namespace KP
open PySem PySem.Spec PyProof.Rows L2 G137
theorem hR1 (w : World) (os : OsState) : (hX w os).map h1 = some true := by kernel_rfl
end KP
namespace KP
open PySem PySem.Spec PyProof.Rows L2 G137
theorem hR2 (w : World) (os : OsState) : (hX w os).map h2 = some true := by kernel_rfl
end KP
namespace KP
open PySem PySem.Spec PyProof.Rows L2 G137
theorem hR3 (w : World) (os : OsState) : (hX w os).map h3 = some (gFns.map He.DefD.val) := by kernel_rfl
end KP
namespace KP
open PySem PySem.Spec PyProof.Rows L2 G137
theorem hR4 (w : World) (os : OsState) : (hX w os).map h4 = some (hVi, gPrp.map Prp.val, true) := by kernel_rfl
end KP
namespace KP
open PySem PySem.Spec PyProof.Rows L2 G137
theorem hRun (w : World) : HandSHeadRun.RunEq RR (PySem.W.view RR.prog [139]) hHk hOb 60000 gLoose w := by
  intro os
  refine join5 (hR0 w os) (hR1 w os) (hR2 w os) (hR3 w os) (hR4 w os) fun s e0 e1 e2 e3 e4 => ?_
  have e : hOb s = ((h1 s && h2 s, h3 s), (h4 s).1, (h4 s).2.1, (h4 s).2.2) := rfl
  rw [e, e1, e2, e3, e4]
  have e5 : (h0 w s).1 = true := by rw [e0]
  have e6 : (h0 w s).2 = _ := congrArg Prod.snd e0
  exact Prod.ext e5 (Prod.ext e6 rfl)
end KP
/-! The end of a law whose defs hold lambdas (tables) and call repr (no guard stands). -/
namespace G137
open PySem PySem.Spec PyProof.Rows L2
abbrev tab0 : Obj := { cls := .none, data := .fields #[] }
/-- nothing but the script and the tables is tracked -/
structure Trk (cs : List (Addr × Addr)) (a : Addr) (H : Hp) : Prop where
  tb : ∀ p ∈ cs, H p.2 = some (.tbl #[])
  on : ∀ b, H b = none ∨ (∃ p ∈ cs, p.2 = b) ∨ (b = a ∧ ∃ o xs, H b = some (.frz o (.lst xs)))
structure Mdl (K : PySem.W.Frag) (mg mb : Str → Option Value) (cs : List (Addr × Addr)) (s : Shared) : Prop where
  kin : K.In s.heap
  ns : s.heap.Ns mainGlobals mg
  nb : s.heap.Ns builtinsNs mb
  bb : ∀ x : Str, x ≠ "__name__" → mb x = bootBuiltins x
  lim : s.heap.NoLimit
  gens : s.gens = #[]
  tab : ∀ p ∈ cs, s.heap.get? p.2 = some tab0
  out : ∀ p ∈ cs, K.lookup p.2 = none
  cod : ∀ p ∈ cs, PySem.W.CodeHd s.heap p.1 p.2
  bm : ∃ (bm : Addr) (ob : Obj), mg "__builtins__" = some (.ref bm) ∧ bm ≠ builtinsNs ∧ s.heap.get? bm = some ob ∧ ob.cls = .type "module" ∧ ob.dict = some builtinsNs ∧ ob.data = .plain
section
variable {P : Program} {w : World} {K : PySem.W.Frag} {mg mb : Str → Option Value} {CX : CXT} {k : Nat} {fa a : Addr} {cs : List (Addr × Addr)} {fd : FuncData} {x : Str} {sp : Sp} {s : Shared} {H : Hp} {oa : Obj}
theorem trk_far (M : Mdl K mg mb cs s) (ha : s.heap.get? a = some oa) (hs : ∃ vs n, oa.data = .seq vs n) (tr : Trk cs a H) {b : Addr} {o : Obj} (e : s.heap.get? b = some o) (h1 : ∀ vs n, o.data ≠ .seq vs n) (h2 : o.data ≠ .fields #[]) : H b = none := by
  rcases tr.on b with z | ⟨p, hp, rfl⟩ | ⟨rfl, _⟩
  · exact z
  · rw [M.tab p hp] at e
    cases e
    exact absurd rfl h2
  · rw [ha] at e
    cases e
    obtain ⟨vs, n, q⟩ := hs
    exact absurd q (h1 vs n)
theorem trk_ns (M : Mdl K mg mb cs s) (ha : s.heap.get? a = some oa) (hs : ∃ vs n, oa.data = .seq vs n) (tr : Trk cs a H) {b : Addr} {m : Str → Option Value} (h : s.heap.Ns b m) : (hidT s.heap H).Ns b m := by
  obtain ⟨o, es, ep, e, d, r⟩ := h
  refine ⟨o, es, ep, hidT_get e (trk_far M ha hs tr e (fun vs n z => ?_) fun z => ?_), d, r⟩
  · rw [d] at z; cases z
  · rw [d] at z; cases z
theorem trk_tab (M : Mdl K mg mb cs s) (ha : s.heap.get? a = some oa) (hs : ∃ vs n, oa.data = .seq vs n) (tr : Trk cs a H) : ∀ p ∈ cs, LamX.TabB (hidT s.heap H) mg p.1 p.2 := fun p hp => by
  have hTp := M.tab p hp
  have hns := M.ns
  refine ⟨?_, ?_, fun z => ?_⟩
  · obtain ⟨o, us, file, tf, flags, tg, inF, text, tt, e1, r1, r2, r3, rr⟩ := M.cod p hp
    refine ⟨o, us, file, tf, flags, tg, inF, text, tt, hidT_get e1 (trk_far M ha hs tr e1 (fun vs n z => ?_) fun z => ?_), r1, r2, r3, rr⟩
    · rw [r2] at z; cases z
    · rw [r2] at z
      cases z
      simp at r3
  · obtain ⟨bm, ob, b1, b2, b3, b4, b5, b6⟩ := M.bm
    refine ⟨bm, ob, b1, b2, fun q => ?_, fun q => ?_, hidT_get b3 (trk_far M ha hs tr b3 (fun vs n z => ?_) fun z => ?_), b4, b5, b6⟩
    · obtain ⟨o, es, ep, e, hd, _⟩ := hns
      rw [q, e] at b3
      cases b3
      rw [hd] at b6
      cases b6
    · rw [q, hTp] at b3
      cases b3
      cases b6
    · rw [b6] at z; cases z
    · rw [b6] at z; cases z
  · obtain ⟨o, es, ep, e, hd, _⟩ := hns
    rw [z, hTp] at e
    cases e
    cases hd
theorem run_tabs (M : Mdl K mg mb cs s) (ha : s.heap.get? a = some oa) (hs : ∃ vs n, oa.data = .seq vs n) (tr : Trk cs a H) (hok : HOk P w H s.heap) (hKa : H a ≠ none → K.lookup a = none) (hr : Room k callerA)
    (F : ∀ base : Heap, K.In base → base.Ns mainGlobals mg → (∀ p ∈ cs, LamX.TabB base mg p.1 p.2) → FnG P w K mg base CX k fa fd [x] sp) (hbind : ∀ (s : Shared) (u : Value), BindsTo s fd ⟨[u], []⟩ [(x, u)])
    (hsp : sp [.ref a] H (fun v _ => v = .bl true) fun _ _ _ => False) (hCX : ∀ H e s', CX [] H s (fun _ _ _ => False) e s' → False) :
    codeAny (model P w) callerA (.call (.ref fa) ⟨[.ref a], []⟩) (fun r s' => r = .ok (.ret (.bool true)) ∧ OldK s.heap s'.heap ∧ s'.os = s.os ∧ AllBare s'.gens) s := by
  have kin : K.In (hidT s.heap H) := fun b o e => by
    refine hidT_get (M.kin b o e) ?_
    rcases tr.on b with z | ⟨p, hp, rfl⟩ | ⟨rfl, _, _, z⟩
    · exact z
    · rw [M.out p hp] at e; cases e
    · rw [hKa (by rw [z]; exact fun q => nomatch q)] at e; cases e
  have hns := trk_ns M ha hs tr M.ns
  have hM : L2.Mod K mg (hidT s.heap H) := by
    obtain ⟨mc, h1, h2⟩ := M.lim
    exact ⟨kin, hns, ⟨mb, trk_ns M ha hs tr M.nb, M.bb⟩, mc, trk_ns M ha hs tr h1, h2⟩
  have no : ∀ {b : Addr}, b ∉ ([] : List Addr) := fun z => nomatch z
  have e0 : Env0 P w K mg (hidT s.heap H) callerA [] s H := ⟨rfl, hM, fun b o e => of_hidT e, Nat.le_of_eq (hidT_size _ _), trivial, fun b hb => absurd hb no, hok, .of_eq M.gens⟩
  refine codeAny_mono ((F _ kin hns (trk_tab M ha hs tr)).run callerA [] s H ⟨[.ref a], []⟩ [.ref a] [.ref a] _ _ rfl hr e0 (hbind s (.ref a)) (.cons rfl .nil) hsp) fun r s' h => ?_
  match r, h with
  | .error e, h => exact (hCX H e s' h).elim
  | .ok .next, h => exact False.elim h
  | .ok .brk, h => exact False.elim h
  | .ok .cont, h => exact False.elim h
  | .ok (.ret u), ⟨v, H', os, bare, un, hok', r', q⟩ =>
    obtain rfl : v = .bl true := q
    obtain rfl : u = Value.bool true := r'
    have grown : ∀ p ∈ cs, ∃ more : Array Value, s'.heap.get? p.2 = some { cls := .none, data := .fields more } := fun p hp => by
      obtain ⟨more, z⟩ := un.tbls p.2 #[] (tr.tb p hp)
      exact ⟨_, hok' p.2 _ z⟩
    have stays : ∀ b o, s.heap.get? b = some o → (¬ ∃ p ∈ cs, p.2 = b) → s'.heap.get? b = some o := fun b o e nb => by
      rcases tr.on b with z | z | ⟨rfl, ob, xs, z⟩
      · exact un.keep b o e z (fun q => absurd q no) (fun q => absurd q no)
      · exact absurd z nb
      · have z2 := un.frzs b ob _ z
        obtain ⟨e1, _⟩ := hok b _ z
        obtain ⟨e2, _⟩ := hok' b _ z2
        rw [e] at e1
        cases e1
        exact e2
    refine ⟨rfl, ⟨fun b o e => ?_, fun b o e => ?_⟩, os, bare⟩
    · by_cases hb : ∃ p ∈ cs, p.2 = b
      · obtain ⟨p, hp, rfl⟩ := hb
        obtain ⟨more, hm⟩ := grown p hp
        have hT := M.tab p hp
        have hc := ((M.cod p hp).tab hT).isCodeTable
        rw [hT] at e
        cases e
        exact .inr (.inl ⟨hc, rfl, #[], more, rfl, by rw [Array.empty_append]; exact hm⟩)
      · exact .inl (stays b o e hb)
    · by_cases hb : ∃ p ∈ cs, p.2 = b
      · obtain ⟨p, hp, rfl⟩ := hb
        obtain ⟨more, hm⟩ := grown p hp
        exact ⟨_, hm⟩
      · exact ⟨o, stays b o e hb⟩
end
/-- the law's own call, with tables, where no guard stands -/
theorem law_callTG {P : Program} {w : World} {K : PySem.W.Frag} {mg mb : Str → Option Value} {CX : CXT} {k : Nat} {fa a : Addr} {cs : List (Addr × Addr)} {fd : FuncData} {x : Str} {sp : Sp} {s : Shared} {vs : List Value} {ns : List Int} (M : Mdl K mg mb cs s)
    (ha : s.heap.get? a = some { cls := .type "list", data := .seq vs.toArray }) (hi : IntsAre vs ns) (hl : ns.length ≤ sizeLine) (hr : Room k callerA)
    (F : ∀ base : Heap, K.In base → base.Ns mainGlobals mg → (∀ p ∈ cs, LamX.TabB base mg p.1 p.2) → FnG P w K mg base CX k fa fd [x] sp) (hbind : ∀ (s : Shared) (u : Value), BindsTo s fd ⟨[u], []⟩ [(x, u)])
    (hsp : ∀ H : Hp, (∀ p ∈ cs, H p.2 = some (.tbl #[])) → SqL K H a (ns.map V.int) → sp [.ref a] H (fun v _ => v = .bl true) fun _ _ _ => False) (hCX : ∀ H e s', CX [] H s (fun _ _ _ => False) e s' → False) :
    codeAny (model P w) callerA (.call (.ref fa) ⟨[.ref a], []⟩) (fun r s' => r = .ok (.ret (.bool true)) ∧ OldK s.heap s'.heap ∧ s'.os = s.os ∧ AllBare s'.gens) s := by
  have rv := vals_ints hi
  have lenV := hi.length
  have na : ¬ ∃ p ∈ cs, p.2 = a := fun ⟨p, hp, e⟩ => by
    have q := M.tab p hp
    rw [e, ha] at q
    have z := congrArg Obj.data (Option.some.inj q)
    cases z
  cases hk : K.lookup a with
  | some o =>
    have e := M.kin a o hk
    rw [ha] at e
    cases e
    classical
    let H0 : Hp := fun b => if ∃ p ∈ cs, p.2 = b then some (.tbl #[]) else none
    have y0 : ∀ {b : Addr}, (∃ p ∈ cs, p.2 = b) → H0 b = some (.tbl #[]) := fun h => if_pos h
    have n0 : ∀ {b : Addr}, (¬ ∃ p ∈ cs, p.2 = b) → H0 b = none := fun h => if_neg h
    have tr : Trk cs a H0 := ⟨fun p hp => y0 ⟨p, hp, rfl⟩, fun b => by
      by_cases hb : ∃ p ∈ cs, p.2 = b
      · exact .inr (.inl hb)
      · exact .inl (n0 hb)⟩
    refine run_tabs M ha ⟨_, _, rfl⟩ tr (fun b u z => ?_) (fun z => absurd (n0 na) z) hr F hbind (hsp H0 tr.tb (.inr ⟨_, vs.toArray, _, hk, rfl, rfl, rfl, by rw [List.size_toArray, lenV]; exact hl, by simpa using rv⟩)) hCX
    by_cases hb : ∃ p ∈ cs, p.2 = b
    · rw [y0 hb] at z
      cases z
      obtain ⟨p, hp, rfl⟩ := hb
      exact M.tab p hp
    · rw [n0 hb] at z
      cases z
  | none =>
    classical
    let H1 : Hp := fun b => if b = a then some (.frz { cls := .type "list", data := .seq vs.toArray } (.lst (ns.map V.int))) else if ∃ p ∈ cs, p.2 = b then some (.tbl #[]) else none
    have ya : H1 a = some (.frz { cls := .type "list", data := .seq vs.toArray } (.lst (ns.map V.int))) := if_pos rfl
    have y0 : ∀ {b : Addr}, (∃ p ∈ cs, p.2 = b) → H1 b = some (.tbl #[]) := fun {b} h => (if_neg (show ¬ b = a from fun z => na (z ▸ h))).trans (if_pos h)
    have n0 : ∀ {b : Addr}, b ≠ a → (¬ ∃ p ∈ cs, p.2 = b) → H1 b = none := fun h1 h2 => (if_neg h1).trans (if_neg h2)
    have tr : Trk cs a H1 := ⟨fun p hp => y0 ⟨p, hp, rfl⟩, fun b => by
      by_cases hb : ∃ p ∈ cs, p.2 = b
      · exact .inr (.inl hb)
      · by_cases hba : b = a
        · exact .inr (.inr ⟨hba, _, _, hba ▸ ya⟩)
        · exact .inl (n0 hba hb)⟩
    refine run_tabs M ha ⟨_, _, rfl⟩ tr (fun b u z => ?_) (fun _ => hk) hr F hbind (hsp H1 tr.tb (.inl (.inr ⟨_, ya⟩))) hCX
    by_cases hba : b = a
    · rw [hba, ya] at z
      cases z
      rw [hba]
      exact ⟨ha, by rw [List.length_map]; exact hl, vs, _, rv, ha⟩
    · by_cases hb : ∃ p ∈ cs, p.2 = b
      · rw [y0 hb] at z
        cases z
        obtain ⟨p, hp, rfl⟩ := hb
        exact M.tab p hp
      · rw [n0 hba hb] at z
        cases z
/-- what is known of the law at the head's heap h -/
structure LawG (l : PySem.W.OpenLaw) (w : World) (K : PySem.W.Frag) (CX : CXT) (k n : Nat) (x : Str) (mg : Str → Option Value) (fa : Addr) (h : Heap) : Prop where
  ex : ∃ (fd : FuncData) (cs : List (Addr × Addr)) (sp : Sp), ((∀ p ∈ cs, h.get? p.2 = some tab0) ∧ (∀ p ∈ cs, K.lookup p.2 = none) ∧ ∀ p ∈ cs, PySem.W.CodeHd h p.1 p.2) ∧ (∀ (s : Shared) (u : Value), BindsTo s fd ⟨[u], []⟩ [(x, u)]) ∧
    (∀ (H : Hp) (a : Addr) (ns : List Int), ns.length ≤ n → (∀ p ∈ cs, H p.2 = some (.tbl #[])) → SqL K H a (ns.map V.int) → sp [.ref a] H (fun v _ => v = .bl true) fun _ _ _ => False) ∧
    ∀ base : Heap, K.In base → base.Ns mainGlobals mg → (∀ p ∈ cs, LamX.TabB base mg p.1 p.2) → FnG l.prog w K mg base CX k fa fd [x] sp
theorem walk_ofTG {l : PySem.W.OpenLaw} {n k : Nat} {q : Program} {loose : List Str} {XP : (Str → Option Value) → Heap → Prop} {YP : World → Heap → Prop} {d : DefRec} {CX : CXT} {x : Str}
    (hn : l.most = some n) (hn2 : n ≤ sizeLine) (hdf : d.params.defaults = []) (hr : Room k callerA)
    (F : ∀ (w : World) (mg : Str → Option Value) (fa : Addr) (h : Heap), YP w h → h.Ns mainGlobals mg → mg d.name = some (.ref fa) → ∃ K : PySem.W.Frag, K.In h ∧ LawG l w K CX k n x mg fa h)
    (hCX : ∀ (H : Hp) (s : Shared) (e : Value) (s' : Shared), CX [] H s (fun _ _ _ => False) e s' → False) :
    PySem.W.WalkO q loose XP YP l.row.toRowW d [] (fun f vs => PySem.call f vs) := by
  refine Att.attach_call hn hdf fun w s₀ s₁ mg mb fa o pm cd doc a vs ns G Y ho hd hcd hmg hobj hints hlen hg => ?_
  obtain ⟨K, KX, ⟨fd, cs, sp, ⟨h1, h2, h3⟩, hb, hsp, hF⟩⟩ := F w mg fa _ Y G.T.g hmg
  exact law_callTG ⟨KX, G.T.g, G.T.b, G.T.builtins, G.T.nolimit, hg, h1, h2, h3, G.T.bmain⟩ hobj hints (Nat.le_trans hlen hn2) hr hF hb (fun H hH hS => hsp H a ns hlen hH hS) fun H e s' => hCX H s₁ e s'
end G137
/-! words: is_integer, is_between, is_tuple, is_name, is_word_of, number_in. -/
namespace KP
open PySem PySem.Spec PyProof.Rows L2 G137
def isIntV : V → Bool
  | .int _ => true
  | _ => false
theorem isInt_ty {H : Hp} {v : V} {T : String} (h : tyS H v = some T) : (isB T "int" && !isB T "bool") = isIntV v := by
  cases v with
  | non => cases h; rfl
  | bl b => cases h; rfl
  | int b => cases h; rfl
  | str b => cases h; rfl
  | ref a => rcases tyO_some h with ⟨rfl, xs, e⟩ | ⟨rfl, xs, e⟩ | ⟨rfl, xs, e⟩ <;> rfl
  | byt b => cases h
  | flt b => cases h
  | ty b => cases h
/-- a plain value -/
def Pl (H : Hp) (v : V) : Prop := ∃ T, tyS H v = some T
theorem Pl.same {H H' : Hp} {v : V} (h : Pl H v) (s : Same H H') : Pl H' v := let ⟨T, e⟩ := h; ⟨T, tyS_same s e⟩
def spIsInt : Sp := fun vs H Q _ => ∃ v, vs = [v] ∧ Pl H v ∧ Q (.bl (isIntV v)) H
theorem scIsInt : FnScope ["value"] ["value"] (defScope d_is_integer) := ⟨rfl, rfl, rfl, by decide +kernel, rfl, by decide +kernel, by decide +kernel⟩
section
variable {P : Program} {w : World} {K : Frag} {mg : Str → Option Value} {base : Heap}
theorem ok_is_integer (T : Pr K mg) : FOk P w K mg base 1 "is_integer" ["value"] spIsInt := by
  obtain ⟨fd, F⟩ := T.f_is_integer
  have gIs := T.fre "isinstance" (by decide +kernel)
  have gI := T.fre "int" (by decide +kernel)
  have gB := T.fre "bool" (by decide +kernel)
  refine FOk.of F (T.glo _ (by decide +kernel)) scIsInt (fun _ _ _ _ _ _ us hl => match us, hl with | [_], _ => rfl) (fun vs H Q E h => ?_) (fun cdv A outer s H vs Q E hr h => ?_)
  · obtain ⟨v, rfl, _⟩ := h; rfl
  refine ⟨_, pss_one (ps_ret (pe_and (pe_callB call_isT (by rfl) gIs boot_isinstance (pa_cons (pv 0) (pa_cons (pe_bltn (u := .type "int") (v := .ty "int") rfl gI (by decide +kernel) rfl) pa_nil)))
    (pe_one (pe_not (pe_callB call_isT (by rfl) gIs boot_isinstance (pa_cons (pv 0) (pa_cons (pe_bltn (u := .type "bool") (v := .ty "bool") rfl gB (by decide +kernel) rfl) pa_nil))))))), ?_⟩
  obtain ⟨v, rfl, ⟨Ty, hT⟩, hQ⟩ := h
  rw [← isInt_ty hT] at hQ
  refine ⟨_, rfl, v, Ty, "int", rfl, hT, by decide, _, rfl, ?_⟩
  cases e : isB Ty "int" with
  | false =>
    rw [e] at hQ
    exact iN rfl hQ
  | true =>
    rw [e] at hQ
    refine iY rfl ?_
    refine ⟨_, rfl, v, Ty, "bool", rfl, hT, by decide, _, rfl, ?_⟩
    exact hQ

def betV (v : V) (lo hi : Int) : Bool := match v with
  | .int i => decide (lo ≤ i) && decide (i ≤ hi)
  | _ => false
def spBet : Sp := fun vs H Q _ => ∃ v lo hi, vs = [v, .int lo, .int hi] ∧ Pl H v ∧ Q (.bl (betV v lo hi)) H
theorem scBet : FnScope ["value", "low", "high"] ["value", "low", "high"] (defScope d_is_between) := ⟨rfl, rfl, rfl, by decide +kernel, rfl, by decide +kernel, by decide +kernel⟩
theorem ok_is_between (T : Pr K mg) : FOk P w K mg base 2 "is_between" ["value", "low", "high"] spBet := by
  obtain ⟨fd, F⟩ := T.f_is_between
  refine FOk.of F (T.glo _ (by decide +kernel)) scBet (fun _ _ _ _ _ _ us hl => match us, hl with | [_, _, _], _ => rfl) (fun vs H Q E h => ?_) (fun cdv A outer s H vs Q E hr h => ?_)
  · obtain ⟨v, lo, hi, rfl, _⟩ := h; rfl
  refine ⟨_, pss_one (ps_ret (pe_and (pe_callF (ok_is_integer T) hr rfl (pa_cons (pv 0) pa_nil)) (pe_one (pe_chain op_le op_le (pv 1) (pv 0) (pv 2))))), ?_⟩
  obtain ⟨v, lo, hi, rfl, hp, hQ⟩ := h
  refine ⟨_, rfl, v, rfl, hp, _, rfl, ?_⟩
  cases v with
  | int i =>
    refine iY rfl ?_
    refine ⟨_, rfl, _, rfl, _, _, rfl, rfl, _, rfl, ?_⟩
    have e : betV (.int i) lo hi = (decide (lo ≤ i) && decide (i ≤ hi)) := rfl
    rw [e] at hQ
    cases e1 : decide (lo ≤ i) with
    | true =>
      rw [e1] at hQ
      refine iY rfl ?_
      exact ⟨_, rfl, _, _, rfl, rfl, hQ⟩
    | false =>
      rw [e1] at hQ
      exact iN rfl hQ
  | _ => exact iN rfl hQ

/-- the comprehension [c in z for c in x] and its all -/
def allIn (z x : Str) : Bool := x.cps.toList.all fun c => decide (c ∈ z.cps.toList)
def nameS (x : Str) : Bool := decide (1 ≤ x.length ∧ x.length ≤ 8) && allIn "abcdefghijklmnopqrstuvwxyz" x
def nameV : V → Bool
  | .str x => nameS x
  | _ => false
def spName : Sp := fun vs H Q _ => ∃ v, vs = [v] ∧ Pl H v ∧ (∀ x, v = .str x → x.length ≤ sizeLine) ∧ ∀ H', Same H H' → Q (.bl (nameV v)) H'
theorem scName : FnScope ["value", "letter"] ["value"] (defScope d_is_name) := ⟨rfl, rfl, rfl, by decide +kernel, rfl, by decide +kernel, by decide +kernel⟩
theorem isB_str {H : Hp} {v : V} {T : String} (h : tyS H v = some T) : isB T "str" = (match v with | .str _ => true | _ => false) := by
  cases v with
  | non => cases h; rfl
  | bl b => cases h; rfl
  | int b => cases h; rfl
  | str b => cases h; rfl
  | ref a => rcases tyO_some h with ⟨rfl, xs, e⟩ | ⟨rfl, xs, e⟩ | ⟨rfl, xs, e⟩ <;> rfl
  | byt b => cases h
  | flt b => cases h
  | ty b => cases h
theorem ok_is_name (T : Pr K mg) : FOk P w K mg base 1 "is_name" ["value"] spName := by
  obtain ⟨fd, F⟩ := T.f_is_name
  have gIs := T.fre "isinstance" (by decide +kernel)
  have gS := T.fre "str" (by decide +kernel)
  have gL := T.fre "len" (by decide +kernel)
  have gA := T.fre "all" (by decide +kernel)
  have gM := T.int "MOST_LETTERS_words" 8 (by decide +kernel)
  have gLe := T.str "LETTERS" "abcdefghijklmnopqrstuvwxyz" (by decide +kernel)
  refine FOk.of F (T.glo _ (by decide +kernel)) scName (fun _ _ _ _ _ _ us hl => match us, hl with | [_], _ => rfl) (fun vs H Q E h => ?_) (fun cdv A outer s H vs Q E hr h => ?_)
  · obtain ⟨v, rfl, _⟩ := h; rfl
  refine ⟨_, PSs.nox (pss_cons (ps_if (PW.pt (pw_or (pt_not (pt_val (pe_callB call_isT (by rfl) gIs boot_isinstance (pa_cons (pv 0) (pa_cons (pe_bltn (u := .type "str") (v := .ty "str") rfl gS (by decide +kernel) rfl) pa_nil)))))
      (pw_or1 (pt_not (pt_chain op_le op_le pe_int (pe_callB call_len_str (by rfl) gL PySem.boot_len (pa_cons (pv 0) pa_nil)) (pe_gi (by rfl) gM)))))) (pss_one (ps_ret pe_bl)) pss_nil)
    (pss_one (ps_ret (pe_callB (cr_all rfl) (by rfl) gA (by decide +kernel) (pa_cons (pe_lc (own := [("letter", 1)]) (g := gName 1) (tt := tYes) rfl scName.nd (pi_str (pv 0))
      (blkOk_by (own := [("letter", 1)]) (N := ["value", "letter"]) (sc := defScope d_is_name) (by decide +kernel)) (fun _ _ _ _ _ => pg_name (i := 1) scName.nd rfl (Or.inl rfl)) (fun _ _ _ _ _ => pts_nil)
      (fun _ _ _ _ _ => pe_cmpR op_in_sign (pv 1) (pe_gs (by rfl) gLe) (by rfl))) pa_nil))))), ?_⟩
  obtain ⟨v, rfl, ⟨Ty, hT⟩, hlen, hQ⟩ := h
  refine ⟨_, rfl, v, Ty, "str", rfl, hT, by decide, _, rfl, ?_⟩
  rw [isB_str hT]
  cases v with
  | str x =>
    refine iN rfl ?_
    refine ⟨_, rfl, x, rfl, hlen x rfl, _, _, rfl, rfl, _, rfl, ?_⟩
    have e0 : nameV (.str x) = (decide (1 ≤ x.length ∧ x.length ≤ 8) && allIn "abcdefghijklmnopqrstuvwxyz" x) := rfl
    by_cases h1 : (1 : Int) ≤ (x.length : Int)
    · refine iY (decide_eq_true h1) ?_
      refine ⟨_, _, rfl, rfl, _, rfl, ?_⟩
      by_cases h2 : (x.length : Int) ≤ 8
      · refine iN (by rw [decide_eq_true h2]; rfl) ?_
        refine ⟨_, rfl, x, rfl, fun D nD => ?_⟩
        refine lc_it (walk_str (z := x)) (AccP (fun i => ((x.cps.toList.take i).map fun c => decide (c ∈ ("abcdefghijklmnopqrstuvwxyz" : Str).cps.toList)).map V.bl) D H) (acc_start rfl) (fun _ _ _ _ => trivial) (fun i v G G' hi p y => ?_) (fun G p => ?_)
        · obtain ⟨rfl, c, hc, rfl⟩ := y
          refine ⟨rfl, ?_⟩
          dsimp only [tYes]
          rw [if_pos rfl]
          refine ⟨_, rfl, c, _, rfl, rfl, acc_step p (Same.refl _) ?_ ?_⟩
          · have := hlen x rfl
            rw [List.length_map, List.length_map, List.length_take]
            have e : x.cps.toList.length = x.length := rfl
            have e3 : x.cps.toList.length = x.cps.size := by simp
            have := Nat.min_le_left i x.cps.toList.length
            omega
          · rw [List.take_add_one]
            have e : x.cps.toList[i]? = some c := by simpa using hc
            rw [e]
            simp
        · refine ⟨D, _, rfl, SqL.of p.1, ?_⟩
          have q := hQ G (p.same nD)
          rw [e0, decide_eq_true (show 1 ≤ x.length ∧ x.length ≤ 8 by omega)] at q
          have e : x.cps.toList.take x.cps.size = x.cps.toList := List.take_of_length_le (by simp)
          rw [e]
          have e2 : ((x.cps.toList.map fun c => decide (c ∈ ("abcdefghijklmnopqrstuvwxyz" : Str).cps.toList)).all id) = allIn "abcdefghijklmnopqrstuvwxyz" x := by
            rw [List.all_map]; rfl
          rw [e2]
          exact q
      · refine iY (by rw [decide_eq_false h2]; rfl) ?_
        have := hQ H (Same.refl H)
        rw [e0, decide_eq_false (fun z => h2 (by omega))] at this
        exact this
    · refine iN (decide_eq_false h1) ?_
      have := hQ H (Same.refl H)
      rw [e0, decide_eq_false (fun z => h1 (by omega))] at this
      exact ⟨_, rfl, iY rfl this⟩
  | _ => exact iY rfl (hQ H (Same.refl H))
end
end KP
/-! words: number_in. -/
namespace KP
open PySem PySem.Spec PyProof.Rows L2 G137
def numOk (x : Str) (m : Int) : Bool := (decide ((1 : Int) ≤ (x.length : Int)) && decide ((x.length : Int) ≤ m)) && (allIn "0123456789" x && !(decide ((x.length : Int) > 1) && decide (x.cps.toList[0]? = some 48)))
def spNum : Sp := fun vs H Q _ => ∃ x m, vs = [.str x, .int m] ∧ x.length ≤ sizeLine ∧ (numOk x m = true → x.length ≤ 640 ∧ ∃ n, PySem.intText? x = some n ∧ ∀ H', Same H H' → Q (.int n) H') ∧ (numOk x m = false → ∀ H', Same H H' → Q .non H')
theorem scNum : FnScope ["word", "most", "figure"] ["word", "most"] (defScope d_number_in) := ⟨rfl, rfl, rfl, by decide +kernel, rfl, by decide +kernel, by decide +kernel⟩
section
variable {P : Program} {w : World} {K : Frag} {mg : Str → Option Value} {base : Heap}
theorem ok_number_in (T : Pr K mg) : FOk P w K mg base 1 "number_in" ["word", "most"] spNum := by
  obtain ⟨fd, F⟩ := T.f_number_in
  have gL := T.fre "len" (by decide +kernel)
  have gA := T.fre "all" (by decide +kernel)
  have gI := T.fre "int" (by decide +kernel)
  have gLe := T.str "FIGURES" "0123456789" (by decide +kernel)
  refine FOk.of F (T.glo _ (by decide +kernel)) scNum (fun _ _ _ _ _ _ us hl => match us, hl with | [_, _], _ => rfl) (fun vs H Q E h => ?_) (fun cdv A outer s H vs Q E hr h => ?_)
  · obtain ⟨v, _, rfl, _⟩ := h; rfl
  refine ⟨_, PSs.nox (pss_cons (ps_if (PW.pt (pw_or (pt_not (pt_chain op_le op_le pe_int (pe_callB call_len_str (by rfl) gL PySem.boot_len (pa_cons (pv 0) pa_nil)) (pv 1)))
      (pw_or1 (pt_not (pt_val (pe_callB (cr_all rfl) (by rfl) gA (by decide +kernel) (pa_cons (pe_lc (own := [("figure", 2)]) (g := gName 2) (tt := tYes) rfl scNum.nd (pi_str (pv 0))
      (blkOk_by (own := [("figure", 2)]) (N := ["word", "most", "figure"]) (sc := defScope d_number_in) (by decide +kernel)) (fun _ _ _ _ _ => pg_name (i := 2) scNum.nd rfl (Or.inl rfl)) (fun _ _ _ _ _ => pts_nil)
      (fun _ _ _ _ _ => pe_cmpR op_in_sign (pv 2) (pe_gs (by rfl) gLe) (by rfl))) pa_nil))))))) (pss_one (ps_ret pe_non)) pss_nil)
    (pss_one (ps_ret (pe_ifExp (PW.pt (pw_and (pt_cmpR op_gt (pe_callB call_len_str (by rfl) gL PySem.boot_len (pa_cons (pv 0) pa_nil)) pe_int (nomark _)) (pw_and1 (pt_cmpR op_eq (pe_ix ix_str (pv 0) pe_int (fun _ _ => rfl)) pe_str (nomark _))))) pe_non
      (pe_callTy call_int_str (by rfl) gI (by decide +kernel) (pa_cons (pv 0) pa_nil)))))), ?_⟩
  obtain ⟨x, m, rfl, hlen, hY, hN⟩ := h
  refine ⟨_, rfl, x, rfl, hlen, _, _, rfl, rfl, _, rfl, ?_⟩
  by_cases h1 : (1 : Int) ≤ (x.length : Int)
  · refine iY (decide_eq_true h1) ?_
    refine ⟨_, rfl, _, _, rfl, rfl, _, rfl, ?_⟩
    by_cases h2 : (x.length : Int) ≤ m
    · refine iN (by rw [decide_eq_true h2]; rfl) ?_
      refine ⟨_, rfl, x, rfl, fun D nD => ?_⟩
      refine lc_it (walk_str (z := x)) (AccP (fun i => ((x.cps.toList.take i).map fun c => decide (c ∈ ("0123456789" : Str).cps.toList)).map V.bl) D H) (acc_start rfl) (fun _ _ _ _ => trivial) (fun i v G G' hi p y => ?_) (fun G p => ?_)
      · obtain ⟨rfl, c, hc, rfl⟩ := y
        refine ⟨rfl, ?_⟩
        dsimp only [tYes]
        rw [if_pos rfl]
        refine ⟨_, rfl, c, _, rfl, rfl, acc_step p (Same.refl _) ?_ ?_⟩
        · rw [List.length_map, List.length_map, List.length_take]
          have e : x.cps.toList.length = x.length := rfl
          have e3 : x.cps.toList.length = x.cps.size := by simp
          have := Nat.min_le_left i x.cps.toList.length
          omega
        · rw [List.take_add_one]
          have e : x.cps.toList[i]? = some c := by simpa using hc
          rw [e]
          simp
      · refine ⟨D, _, rfl, SqL.of p.1, ?_⟩
        have e : x.cps.toList.take x.cps.size = x.cps.toList := List.take_of_length_le (by simp)
        rw [e]
        have e2 : ((x.cps.toList.map fun c => decide (c ∈ ("0123456789" : Str).cps.toList)).all id) = allIn "0123456789" x := by
          rw [List.all_map]; rfl
        rw [e2]
        refine ⟨_, rfl, ?_⟩
        have sG := p.same nD
        cases e3 : allIn "0123456789" x with
        | false =>
          refine iY rfl ?_
          refine hN ?_ G sG
          unfold numOk
          rw [e3]; simp
        | true =>
          refine iN rfl ?_
          refine ⟨_, rfl, x, rfl, hlen, _, _, rfl, rfl, _, rfl, ?_⟩
          have hnum : numOk x m = !(decide ((x.length : Int) > 1) && decide (x.cps.toList[0]? = some 48)) := by
            unfold numOk
            rw [e3, decide_eq_true h1, decide_eq_true h2]; simp
          by_cases h3 : (x.length : Int) > 1
          · refine iY (decide_eq_true h3) ?_
            have hc0 : ∃ c, x.cps.toList[0]? = some c := by
              have e4 : x.cps.toList.length = x.length := rfl
              exact ⟨x.cps.toList[0]'(by omega), List.getElem?_eq_getElem _⟩
            obtain ⟨c, hc⟩ := hc0
            refine ⟨_, rfl, x, _, c, rfl, rfl, hlen, ?_, rfl, _, rfl, ?_⟩
            · exact atI_nat hc
            · rw [decide_eq_true h3, hc] at hnum
              by_cases h4 : c = 48
              · subst h4
                refine iY (by decide) ?_
                exact hN (by rw [hnum]; simp) G sG
              · refine iN (decide_eq_false fun z => h4 ?_) ?_
                · have z' : (⟨#[c]⟩ : Str) = "0" := V.str.inj z
                  have z2 : (⟨#[c]⟩ : Str).cps.toList = ("0" : Str).cps.toList := by rw [z']
                  have z3 : [c] = [48] := z2
                  exact (List.cons.inj z3).1
                · obtain ⟨q1, n, q2, q3⟩ := hY (by rw [hnum]; simp [h4])
                  exact ⟨_, rfl, x, n, rfl, q2, q1, q3 G sG⟩
          · refine iN (decide_eq_false h3) ?_
            refine iN rfl ?_
            rw [decide_eq_false h3] at hnum
            obtain ⟨q1, n, q2, q3⟩ := hY hnum
            exact ⟨_, rfl, x, n, rfl, q2, q1, q3 G sG⟩
    · refine iY (by rw [decide_eq_false h2]; rfl) ?_
      refine hN ?_ H (Same.refl H)
      unfold numOk
      rw [decide_eq_false h2]; simp
  · refine iN (decide_eq_false h1) ?_
    refine ⟨_, rfl, iY rfl ?_⟩
    refine hN ?_ H (Same.refl H)
    unfold numOk
    rw [decide_eq_false h1]; simp
end
end KP
/-! booklines: is_new_name, key_in, many_stores. -/
namespace KP
open PySem PySem.Spec PyProof.Rows L2 G137
/-- rows whose first members are the names ns -/
def Rows (H : Hp) : List Addr → List Str → Prop := Paired fun t n => ∃ rest, H t = some (.tup (.str n :: rest))
theorem Rows.same {H H' : Hp} (s : Same H H') : ∀ {ts : List Addr} {ns : List Str}, Rows H ts ns → Rows H' ts ns
  | _, _, .nil => .nil
  | _, _, .cons ⟨r, h⟩ t => .cons ⟨r, s _ _ h⟩ (Rows.same s t)
theorem Paired.get? {α β : Type} {R : α → β → Prop} : ∀ {xs : List α} {ys : List β} {i : Nat} {x : α}, Paired R xs ys → xs[i]? = some x → ∃ y, ys[i]? = some y ∧ R x y
  | _, _, _, _, .nil, e => by simp at e
  | _, _, 0, _, .cons r _, e => by simp at e; subst e; exact ⟨_, rfl, r⟩
  | _, _, i + 1, x, .cons _ t, e => by
    obtain ⟨u, h1, h2⟩ := Paired.get? (i := i) (x := x) t (by simpa using e)
    exact ⟨u, by simpa using h1, h2⟩
theorem flat_strs (ns : List Str) : (ns.map V.str).all flatV = true := by
  induction ns with
  | nil => rfl
  | cons a l ih => rw [List.map_cons, List.all_cons, ih]; rfl
theorem inV_str (x : Str) (ns : List Str) : inV (.str x) (ns.map V.str) = decide (x ∈ ns) := by
  unfold inV
  rw [List.any_map]
  by_cases h : x ∈ ns
  · rw [decide_eq_true h, List.any_eq_true]
    refine ⟨x, h, ?_⟩
    show (x == x) = true
    simp
  · rw [decide_eq_false h, List.any_eq_false]
    intro y hy z
    have z' : (y == x) = true := z
    exact h ((eq_of_beq z') ▸ hy)
def spNew : Sp := fun vs H Q _ => ∃ x l ts ns, vs = [.str x, .ref l] ∧ x.length ≤ sizeLine ∧ H l = some (.lst (ts.map V.ref)) ∧ ts.length < sizeLine ∧ Rows H ts ns ∧ ∀ H', Same H H' → Q (.bl (nameS x && !decide (x ∈ ns))) H'
theorem scNew : FnScope ["value", "rows", "row"] ["value", "rows"] (defScope d_is_new_name) := ⟨rfl, rfl, rfl, by decide +kernel, rfl, by decide +kernel, by decide +kernel⟩
section
variable {P : Program} {w : World} {K : Frag} {mg : Str → Option Value} {base : Heap}
theorem ok_is_new_name (T : Pr K mg) : FOk P w K mg base 2 "is_new_name" ["value", "rows"] spNew := by
  obtain ⟨fd, F⟩ := T.f_is_new_name
  refine FOk.of F (T.glo _ (by decide +kernel)) scNew (fun _ _ _ _ _ _ us hl => match us, hl with | [_, _], _ => rfl) (fun vs H Q E h => ?_) (fun cdv A outer s H vs Q E hr h => ?_)
  · obtain ⟨v, _, _, _, rfl, _⟩ := h; rfl
  refine ⟨_, pss_one (ps_ret (pe_and (pe_callF (ok_is_name T) hr rfl (pa_cons (pv 0) pa_nil)) (pe_one (pe_cmpR op_notIn_seq (pv 0)
    (pe_lc (own := [("row", 2)]) (g := gName 2) (tt := tYes) (te := tOp (rIxT K) (tVar 2) (tC (.int 0))) rfl scNew.nd (pi_list (pv 1)) (blkOk_by (own := [("row", 2)]) (N := ["value", "rows", "row"]) (sc := defScope d_is_new_name) (by decide +kernel)) (fun _ _ _ _ _ => pg_name (i := 2) scNew.nd rfl (Or.inl rfl)) (fun _ _ _ _ _ => pts_nil)
      (fun _ _ _ _ _ => pe_ix ix_tup (pv 2) pe_int (fun _ _ => rfl))) (by rfl))))), ?_⟩
  obtain ⟨x, l, ts, ns, rfl, hlen, hl, hsz, hrows, hQ⟩ := h
  refine ⟨_, rfl, _, rfl, ⟨_, rfl⟩, (fun y e => by rw [← V.str.inj e]; exact hlen), fun G1 s1 => ⟨_, rfl, ?_⟩⟩
  have e0 : nameV (.str x) = nameS x := rfl
  rw [e0]
  cases e1 : nameS x with
  | false =>
    have := hQ G1 s1
    rw [e1] at this
    exact iN rfl this
  | true =>
    refine iY rfl ?_
    refine ⟨_, rfl, _, rfl, l, rfl, ⟨_, SqL.of (s1 _ _ hl)⟩, fun D nD => ?_⟩
    have hns : ns.length = ts.length := (Paired.length hrows).symm
    refine lc_list (xs := ts.map V.ref) (AccP (fun i => (ns.take i).map V.str) D G1) (acc_start rfl) (fun i G _ p => SqL.of (p.same nD _ _ (s1 _ _ hl))) (fun i v G hi p => ?_) (fun G p => ?_)
    · rw [List.getElem?_map] at hi
      cases et : ts[i]? with
      | none => rw [et] at hi; cases hi
      | some t =>
        rw [et] at hi
        obtain rfl : V.ref t = v := Option.some.inj hi
        obtain ⟨n, hn, rest, hr'⟩ := Paired.get? hrows et
        refine ⟨rfl, ?_⟩
        dsimp only [tYes]
        rw [if_pos rfl]
        refine ⟨_, rfl, t, _, _, .str n, rfl, rfl, SqT.of (p.same nD _ _ (s1 _ _ hr')), atI_nat (j := 0) rfl, acc_step p (Same.refl _) ?_ ?_⟩
        · rw [List.length_map, List.length_take]
          have := Nat.min_le_right i ns.length
          omega
        · rw [List.take_add_one, hn]; simp
    · have eT : ns.take (ts.map V.ref).length = ns := List.take_of_length_le (by rw [List.length_map]; omega)
      have hp : G D = some (.lst ((ns.take (ts.map V.ref).length).map V.str)) := p.1
      rw [eT] at hp
      refine ⟨D, _, rfl, .inl (SqL.of hp), rfl, flat_strs ns, ?_⟩
      rw [if_pos rfl, inV_str]
      have := hQ G (s1.trans (p.same nD))
      rw [e1] at this
      exact this
end
end KP
/-! booklines: key_in, many_stores. -/
namespace KP
open PySem PySem.Spec PyProof.Rows L2 G137
/-- a key: its name, its size, whether it may be gone -/
structure KeyR where
  name : Str
  size : Nat
  may : Bool
def KeyR.tup (k : KeyR) : HO := .tup [.str k.name, .int (k.size : Int), .bl k.may]
def sizeT (n : Nat) : Str := if n = 2 then "2" else "3"
def KeyR.words (k : KeyR) : List Str := [if k.may then "may" else "key", k.name, sizeT k.size]
structure KeyR.Ok (k : KeyR) : Prop where
  nm : nameS k.name = true
  it : k.name ≠ "it"
  he : k.name ≠ "here"
  sz : k.size = 2 ∨ k.size = 3
def KeyRows (H : Hp) : List Addr → List KeyR → Prop := Paired fun t k => H t = some k.tup
theorem KeyRows.same {H H' : Hp} (s : Same H H') : ∀ {ts : List Addr} {ns : List KeyR}, KeyRows H ts ns → KeyRows H' ts ns
  | _, _, .nil => .nil
  | _, _, .cons h t => .cons (s _ _ h) (KeyRows.same s t)
theorem KeyRows.rows {H : Hp} : ∀ {ts : List Addr} {ks : List KeyR}, KeyRows H ts ks → Rows H ts (ks.map (·.name))
  | _, _, .nil => .nil
  | _, _, .cons h t => .cons ⟨_, h⟩ (KeyRows.rows t)
theorem nameS_len {x : Str} (h : nameS x = true) : x.length ≤ 8 := by
  unfold nameS at h
  exact (of_decide_eq_true (Bool.and_eq_true_iff.mp h).1).2
theorem sizeLine_big : 1000 ≤ sizeLine := by decide
theorem sizeT_num {n : Nat} (h : n = 2 ∨ n = 3) : numOk (sizeT n) 3 = true ∧ (sizeT n).length ≤ 640 ∧ PySem.intText? (sizeT n) = some (n : Int) := by
  rcases h with rfl | rfl <;> exact ⟨by decide +kernel, by decide +kernel, by decide +kernel⟩
def spKeyIn : Sp := fun vs H Q _ => ∃ l r ts ks k, vs = [.ref l, .ref r] ∧ H l = some (.lst (k.words.map V.str)) ∧ H r = some (.lst (ts.map V.ref)) ∧ ts.length < sizeLine ∧ KeyRows H ts ks ∧ KeyR.Ok k ∧ k.name ∉ ks.map (·.name) ∧
  ∀ H' t, Same H H' → H' t = some k.tup → Q (.ref t) H'
theorem scKeyIn : FnScope ["words", "rows", "size"] ["words", "rows"] (defScope d_key_in) := ⟨rfl, rfl, rfl, by decide +kernel, rfl, by decide +kernel, by decide +kernel⟩
section
variable {P : Program} {w : World} {K : Frag} {mg : Str → Option Value} {base : Heap}
theorem ok_key_in (T : Pr K mg) : FOk P w K mg base 3 "key_in" ["words", "rows"] spKeyIn := by
  obtain ⟨fd, F⟩ := T.f_key_in
  have gL := T.fre "len" (by decide +kernel)
  have gT := T.int "TRIPLE_booklines" 3 (by decide +kernel)
  have gP := T.int "PAIR" 2 (by decide +kernel)
  have gF := T.int "MOST_FIGURES" 3 (by decide +kernel)
  have gI := T.str "IT" "it" (by decide +kernel)
  have gH := T.str "HERE" "here" (by decide +kernel)
  have gM := T.str "MAY" "may" (by decide +kernel)
  refine FOk.of F (T.glo _ (by decide +kernel)) scKeyIn (fun _ _ _ _ _ _ us hl => match us, hl with | [_, _], _ => rfl) (fun vs H Q E h => ?_) (fun cdv A outer s H vs Q E hr h => ?_)
  · obtain ⟨v, _, _, _, _, rfl, _⟩ := h; rfl
  have hr1 := hr.mono (show 1 ≤ 2 by decide)
  refine ⟨_, PSs.nox (pss_cons (ps_if (PW.pt (pw_or (pt_cmpR op_ne (pe_callB call_len_seq (by rfl) gL PySem.boot_len (pa_cons (pv 0) pa_nil)) (pe_gi (by rfl) gT) (nomark _))
      (pw_or (pt_not (pt_val (pe_callF (ok_is_new_name T) hr rfl (pa_cons (pe_ix ix_list (pv 0) pe_int (fun _ _ => rfl)) (pa_cons (pv 1) pa_nil)))))
      (pw_or1 (pt_cmpR op_in_seq (pe_ix ix_list (pv 0) pe_int (fun _ _ => rfl)) (pe_tup (pa_cons (pe_gs (by rfl) gI) (pa_cons (pe_gs (by rfl) gH) pa_nil))) (by rfl)))))) (pss_one (ps_ret pe_non)) pss_nil)
    (pss_cons (ps_set (i := 2) scKeyIn.nd rfl (Or.inl rfl) (pe_callF (ok_number_in T) hr1 rfl (pa_cons (pe_ix ix_list (pv 0) (pe_gi (by rfl) gP) (fun _ _ => rfl)) (pa_cons (pe_gi (by rfl) gF) pa_nil))))
    (pss_one (ps_ret (pe_ifExp (pt_val (pe_callF (ok_is_between T) hr rfl (pa_cons (pv 2) (pa_cons pe_int (pa_cons pe_int pa_nil)))))
      (pe_tup (pa_cons (pe_ix ix_list (pv 0) pe_int (fun _ _ => rfl)) (pa_cons (pv 2) (pa_cons (pe_cmpR op_eq (pe_ix ix_list (pv 0) pe_int (fun _ _ => rfl)) (pe_gs (by rfl) gM) (nomark _)) pa_nil)))) pe_non))))), ?_⟩
  obtain ⟨l, r, ts, ks, k, rfl, hl, hr', hsz, hks, ok, hnew, hQ⟩ := h
  have hlen : k.name.length ≤ sizeLine := Nat.le_trans (nameS_len ok.nm) (Nat.le_trans (by decide) sizeLine_big)
  refine ⟨_, rfl, l, _, rfl, .inl (SqL.of hl), rfl, _, rfl, ?_⟩
  refine iN rfl ?_
  refine ⟨_, rfl, l, _, _, .str k.name, rfl, rfl, SqL.of hl, atI_nat (j := 1) rfl, _, rfl, k.name, r, ts, _, rfl, hlen, hr', hsz, hks.rows, fun G1 s1 => ?_⟩
  rw [ok.nm, decide_eq_false hnew]
  refine ⟨_, rfl, ?_⟩
  refine iN rfl ?_
  refine ⟨_, rfl, l, _, _, .str k.name, rfl, rfl, SqL.of (s1 _ _ hl), atI_nat (j := 1) rfl, by show 2 ≤ sizeLine; decide, fun T1 nT1 => ?_⟩
  refine ⟨T1, _, rfl, .inr (SqT.of upd_same), rfl, rfl, _, rfl, ?_⟩
  have e1 : inV (.str k.name) [.str "it", .str "here"] = false := by
    have := inV_str k.name ["it", "here"]
    rw [show (["it", "here"] : List Str).map V.str = [.str "it", .str "here"] from rfl] at this
    rw [this, decide_eq_false]
    intro h
    rcases List.mem_cons.mp h with h | h
    · exact ok.it h
    · exact ok.he (List.mem_singleton.mp h)
  refine iN (by rw [if_neg Bool.false_ne_true]; exact e1) ?_
  have s2 : Same H (upd G1 T1 (.tup [.str "it", .str "here"])) := s1.trans (same_upd nT1)
  refine ⟨_, rfl, l, _, _, .str (sizeT k.size), rfl, rfl, SqL.of (s2 _ _ hl), atI_nat (j := 2) rfl, sizeT k.size, 3, rfl, ?_, fun hn => ?_, fun hn => ?_⟩
  · exact Nat.le_trans (sizeT_num ok.sz).2.1 (Nat.le_trans (by decide) sizeLine_big)
  · obtain ⟨z1, z2, z3⟩ := sizeT_num ok.sz
    refine ⟨z2, _, z3, fun G2 s3 => ?_⟩
    have s4 := s2.trans s3
    refine ⟨_, rfl, .int (k.size : Int), 2, 3, rfl, ⟨_, rfl⟩, _, rfl, ?_⟩
    have hb : betV (.int (k.size : Int)) 2 3 = true := by
      rcases ok.sz with h | h <;> rw [h] <;> rfl
    refine iY hb ?_
    refine ⟨_, rfl, l, _, _, .str k.name, rfl, rfl, SqL.of (s4 _ _ hl), atI_nat (j := 1) rfl, _, rfl, _, rfl, l, _, _, .str (if k.may then "may" else "key"), rfl, rfl, SqL.of (s4 _ _ hl), atI_nat (j := 0) rfl, rfl, by show 3 ≤ sizeLine; decide, fun T2 nT2 => ?_⟩
    refine hQ _ T2 (s4.trans (same_upd nT2)) ?_
    rw [upd_same]
    have e3 : decide (V.str (if k.may = true then ("may" : Str) else "key") = V.str "may") = k.may := by
      cases k.may <;> decide +kernel
    rw [e3]; rfl
  · rw [(sizeT_num ok.sz).1] at hn
    cases hn
end
end KP
/-! booklines: many_stores. -/
namespace KP
open PySem PySem.Spec PyProof.Rows L2 G137
def KeyR.many (k : KeyR) : Nat := k.size + (if k.may then 1 else 0)
def manyK : List KeyR → Nat
  | [] => 1
  | k :: r => k.many * manyK r
def manyL (ks : List KeyR) : Nat := ks.foldl (fun n k => n * k.many) 1
def spMany : Sp := fun vs H Q _ => ∃ l ts ks, vs = [.ref l] ∧ H l = some (.lst (ts.map V.ref)) ∧ KeyRows H ts ks ∧ (∀ k ∈ ks, k.many ≤ 4) ∧ Q (.int (manyL ks : Nat)) H
theorem scMany : FnScope ["rows", "found", "name", "size", "is_may"] ["rows"] (defScope d_many_stores) := ⟨rfl, rfl, rfl, by decide +kernel, rfl, by decide +kernel, by decide +kernel⟩
section
variable {P : Program} {w : World} {K : Frag} {mg : Str → Option Value} {base : Heap}
theorem ok_many_stores (T : Pr K mg) : FOk P w K mg base 1 "many_stores" ["rows"] spMany := by
  obtain ⟨fd, F⟩ := T.f_many_stores
  have gI := T.fre "int" (by decide +kernel)
  refine FOk.of F (T.glo _ (by decide +kernel)) scMany (fun _ _ _ _ _ _ us hl => match us, hl with | [_], _ => rfl) (fun vs H Q E h => ?_) (fun cdv A outer s H vs Q E hr h => ?_)
  · obtain ⟨v, _, _, rfl, _⟩ := h; rfl
  refine ⟨_, PSs.nox (pss_cons (ps_set (i := 1) scMany.nd rfl (Or.inl rfl) pe_int)
    (pss_cons (ps_for PassesOwn.never rfl (pi_list (pv 0)) (pg_tup rfl (pgs_cons (pg_name (i := 2) scMany.nd rfl (Or.inl rfl)) (pgs_cons (pg_name (i := 3) scMany.nd rfl (Or.inl rfl)) (pgs_cons (pg_name (i := 4) scMany.nd rfl (Or.inl rfl)) pgs_nil))))
      (pss_one (ps_aug (i := 1) scMany.nd rfl (Or.inl rfl) (pe_op op_add (pv 3) (pe_callTy call_int1 (by rfl) gI (by decide +kernel) (pa_cons (pv 4) pa_nil))) iop_mul)))
    (pss_one (ps_ret (pv 1))))), ?_⟩
  obtain ⟨l, ts, ks, rfl, hl, hks, h4, hQ⟩ := h
  refine ⟨_, rfl, l, rfl, ⟨_, SqL.of hl⟩, ?_⟩
  have hlen : ks.length = ts.length := (Paired.length hks).symm
  refine for_list (xs := ts.map V.ref) (fun i σ G => (∃ a b c, σ = [some (.ref l), some (.int (manyL (ks.take i) : Nat)), a, b, c]) ∧ G = H) ⟨⟨none, none, none, rfl⟩, rfl⟩ (fun i σ G _ p => by rw [p.2]; exact SqL.of hl) ?_ ?_
  · rintro i x σ G hx ⟨⟨a, b, c, rfl⟩, rfl⟩
    rw [List.getElem?_map] at hx
    cases et : ts[i]? with
    | none => rw [et] at hx; cases hx
    | some t =>
    rw [et] at hx
    obtain rfl : V.ref t = x := Option.some.inj hx
    obtain ⟨k, hk, hkt⟩ := Paired.get? hks et
    refine ⟨t, _, rfl, SqT.of hkt, rfl, _, _, rfl, _, _, rfl, _, _, rfl, rfl, ?_⟩
    have h5 := h4 k (List.mem_of_getElem? hk)
    have e2 : ((k.size : Int) + (if k.may = true then 1 else 0)) = (k.many : Int) := by
      unfold KeyR.many
      cases k.may <;> simp
    refine ⟨_, rfl, _, rfl, _, rfl, .inr ⟨_, rfl, _, _, rfl, rfl, _, _, rfl, rfl, ?_, ?_⟩⟩
    · refine .inr ?_
      rw [e2]
      constructor <;> omega
    · have e3 : ((manyL (ks.take (i + 1)) : Nat) : Int) = (manyL (ks.take i) : Int) * ((k.size : Int) + (if k.may = true then 1 else 0)) := by
        rw [e2, List.take_add_one, hk]
        unfold manyL
        rw [List.foldl_append]
        simp only [Option.toList, List.foldl_cons, List.foldl_nil]
        exact Int.natCast_mul _ _
      exact ⟨⟨some (.str k.name), some (.int (k.size : Int)), some (.bl k.may), by rw [e3]; rfl⟩, rfl⟩
  · rintro σ G ⟨⟨a, b, c, rfl⟩, rfl⟩
    refine ⟨_, rfl, ?_⟩
    rw [List.take_of_length_le (by rw [List.length_map]; omega)]
    exact hQ
end
end KP
/-! booklines: part_in. -/
namespace KP
open PySem PySem.Spec PyProof.Rows L2 G137
/-- the word x tells the part v -/
def PartOk (x : Str) (v : V) : Prop := (numOk x 3 = true ∧ x.length ≤ 640 ∧ ∃ n, PySem.intText? x = some n ∧ v = .int n) ∨ (numOk x 3 = false ∧ nameS x = true ∧ v = .str x)
def spPart : Sp := fun vs H Q _ => ∃ x v, vs = [.str x] ∧ x.length ≤ sizeLine ∧ PartOk x v ∧ ∀ H', Same H H' → Q v H'
theorem scPart : FnScope ["word", "number"] ["word"] (defScope d_part_in) := ⟨rfl, rfl, rfl, by decide +kernel, rfl, by decide +kernel, by decide +kernel⟩
section
variable {P : Program} {w : World} {K : Frag} {mg : Str → Option Value} {base : Heap}
theorem ok_part_in (T : Pr K mg) : FOk P w K mg base 2 "part_in" ["word"] spPart := by
  obtain ⟨fd, F⟩ := T.f_part_in
  have gF := T.int "MOST_FIGURES" 3 (by decide +kernel)
  refine FOk.of F (T.glo _ (by decide +kernel)) scPart (fun _ _ _ _ _ _ us hl => match us, hl with | [_], _ => rfl) (fun vs H Q E h => ?_) (fun cdv A outer s H vs Q E hr h => ?_)
  · obtain ⟨v, _, rfl, _⟩ := h; rfl
  refine ⟨_, PSs.nox (pss_cons (ps_set (i := 1) scPart.nd rfl (Or.inl rfl) (pe_callF (ok_number_in T) hr rfl (pa_cons (pv 0) (pa_cons (pe_gi (by rfl) gF) pa_nil))))
    (pss_cons (ps_if (pt_cmpR op_notN (pv 1) pe_non (nomark _)) (pss_one (ps_ret (pv 1))) pss_nil)
    (pss_one (ps_ret (pe_ifExp (pt_val (pe_callF (ok_is_name T) hr rfl (pa_cons (pv 0) pa_nil))) (pv 0) pe_non))))), ?_⟩
  obtain ⟨x, v, rfl, hlen, hp, hQ⟩ := h
  refine ⟨_, rfl, x, 3, rfl, hlen, fun hn => ?_, fun hn G1 s1 => ?_⟩
  · rcases hp with ⟨_, h1, n, h2, rfl⟩ | ⟨h0, _⟩
    · refine ⟨h1, n, h2, fun G1 s1 => ?_⟩
      refine ⟨_, rfl, rfl, _, rfl, ?_⟩
      exact iY (by rw [decide_eq_false (fun z => nomatch z)]; rfl) ⟨_, rfl, hQ G1 s1⟩
    · rw [h0] at hn; cases hn
  · rcases hp with ⟨h0, _⟩ | ⟨_, h1, rfl⟩
    · rw [h0] at hn; cases hn
    · refine ⟨_, rfl, rfl, _, rfl, ?_⟩
      refine iN (by decide) ?_
      refine ⟨_, rfl, _, rfl, ⟨_, rfl⟩, (fun y e => by rw [← V.str.inj e]; exact hlen), fun G2 s2 => ⟨_, rfl, ?_⟩⟩
      exact iY h1 ⟨_, rfl, hQ G2 (s1.trans s2)⟩
end
end KP
/-! trees: Sum; booklines: sum_in of one word. -/
namespace KP
open PySem PySem.Spec PyProof.Rows L2 G137
abbrev cA (K : Frag) (x : Str) : Addr := He.ga K x
/-- all but a stands as before -/
def But (a : Addr) (H H' : Hp) : Prop := ∀ b o, b ≠ a → H b = some o → H' b = some o
def spSumI (C : Addr) : Sp := fun vs H Q _ => ∃ a dx l ys, vs = [.ref a, .ref l] ∧ H a = some (.ins C dx []) ∧ H l = some (.lst ys) ∧ ∀ H' t, But a H H' → H' a = some (.ins C dx [("parts", .ref t)]) → H' t = some (.tup ys) → Q .non H'
theorem scSumI : FnScope ["self", "parts"] ["self", "parts"] (defScope m_Sum_init) := ⟨rfl, rfl, rfl, by decide +kernel, rfl, by decide +kernel, by decide +kernel⟩
section
variable {P : Program} {w : World} {K : Frag} {mg : Str → Option Value} {base : Heap}
theorem ok_Sum (T : Pr K mg) : NOk P w K mg base 1 (cA K "Sum") "Sum" ["self", "parts"] (spSumI (cA K "Sum")) := by
  obtain ⟨fd, F⟩ := T.f_Sum_init
  have gT := T.fre "tuple" (by decide +kernel)
  have cS := T.cls "Sum" (by decide +kernel)
  refine NOk.of F (T.mkr "Sum" (by decide +kernel)) (T.glo _ (by decide +kernel)) scSumI (fun _ _ _ _ _ _ us hl => match us, hl with | [_, _], _ => rfl) (fun vs H Q E h => ?_) (fun cdv A outer s H vs Q E hr h => ?_)
  · obtain ⟨a, _, _, _, rfl, _⟩ := h; rfl
  refine ⟨_, pss_one (ps_fld (pv 0) (pe_callTy call_tuple_of (by rfl) gT (by decide +kernel) (pa_cons (pv 1) pa_nil)) rfl), ?_⟩
  obtain ⟨a, dx, l, ys, rfl, ha, hl, hQ⟩ := h
  refine ⟨_, rfl, l, ys, rfl, .inl ⟨SqL.of hl, fun t nt => ?_⟩⟩
  have hat : a ≠ t := ne_of_none ha nt
  refine ⟨_, rfl, a, cA K "Sum", dx, _, rfl, by rw [upd_ne hat]; exact ha, cS, T.fld "Sum" "parts" (by decide +kernel), by decide, ?_⟩
  refine hQ _ t (fun b o hb e => ?_) upd_same ?_
  · rw [upd_ne hb, upd_ne (ne_of_none e nt)]; exact e
  · rw [upd_ne (Ne.symm hat), upd_same]
end
end KP
/-! booklines: sum_in of one word. -/
namespace KP
open PySem PySem.Spec PyProof.Rows L2 G137
theorem made_same {H H' : Hp} {a dx C : Addr} {fs : List (Str × V)} (na : H a = none) (nd : H dx = none) (h : But a (upd (upd H dx (.own a)) a (.ins C dx fs)) H') : Same H H' := fun b o e =>
  h b o (ne_of_none e na) (by rw [upd_ne (ne_of_none e na), upd_ne (ne_of_none e nd)]; exact e)
/-- a sum of one part -/
def SumAt (K : Frag) (H : Hp) (a : Addr) (v : V) : Prop := ∃ dx t, H a = some (.ins (cA K "Sum") dx [("parts", .ref t)]) ∧ H t = some (.tup [v])
def spSum (K : Frag) : Sp := fun vs H Q _ => ∃ l x v, vs = [.ref l] ∧ H l = some (.lst [.str x]) ∧ x.length ≤ sizeLine ∧ PartOk x v ∧ ∀ H' a, Same H H' → SumAt K H' a v → Q (.ref a) H'
theorem scSum : FnScope ["words", "parts", "word"] ["words"] (defScope d_sum_in) := ⟨rfl, rfl, rfl, by decide +kernel, rfl, by decide +kernel, by decide +kernel⟩
section
variable {P : Program} {w : World} {K : Frag} {mg : Str → Option Value} {base : Heap}
theorem ok_sum_in (T : Pr K mg) : FOk P w K mg base 3 "sum_in" ["words"] (spSum K) := by
  obtain ⟨fd, F⟩ := T.f_sum_in
  have gL := T.fre "len" (by decide +kernel)
  have gT := T.int "TRIPLE_booklines" 3 (by decide +kernel)
  have gP := T.int "PAIR" 2 (by decide +kernel)
  have gPl := T.str "PLUS" "+" (by decide +kernel)
  refine FOk.of F (T.glo _ (by decide +kernel)) scSum (fun _ _ _ _ _ _ us hl => match us, hl with | [_], _ => rfl) (fun vs H Q E h => ?_) (fun cdv A outer s H vs Q E hr h => ?_)
  · obtain ⟨a, _, _, rfl, _⟩ := h; rfl
  have hu : (A.deeper (envOfC "sum_in" (defScope d_sum_in) s.heap.objs.size (He.ga K "sum_in") cdv)).units + 65 < cLine := by have := hr.un; omega
  have hu64 : (A.deeper (envOfC "sum_in" (defScope d_sum_in) s.heap.objs.size (He.ga K "sum_in") cdv)).units + 64 < cLine := by omega
  refine ⟨_, PSs.nox (pss_cons (ps_setLc (i := 1) (own := [("word", 2)]) (g := gName 2) (tt := tYes) (te := tCall spPart [] E0 (tCons (tVar 2) tNil)) rfl scSum.nd rfl rfl (sw_true rfl rfl rfl (by decide +kernel)) (pi_list (pe_step2 (pv 0)))
      (blkOk_by (own := [("word", 2)]) (N := ["words", "parts", "word"]) (sc := defScope d_sum_in) (by decide +kernel)) (fun _ _ _ _ _ => pg_name (i := 2) scSum.nd rfl (Or.inl rfl)) (fun _ _ _ _ _ => pts_nil)
      (fun _ _ _ _ _ => pe_callF (ok_part_in T) hr rfl (pa_cons (pv 2) pa_nil)))
    (pss_cons (ps_if (PW.pt (pw_or (pt_cmpR op_notIn_seq (pe_callB call_len_seq (by rfl) gL PySem.boot_len (pa_cons (pv 0) pa_nil)) (pe_tup (pa_cons pe_int (pa_cons (pe_gi (by rfl) gT) pa_nil))) (by rfl))
      (pw_or (pt_cmpR (op_notInDT hu) (pe_slice sl_list (pv 0) (po_some pe_int) (po_some (pe_gi (by rfl) gP))) (pe_tup (pa_cons (pe_lst pa_nil) (pa_cons (pe_lst (pa_cons (pe_gs (by rfl) gPl) pa_nil)) pa_nil))) (by rfl))
      (pw_or1 (pt_cmpR op_in_seq pe_non (pv 1) (by rfl)))))) (pss_one (ps_ret pe_non)) pss_nil)
    (pss_one (ps_ret (pe_makeF (ok_Sum T) hr rfl (pa_cons (pv 1) pa_nil)))))), ?_⟩
  obtain ⟨l, x, v, rfl, hl, hlen, hp, hQ⟩ := h
  refine ⟨_, rfl, l, .str x, rfl, SqL.of hl, fun p1 n1 => ?_⟩
  refine ⟨p1, rfl, ⟨_, SqL.of upd_same⟩, fun D nD => ?_⟩
  have s1 : Same H (upd H p1 (.lst [.str x])) := same_upd n1
  refine lc_list (xs := [.str x]) (AccP (fun i => [v].take i) D (upd H p1 (.lst [.str x]))) (acc_start rfl) (fun i G _ p => SqL.of (p.same nD _ _ upd_same)) (fun i y G hi p => ?_) (fun G p => ?_)
  · cases i with
    | succ i => simp at hi
    | zero =>
      obtain rfl : V.str x = y := Option.some.inj hi
      refine ⟨rfl, ?_⟩
      dsimp only [tYes]
      rw [if_pos rfl]
      exact ⟨_, rfl, x, v, rfl, hlen, hp, fun G2 s2 => acc_step p s2 (by show 0 < sizeLine; decide) rfl⟩
  · have hD : G D = some (.lst [v]) := p.1
    have sG : Same H G := s1.trans (p.same nD)
    have hv : flatV v = true ∧ eqV v .non = false ∧ v ≠ .non := by
      rcases hp with ⟨_, _, n, _, rfl⟩ | ⟨_, _, rfl⟩
      · exact ⟨rfl, rfl, fun z => nomatch z⟩
      · exact ⟨rfl, rfl, fun z => nomatch z⟩
    refine ⟨_, rfl, l, _, rfl, .inl (SqL.of (sG _ _ hl)), by show 2 ≤ sizeLine; decide, fun t1 m1 => ?_⟩
    refine ⟨t1, _, rfl, .inr (SqT.of upd_same), rfl, rfl, _, rfl, ?_⟩
    refine iN (show (!inV (V.int 1) [.int 1, .int 3]) = false from rfl) ?_
    have sG1 : Same G (upd G t1 (.tup [.int 1, .int 3])) := same_upd m1
    have g1 := sG.trans sG1
    refine ⟨_, rfl, _, rfl, _, rfl, l, _, rfl, SqL.of (g1 _ _ hl), fun p2 n2 => ?_⟩
    have ec : cutV [V.str x] (some 1) (some 2) = [] := by rfl
    rw [ec]
    have g2 := g1.trans (same_upd (o := .lst []) n2)
    refine ⟨Nat.zero_le _, fun p3 n3 => ⟨by show 1 ≤ sizeLine; decide, fun p4 n4 => ⟨by show 2 ≤ sizeLine; decide, fun t2 m2 => ?_⟩⟩⟩
    have q3 := same_upd (o := .lst []) n3
    have q4 := same_upd (o := .lst [.str "+"]) n4
    have q5 := same_upd (o := .tup [.ref p3, .ref p4]) m2
    have h2 := (q3.trans (q4.trans q5)) p2 _ upd_same
    have h3 := (q4.trans q5) p3 _ upd_same
    have h4 := q5 p4 _ upd_same
    have g5 := g2.trans (q3.trans (q4.trans q5))
    have gD := (sG1.trans ((same_upd (o := .lst []) n2).trans (q3.trans (q4.trans q5)))) _ _ hD
    refine ⟨.list [], [.list [], .list [.str "+"]], .lst (SqL.of h2) .nil, .tup (SqT.of upd_same) (.cons (.lst (SqL.of h3) .nil) (.cons (.lst (SqL.of h4) (.cons (.str _) .nil)) .nil)), by decide +kernel, by decide +kernel, _, rfl, ?_⟩
    refine iN (by decide +kernel) ?_
    refine ⟨_, rfl, D, _, rfl, .inl (SqL.of gD), rfl, ?_, _, rfl, ?_⟩
    · show (flatV v && true) = true
      rw [hv.1]; rfl
    refine iN (show (eqV v .non || false) = false by rw [hv.2.1]; rfl) ?_
    refine ⟨_, rfl, fun a dx na nd ne => ?_⟩
    refine ⟨a, dx, D, [v], rfl, upd_same, ?_, fun H' t hbut ha ht => ⟨rfl, hQ H' a (g5.trans (made_same na nd hbut)) ⟨dx, t, ha, ht⟩⟩⟩
    rw [upd_ne (ne_of_none gD na), upd_ne (ne_of_none gD nd)]
    exact gD
end
end KP
/-! trees: Program, Statement made. -/
namespace KP
open PySem PySem.Spec PyProof.Rows L2 G137
abbrev fsPr (x : Str) (n : Int) (st : Addr) : List (Str × V) := [("own_name", .str x), ("line", .int n), ("own_size", .int 1), ("own_is_blind", .bl false), ("when", .str ""), ("statements", .ref st)]
def spPrI (C : Addr) : Sp := fun vs H Q _ => ∃ a dx x n, vs = [.ref a, .str x, .int n] ∧ H a = some (.ins C dx []) ∧ ∀ H' st, But a H H' → H' a = some (.ins C dx (fsPr x n st)) → H' st = some (.lst []) → Q .non H'
theorem scPrI : FnScope ["self", "name", "line"] ["self", "name", "line"] (defScope m_Program_init) := ⟨rfl, rfl, rfl, by decide +kernel, rfl, by decide +kernel, by decide +kernel⟩
section
variable {P : Program} {w : World} {K : Frag} {mg : Str → Option Value} {base : Heap}
theorem ok_Program (T : Pr K mg) : NOk P w K mg base 1 (cA K "Program") "Program" ["self", "name", "line"] (spPrI (cA K "Program")) := by
  obtain ⟨fd, F⟩ := T.f_Program_init
  have cS := T.cls "Program" (by decide +kernel)
  have nA : ∀ f, (("Program" : Str), f) ∈ gFld → NoAttr K (cA K "Program") f := T.fld "Program"
  refine NOk.of F (T.mkr "Program" (by decide +kernel)) (T.glo _ (by decide +kernel)) scPrI (fun _ _ _ _ _ _ us hl => match us, hl with | [_, _, _], _ => rfl) (fun vs H Q E h => ?_) (fun cdv A outer s H vs Q E hr h => ?_)
  · obtain ⟨a, _, _, _, rfl, _⟩ := h; rfl
  refine ⟨_, pss_cons (ps_fld (pv 0) (pv 1) rfl) (pss_cons (ps_fld (pv 0) (pv 2) rfl) (pss_cons (ps_fld (pv 0) pe_int rfl) (pss_cons (ps_fld (pv 0) pe_bl rfl) (pss_cons (ps_fld (pv 0) pe_str rfl) (pss_one (ps_fld (pv 0) (pe_lst pa_nil) rfl)))))), ?_⟩
  obtain ⟨a, dx, x, n, rfl, ha, hQ⟩ := h
  refine ⟨_, rfl, _, rfl, a, _, dx, _, rfl, ha, cS, nA "own_name" (by decide +kernel), by decide, ?_⟩
  refine ⟨_, rfl, _, rfl, a, _, dx, _, rfl, upd_same, cS, nA "line" (by decide +kernel), (show (1 : Nat) < 1000 by decide), ?_⟩
  refine ⟨_, rfl, a, _, dx, _, rfl, upd_same, cS, nA "own_size" (by decide +kernel), (show (2 : Nat) < 1000 by decide), ?_⟩
  refine ⟨_, rfl, a, _, dx, _, rfl, upd_same, cS, nA "own_is_blind" (by decide +kernel), (show (3 : Nat) < 1000 by decide), ?_⟩
  refine ⟨_, rfl, a, _, dx, _, rfl, upd_same, cS, nA "when" (by decide +kernel), (show (4 : Nat) < 1000 by decide), ?_⟩
  refine ⟨Nat.zero_le _, fun st nst => ?_⟩
  have hat : a ≠ st := ne_of_none upd_same nst
  refine ⟨_, rfl, a, _, dx, [("own_name", .str x), ("line", .int n), ("own_size", .int 1), ("own_is_blind", .bl false), ("when", .str "")], rfl, by rw [upd_ne hat]; exact upd_same, cS, nA "statements" (by decide +kernel), (show (5 : Nat) < 1000 by decide), ?_⟩
  refine hQ _ st (fun b o hb e => ?_) upd_same ?_
  · rw [upd_ne hb, upd_ne, upd_ne hb, upd_ne hb, upd_ne hb, upd_ne hb, upd_ne hb]
    · exact e
    · intro z
      subst z
      rw [upd_ne hb, upd_ne hb, upd_ne hb, upd_ne hb, upd_ne hb] at nst
      rw [nst] at e; cases e
  · rw [upd_ne (Ne.symm hat), upd_same]
end
end KP
/-! booklines: Line; trees: Statement. -/
namespace KP
open PySem PySem.Spec PyProof.Rows L2 G137 SlX
/-- a line: how deep, its words -/
def LnOk (t : Str) (d : Nat) (ws : List Str) : Prop := t.length + 2 ≤ sizeLine ∧ ∃ bare : Str, Txt.lstripChars t " " = bare ∧ t.length = bare.length + 2 * d ∧ Txt.split bare " " = ws ∧ ("" : Str) ∉ ws
abbrev slL (n d : Int) (w : Addr) : List (Option V) := [some (.int d), some (.int n), some (.ref w)]
def LineAt (K : Frag) (H : Hp) (a : Addr) (n d : Int) (ws : List Str) : Prop := ∃ dx w, Slt H a (cA K "Line") dx (slL n d w) ∧ H w = some (.lst (ws.map V.str))
theorem Slt.same {H H' : Hp} {a C dx : Addr} {vs : List (Option V)} (s : Same H H') : Slt H a C dx vs → Slt H' a C dx vs
  | .inl ⟨h1, h2⟩ => .inl ⟨s _ _ h1, h2⟩
  | .inr ⟨h1, h2⟩ => .inr ⟨s _ _ h1, s _ _ h2⟩
theorem LineAt.same {K : Frag} {H H' : Hp} {a : Addr} {n d : Int} {ws : List Str} (s : Same H H') (h : LineAt K H a n d ws) : LineAt K H' a n d ws := by
  obtain ⟨dx, w, h1, h2⟩ := h
  exact ⟨dx, w, Slt.same s h1, s _ _ h2⟩
def But2 (a c : Addr) (H H' : Hp) : Prop := ∀ b o, b ≠ a → b ≠ c → H b = some o → H' b = some o
def spLineI (C : Addr) : Sp := fun vs H Q _ => ∃ a dx n t d ws, vs = [.ref a, .int n, .str t] ∧ H a = some (.ins C dx []) ∧ dx ≠ a ∧ H dx = some (.own a) ∧ LnOk t d ws ∧
  ∀ H' w, But2 a dx H H' → Slt H' a C dx (slL n (d : Nat) w) → H' w = some (.lst (ws.map V.str)) → Q .non H'
theorem scLineI : FnScope ["self", "number", "text", "bare", "blanks", "words"] ["self", "number", "text"] (defScope m_Line_init) := ⟨rfl, rfl, rfl, by decide +kernel, rfl, by decide +kernel, by decide +kernel⟩
section
variable {P : Program} {w : World} {K : Frag} {mg : Str → Option Value} {base : Heap}
theorem ok_Line (T : Pr K mg) : NOk P w K mg base 1 (cA K "Line") "Line" ["self", "number", "text"] (spLineI (cA K "Line")) := by
  obtain ⟨fd, F⟩ := T.f_Line_init
  have gL := T.fre "len" (by decide +kernel)
  have gB := T.str "BLANK" " " (by decide +kernel)
  have gD := T.int "DEEPER" 2 (by decide +kernel)
  obtain ⟨p0, S0⟩ := T.ss_Line_depth
  obtain ⟨p1, S1⟩ := T.ss_Line_number
  obtain ⟨p2, S2⟩ := T.ss_Line_words
  refine NOk.of F T.sm_Line (T.glo _ (by decide +kernel)) scLineI (fun _ _ _ _ _ _ us hl => match us, hl with | [_, _, _], _ => rfl) (fun vs H Q E h => ?_) (fun cdv A outer s H vs Q E hr h => ?_)
  · obtain ⟨a, _, _, _, _, _, rfl, _⟩ := h; rfl
  refine ⟨_, PSs.nox (pss_cons (ps_set (i := 3) scLineI.nd rfl (Or.inl rfl) (pe_m1 PySem.F.slot_str_lstrip PySem.F.type_str_lstrip mt_lstripChars (pv 2) (pe_gs (by rfl) gB)))
    (pss_cons (ps_par (i := 4) (j := 5) rfl scLineI.nd rfl rfl (by decide) rfl rfl (pa_cons (pe_op op_sub (pe_callB call_len_str (by rfl) gL PySem.boot_len (pa_cons (pv 2) pa_nil)) (pe_callB call_len_str (by rfl) gL PySem.boot_len (pa_cons (pv 3) pa_nil))) (pa_cons (pe_split (pv 3) (pe_gs (by rfl) gB)) pa_nil)) (by rfl))
    (pss_cons (ps_if (PW.pt (pw_or (pt_cmpR op_in_seq pe_str (pv 5) (by rfl)) (pw_or1 (pt_cmpR op_ne (pe_op op_mod (pv 4) (pe_gi (by rfl) gD)) pe_int (nomark _))))) L2.pss_never pss_nil)
    (pss_cons (ps_sl (pv 0) (pv 1)) (pss_cons (ps_sl (pv 0) (pe_op op_fdiv (pv 4) (pe_gi (by rfl) gD))) (pss_one (ps_sl (pv 0) (pv 5)))))))), ?_⟩
  obtain ⟨a, dx, n, t, d, ws, rfl, ha, hne, hdx, ⟨hl, bare, hb, hlen, hsp, hno⟩, hQ⟩ := h
  have hlb : bare.length + 2 ≤ sizeLine := by omega
  refine ⟨_, rfl, ⟨t, rfl⟩, t, " ", rfl, rfl, by omega, ?_⟩
  rw [hb]
  refine ⟨_, rfl, t, rfl, by omega, _, rfl, bare, rfl, by omega, _, _, rfl, rfl, ?_⟩
  refine ⟨_, rfl, ⟨bare, rfl⟩, bare, " ", rfl, rfl, rfl, hlb, fun p np => ?_⟩
  rw [hsp]
  refine ⟨_, _, rfl, ?_⟩
  refine ⟨_, rfl, p, _, rfl, .inl (SqL.of upd_same), rfl, flat_strs ws, _, rfl, ?_⟩
  refine iN (by rw [inV_str]; exact decide_eq_false hno) ?_
  have eb : ((t.length : Int) - (bare.length : Int)) = 2 * (d : Int) := by omega
  refine ⟨_, rfl, _, _, rfl, rfl, (by show (0 : Int) < 2; decide), rfl, _, rfl, ?_⟩
  refine iN (by rw [eb]; show (!decide (V.int (2 * (d : Int) % 2) = V.int 0)) = false; rw [Int.mul_emod_right]; rfl) ?_
  have hap : a ≠ p := ne_of_none ha np
  refine ⟨_, rfl, _, rfl, a, _, dx, p1, [], 1, rfl, .inl ⟨by rw [upd_ne hap]; exact ha, rfl⟩, T.sc_Line, S1, ?_⟩
  refine ⟨_, rfl, _, _, rfl, rfl, ⟨by decide, by decide⟩, ?_⟩
  refine ⟨_, rfl, a, _, dx, p0, _, 0, rfl, slH_slt hne, T.sc_Line, S0, ?_⟩
  rw [slH_twice hne]
  refine ⟨_, rfl, _, rfl, a, _, dx, p2, _, 2, rfl, slH_slt hne, T.sc_Line, S2, ?_⟩
  rw [slH_twice hne]
  have hdp : dx ≠ p := ne_of_none hdx np
  refine hQ _ p (fun b o h1 h2 e => ?_) ?_ ?_
  · rw [slH_ne h1 h2, upd_ne (ne_of_none e np)]; exact e
  · have e2 : (putS 2 (V.ref p) (putS 0 ((fun i j => V.int (i / j)) ((t.length : Int) - (bare.length : Int)) 2) (putS 1 (V.int n) []))) = slL n (d : Nat) p := by
      rw [eb]
      show ([some (V.int (2 * (d : Int) / 2)), some (V.int n), some (V.ref p)] : List (Option V)) = _
      rw [Int.mul_ediv_cancel_left _ (by decide)]
    rw [← e2]
    exact slH_slt hne
  · rw [slH_ne (Ne.symm hap) (Ne.symm hdp), upd_same]
/-! ### Statement -/
abbrev fsSt (x : Str) (n : Int) (key : Str) (tot : V) (tg : Str) (b o : Addr) : List (Str × V) := [("word", .str x), ("line", .int n), ("key", .str key), ("total", tot), ("test", .non), ("target", .str tg), ("block", .ref b), ("other", .ref o)]
theorem But.free {a b : Addr} {H H' : Hp} (h : But a H H') (n : H' b = none) (ne : b ≠ a) : H b = none := by
  cases z : H b with
  | none => rfl
  | some o => rw [h b o ne z] at n; cases n
def spStI (C : Addr) : Sp := fun vs H Q _ => ∃ a dx x n, vs = [.ref a, .str x, .int n] ∧ H a = some (.ins C dx []) ∧ ∀ H' b o, But a H H' → H' a = some (.ins C dx (fsSt x n "" .non "" b o)) → H' b = some (.lst []) → H' o = some (.lst []) → H b = none → H o = none → Q .non H'
theorem scStI : FnScope ["self", "word", "line"] ["self", "word", "line"] (defScope m_Statement_init) := ⟨rfl, rfl, rfl, by decide +kernel, rfl, by decide +kernel, by decide +kernel⟩
theorem ok_Statement (T : Pr K mg) : NOk P w K mg base 1 (cA K "Statement") "Statement" ["self", "word", "line"] (spStI (cA K "Statement")) := by
  obtain ⟨fd, F⟩ := T.f_Statement_init
  have cS := T.cls "Statement" (by decide +kernel)
  have nA : ∀ f, (("Statement" : Str), f) ∈ gFld → NoAttr K (cA K "Statement") f := T.fld "Statement"
  refine NOk.of F (T.mkr "Statement" (by decide +kernel)) (T.glo _ (by decide +kernel)) scStI (fun _ _ _ _ _ _ us hl => match us, hl with | [_, _, _], _ => rfl) (fun vs H Q E h => ?_) (fun cdv A outer s H vs Q E hr h => ?_)
  · obtain ⟨a, _, _, _, rfl, _⟩ := h; rfl
  refine ⟨_, pss_cons (ps_fld (pv 0) (pv 1) rfl) (pss_cons (ps_fld (pv 0) (pv 2) rfl) (pss_cons (ps_fld (pv 0) pe_str rfl) (pss_cons (ps_fld (pv 0) pe_non rfl) (pss_cons (ps_fld (pv 0) pe_non rfl) (pss_cons (ps_fld (pv 0) pe_str rfl)
    (pss_cons (ps_fld (pv 0) (pe_lst pa_nil) rfl) (pss_one (ps_fld (pv 0) (pe_lst pa_nil) rfl)))))))), ?_⟩
  obtain ⟨a, dx, x, n, rfl, ha, hQ⟩ := h
  refine ⟨_, rfl, _, rfl, a, _, dx, _, rfl, ha, cS, nA "word" (by decide +kernel), by decide, ?_⟩
  refine ⟨_, rfl, _, rfl, a, _, dx, _, rfl, upd_same, cS, nA "line" (by decide +kernel), (show (1 : Nat) < 1000 by decide), ?_⟩
  refine ⟨_, rfl, a, _, dx, _, rfl, upd_same, cS, nA "key" (by decide +kernel), (show (2 : Nat) < 1000 by decide), ?_⟩
  refine ⟨_, rfl, a, _, dx, _, rfl, upd_same, cS, nA "total" (by decide +kernel), (show (3 : Nat) < 1000 by decide), ?_⟩
  refine ⟨_, rfl, a, _, dx, _, rfl, upd_same, cS, nA "test" (by decide +kernel), (show (4 : Nat) < 1000 by decide), ?_⟩
  refine ⟨_, rfl, a, _, dx, _, rfl, upd_same, cS, nA "target" (by decide +kernel), (show (5 : Nat) < 1000 by decide), ?_⟩
  generalize hG : upd _ a _ = G
  have hGa : G a = some (.ins (cA K "Statement") dx [("word", .str x), ("line", .int n), ("key", .str ""), ("total", .non), ("test", .non), ("target", .str "")]) := by rw [← hG]; exact upd_same
  have hGb : But a H G := fun b o hb e => by rw [← hG, upd_ne hb, upd_ne hb, upd_ne hb, upd_ne hb, upd_ne hb, upd_ne hb]; exact e
  clear hG
  refine ⟨Nat.zero_le _, fun st nst => ?_⟩
  have hat : a ≠ st := ne_of_none hGa nst
  refine ⟨_, rfl, a, _, dx, _, rfl, (upd_ne hat).trans hGa, cS, nA "block" (by decide +kernel), (show (6 : Nat) < 1000 by decide), ?_⟩
  generalize hG2 : upd (upd G st _) a _ = G2
  have hGa2 : G2 a = some (.ins (cA K "Statement") dx [("word", .str x), ("line", .int n), ("key", .str ""), ("total", .non), ("test", .non), ("target", .str ""), ("block", .ref st)]) := by rw [← hG2]; exact upd_same
  have hGs2 : G2 st = some (.lst []) := by rw [← hG2, upd_ne (Ne.symm hat)]; exact upd_same
  have hGb2 : But a H G2 := fun b o hb e => by rw [← hG2, upd_ne hb, upd_ne (ne_of_none (hGb b o hb e) nst)]; exact hGb b o hb e
  clear hG2
  refine ⟨Nat.zero_le _, fun s2 ns2 => ?_⟩
  have hat2 : a ≠ s2 := ne_of_none hGa2 ns2
  refine ⟨_, rfl, a, _, dx, _, rfl, (upd_ne hat2).trans hGa2, cS, nA "other" (by decide +kernel), (show (7 : Nat) < 1000 by decide), ?_⟩
  refine hQ _ st s2 (fun b o hb e => ?_) upd_same ?_ ?_ (hGb.free nst (Ne.symm hat)) (hGb2.free ns2 (Ne.symm hat2))
  · rw [upd_ne hb, upd_ne (ne_of_none (hGb2 b o hb e) ns2)]; exact hGb2 b o hb e
  · rw [upd_ne (Ne.symm hat), upd_ne (ne_of_none hGs2 ns2)]; exact hGs2
  · rw [upd_ne (Ne.symm hat2)]; exact upd_same
end
end KP
/-! booklines: statement_in of flat statements. -/
namespace KP
open PySem PySem.Spec PyProof.Rows L2 G137 SlX
structure StD where
  word : Str
  key : Str
  target : Str
  tot : Option V
inductive StW : List Str → StD → Prop
  | key {w x y : Str} {v : V} : w = "set" ∨ w = "add" → nameS x = true → PartOk y v → y.length ≤ sizeLine → StW [w, x, y] ⟨w, x, "", some v⟩
  | tgt {w x y : Str} {v : V} : w = "ask" ∨ w = "try" → nameS x = true → PartOk y v → y.length ≤ sizeLine → StW [w, x, y] ⟨w, "", x, some v⟩
  | say {y : Str} {v : V} : PartOk y v → y.length ≤ sizeLine → StW ["say", y] ⟨"say", "", "", some v⟩
  | ref {x : Str} : nameS x = true → x ≠ "lacks" → x ≠ "long" → StW ["refuse", x] ⟨"refuse", "", x, none⟩
def TotAt (K : Frag) (H : Hp) (tv : V) : Option V → Prop
  | none => tv = .non
  | some v => ∃ t, tv = .ref t ∧ SumAt K H t v
theorem SumAt.same {K : Frag} {H H' : Hp} {a : Addr} {v : V} (s : Same H H') (h : SumAt K H a v) : SumAt K H' a v := by
  obtain ⟨dx, t, h1, h2⟩ := h
  exact ⟨dx, t, s _ _ h1, s _ _ h2⟩
theorem TotAt.same {K : Frag} {H H' : Hp} {tv : V} {o : Option V} (s : Same H H') (h : TotAt K H tv o) : TotAt K H' tv o := by
  cases o with
  | none => exact h
  | some v =>
    obtain ⟨t, h1, h2⟩ := h
    exact ⟨t, h1, h2.same s⟩
def StAtB (K : Frag) (H : Hp) (a : Addr) (n : Int) (s : StD) (b o : Addr) : Prop := ∃ dx tv, H a = some (.ins (cA K "Statement") dx (fsSt s.word n s.key tv s.target b o)) ∧ H b = some (.lst []) ∧ H o = some (.lst []) ∧ TotAt K H tv s.tot
theorem StAtB.same {K : Frag} {H H' : Hp} {a b o : Addr} {n : Int} {d : StD} (s : Same H H') (h : StAtB K H a n d b o) : StAtB K H' a n d b o := by
  obtain ⟨dx, tv, h1, h2, h3, h4⟩ := h
  exact ⟨dx, tv, s _ _ h1, s _ _ h2, s _ _ h3, h4.same s⟩
def StAt (K : Frag) (H : Hp) (a : Addr) (n : Int) (s : StD) : Prop := ∃ b o, StAtB K H a n s b o
theorem StAt.same {K : Frag} {H H' : Hp} {a : Addr} {n : Int} {d : StD} (s : Same H H') (h : StAt K H a n d) : StAt K H' a n d := by
  obtain ⟨b, o, h⟩ := h
  exact ⟨b, o, h.same s⟩
def spStIn (K : Frag) : Sp := fun vs H Q _ => ∃ a n d ws s, vs = [.ref a] ∧ LineAt K H a n d ws ∧ StW ws s ∧ ∀ H' p b o, Same H H' → H p = none → H b = none → H o = none → StAtB K H' p n s b o → Q (.ref p) H'
theorem scStIn : FnScope ["line", "word", "rest", "found"] ["line"] (defScope d_statement_in) := ⟨rfl, rfl, rfl, by decide +kernel, rfl, by decide +kernel, by decide +kernel⟩
section
variable {P : Program} {w : World} {K : Frag} {mg : Str → Option Value} {base : Heap}
theorem ok_statement_in (T : Pr K mg) : FOk P w K mg base 4 "statement_in" ["line"] (spStIn K) := by
  obtain ⟨fd, F⟩ := T.f_statement_in
  have gL := T.fre "len" (by decide +kernel)
  have gSet := T.str "SET" "set" (by decide +kernel)
  have gAdd := T.str "ADD" "add" (by decide +kernel)
  have gAsk := T.str "ASK" "ask" (by decide +kernel)
  have gTry := T.str "TRY" "try" (by decide +kernel)
  have gDrop := T.str "DROP" "drop" (by decide +kernel)
  have gEach := T.str "EACH" "each" (by decide +kernel)
  have gRef := T.str "REFUSE" "refuse" (by decide +kernel)
  have gLa := T.str "LACKS" "lacks" (by decide +kernel)
  have gLo := T.str "LONG" "long" (by decide +kernel)
  have gSay := T.str "SAY" "say" (by decide +kernel)
  have cS := T.cls "Statement" (by decide +kernel)
  have nA : ∀ f, (("Statement" : Str), f) ∈ gFld → NoAttr K (cA K "Statement") f := T.fld "Statement"
  obtain ⟨p1, S1⟩ := T.ss_Line_number
  obtain ⟨p2, S2⟩ := T.ss_Line_words
  refine FOk.of F (T.glo _ (by decide +kernel)) scStIn (fun _ _ _ _ _ _ us hl => match us, hl with | [_], _ => rfl) (fun vs H Q E h => ?_) (fun cdv A outer s H vs Q E hr h => ?_)
  · obtain ⟨a, _, _, _, _, rfl, _⟩ := h; rfl
  have hr2 := hr.mono (show 2 ≤ 3 by decide)
  have hr1 := hr.mono (show 1 ≤ 3 by decide)
  refine ⟨_, PSs.nox (pss_cons (ps_asg (pe_sl (pv 0)) (pg_hdr rfl (pg_name (i := 1) scStIn.nd rfl (Or.inl rfl)) (pg_name (i := 2) scStIn.nd rfl (Or.inl rfl))))
    (pss_cons (ps_set (i := 3) scStIn.nd rfl (Or.inl rfl) (pe_makeF (ok_Statement T) hr2 rfl (pa_cons (pv 1) (pa_cons (pe_sl (pv 0)) pa_nil))))
    (pss_cons (ps_if (pt_cmpR op_in_seq (pv 1) (pe_tup (pa_cons (pe_gs (by rfl) gSet) (pa_cons (pe_gs (by rfl) gAdd) (pa_cons (pe_gs (by rfl) gAsk) (pa_cons (pe_gs (by rfl) gTry) pa_nil))))) (by rfl))
      (pss_cons (ps_fld (pv 3) (pe_callF (ok_sum_in T) hr rfl (pa_cons (pe_slice sl_list (pv 2) (po_some pe_int) po_none) pa_nil)) rfl)
        (pss_cons (ps_if (PW.pt (pw_or (pt_cmpR op_isN (pe_fld (pv 3) rfl) pe_non (nomark _)) (pw_or1 (pt_not (pt_val (pe_callF (ok_is_name T) hr1 rfl (pa_cons (pe_ix ix_list (pv 2) pe_int (fun _ _ => rfl)) pa_nil))))))) (pss_one (ps_ret pe_non)) pss_nil)
        (pss_one (ps_if (pt_cmpR op_in_seq (pv 1) (pe_tup (pa_cons (pe_gs (by rfl) gSet) (pa_cons (pe_gs (by rfl) gAdd) pa_nil))) (by rfl))
          (pss_one (ps_fld (pv 3) (pe_ix ix_list (pv 2) pe_int (fun _ _ => rfl)) rfl)) (pss_one (ps_fld (pv 3) (pe_ix ix_list (pv 2) pe_int (fun _ _ => rfl)) rfl))))))
      (pss_one (ps_if (pt_cmpR op_in_seq (pv 1) (pe_tup (pa_cons (pe_gs (by rfl) gDrop) (pa_cons (pe_gs (by rfl) gEach) (pa_cons (pe_gs (by rfl) gRef) pa_nil)))) (by rfl))
        (pss_cons (ps_if (PW.pt (pw_or (pt_cmpR op_ne (pe_callB call_len_seq (by rfl) gL PySem.boot_len (pa_cons (pv 2) pa_nil)) pe_int (nomark _)) (pw_or (pt_not (pt_val (pe_callF (ok_is_name T) hr1 rfl (pa_cons (pe_ix ix_list (pv 2) pe_int (fun _ _ => rfl)) pa_nil))))
            (pw_or1 (PW.pt (pw_and (pt_cmpR op_eq (pv 1) (pe_gs (by rfl) gRef) (nomark _)) (pw_and1 (pt_cmpR op_in_seq (pe_ix ix_list (pv 2) pe_int (fun _ _ => rfl)) (pe_tup (pa_cons (pe_gs (by rfl) gLa) (pa_cons (pe_gs (by rfl) gLo) pa_nil))) (by rfl))))))))) (pss_one (ps_ret pe_non)) pss_nil)
          (pss_one (ps_if (pt_cmpR op_eq (pv 1) (pe_gs (by rfl) gDrop) (nomark _)) L2.pss_never (pss_one (ps_fld (pv 3) (pe_ix ix_list (pv 2) pe_int (fun _ _ => rfl)) rfl)))))
        (pss_one (ps_if (pt_cmpR op_eq (pv 1) (pe_gs (by rfl) gSay) (nomark _))
          (pss_cons (ps_fld (pv 3) (pe_callF (ok_sum_in T) hr rfl (pa_cons (pv 2) pa_nil)) rfl) (pss_one (ps_ret (pe_ifExp (pt_cmpR op_isN (pe_fld (pv 3) rfl) pe_non (nomark _)) pe_non (pv 3)))))
          L2.pss_never)))))
    (pss_one (ps_ret (pv 3)))))), ?_⟩
  obtain ⟨a, n, d, ws, sd, rfl, ⟨dx, w0, hs, hw⟩, hW, hQ⟩ := h
  obtain ⟨x, xs, rfl⟩ : ∃ x xs, ws = x :: xs := by cases hW <;> exact ⟨_, _, rfl⟩
  refine ⟨_, rfl, a, _, dx, p2, _, 2, _, rfl, hs, T.sc_Line, S2, rfl, w0, .str x, xs.map V.str, rfl, SqL.of hw, fun p np => ?_⟩
  have s1 : Same H (upd H p (.lst (xs.map V.str))) := same_upd np
  refine ⟨_, rfl, _, rfl, a, _, dx, p1, _, 1, _, rfl, Slt.same s1 hs, T.sc_Line, S1, rfl, fun fo dxs na nd ne => ?_⟩
  refine ⟨fo, dxs, x, n, rfl, upd_same, fun G b o hbut hfo hb ho nb no => ⟨rfl, ?_⟩⟩
  have s2 : Same (upd H p (.lst (xs.map V.str))) G := made_same na nd hbut
  have hp : G p = some (.lst (xs.map V.str)) := s2 _ _ upd_same
  have hfn : H fo = none := by
    cases z : H fo with
    | none => rfl
    | some o => rw [s1 _ _ z] at na; cases na
  have sG : Same H G := s1.trans s2
  have fre : ∀ c, upd (upd (upd H p (.lst (xs.map V.str))) dxs (.own fo)) fo (.ins (cA K "Statement") dxs []) c = none → H c = none := fun c hc => by
    cases z : H c with
    | none => rfl
    | some u =>
      have z1 := s1 _ _ z
      rw [upd_ne (ne_of_none z1 na), upd_ne (ne_of_none z1 nd), z1] at hc
      cases hc
  clear s2 hbut
  have mk : ∀ (H' : Hp) (key tg : Str) (tv : V) (tot : Option V), But fo G H' → H' fo = some (.ins (cA K "Statement") dxs (fsSt x n key tv tg b o)) → TotAt K H' tv tot → (⟨x, key, tg, tot⟩ : StD) = sd → Q (.ref fo) H' := fun H' key tg tv tot hB h1 h2 e => by
    subst e
    refine hQ H' fo b o (fun c u e => hB c u (ne_of_none e hfn) (sG c u e)) hfn (fre b nb) (fre o no) ⟨dxs, tv, h1, ?_, ?_, h2⟩
    · exact hB _ _ (ne_of hb hfo (by intro z; cases z)) hb
    · exact hB _ _ (ne_of ho hfo (by intro z; cases z)) ho
  refine ⟨_, rfl, by show 4 ≤ sizeLine; decide, fun t1 m1 => ?_⟩
  have u1 : Same G (upd G t1 (.tup [.str "set", .str "add", .str "ask", .str "try"])) := same_upd m1
  refine ⟨t1, _, rfl, .inr (SqT.of upd_same), rfl, rfl, _, rfl, ?_⟩
  generalize hG1 : upd G t1 (.tup [.str "set", .str "add", .str "ask", .str "try"]) = G1 at u1 ⊢
  clear hG1
  cases hW with
  | key hwd hx hpart hly =>
    rename_i x' y v
    refine iY (by rcases hwd with rfl | rfl <;> decide +kernel) ?_
    refine ⟨_, rfl, _, rfl, p, _, rfl, SqL.of (u1 _ _ hp), fun q nq => ?_⟩
    have ec : cutV ([x', y].map V.str) (some 1) none = [.str y] := by rfl
    rw [ec]
    have u2 := u1.trans (same_upd (o := .lst [.str y]) nq)
    refine ⟨q, y, v, rfl, upd_same, hly, hpart, fun G3 sa s30 hS => ?_⟩
    have s3 := u2.trans s30
    refine ⟨_, rfl, fo, _, dxs, _, rfl, s3 _ _ hfo, cS, nA "total" (by decide +kernel), (show (8 : Nat) < 1000 by decide), ?_⟩
    refine ⟨_, rfl, fo, _, dxs, _, _, rfl, upd_same, cS, nA "total" (by decide +kernel), rfl, rfl, _, rfl, ?_⟩
    refine iN (decide_eq_false fun z => nomatch z) ?_
    have hpf : p ≠ fo := ne_of hp hfo (by intro z; cases z)
    refine ⟨_, rfl, p, _, _, .str x', rfl, rfl, SqL.of ((upd_ne hpf).trans (s3 _ _ hp)), atI_nat (j := 0) rfl, .str x', rfl, ⟨_, rfl⟩, (fun z e => by rw [← V.str.inj e]; exact Nat.le_trans (nameS_len hx) (Nat.le_trans (by decide) sizeLine_big)), fun G4 s4 => ⟨_, rfl, ?_⟩⟩
    refine iN (by rw [show nameV (.str x') = nameS x' from rfl, hx]; rfl) ?_
    have hf4 : G4 fo = some (.ins (cA K "Statement") dxs (fsSt x n "" (.ref sa) "" b o)) := s4 _ _ upd_same
    have hp4 : G4 p = some (.lst ([x', y].map V.str)) := s4 _ _ ((upd_ne hpf).trans (s3 _ _ hp))
    have hB4 : But fo G G4 := fun c u hc e => s4 _ _ ((upd_ne hc).trans (s3 _ _ e))
    have hB34 : But fo G3 G4 := fun c u hc e => s4 _ _ ((upd_ne hc).trans e)
    refine ⟨_, rfl, by show 2 ≤ sizeLine; decide, fun t2 m2 => ?_⟩
    refine ⟨t2, _, rfl, .inr (SqT.of upd_same), rfl, rfl, _, rfl, ?_⟩
    refine iY (by rcases hwd with rfl | rfl <;> decide +kernel) ?_
    have s5 := same_upd (o := .tup [.str "set", .str "add"]) m2
    refine ⟨_, rfl, p, _, _, .str x', rfl, rfl, SqL.of (s5 _ _ hp4), atI_nat (j := 0) rfl, ?_⟩
    refine ⟨_, rfl, fo, _, dxs, _, rfl, s5 _ _ hf4, cS, nA "key" (by decide +kernel), (show (8 : Nat) < 1000 by decide), ?_⟩
    refine ⟨_, rfl, mk _ x' "" (.ref sa) (some v) (fun c u hc e => (upd_ne hc).trans (s5 _ _ (hB4 c u hc e))) upd_same ⟨sa, rfl, ?_⟩ rfl⟩
    obtain ⟨dy, tt, g1, g2⟩ := hS
    have e1 : sa ≠ fo := fun z => by
      rw [z, s3 _ _ hfo] at g1
      injection g1 with g1; injection g1 with _ _ g1; cases g1
    have e2 : tt ≠ fo := ne_of g2 (s3 _ _ hfo) (by intro z; cases z)
    exact ⟨dy, tt, (upd_ne e1).trans (s5 _ _ (hB34 _ _ e1 g1)), (upd_ne e2).trans (s5 _ _ (hB34 _ _ e2 g2))⟩
  | tgt hwd hx hpart hly =>
    rename_i x' y v
    refine iY (by rcases hwd with rfl | rfl <;> decide +kernel) ?_
    refine ⟨_, rfl, _, rfl, p, _, rfl, SqL.of (u1 _ _ hp), fun q nq => ?_⟩
    have ec : cutV ([x', y].map V.str) (some 1) none = [.str y] := by rfl
    rw [ec]
    have u2 := u1.trans (same_upd (o := .lst [.str y]) nq)
    refine ⟨q, y, v, rfl, upd_same, hly, hpart, fun G3 sa s30 hS => ?_⟩
    have s3 := u2.trans s30
    refine ⟨_, rfl, fo, _, dxs, _, rfl, s3 _ _ hfo, cS, nA "total" (by decide +kernel), (show (8 : Nat) < 1000 by decide), ?_⟩
    refine ⟨_, rfl, fo, _, dxs, _, _, rfl, upd_same, cS, nA "total" (by decide +kernel), rfl, rfl, _, rfl, ?_⟩
    refine iN (decide_eq_false fun z => nomatch z) ?_
    have hpf : p ≠ fo := ne_of hp hfo (by intro z; cases z)
    refine ⟨_, rfl, p, _, _, .str x', rfl, rfl, SqL.of ((upd_ne hpf).trans (s3 _ _ hp)), atI_nat (j := 0) rfl, .str x', rfl, ⟨_, rfl⟩, (fun z e => by rw [← V.str.inj e]; exact Nat.le_trans (nameS_len hx) (Nat.le_trans (by decide) sizeLine_big)), fun G4 s4 => ⟨_, rfl, ?_⟩⟩
    refine iN (by rw [show nameV (.str x') = nameS x' from rfl, hx]; rfl) ?_
    have hf4 : G4 fo = some (.ins (cA K "Statement") dxs (fsSt x n "" (.ref sa) "" b o)) := s4 _ _ upd_same
    have hp4 : G4 p = some (.lst ([x', y].map V.str)) := s4 _ _ ((upd_ne hpf).trans (s3 _ _ hp))
    have hB4 : But fo G G4 := fun c u hc e => s4 _ _ ((upd_ne hc).trans (s3 _ _ e))
    have hB34 : But fo G3 G4 := fun c u hc e => s4 _ _ ((upd_ne hc).trans e)
    refine ⟨_, rfl, by show 2 ≤ sizeLine; decide, fun t2 m2 => ?_⟩
    refine ⟨t2, _, rfl, .inr (SqT.of upd_same), rfl, rfl, _, rfl, ?_⟩
    refine iN (by rcases hwd with rfl | rfl <;> decide +kernel) ?_
    have s5 := same_upd (o := .tup [.str "set", .str "add"]) m2
    refine ⟨_, rfl, p, _, _, .str x', rfl, rfl, SqL.of (s5 _ _ hp4), atI_nat (j := 0) rfl, ?_⟩
    refine ⟨_, rfl, fo, _, dxs, _, rfl, s5 _ _ hf4, cS, nA "target" (by decide +kernel), (show (8 : Nat) < 1000 by decide), ?_⟩
    refine ⟨_, rfl, mk _ "" x' (.ref sa) (some v) (fun c u hc e => (upd_ne hc).trans (s5 _ _ (hB4 c u hc e))) upd_same ⟨sa, rfl, ?_⟩ rfl⟩
    obtain ⟨dy, tt, g1, g2⟩ := hS
    have e1 : sa ≠ fo := fun z => by
      rw [z, s3 _ _ hfo] at g1
      injection g1 with g1; injection g1 with _ _ g1; cases g1
    have e2 : tt ≠ fo := ne_of g2 (s3 _ _ hfo) (by intro z; cases z)
    exact ⟨dy, tt, (upd_ne e1).trans (s5 _ _ (hB34 _ _ e1 g1)), (upd_ne e2).trans (s5 _ _ (hB34 _ _ e2 g2))⟩
  | say hpart hly =>
    rename_i y v
    refine iN (by decide +kernel) ?_
    refine ⟨_, rfl, by show 3 ≤ sizeLine; decide, fun t2 m2 => ?_⟩
    refine ⟨t2, _, rfl, .inr (SqT.of upd_same), rfl, rfl, _, rfl, ?_⟩
    refine iN (by decide +kernel) ?_
    have u2 := u1.trans (same_upd (o := .tup [.str "drop", .str "each", .str "refuse"]) m2)
    refine ⟨_, rfl, rfl, _, rfl, ?_⟩
    refine iY (by decide +kernel) ?_
    refine ⟨_, rfl, p, y, v, rfl, u2 _ _ hp, hly, hpart, fun G3 sa s30 hS => ?_⟩
    have s3 := u2.trans s30
    refine ⟨_, rfl, fo, _, dxs, _, rfl, s3 _ _ hfo, cS, nA "total" (by decide +kernel), (show (8 : Nat) < 1000 by decide), ?_⟩
    refine ⟨_, rfl, fo, _, dxs, _, _, rfl, upd_same, cS, nA "total" (by decide +kernel), rfl, rfl, _, rfl, ?_⟩
    refine iN (decide_eq_false fun z => nomatch z) ?_
    refine ⟨_, rfl, mk _ "" "" (.ref sa) (some v) (fun c u hc e => (upd_ne hc).trans (s3 _ _ e)) upd_same ⟨sa, rfl, ?_⟩ rfl⟩
    obtain ⟨dy, tt, g1, g2⟩ := hS
    have e1 : sa ≠ fo := fun z => by
      rw [z, s3 _ _ hfo] at g1
      injection g1 with g1; injection g1 with _ _ g1; cases g1
    have e2 : tt ≠ fo := ne_of g2 (s3 _ _ hfo) (by intro z; cases z)
    exact ⟨dy, tt, (upd_ne e1).trans g1, (upd_ne e2).trans g2⟩
  | ref hx h1 h2 =>
    rename_i x'
    refine iN (by decide +kernel) ?_
    refine ⟨_, rfl, by show 3 ≤ sizeLine; decide, fun t2 m2 => ?_⟩
    refine ⟨t2, _, rfl, .inr (SqT.of upd_same), rfl, rfl, _, rfl, ?_⟩
    refine iY (by decide +kernel) ?_
    have u2 := u1.trans (same_upd (o := .tup [.str "drop", .str "each", .str "refuse"]) m2)
    refine ⟨_, rfl, p, _, rfl, .inl (SqL.of (u2 _ _ hp)), rfl, _, rfl, ?_⟩
    refine iN rfl ?_
    refine ⟨_, rfl, p, _, _, .str x', rfl, rfl, SqL.of (u2 _ _ hp), atI_nat (j := 0) rfl, .str x', rfl, ⟨_, rfl⟩, (fun z e => by rw [← V.str.inj e]; exact Nat.le_trans (nameS_len hx) (Nat.le_trans (by decide) sizeLine_big)), fun G4 s4 => ⟨_, rfl, ?_⟩⟩
    refine iN (by rw [show nameV (.str x') = nameS x' from rfl, hx]; rfl) ?_
    have u4 := u2.trans s4
    refine ⟨_, rfl, rfl, _, rfl, ?_⟩
    refine iY (by decide +kernel) ?_
    refine ⟨_, rfl, p, _, _, .str x', rfl, rfl, SqL.of (u4 _ _ hp), atI_nat (j := 0) rfl, by show 2 ≤ sizeLine; decide, fun t3 m3 => ?_⟩
    refine ⟨t3, _, rfl, .inr (SqT.of upd_same), rfl, rfl, _, rfl, ?_⟩
    have u5 := u4.trans (same_upd (o := .tup [.str "lacks", .str "long"]) m3)
    refine iN (show inV (.str x') ((["lacks", "long"] : List Str).map V.str) = false by rw [inV_str]; exact decide_eq_false (by simp [h1, h2])) ?_
    refine ⟨_, rfl, rfl, _, rfl, ?_⟩
    refine iN (by decide +kernel) ?_
    refine ⟨_, rfl, p, _, _, .str x', rfl, rfl, SqL.of (u5 _ _ hp), atI_nat (j := 0) rfl, ?_⟩
    refine ⟨_, rfl, fo, _, dxs, _, rfl, u5 _ _ hfo, cS, nA "target" (by decide +kernel), (show (8 : Nat) < 1000 by decide), ?_⟩
    exact ⟨_, rfl, mk _ "" x' .non none (fun c u hc e => (upd_ne hc).trans (u5 _ _ e)) upd_same rfl rfl⟩
end
end KP
/-! booklines: program_in. -/
namespace KP
open PySem PySem.Spec PyProof.Rows L2 G137 SlX
/-- a deed's line -/
structure DeedL where
  name : Str
  size : Nat
  blind : Bool
  whn : Option Str
def sizeD (n : Nat) : Str := if n = 1 then "1" else if n = 2 then "2" else "3"
def DeedL.rest (d : DeedL) : List Str := (if d.blind then ([("blind" : Str)] : List Str) else []) ++ (match d.whn with | none => [] | some k => [("when" : Str), k])
def DeedL.words (d : DeedL) : List Str := "deed" :: d.name :: sizeD d.size :: d.rest
def DeedL.wh (d : DeedL) : Str := d.whn.getD ""
structure DeedL.Ok (d : DeedL) : Prop where
  nm : nameS d.name = true
  sz : d.size = 1 ∨ d.size = 2 ∨ d.size = 3
  wn : ∀ k, d.whn = some k → nameS k = true
theorem nameS_lay {x : Str} (h : nameS x = true) : PyData.canLay0 (.str x) = true := by
  unfold nameS at h
  have h2 := (Bool.and_eq_true_iff.mp h).2
  unfold allIn at h2
  simp only [PyData.canLay0, PyData.strOk]
  rw [← Array.all_toList, List.all_eq_true]
  intro c hc
  have h3 := of_decide_eq_true (List.all_eq_true.mp h2 c hc)
  have h4 : ∀ c ∈ ("abcdefghijklmnopqrstuvwxyz" : Str).cps.toList, c < 0x110000 := by decide +kernel
  exact decide_eq_true (h4 c h3)
theorem sizeD_num {n : Nat} (h : n = 1 ∨ n = 2 ∨ n = 3) : numOk (sizeD n) 3 = true ∧ (sizeD n).length ≤ 640 ∧ PySem.intText? (sizeD n) = some (n : Int) := by
  rcases h with rfl | rfl | rfl <;> exact ⟨by decide +kernel, by decide +kernel, by decide +kernel⟩
abbrev fsP (x : Str) (n : Int) (sz : Int) (bl : Bool) (wh : Str) (st : Addr) : List (Str × V) := [("own_name", .str x), ("line", .int n), ("own_size", .int sz), ("own_is_blind", .bl bl), ("when", .str wh), ("statements", .ref st)]
/-- a program with its statements at st -/
def ProgAt (K : Frag) (H : Hp) (a : Addr) (n : Int) (d : DeedL) (st : Addr) : Prop := ∃ dx, H a = some (.ins (cA K "Program") dx (fsP d.name n (d.size : Int) d.blind d.wh st))
theorem ProgAt.same {K : Frag} {H H' : Hp} {a st : Addr} {n : Int} {d : DeedL} (s : Same H H') (h : ProgAt K H a n d st) : ProgAt K H' a n d st := by
  obtain ⟨dx, h1⟩ := h
  exact ⟨dx, s _ _ h1⟩
def spPrIn (K : Frag) : Sp := fun vs H Q _ => ∃ a n d ws e, vs = [.ref a] ∧ LineAt K H a n d ws ∧ ws = e.words ∧ DeedL.Ok e ∧ ∀ H' p st, Same H H' → H p = none → ProgAt K H' p n e st → H' st = some (.lst []) → Q (.ref p) H'
theorem scPrIn : FnScope ["line", "words", "size", "rest", "found"] ["line"] (defScope d_program_in) := ⟨rfl, rfl, rfl, by decide +kernel, rfl, by decide +kernel, by decide +kernel⟩
section
variable {P : Program} {w : World} {K : Frag} {mg : Str → Option Value} {base : Heap}
theorem ok_program_in (T : Pr K mg) : FOk P w K mg base 3 "program_in" ["line"] (spPrIn K) := by
  obtain ⟨fd, F⟩ := T.f_program_in
  have gL := T.fre "len" (by decide +kernel)
  have gT := T.int "TRIPLE_booklines" 3 (by decide +kernel)
  have gP := T.int "PAIR" 2 (by decide +kernel)
  have gF := T.int "MOST_FIGURES" 3 (by decide +kernel)
  have gDe := T.str "DEED" "deed" (by decide +kernel)
  have gBl := T.str "BLIND" "blind" (by decide +kernel)
  have gWh := T.str "WHEN" "when" (by decide +kernel)
  have cS := T.cls "Program" (by decide +kernel)
  have nA : ∀ f, (("Program" : Str), f) ∈ gFld → NoAttr K (cA K "Program") f := T.fld "Program"
  obtain ⟨p1, S1⟩ := T.ss_Line_number
  obtain ⟨p2, S2⟩ := T.ss_Line_words
  refine FOk.of F (T.glo _ (by decide +kernel)) scPrIn (fun _ _ _ _ _ _ us hl => match us, hl with | [_], _ => rfl) (fun vs H Q E h => ?_) (fun cdv A outer s H vs Q E hr h => ?_)
  · obtain ⟨a, _, _, _, _, rfl, _⟩ := h; rfl
  have hr1 := hr.mono (show 1 ≤ 2 by decide)
  have hu64 : (A.deeper (envOfC "program_in" (defScope d_program_in) s.heap.objs.size (He.ga K "program_in") cdv)).units + 64 < cLine := by have := hr.un; omega
  refine ⟨_, PSs.nox (pss_cons (ps_set (i := 1) scPrIn.nd rfl (Or.inl rfl) (pe_sl (pv 0)))
    (pss_cons (ps_if (PW.pt (pw_or (pt_cmpR op_lt (pe_callB call_len_seq (by rfl) gL PySem.boot_len (pa_cons (pv 1) pa_nil)) (pe_gi (by rfl) gT) (nomark _))
      (pw_or (pt_cmpR op_ne (pe_ix ix_list (pv 1) pe_int (fun _ _ => rfl)) (pe_gs (by rfl) gDe) (nomark _))
      (pw_or1 (pt_not (pt_val (pe_callF (ok_is_name T) hr1 rfl (pa_cons (pe_ix ix_list (pv 1) pe_int (fun _ _ => rfl)) pa_nil)))))))) (pss_one (ps_ret pe_non)) pss_nil)
    (pss_cons (ps_par (i := 2) (j := 3) rfl scPrIn.nd rfl rfl (by decide) rfl rfl (pa_cons (pe_callF (ok_number_in T) hr1 rfl (pa_cons (pe_ix ix_list (pv 1) (pe_gi (by rfl) gP) (fun _ _ => rfl)) (pa_cons (pe_gi (by rfl) gF) pa_nil))) (pa_cons (pe_slice sl_list (pv 1) (po_some (pe_gi (by rfl) gT)) po_none) pa_nil)) (by rfl))
    (pss_cons (ps_if (pt_not (pt_val (pe_callF (ok_is_between T) hr rfl (pa_cons (pv 2) (pa_cons pe_int (pa_cons pe_int pa_nil)))))) (pss_one (ps_ret pe_non)) pss_nil)
    (pss_cons (ps_set (i := 4) scPrIn.nd rfl (Or.inl rfl) (pe_makeF (ok_Program T) hr rfl (pa_cons (pe_ix ix_list (pv 1) pe_int (fun _ _ => rfl)) (pa_cons (pe_sl (pv 0)) pa_nil))))
    (pss_cons (ps_fld (pv 4) (pv 2) rfl)
    (pss_cons (ps_if (pt_cmpR (op_eqD hu64) (pe_slice sl_list (pv 3) po_none (po_some pe_int)) (pe_lst (pa_cons (pe_gs (by rfl) gBl) pa_nil)) (nomark _))
        (pss_cons (ps_fld (pv 4) pe_bl rfl) (pss_one (ps_set (i := 3) scPrIn.nd rfl (Or.inl rfl) (pe_slice sl_list (pv 3) (po_some pe_int) po_none)))) pss_nil)
    (pss_cons (ps_if (pt_cmpR (op_neD hu64) (pv 3) (pe_lst pa_nil) (nomark _))
        (pss_cons (ps_if (PW.pt (pw_or (pt_cmpR op_ne (pe_callB call_len_seq (by rfl) gL PySem.boot_len (pa_cons (pv 3) pa_nil)) (pe_gi (by rfl) gP) (nomark _))
            (pw_or (pt_cmpR op_ne (pe_ix ix_list (pv 3) pe_int (fun _ _ => rfl)) (pe_gs (by rfl) gWh) (nomark _))
            (pw_or1 (pt_not (pt_val (pe_callF (ok_is_name T) hr1 rfl (pa_cons (pe_ix ix_list (pv 3) pe_int (fun _ _ => rfl)) pa_nil)))))))) (pss_one (ps_ret pe_non)) pss_nil)
          (pss_one (ps_fld (pv 4) (pe_ix ix_list (pv 3) pe_int (fun _ _ => rfl)) rfl))) pss_nil)
    (pss_one (ps_ret (pv 4))))))))))), ?_⟩
  obtain ⟨a, n, d, ws, e, rfl, ⟨dx, w0, hs, hw⟩, rfl, ok, hQ⟩ := h
  have hw' : SqL K H w0 ((V.str "deed") :: V.str e.name :: V.str (sizeD e.size) :: e.rest.map V.str) := SqL.of hw
  have hnl : ∀ x : Str, nameS x = true → x.length ≤ sizeLine := fun x h => Nat.le_trans (nameS_len h) (Nat.le_trans (by decide) sizeLine_big)
  refine ⟨_, rfl, a, _, dx, p2, _, 2, _, rfl, hs, T.sc_Line, S2, rfl, ?_⟩
  refine ⟨_, rfl, w0, _, rfl, .inl hw', _, _, rfl, rfl, _, rfl, ?_⟩
  refine iN (decide_eq_false (by simp only [List.length_cons]; omega)) ?_
  refine ⟨_, rfl, w0, _, _, .str "deed", rfl, rfl, hw', atI_nat (j := 0) rfl, rfl, _, rfl, ?_⟩
  refine iN (by decide +kernel) ?_
  refine ⟨_, rfl, w0, _, _, .str e.name, rfl, rfl, hw', atI_nat (j := 1) rfl, _, rfl, ⟨_, rfl⟩, (fun y z => by rw [← V.str.inj z]; exact hnl _ ok.nm), fun G1 s1 => ⟨_, rfl, ?_⟩⟩
  refine iN (by rw [show nameV (.str e.name) = nameS e.name from rfl, ok.nm]; rfl) ?_
  have hw1 := s1.seq hw'
  obtain ⟨z1, z2, z3⟩ := sizeD_num ok.sz
  refine ⟨_, rfl, w0, _, _, .str (sizeD e.size), rfl, rfl, hw1, atI_nat (j := 2) rfl, sizeD e.size, 3, rfl, Nat.le_trans z2 (Nat.le_trans (by decide) sizeLine_big), fun _ => ⟨z2, _, z3, fun G2 s2 => ?_⟩, fun hn => by rw [z1] at hn; cases hn⟩
  have s12 := s1.trans s2
  have hw2 := s12.seq hw'
  refine ⟨_, rfl, _, rfl, w0, _, rfl, hw2, fun rs nrs => ?_⟩
  have ec : cutV ((V.str "deed") :: V.str e.name :: V.str (sizeD e.size) :: e.rest.map V.str) (some 3) none = e.rest.map V.str := by
    exact cutV_from _ 3
  rw [ec]
  refine ⟨_, _, rfl, ?_⟩
  have u3 : Same G2 (upd G2 rs (.lst (e.rest.map V.str))) := same_upd nrs
  generalize hG3 : upd G2 rs (.lst (e.rest.map V.str)) = G3 at u3 ⊢
  have hrs : G3 rs = some (.lst (e.rest.map V.str)) := by rw [← hG3]; exact upd_same
  clear hG3
  have s3 := s12.trans u3
  refine ⟨_, rfl, .int (e.size : Int), 1, 3, rfl, ⟨_, rfl⟩, _, rfl, ?_⟩
  refine iN (by rcases ok.sz with h | h | h <;> rw [h] <;> rfl) ?_
  refine ⟨_, rfl, w0, _, _, .str e.name, rfl, rfl, s3.seq hw', atI_nat (j := 1) rfl, _, rfl, a, _, dx, p1, _, 1, _, rfl, Slt.same s3 hs, T.sc_Line, S1, rfl, fun fo dxs na nd ne => ?_⟩
  refine ⟨fo, dxs, e.name, n, rfl, upd_same, fun G st hbut hfo hst => ⟨rfl, ?_⟩⟩
  have s4 : Same G3 G := made_same na nd hbut
  have hrG : G rs = some (.lst (e.rest.map V.str)) := s4 _ _ hrs
  have sG : Same H G := s3.trans s4
  have hfn : H fo = none := s3.free na
  refine ⟨_, rfl, _, rfl, fo, _, dxs, _, rfl, hfo, cS, nA "own_size" (by decide +kernel), (show (6 : Nat) < 1000 by decide), ?_⟩
  generalize hG5 : upd G fo _ = G5
  have h5 : G5 fo = some (.ins (cA K "Program") dxs (fsP e.name n (e.size : Int) false "" st)) := by rw [← hG5]; exact upd_same
  have b5 : But fo G G5 := fun c u hc q => by rw [← hG5, upd_ne hc]; exact q
  clear hG5
  have hrf : rs ≠ fo := ne_of hrG hfo (by intro z; cases z)
  have hsf : st ≠ fo := ne_of hst hfo (by intro z; cases z)
  have hr5 := b5 _ _ hrf hrG
  have fin : ∀ H', But fo G H' → H' fo = some (.ins (cA K "Program") dxs (fsP e.name n (e.size : Int) e.blind e.wh st)) → Q (.ref fo) H' := fun H' hB h1 =>
    hQ H' fo st (fun c u q => hB c u (ne_of_none q hfn) (sG c u q)) hfn ⟨dxs, h1⟩ (hB _ _ hsf hst)
  refine ⟨_, rfl, _, rfl, rs, _, rfl, SqL.of hr5, fun q1 nq1 => ⟨by show 1 ≤ sizeLine; decide, fun q2 nq2 => ?_⟩⟩
  have ec1 : cutV (e.rest.map V.str) none (some 1) = (e.rest.map V.str).take 1 := cutV_to _ 1
  rw [ec1] at nq2 ⊢
  have v1 := same_upd (o := .lst ((e.rest.map V.str).take 1)) nq1
  have v2 := same_upd (o := .lst [.str "blind"]) nq2
  have b7 : But fo G _ := fun c u hc q => v2 _ _ (v1 _ _ (b5 c u hc q))
  have h7 := v2 _ _ (v1 _ _ h5)
  have hr7 := v2 _ _ (v1 _ _ hr5)
  have hq1 := v2 q1 _ (upd_same (o := .lst ((e.rest.map V.str).take 1)))
  generalize hG7 : upd (upd G5 q1 _) q2 _ = G7 at *
  have hq2 : G7 q2 = some (.lst [.str "blind"]) := by rw [← hG7]; exact upd_same
  clear hG7
  have lst : ∀ (x : Str) (xs : List Str), e.rest = x :: xs → Dp K G7 (.ref q1) (.list [.str x]) := fun x xs z => by
    rw [z] at hq1
    exact .lst (SqL.of hq1) (.cons (.str _) .nil)
  have dq2 : Dp K G7 (.ref q2) (.list [.str "blind"]) := .lst (SqL.of hq2) (.cons (.str _) .nil)
  have hrest : e.rest = (if e.blind then ([("blind" : Str)] : List Str) else []) ++ (match e.whn with | none => [] | some k => [("when" : Str), k]) := rfl
  cases hb : e.blind with
  | false =>
    rw [hb] at hrest
    cases hwn : e.whn with
    | none =>
      rw [hwn] at hrest
      have hre : e.rest = [] := hrest
      rw [hre] at hq1 hr7
      refine ⟨.list [], _, .lst (SqL.of hq1) .nil, dq2, by decide +kernel, by decide +kernel, _, rfl, ?_⟩
      refine iN (by decide +kernel) ?_
      refine ⟨_, rfl, Nat.zero_le _, fun q3 nq3 => ?_⟩
      refine ⟨.list [], .list [], .lst (SqL.of (same_upd nq3 _ _ hr7)) .nil, .lst (SqL.of upd_same) .nil, by decide +kernel, by decide +kernel, _, rfl, ?_⟩
      refine iN (by decide +kernel) ?_
      refine ⟨_, rfl, fin _ (fun c u hc q => same_upd nq3 _ _ (b7 c u hc q)) ?_⟩
      rw [same_upd nq3 _ _ h7]
      simp only [DeedL.wh, hwn, hb, Option.getD]
    | some k =>
      rw [hwn] at hrest
      have hre : e.rest = [("when" : Str), k] := hrest
      rw [hre] at hr7
      refine ⟨_, _, lst _ _ hre, dq2, by decide +kernel, by decide +kernel, _, rfl, ?_⟩
      refine iN (by decide +kernel) ?_
      refine ⟨_, rfl, Nat.zero_le _, fun q3 nq3 => ?_⟩
      have y3 := same_upd (o := .lst []) nq3
      have hr9 := y3 _ _ hr7
      refine ⟨.list [.str "when", .str k], .list [], .lst (SqL.of hr9) (.cons (.str _) (.cons (.str _) .nil)), .lst (SqL.of upd_same) .nil, shaped_list (n := 0) (fun d hd => by
        rcases List.mem_cons.mp hd with rfl | hd
        · exact ⟨by decide +kernel, by decide⟩
        · rw [List.mem_singleton.mp hd]
          exact ⟨nameS_lay (ok.wn k hwn), by simp [PyData.depth]⟩) (by decide), by decide +kernel, _, rfl, ?_⟩
      refine iY rfl ?_
      refine ⟨_, rfl, rs, _, rfl, .inl (SqL.of hr9), rfl, _, rfl, ?_⟩
      refine iN (by rfl) ?_
      refine ⟨_, rfl, rs, _, _, .str "when", rfl, rfl, SqL.of hr9, atI_nat (j := 0) rfl, rfl, _, rfl, ?_⟩
      refine iN (by decide +kernel) ?_
      refine ⟨_, rfl, rs, _, _, .str k, rfl, rfl, SqL.of hr9, atI_nat (j := 1) rfl, _, rfl, ⟨_, rfl⟩, (fun y z => by rw [← V.str.inj z]; exact hnl _ (ok.wn k hwn)), fun G8 s8 => ⟨_, rfl, ?_⟩⟩
      refine iN (by rw [show nameV (.str k) = nameS k from rfl, ok.wn k hwn]; rfl) ?_
      refine ⟨_, rfl, rs, _, _, .str k, rfl, rfl, SqL.of (s8 _ _ hr9), atI_nat (j := 1) rfl, ?_⟩
      refine ⟨_, rfl, fo, _, dxs, _, rfl, s8 _ _ (y3 _ _ h7), cS, nA "when" (by decide +kernel), (show (6 : Nat) < 1000 by decide), ?_⟩
      refine ⟨_, rfl, fin _ (fun c u hc q => (upd_ne hc).trans (s8 _ _ (y3 _ _ (b7 c u hc q)))) ?_⟩
      rw [upd_same]
      simp only [DeedL.wh, hwn, hb, Option.getD]
      rfl
  | true =>
    rw [hb] at hrest
    have hre : e.rest = ("blind" : Str) :: (match e.whn with | none => [] | some k => [("when" : Str), k]) := hrest
    refine ⟨_, _, lst _ _ hre, dq2, by decide +kernel, by decide +kernel, _, rfl, ?_⟩
    refine iY (by decide +kernel) ?_
    refine ⟨_, rfl, fo, _, dxs, _, rfl, h7, cS, nA "own_is_blind" (by decide +kernel), (show (6 : Nat) < 1000 by decide), ?_⟩
    refine ⟨_, rfl, _, rfl, rs, _, rfl, SqL.of ((upd_ne hrf).trans hr7), fun r2 nr2 => ?_⟩
    have ecr : cutV (e.rest.map V.str) (some 1) none = (match e.whn with | none => [] | some k => [("when" : Str), k]).map V.str := by
      rw [hre]
      exact cutV_from _ 1
    rw [ecr]
    have f8 : upd G7 fo (.ins (cA K "Program") dxs (fsP e.name n (e.size : Int) true "" st)) fo = _ := upd_same
    have b8 : But fo G (upd G7 fo (.ins (cA K "Program") dxs (fsP e.name n (e.size : Int) true "" st))) := fun c u hc q => (upd_ne hc).trans (b7 c u hc q)
    change (upd G7 fo (.ins (cA K "Program") dxs (fsP e.name n (e.size : Int) true "" st))) r2 = none at nr2
    have y2 := same_upd (o := .lst ((match e.whn with | none => [] | some k => [("when" : Str), k]).map V.str)) nr2
    have hr8 : upd (upd G7 fo (.ins (cA K "Program") dxs (fsP e.name n (e.size : Int) true "" st))) r2 (.lst ((match e.whn with | none => [] | some k => [("when" : Str), k]).map V.str)) r2 = _ := upd_same
    have f9 := y2 _ _ f8
    have b9 : But fo G _ := fun c u hc q => y2 _ _ (b8 c u hc q)
    show (_ : Hp → Prop) (upd (upd G7 fo (.ins (cA K "Program") dxs (fsP e.name n (e.size : Int) true "" st))) r2 (.lst ((match e.whn with | none => [] | some k => [("when" : Str), k]).map V.str)))
    generalize upd (upd G7 fo (.ins (cA K "Program") dxs (fsP e.name n (e.size : Int) true "" st))) r2 (.lst ((match e.whn with | none => [] | some k => [("when" : Str), k]).map V.str)) = G9 at *
    cases hwn : e.whn with
    | none =>
      rw [hwn] at hr8
      refine ⟨_, rfl, Nat.zero_le _, fun q3 nq3 => ?_⟩
      refine ⟨.list [], .list [], .lst (SqL.of (same_upd nq3 _ _ hr8)) .nil, .lst (SqL.of upd_same) .nil, by decide +kernel, by decide +kernel, _, rfl, ?_⟩
      refine iN (by decide +kernel) ?_
      refine ⟨_, rfl, fin _ (fun c u hc q => same_upd nq3 _ _ (b9 c u hc q)) ?_⟩
      rw [same_upd nq3 _ _ f9]
      simp only [DeedL.wh, hwn, hb, Option.getD]
    | some k =>
      rw [hwn] at hr8
      have hr8' : G9 r2 = some (.lst [.str "when", .str k]) := hr8
      refine ⟨_, rfl, Nat.zero_le _, fun q3 nq3 => ?_⟩
      have y3 := same_upd (o := .lst []) nq3
      have hr9 := y3 _ _ hr8'
      refine ⟨.list [.str "when", .str k], .list [], .lst (SqL.of hr9) (.cons (.str _) (.cons (.str _) .nil)), .lst (SqL.of upd_same) .nil, shaped_list (n := 0) (fun d hd => by
        rcases List.mem_cons.mp hd with rfl | hd
        · exact ⟨by decide +kernel, by decide⟩
        · rw [List.mem_singleton.mp hd]
          exact ⟨nameS_lay (ok.wn k hwn), by simp [PyData.depth]⟩) (by decide), by decide +kernel, _, rfl, ?_⟩
      refine iY rfl ?_
      refine ⟨_, rfl, r2, _, rfl, .inl (SqL.of hr9), rfl, _, rfl, ?_⟩
      refine iN (by rfl) ?_
      refine ⟨_, rfl, r2, _, _, .str "when", rfl, rfl, SqL.of hr9, atI_nat (j := 0) rfl, rfl, _, rfl, ?_⟩
      refine iN (by decide +kernel) ?_
      refine ⟨_, rfl, r2, _, _, .str k, rfl, rfl, SqL.of hr9, atI_nat (j := 1) rfl, _, rfl, ⟨_, rfl⟩, (fun y z => by rw [← V.str.inj z]; exact hnl _ (ok.wn k hwn)), fun G8 s8 => ⟨_, rfl, ?_⟩⟩
      refine iN (by rw [show nameV (.str k) = nameS k from rfl, ok.wn k hwn]; rfl) ?_
      refine ⟨_, rfl, r2, _, _, .str k, rfl, rfl, SqL.of (s8 _ _ hr9), atI_nat (j := 1) rfl, ?_⟩
      refine ⟨_, rfl, fo, _, dxs, _, rfl, s8 _ _ (y3 _ _ f9), cS, nA "when" (by decide +kernel), (show (6 : Nat) < 1000 by decide), ?_⟩
      refine ⟨_, rfl, fin _ (fun c u hc q => (upd_ne hc).trans (s8 _ _ (y3 _ _ (b9 c u hc q)))) ?_⟩
      rw [upd_same]
      simp only [DeedL.wh, hwn, hb, Option.getD]
      rfl
end
end KP
/-! booklines: Reader: made, coming, is_deeper. -/
namespace KP
open PySem PySem.Spec PyProof.Rows L2 G137 SlX
abbrev fsR (l : Addr) (i m : Int) : List (Str × V) := [("own_lines", .ref l), ("own_at", .int i), ("own_many", .int m)]
/-- a reader of the lines ts behind the i-th, behind m statements -/
def RdAt (K : Frag) (H : Hp) (a : Addr) (ts : List Str) (i m : Int) : Prop := ∃ dx l, H a = some (.ins (cA K "Reader") dx (fsR l i m)) ∧ H l = some (.lst (ts.map V.str))
theorem RdAt.same {K : Frag} {H H' : Hp} {a : Addr} {ts : List Str} {i m : Int} (s : Same H H') (h : RdAt K H a ts i m) : RdAt K H' a ts i m := by
  obtain ⟨dx, l, h1, h2⟩ := h
  exact ⟨dx, l, s _ _ h1, s _ _ h2⟩
def spRdI (K : Frag) : Sp := fun vs H Q _ => ∃ a dx t, vs = [.ref a, .str t] ∧ H a = some (.ins (cA K "Reader") dx []) ∧ t.length + 2 ≤ sizeLine ∧ ∀ H', But a H H' → RdAt K H' a (Txt.split t "\n") 0 0 → Q .non H'
theorem scRdI : FnScope ["self", "text"] ["self", "text"] (defScope m_Reader_init) := ⟨rfl, rfl, rfl, by decide +kernel, rfl, by decide +kernel, by decide +kernel⟩
section
variable {P : Program} {w : World} {K : Frag} {mg : Str → Option Value} {base : Heap}
theorem ok_Reader (T : Pr K mg) : NOk P w K mg base 1 (cA K "Reader") "Reader" ["self", "text"] (spRdI K) := by
  obtain ⟨fd, F⟩ := T.f_Reader_init
  have gF := T.str "FEED" "\n" (by decide +kernel)
  have cS := T.cls "Reader" (by decide +kernel)
  have nA : ∀ f, (("Reader" : Str), f) ∈ gFld → NoAttr K (cA K "Reader") f := T.fld "Reader"
  refine NOk.of F (T.mkr "Reader" (by decide +kernel)) (T.glo _ (by decide +kernel)) scRdI (fun _ _ _ _ _ _ us hl => match us, hl with | [_, _], _ => rfl) (fun vs H Q E h => ?_) (fun cdv A outer s H vs Q E hr h => ?_)
  · obtain ⟨a, _, _, rfl, _⟩ := h; rfl
  refine ⟨_, pss_cons (ps_fld (pv 0) (pe_split (pv 1) (pe_gs (by rfl) gF)) rfl) (pss_cons (ps_fld (pv 0) pe_int rfl) (pss_one (ps_fld (pv 0) pe_int rfl))), ?_⟩
  obtain ⟨a, dx, t, rfl, ha, hl, hQ⟩ := h
  refine ⟨_, rfl, ⟨t, rfl⟩, t, "\n", rfl, rfl, rfl, hl, fun p np => ?_⟩
  have hap : a ≠ p := ne_of_none ha np
  refine ⟨_, rfl, a, _, dx, _, rfl, (upd_ne hap).trans ha, cS, nA "own_lines" (by decide +kernel), (show (0 : Nat) < 1000 by decide), ?_⟩
  refine ⟨_, rfl, a, _, dx, _, rfl, upd_same, cS, nA "own_at" (by decide +kernel), (show (1 : Nat) < 1000 by decide), ?_⟩
  refine ⟨_, rfl, a, _, dx, _, rfl, upd_same, cS, nA "own_many" (by decide +kernel), (show (2 : Nat) < 1000 by decide), ?_⟩
  refine hQ _ (fun b o hb e => ?_) ⟨dx, p, upd_same, ?_⟩
  · rw [upd_ne hb, upd_ne hb, upd_ne hb, upd_ne (ne_of_none e np)]; exact e
  · rw [upd_ne (Ne.symm hap), upd_ne (Ne.symm hap), upd_ne (Ne.symm hap), upd_same]
/-! ### coming -/
def spCom (K : Frag) : Sp := fun vs H Q _ => ∃ (a : Addr) (ts : List Str) (i : Nat) (m : Int), vs = [.ref a] ∧ RdAt K H a ts i m ∧ (i = ts.length → Q .non H) ∧ (i ≠ ts.length → ∃ t d ws, ts[i]? = some t ∧ LnOk t d ws ∧ ∀ H' p, Same H H' → H p = none → LineAt K H' p ((i : Int) + 1) (d : Nat) ws → Q (.ref p) H')
theorem scCom : FnScope ["self"] ["self"] (defScope m_Reader_coming) := ⟨rfl, rfl, rfl, by decide +kernel, rfl, by decide +kernel, by decide +kernel⟩
theorem ok_coming (T : Pr K mg) : MOk P w K mg base 3 (cA K "Reader") "coming" ["self"] (spCom K) := by
  obtain ⟨fd, F⟩ := T.f_Reader_coming
  have gL := T.fre "len" (by decide +kernel)
  have cS := T.cls "Reader" (by decide +kernel)
  have nA : ∀ f, (("Reader" : Str), f) ∈ gFld → NoAttr K (cA K "Reader") f := T.fld "Reader"
  refine MOk.of F cS (T.meth "Reader" "coming" (by decide +kernel)) scCom (fun _ _ _ _ _ _ us hl => match us, hl with | [_], _ => rfl) (fun vs H Q E h => ?_) (fun cdv A outer s H vs Q E hr h => ?_)
  · obtain ⟨a, _, _, _, rfl, _⟩ := h; rfl
  refine ⟨_, PSs.nox (pss_cons (ps_if (pt_cmpR op_eq (pe_fld (pv 0) rfl) (pe_callB call_len_seq (by rfl) gL PySem.boot_len (pa_cons (pe_fld (pv 0) rfl) pa_nil)) (nomark _)) (pss_one (ps_ret pe_non)) pss_nil)
    (pss_one (ps_ret (pe_makeF (ok_Line T) hr rfl (pa_cons (pe_op op_add (pe_fld (pv 0) rfl) pe_int) (pa_cons (pe_ix ix_list (pe_fld (pv 0) rfl) (pe_fld (pv 0) rfl) (fun _ _ => rfl)) pa_nil)))))), ?_⟩
  obtain ⟨a, ts, i, m, rfl, ⟨dx, l, ha, hl⟩, hE, hN⟩ := h
  refine ⟨_, rfl, a, _, dx, _, _, rfl, ha, cS, nA "own_at" (by decide +kernel), rfl, _, rfl, a, _, dx, _, _, rfl, ha, cS, nA "own_lines" (by decide +kernel), rfl, l, _, rfl, .inl (SqL.of hl), rfl, _, rfl, ?_⟩
  by_cases e : i = ts.length
  · exact iY (decide_eq_true (by rw [e, List.length_map])) (hE e)
  · refine iN (decide_eq_false fun z => e ?_) ?_
    · have := V.int.inj z
      rw [List.length_map] at this
      omega
    obtain ⟨t, d, ws, ht, hok, hQ⟩ := hN e
    refine ⟨_, rfl, a, _, dx, _, _, rfl, ha, cS, nA "own_at" (by decide +kernel), rfl, _, _, rfl, rfl, ?_⟩
    refine ⟨_, rfl, a, _, dx, _, _, rfl, ha, cS, nA "own_lines" (by decide +kernel), rfl, _, rfl, a, _, dx, _, _, rfl, ha, cS, nA "own_at" (by decide +kernel), rfl, l, _, _, .str t, rfl, rfl, SqL.of hl, atI_nat (j := i) (by rw [List.getElem?_map, ht]; rfl), ?_⟩
    intro p dp np nd ne
    refine ⟨p, dp, (i : Int) + 1, t, d, ws, rfl, upd_same, ne, (upd_ne ne).trans upd_same, hok, fun H' w hb hs hw => ⟨rfl, hQ H' p (fun b o q => ?_) np ⟨dp, w, hs, hw⟩⟩⟩
    have e1 := ne_of_none q np
    have e2 := ne_of_none q nd
    exact hb b o e1 e2 ((upd_ne e1).trans ((upd_ne e2).trans q))
/-! ### is_deeper: not -/
def spDp (K : Frag) : Sp := fun vs H Q _ => ∃ (a : Addr) (ts : List Str) (i : Nat) (m dep : Int), vs = [.ref a, .int dep] ∧ RdAt K H a ts i m ∧ (i ≠ ts.length → ∃ (t : Str) (d : Nat) (ws : List Str), ts[i]? = some t ∧ LnOk t d ws ∧ (d : Int) ≤ dep) ∧ ∀ H', Same H H' → Q (.bl false) H'
theorem scDp : FnScope ["self", "depth", "line"] ["self", "depth"] (defScope m_Reader_is_deeper) := ⟨rfl, rfl, rfl, by decide +kernel, rfl, by decide +kernel, by decide +kernel⟩
theorem ok_is_deeper (T : Pr K mg) : MOk P w K mg base 4 (cA K "Reader") "is_deeper" ["self", "depth"] (spDp K) := by
  obtain ⟨fd, F⟩ := T.f_Reader_is_deeper
  have cS := T.cls "Reader" (by decide +kernel)
  obtain ⟨p0, S0⟩ := T.ss_Line_depth
  refine MOk.of F cS (T.meth "Reader" "is_deeper" (by decide +kernel)) scDp (fun _ _ _ _ _ _ us hl => match us, hl with | [_, _], _ => rfl) (fun vs H Q E h => ?_) (fun cdv A outer s H vs Q E hr h => ?_)
  · obtain ⟨a, _, _, _, _, rfl, _⟩ := h; rfl
  refine ⟨_, PSs.nox (pss_cons (ps_set (i := 2) scDp.nd rfl (Or.inl rfl) (pe_methF0 (pv 0) (ok_coming T) hr))
    (pss_one (ps_ret (pe_and (pe_cmpR op_notN (pv 2) pe_non (nomark _)) (pe_one (pe_cmpR op_gt (pe_sl (pv 2)) (pv 1) (nomark _))))))), ?_⟩
  obtain ⟨a, ts, i, m, dep, rfl, hR, hN, hQ⟩ := h
  obtain ⟨dx, l, ha, hl⟩ := id hR
  refine ⟨_, rfl, a, dx, _, rfl, ha, rfl, a, ts, i, m, rfl, hR, fun e => ?_, fun e => ?_⟩
  · exact ⟨_, rfl, rfl, _, rfl, iN rfl (hQ H (Same.refl H))⟩
  · obtain ⟨t, d, ws, h1, h2, h3⟩ := hN e
    refine ⟨t, d, ws, h1, h2, fun H' p s1 np hL => ?_⟩
    obtain ⟨dl, wl, hs, hw⟩ := hL
    refine ⟨_, rfl, rfl, _, rfl, iY (by rfl) ?_⟩
    refine ⟨_, rfl, p, _, dl, p0, _, 0, _, rfl, hs, T.sc_Line, S0, rfl, _, rfl, _, _, rfl, rfl, ?_⟩
    show Q (.bl (decide (dep < (d : Int)))) H'
    rw [decide_eq_false (show ¬ dep < (d : Int) by omega)]
    exact hQ H' s1
end
end KP
/-! booklines: Reader.statement, block_read of flat statements. -/
namespace KP
open PySem PySem.Spec PyProof.Rows L2 G137 SlX
/-- a statement is no reader -/
theorem st_ne_rd {K : Frag} {H : Hp} {p a : Addr} {n i m : Int} {sd : StD} {b o : Addr} {ts : List Str} (h : StAtB K H p n sd b o) (r : RdAt K H a ts i m) : p ≠ a := fun z => by
  obtain ⟨dx, tv, h1, _⟩ := h
  obtain ⟨dy, l, g1, _⟩ := r
  rw [z, g1] at h1
  injection h1 with h1; injection h1 with _ _ h1; cases h1
theorem StAtB.but {K : Frag} {H H' : Hp} {a p : Addr} {n i m : Int} {d : StD} {b o : Addr} {ts : List Str} (s : But a H H') (r : RdAt K H a ts i m) (h : StAtB K H p n d b o) : StAtB K H' p n d b o := by
  have hpa := st_ne_rd h r
  obtain ⟨dx, tv, h1, h2, h3, h4⟩ := h
  obtain ⟨dy, l, g1, _⟩ := r
  refine ⟨dx, tv, s _ _ hpa h1, s _ _ (ne_of h2 g1 (by intro z; cases z)) h2, s _ _ (ne_of h3 g1 (by intro z; cases z)) h3, ?_⟩
  cases e : d.tot with
  | none => rw [e] at h4; exact h4
  | some v =>
    rw [e] at h4
    obtain ⟨t, ht, dz, q, h5, h6⟩ := h4
    refine ⟨t, ht, dz, q, s _ _ (fun z => ?_) h5, s _ _ (ne_of h6 g1 (by intro z; cases z)) h6⟩
    rw [z, g1] at h5
    injection h5 with h5; injection h5 with _ _ h5; cases h5
theorem LineAt.but {K : Frag} {H H' : Hp} {a c : Addr} {n d : Int} {ws : List Str} {o : HO} (s : But c H H') (h : LineAt K H a n d ws) (hc : H c = some o) (ho : (∃ C dx fs, fs ≠ [] ∧ o = .ins C dx fs) ∨ ∃ xs, o = .lst xs ∧ xs ≠ ws.map V.str) : LineAt K H' a n d ws := by
  obtain ⟨dx, w, h1, h2⟩ := h
  refine ⟨dx, w, ?_, s _ _ (fun z => ?_) h2⟩
  · rcases h1 with ⟨g1, g2⟩ | ⟨g1, g2⟩
    · cases g2
    · refine .inr ⟨s _ _ (fun z => ?_) g1, s _ _ (fun z => ?_) g2⟩
      · rw [z, hc] at g1
        injection g1 with g1
        rcases ho with ⟨_, _, _, _, e⟩ | ⟨_, e, _⟩ <;> (rw [e] at g1; unfold SlX.SlO at g1; cases g1)
      · rw [z, hc] at g2
        injection g2 with g2
        rcases ho with ⟨_, _, _, _, e⟩ | ⟨_, e, _⟩ <;> (rw [e] at g2; cases g2)
  · rw [z, hc] at h2
    injection h2 with h2
    rcases ho with ⟨_, _, _, _, e⟩ | ⟨_, e, q⟩
    · rw [e] at h2; cases h2
    · rw [e] at h2
      injection h2 with h2
      exact q h2
theorem StW.word {ws : List Str} {sd : StD} (h : StW ws sd) : sd.word ≠ "if" ∧ sd.word ≠ "each" := by
  have h1 : ∀ x ∈ (["set", "add", "ask", "try", "say", "refuse"] : List Str), x ≠ "if" ∧ x ≠ "each" := by decide +kernel
  cases h with
  | key hw _ _ _ => rcases hw with rfl | rfl; exact h1 "set" (by decide +kernel); exact h1 "add" (by decide +kernel)
  | tgt hw _ _ _ => rcases hw with rfl | rfl; exact h1 "ask" (by decide +kernel); exact h1 "try" (by decide +kernel)
  | say _ _ => exact h1 "say" (by decide +kernel)
  | ref _ _ _ => exact h1 "refuse" (by decide +kernel)
/-- the next line, if there is one, stands not deeper -/
def NotDp (ts : List Str) (i : Nat) (dep : Int) : Prop := i ≠ ts.length → ∃ (t : Str) (d : Nat) (ws : List Str), ts[i]? = some t ∧ LnOk t d ws ∧ (d : Int) ≤ dep
def spStm (K : Frag) : Sp := fun vs H Q _ => ∃ (a ln : Addr) (ts : List Str) (i m : Nat) (n d : Int) (ws : List Str) (sd : StD), vs = [.ref a, .ref ln] ∧ RdAt K H a ts i m ∧ LineAt K H ln n d ws ∧ StW ws sd ∧ m < 24 ∧ d < 3 ∧ NotDp ts (i + 1) d ∧
  ∀ H' p b o, But a H H' → RdAt K H' a ts ((i + 1 : Nat) : Int) ((m + 1 : Nat) : Int) → H p = none → H b = none → H o = none → StAtB K H' p n sd b o → Q (.ref p) H'
section
variable {P : Program} {w : World} {K : Frag} {mg : Str → Option Value} {base : Heap}
theorem sc_statement : FnScope ["self", "line", "found"] ["self", "line"] (defScope m_Reader_statement) := ⟨rfl, rfl, rfl, by decide +kernel, rfl, by decide +kernel, by decide +kernel⟩
theorem ok_statement (T : Pr K mg) : MOk P w K mg base 5 (cA K "Reader") "statement" ["self", "line"] (spStm K) := by
  obtain ⟨fd, F⟩ := T.f_Reader_statement
  have gMostStatementsBooklines := T.int "MOST_STATEMENTS_booklines" (24) (by decide +kernel)
  have gMostDeep := T.int "MOST_DEEP" (3) (by decide +kernel)
  have gTry := T.str "TRY" "try" (by decide +kernel)
  have gIf := T.str "IF" "if" (by decide +kernel)
  have gEach := T.str "EACH" "each" (by decide +kernel)
  refine MOk.of F (T.cls "Reader" (by decide +kernel)) (T.meth "Reader" "statement" (by decide +kernel)) sc_statement (fun _ _ _ _ _ _ us hl => match us, hl with | [_, _], _ => rfl) (fun vs H Q E h => ?_) (fun cdv A outer s H vs Q E hr h => ?_)
  · obtain ⟨_, _, _, _, _, _, _, _, _, rfl, _⟩ := h; rfl
  refine ⟨_, PSs.nox (pss_cons (ps_set (i := 2) sc_statement.nd rfl (Or.inl rfl) (pe_callF (ok_statement_in T) (hr.mono (by decide)) rfl (pa_cons (pv 1) pa_nil)))
    (pss_cons (ps_fldaug (pv 0) pe_int in_add)
    (pss_cons (ps_fldaug (pv 0) pe_int in_add)
    (pss_cons (ps_if (PW.pt (pw_or (pt_cmpR op_isN (pv 2) pe_non (nomark _)) (pw_or1 (pt_cmpR op_gt (pe_fld (pv 0) rfl) (pe_gi (by rfl) gMostStatementsBooklines) (nomark _)))))
      L2.pss_never
      pss_nil)
    (pss_cons (ps_if (PW.pt (pw_and (pt_cmpR op_in_seq (pe_fld (pv 2) rfl) (pe_tup (pa_cons (pe_gs (by rfl) gIf) (pa_cons (pe_gs (by rfl) gEach) pa_nil))) (by rfl)) (pw_and1 G137.pt_never)))
      L2.pss_never
      pss_nil)
    (pss_cons (ps_if (PW.pt (pw_or (pt_cmpR op_in_seq (pe_fld (pv 2) rfl) (pe_tup (pa_cons (pe_gs (by rfl) gIf) (pa_cons (pe_gs (by rfl) gEach) pa_nil))) (by rfl)) (pw_or1 (PW.pt (pw_and (pt_cmpR op_eq (pe_fld (pv 2) rfl) (pe_gs (by rfl) gTry) (nomark _)) (pw_and (pt_cmpR op_lt (pe_sl (pv 1)) (pe_gi (by rfl) gMostDeep) (nomark _)) (pw_and1 (pt_val (pe_methF (pv 0) (ok_is_deeper T) (hr.mono (by decide)) (pa_cons (pe_sl (pv 1)) pa_nil))))))))))
      (pss_one G137.ps_never)
      pss_nil)
    (pss_cons (ps_if (pt_cmpR op_eq (pe_fld (pv 2) rfl) (pe_gs (by rfl) gIf) (nomark _))
      (pss_one G137.ps_never)
      pss_nil)
    (pss_one (ps_ret (pv 2)))))))))), ?_⟩
  have cR := T.cls "Reader" (by decide +kernel)
  have nR : ∀ f, (("Reader" : Str), f) ∈ gFld → NoAttr K (cA K "Reader") f := T.fld "Reader"
  have cS := T.cls "Statement" (by decide +kernel)
  have nA : ∀ f, (("Statement" : Str), f) ∈ gFld → NoAttr K (cA K "Statement") f := T.fld "Statement"
  obtain ⟨p0, S0⟩ := T.ss_Line_depth
  obtain ⟨a, ln, ts, i, m, n, d, ws, sd, rfl, hR, hL, hW, hm, hd, hND, hQ⟩ := h
  obtain ⟨w1, w2⟩ := hW.word
  obtain ⟨dl, wl, hls, hlw⟩ := id hL
  refine ⟨_, rfl, ln, n, d, ws, sd, rfl, hL, hW, fun G p b o s1 np nb no hS => ?_⟩
  obtain ⟨dx, l, ha, hl⟩ := id hR
  refine ⟨_, rfl, a, _, dx, _, _, rfl, s1 _ _ ha, cR, nR "own_at" (by decide +kernel), rfl, _, _, rfl, rfl, dx, _, s1 _ _ ha, (show (3 : Nat) < 1000 by decide), ?_⟩
  refine ⟨_, rfl, a, _, dx, _, _, rfl, upd_same, cR, nR "own_many" (by decide +kernel), rfl, _, _, rfl, rfl, dx, _, upd_same, (show (3 : Nat) < 1000 by decide), ?_⟩
  generalize hG2 : upd (upd G a _) a _ = G2
  have ha2 : G2 a = some (.ins (cA K "Reader") dx (fsR l ((i + 1 : Nat) : Int) ((m + 1 : Nat) : Int))) := by rw [← hG2]; exact upd_same
  have b2 : But a G G2 := fun c u hc q => by rw [← hG2, upd_ne hc, upd_ne hc]; exact q
  clear hG2
  have hla : l ≠ a := ne_of hl ha (by intro z; cases z)
  have hR2 : RdAt K G2 a ts ((i + 1 : Nat) : Int) ((m + 1 : Nat) : Int) := ⟨dx, l, ha2, b2 _ _ hla (s1 _ _ hl)⟩
  have hS2 := hS.but b2 (hR.same s1)
  have fin : ∀ H', Same G2 H' → Q (.ref p) H' := fun H' s3 => hQ H' p b o (fun c u hc q => s3 _ _ (b2 c u hc (s1 _ _ q))) (hR2.same s3) np nb no (hS2.same s3)
  obtain ⟨dz, tv, hp2, _⟩ := id hS2
  refine ⟨_, rfl, rfl, _, rfl, ?_⟩
  refine iN (decide_eq_false fun z => nomatch z) ?_
  refine ⟨_, rfl, a, _, dx, _, _, rfl, ha2, cR, nR "own_many" (by decide +kernel), rfl, _, _, rfl, rfl, _, rfl, ?_⟩
  refine iN (decide_eq_false (by omega)) ?_
  have einv : inV (.str sd.word) [.str "if", .str "each"] = false := by
    have := inV_str sd.word ["if", "each"]
    rw [show (["if", "each"] : List Str).map V.str = [.str "if", .str "each"] from rfl] at this
    rw [this]
    exact decide_eq_false (by simp [w1, w2])
  refine ⟨_, rfl, p, _, dz, _, _, rfl, hp2, cS, nA "word" (by decide +kernel), rfl, by show 2 ≤ sizeLine; decide, fun t1 m1 => ?_⟩
  have u1 : Same G2 (upd G2 t1 (.tup [.str "if", .str "each"])) := same_upd m1
  refine ⟨t1, _, rfl, .inr (SqT.of upd_same), rfl, rfl, _, rfl, ?_⟩
  refine iN einv ?_
  refine iN rfl ?_
  refine ⟨_, rfl, p, _, dz, _, _, rfl, u1 _ _ hp2, cS, nA "word" (by decide +kernel), rfl, by show 2 ≤ sizeLine; decide, fun t2 m2 => ?_⟩
  have u2 := u1.trans (same_upd (o := .tup [.str "if", .str "each"]) m2)
  refine ⟨t2, _, rfl, .inr (SqT.of upd_same), rfl, rfl, _, rfl, ?_⟩
  refine iN einv ?_
  generalize hG4 : upd (upd G2 t1 _) t2 _ = G4 at u2 ⊢
  clear hG4
  have nif : decide (V.str sd.word = V.str "if") = false := decide_eq_false fun z => w1 (V.str.inj z)
  refine ⟨_, rfl, p, _, dz, _, _, rfl, u2 _ _ hp2, cS, nA "word" (by decide +kernel), rfl, rfl, _, rfl, ?_⟩
  by_cases ht : sd.word = "try"
  · refine iY (decide_eq_true (by rw [ht])) ?_
    obtain ⟨dl4, wl4, hls4, hlw4⟩ := ((hL.same s1).but b2 (s1 _ _ ha) (.inl ⟨_, _, fsR l (i : Int) (m : Int), List.cons_ne_nil _ _, rfl⟩)).same u2
    refine ⟨_, rfl, ln, _, dl4, p0, _, 0, _, rfl, hls4, T.sc_Line, S0, rfl, _, _, rfl, rfl, _, rfl, ?_⟩
    refine iY (decide_eq_true hd) ?_
    refine ⟨_, rfl, a, dx, _, rfl, u2 _ _ ha2, rfl, _, rfl, ln, _, dl4, p0, _, 0, _, rfl, hls4, T.sc_Line, S0, rfl, a, ts, i + 1, _, d, rfl, hR2.same u2, hND, fun G5 s5 => ⟨_, rfl, ?_⟩⟩
    refine iN rfl ?_
    have u5 := u2.trans s5
    refine ⟨_, rfl, p, _, dz, _, _, rfl, u5 _ _ hp2, cS, nA "word" (by decide +kernel), rfl, rfl, _, rfl, ?_⟩
    exact iN nif ⟨_, rfl, fin _ u5⟩
  · refine iN (decide_eq_false fun z => ht (V.str.inj z)) ?_
    refine iN rfl ?_
    refine ⟨_, rfl, p, _, dz, _, _, rfl, u2 _ _ hp2, cS, nA "word" (by decide +kernel), rfl, rfl, _, rfl, ?_⟩
    exact iN nif ⟨_, rfl, fin _ u2⟩
end
end KP

/-! booklines: Reader.block_read of flat statements. -/
namespace KP
open PySem PySem.Spec PyProof.Rows L2 G137 SlX
theorem StAtB.mono {K : Frag} {H H' : Hp} {p : Addr} {n : Int} {d : StD} {b o : Addr} (hk : ∀ c u, H c = some u → (∀ xs, u ≠ .lst xs) → H' c = some u) (hb : H' b = some (.lst [])) (ho : H' o = some (.lst [])) (h : StAtB K H p n d b o) : StAtB K H' p n d b o := by
  obtain ⟨dx, tv, h1, h2, h3, h4⟩ := h
  refine ⟨dx, tv, hk _ _ h1 (fun xs z => nomatch z), hb, ho, ?_⟩
  cases e : d.tot with
  | none => rw [e] at h4; exact h4
  | some v =>
    rw [e] at h4
    obtain ⟨t, ht, dz, q, h5, h6⟩ := h4
    exact ⟨t, ht, dz, q, hk _ _ h5 (fun xs z => nomatch z), hk _ _ h6 (fun xs z => nomatch z)⟩
theorem strs_ne_refs {ts : List Str} {as : List Addr} (h : ts ≠ []) : ts.map V.str ≠ as.map V.ref := fun z => by
  cases ts with
  | nil => exact h rfl
  | cons t r =>
    cases as with
    | nil => cases z
    | cons b q => cases z
/-- statements, their lists elsewhere by ok -/
def StsP (K : Frag) (ok : Addr → Prop) (H : Hp) (n : Int) (as : List Addr) (sts : List StD) : Prop := as.length = sts.length ∧ ∀ (j : Nat) p sd, as[j]? = some p → sts[j]? = some sd → ∃ b o, ok b ∧ ok o ∧ StAtB K H p (n + (j : Int)) sd b o
theorem StsP.nil {K : Frag} {ok : Addr → Prop} {H : Hp} {n : Int} : StsP K ok H n [] [] := ⟨rfl, fun j p sd h => by simp at h⟩
theorem StsP.imp {K : Frag} {ok ok' : Addr → Prop} {H H' : Hp} {n : Int} {as : List Addr} {sts : List StD} (hi : ∀ p n sd b o, ok b → ok o → StAtB K H p n sd b o → ok' b ∧ ok' o ∧ StAtB K H' p n sd b o) (h : StsP K ok H n as sts) : StsP K ok' H' n as sts :=
  ⟨h.1, fun j p sd h1 h2 => by
    obtain ⟨b, o, q1, q2, q3⟩ := h.2 j p sd h1 h2
    exact ⟨b, o, hi _ _ _ _ _ q1 q2 q3⟩⟩
theorem StsP.snoc {K : Frag} {ok : Addr → Prop} {H : Hp} {n : Int} {as : List Addr} {sts : List StD} {p : Addr} {sd : StD} {b o : Addr} (h : StsP K ok H n as sts) (hb : ok b) (ho : ok o) (hp : StAtB K H p (n + (as.length : Int)) sd b o) : StsP K ok H n (as ++ [p]) (sts ++ [sd]) := by
  refine ⟨by rw [List.length_append, List.length_append, h.1]; rfl, fun j q d h1 h2 => ?_⟩
  by_cases hj : j < as.length
  · rw [List.getElem?_append_left hj] at h1
    rw [List.getElem?_append_left (h.1 ▸ hj)] at h2
    exact h.2 j q d h1 h2
  · by_cases e : j = as.length
    · subst e
      rw [List.getElem?_append_right (Nat.le_refl _), Nat.sub_self] at h1
      rw [List.getElem?_append_right (Nat.le_of_eq h.1.symm), h.1, Nat.sub_self] at h2
      obtain rfl := Option.some.inj h1
      obtain rfl := Option.some.inj h2
      exact ⟨b, o, hb, ho, hp⟩
    · rw [List.getElem?_eq_none (by rw [List.length_append]; simp only [List.length_cons, List.length_nil]; omega)] at h1
      cases h1
/-- the lines from the i-th on are those of the statements -/
def Block (ts : List Str) (i : Nat) (sts : List StD) : Prop := ∀ (j : Nat) sd, sts[j]? = some sd → ∃ t ws, ts[i + j]? = some t ∧ LnOk t 1 ws ∧ StW ws sd
/-- the line at hand behind k statements -/
def Nxt (K : Frag) (G : Hp) (i : Nat) (sts : List StD) (k : Nat) (lv : V) : Prop :=
  (k < sts.length ∧ ∃ p ws sd, lv = .ref p ∧ sts[k]? = some sd ∧ LineAt K G p (((i + k : Nat) : Int) + 1) 1 ws ∧ StW ws sd) ∨ (k = sts.length ∧ (lv = .non ∨ ∃ p n ws, lv = .ref p ∧ LineAt K G p n 0 ws))
theorem nxt_com {K : Frag} {ts : List Str} {i k : Nat} {sts : List StD} {H : Hp} {a : Addr} {m : Int} {Q : VK} {E : XK} (hB : Block ts i sts) (hN : NotDp ts (i + sts.length) 0) (hR : RdAt K H a ts ((i + k : Nat) : Int) m) (hk : k ≤ sts.length)
    (hQ : ∀ lv H', Same H H' → Nxt K H' i sts k lv → Q lv H') : spCom K [.ref a] H Q E := by
  refine ⟨a, ts, i + k, m, rfl, hR, fun e => ?_, fun e => ?_⟩
  · refine hQ _ H (Same.refl H) (.inr ⟨?_, .inl rfl⟩)
    rcases Nat.lt_or_ge k sts.length with h | h
    · obtain ⟨t, ws, h1, _⟩ := hB k sts[k] (List.getElem?_eq_getElem h)
      rw [e, List.getElem?_eq_none (Nat.le_refl _)] at h1
      cases h1
    · omega
  · rcases Nat.lt_or_ge k sts.length with h | h
    · obtain ⟨t, ws, h1, h2, h3⟩ := hB k sts[k] (List.getElem?_eq_getElem h)
      exact ⟨t, 1, ws, h1, h2, fun H' p s1 _ hL => hQ _ H' s1 (.inl ⟨h, p, ws, sts[k], rfl, List.getElem?_eq_getElem h, hL, h3⟩)⟩
    · have ek : k = sts.length := by omega
      subst ek
      obtain ⟨t, d, ws, h1, h2, h3⟩ := hN e
      have ed : d = 0 := by omega
      subst ed
      exact ⟨t, 0, ws, h1, h2, fun H' p s1 _ hL => hQ _ H' s1 (.inr ⟨rfl, .inr ⟨p, _, ws, rfl, hL⟩⟩)⟩
def spBlk (K : Frag) : Sp := fun vs H Q _ => ∃ (a : Addr) (ts : List Str) (i m : Nat) (sts : List StD), vs = [.ref a, .int 1] ∧ RdAt K H a ts i m ∧ sts ≠ [] ∧ sts.length ≤ 8 ∧ m + sts.length ≤ 24 ∧ Block ts i sts ∧ NotDp ts (i + sts.length) 0 ∧
  ∀ H' l as, But a H H' → RdAt K H' a ts ((i + sts.length : Nat) : Int) ((m + sts.length : Nat) : Int) → H l = none → H' l = some (.lst (as.map V.ref)) → StsP K (fun b => H b = none ∧ b ≠ l) H' ((i : Int) + 1) as sts → Q (.ref l) H'
section
variable {P : Program} {w : World} {K : Frag} {mg : Str → Option Value} {base : Heap}
theorem sc_block_read : FnScope ["self", "depth", "line", "found"] ["self", "depth"] (defScope m_Reader_block_read) := ⟨rfl, rfl, rfl, by decide +kernel, rfl, by decide +kernel, by decide +kernel⟩
theorem ok_block_read (T : Pr K mg) : MOk P w K mg base 6 (cA K "Reader") "block_read" ["self", "depth"] (spBlk K) := by
  obtain ⟨fd, F⟩ := T.f_Reader_block_read
  have blen := T.fre "len" (by decide +kernel)
  have gMostBlock := T.int "MOST_BLOCK" (8) (by decide +kernel)
  refine MOk.of F (T.cls "Reader" (by decide +kernel)) (T.meth "Reader" "block_read" (by decide +kernel)) sc_block_read (fun _ _ _ _ _ _ us hl => match us, hl with | [_, _], _ => rfl) (fun vs H Q E h => ?_) (fun cdv A outer s H vs Q E hr h => ?_)
  · obtain ⟨_, _, _, _, _, rfl, _⟩ := h; rfl
  refine ⟨_, PSs.nox (pss_cons (ps_par (i := 2) (j := 3) rfl sc_block_read.nd rfl rfl (by decide) rfl rfl (pa_cons (pe_methF0 (pv 0) (ok_coming T) (hr.mono (by decide))) (pa_cons (pe_lst pa_nil) pa_nil)) (by rfl))
    (pss_cons (ps_if (PW.pt (pw_or (pt_cmpR op_isN (pv 2) pe_non (nomark _)) (pw_or1 (pt_cmpR op_ne (pe_sl (pv 2)) (pv 1) (nomark _)))))
      L2.pss_never
      pss_nil)
    (pss_cons (ps_while PassesOwn.never (PW.pt (pw_and (pt_cmpR op_notN (pv 2) pe_non (nomark _)) (pw_and1 (pt_cmpR op_ge (pe_sl (pv 2)) (pv 1) (nomark _)))))
      (pss_cons (ps_if (PW.pt (pw_or (pt_cmpR op_gt (pe_sl (pv 2)) (pv 1) (nomark _)) (pw_or1 (pt_cmpR op_eq (pe_callB call_len_seq (by rfl) blen PySem.boot_len (pa_cons (pv 3) pa_nil)) (pe_gi (by rfl) gMostBlock) (nomark _)))))
      L2.pss_never
      pss_nil)
    (pss_cons (ps_expr (pe_bm PySem.F.plainAttrs_list PySem.F.slot_list_append PySem.F.type_list_append mt_append (pv 3) (pa_cons (pe_methF (pv 0) (ok_statement T) (hr.mono (by decide)) (pa_cons (pv 2) pa_nil)) pa_nil)))
    (pss_one (ps_set (i := 2) sc_block_read.nd rfl (Or.inl rfl) (pe_methF0 (pv 0) (ok_coming T) (hr.mono (by decide))))))))
    (pss_one (ps_ret (pv 3)))))), ?_⟩
  have cR := T.cls "Reader" (by decide +kernel)
  obtain ⟨p0, S0⟩ := T.ss_Line_depth
  obtain ⟨a, ts, i, m, sts, rfl, hR, hne, h8, h24, hB, hN, hQ⟩ := h
  obtain ⟨dx, l, ha, hl⟩ := id hR
  refine ⟨_, rfl, a, dx, _, rfl, ha, rfl, ?_⟩
  unfold tNil
  refine nxt_com (i := i) (k := 0) hB hN hR (Nat.zero_le _) fun lv G s1 hx => ?_
  have hpos : 0 < sts.length := List.length_pos_iff.mpr hne
  have hts : ts ≠ [] := fun z => by
    obtain ⟨t, ws, h1, _⟩ := hB 0 sts[0] (List.getElem?_eq_getElem hpos)
    rw [z] at h1
    simp at h1
  refine ⟨Nat.zero_le _, fun lf nlf => ⟨_, _, rfl, ?_⟩⟩
  rcases hx with ⟨_, p, ws, sd, rfl, hsd, hL, hW⟩ | ⟨e, _⟩
  rotate_left
  · omega
  obtain ⟨dl, wl, hls, hlw⟩ := id hL
  have u1 : Same G (upd G lf (.lst [])) := same_upd nlf
  refine ⟨_, rfl, rfl, _, rfl, ?_⟩
  refine iN (decide_eq_false fun z => nomatch z) ?_
  refine ⟨_, rfl, p, _, dl, p0, _, 0, _, rfl, Slt.same u1 hls, T.sc_Line, S0, rfl, _, rfl, rfl, _, rfl, ?_⟩
  refine iN rfl ?_
  have hlf : H lf = none := s1.free nlf
  refine ⟨fun mm σ G => ∃ (k : Nat) (lv : V) (as : List Addr), mm = sts.length - k ∧ k ≤ sts.length ∧ σ = [some (.ref a), some (.int 1), some lv, some (.ref lf)] ∧ But a H G ∧ RdAt K G a ts ((i + k : Nat) : Int) ((m + k : Nat) : Int) ∧ G lf = some (.lst (as.map V.ref)) ∧ as.length = k ∧ StsP K (fun b => H b = none ∧ b ≠ lf) G ((i : Int) + 1) as (sts.take k) ∧ Nxt K G i sts k lv,
    ⟨_, 0, .ref p, [], rfl, Nat.zero_le _, rfl, fun c u hc q => u1 _ _ (s1 _ _ q), (hR.same s1).same u1, upd_same, rfl, StsP.nil, .inl ⟨hpos, p, ws, sd, rfl, hsd, hL.same u1, hW⟩⟩, ?_⟩
  rintro mm σ G1 ⟨k, lv, as, rfl, hk, rfl, hbut, hR1, hlf1, hlen, hsts, hx⟩
  have hafl : lf ≠ a := fun z => by
    obtain ⟨_, _, g, _⟩ := hR1
    rw [z, g] at hlf1
    cases hlf1
  rcases hx with ⟨hk1, p1, ws1, sd1, rfl, hsd1, hL1, hW1⟩ | ⟨e, hx⟩
  rotate_left
  · subst e
    have done : Q (.ref lf) G1 := hQ G1 lf as hbut hR1 hlf hlf1 (by rw [List.take_of_length_le (Nat.le_refl _)] at hsts; exact hsts)
    rcases hx with rfl | ⟨p1, n1, ws1, rfl, hL1⟩
    · refine ⟨_, rfl, rfl, _, rfl, ?_⟩
      refine iN rfl (iN rfl ?_)
      exact ⟨_, rfl, done⟩
    · obtain ⟨dl1, wl1, hls1, hlw1⟩ := id hL1
      refine ⟨_, rfl, rfl, _, rfl, ?_⟩
      refine iY rfl ?_
      refine ⟨_, rfl, p1, _, dl1, p0, _, 0, _, rfl, hls1, T.sc_Line, S0, rfl, _, rfl, _, _, rfl, rfl, _, rfl, ?_⟩
      refine iN (by decide) ?_
      exact ⟨_, rfl, done⟩
  obtain ⟨dl1, wl1, hls1, hlw1⟩ := id hL1
  refine ⟨_, rfl, rfl, _, rfl, ?_⟩
  refine iY rfl ?_
  refine ⟨_, rfl, p1, _, dl1, p0, _, 0, _, rfl, hls1, T.sc_Line, S0, rfl, _, rfl, _, _, rfl, rfl, _, rfl, ?_⟩
  refine iY (by decide) ?_
  refine ⟨fun σ' H' => ∃ m', m' < sts.length - k ∧ (∃ (k : Nat) (lv : V) (as : List Addr), m' = sts.length - k ∧ k ≤ sts.length ∧ σ' = [some (.ref a), some (.int 1), some lv, some (.ref lf)] ∧ But a H H' ∧ RdAt K H' a ts ((i + k : Nat) : Int) ((m + k : Nat) : Int) ∧ H' lf = some (.lst (as.map V.ref)) ∧ as.length = k ∧ StsP K (fun b => H b = none ∧ b ≠ lf) H' ((i : Int) + 1) as (sts.take k) ∧ Nxt K H' i sts k lv), fun _ _ z => z, ?_⟩
  refine ⟨_, rfl, p1, _, dl1, p0, _, 0, _, rfl, hls1, T.sc_Line, S0, rfl, _, rfl, _, _, rfl, rfl, _, rfl, ?_⟩
  refine iN (by decide) ?_
  refine ⟨_, rfl, lf, _, rfl, .inl (SqL.of hlf1), rfl, _, rfl, ?_⟩
  refine iN (decide_eq_false fun z => ?_) ?_
  · have := V.int.inj z
    rw [List.length_map] at this
    omega
  refine ⟨_, rfl, .inl ⟨rfl, _, SqL.of hlf1⟩, ?_⟩
  obtain ⟨dx1, l1, ha1, hl1⟩ := id hR1
  refine ⟨_, rfl, a, dx1, _, rfl, ha1, rfl, _, rfl, a, p1, ts, i + k, m + k, _, 1, ws1, sd1, rfl, hR1, hL1, hW1, by omega, by decide, ?_, fun G2 q b o b2 hR2 nq nb no hS => ?_⟩
  · intro e
    rcases Nat.lt_or_ge (k + 1) sts.length with h | h
    · obtain ⟨t, ws, h1, h2, h3⟩ := hB (k + 1) sts[k + 1] (List.getElem?_eq_getElem h)
      exact ⟨t, 1, ws, h1, h2, by decide⟩
    · have ek : i + k + 1 = i + sts.length := by omega
      rw [ek] at e ⊢
      obtain ⟨t, d, ws, h1, h2, h3⟩ := hN e
      exact ⟨t, d, ws, h1, h2, by omega⟩
  have hlf2 : G2 lf = some (.lst (as.map V.ref)) := b2 _ _ hafl hlf1
  refine ⟨lf, _, _, rfl, rfl, hlf2, ?_, ?_⟩
  · have := sizeLine_big
    rw [List.length_map]
    omega
  have fresh : ∀ c, G1 c = none → H c = none ∧ c ≠ lf := fun c hc => ⟨?_, fun z => by rw [z, hlf1] at hc; cases hc⟩
  rotate_left
  · cases z : H c with
    | none => rfl
    | some u =>
      by_cases hca : c = a
      · rw [hca, ha1] at hc; cases hc
      · rw [hbut c u hca z] at hc; cases hc
  have keepU : ∀ p n sd b o, b ≠ lf → o ≠ lf → StAtB K G2 p n sd b o → StAtB K (upd G2 lf (.lst (as.map V.ref ++ [.ref q]))) p n sd b o := fun p n sd b o hb ho h => by
    obtain ⟨_, _, _, g2, g3, _⟩ := id h
    exact h.mono (fun c u e nl => (upd_ne fun z => nl _ (Option.some.inj (e.symm.trans (z ▸ hlf2)))).trans e) ((upd_ne hb).trans g2) ((upd_ne ho).trans g3)
  have hR3 : RdAt K (upd G2 lf (.lst (as.map V.ref ++ [.ref q]))) a ts ((i + k + 1 : Nat) : Int) ((m + k + 1 : Nat) : Int) := by
    obtain ⟨dx2, l2, g1, g2⟩ := hR2
    refine ⟨dx2, l2, (upd_ne (Ne.symm hafl)).trans g1, (upd_ne ?_).trans g2⟩
    intro z
    rw [z, hlf2] at g2
    have e := Option.some.inj g2
    injection e with e
    exact strs_ne_refs hts e.symm
  refine ⟨_, rfl, a, ?_⟩
  obtain ⟨dx3, l3, ha3, hl3⟩ := id hR3
  refine ⟨dx3, _, rfl, ha3, rfl, ?_⟩
  refine nxt_com (i := i) (k := k + 1) hB hN hR3 hk1 fun lv G4 s4 hx => ?_
  refine ⟨_, by omega, k + 1, lv, as ++ [q], rfl, hk1, rfl, fun c u hc e => ?_, hR3.same s4, ?_, by rw [List.length_append, hlen]; rfl, ?_, hx⟩
  · exact s4 _ _ ((upd_ne (ne_of_none e hlf)).trans (b2 _ _ hc (hbut _ _ hc e)))
  · rw [List.map_append]
    exact s4 _ _ upd_same
  · rw [List.take_add_one, hsd1]
    refine StsP.snoc (StsP.imp (fun p n sd b o hb ho h => ⟨hb, ho, (keepU p n sd b o hb.2 ho.2 (h.but b2 hR1)).same s4⟩) hsts) (fresh b nb) (fresh o no) ((keepU _ _ _ _ _ (fresh b nb).2 (fresh o no).2 ?_).same s4)
    rw [hlen]
    have e5 : ((i + k : Nat) : Int) + 1 = (i : Int) + 1 + (k : Int) := by omega
    rw [← e5]
    exact hS
end
end KP

/-! booklines: Reader.keys_told. -/
namespace KP
open PySem PySem.Spec PyProof.Rows L2 G137 SlX
def KeyR.dat (k : KeyR) : PyData := .tuple [.str k.name, .int (k.size : Int), .bool k.may]
theorem KeyR.dp {K : Frag} {H : Hp} {t : Addr} {k : KeyR} (h : H t = some k.tup) : Dp K H (.ref t) k.dat := .tup (SqT.of h) (.cons (.str _) (.cons (.int _) (.cons (.bl _) .nil)))
theorem KeyR.lay {k : KeyR} (h : nameS k.name = true) : k.dat.canLay0 = true ∧ k.dat.depth ≤ 1 := by
  have h1 := nameS_lay h
  constructor
  · simp only [KeyR.dat, PyData.canLay0, PyData.canLayAll0, Bool.and_true, Bool.and_self] at h1 ⊢
    exact h1
  · simp [KeyR.dat, PyData.depth, PyData.depthAll]
theorem KeyRows.dps {K : Frag} {H : Hp} : ∀ {ts : List Addr} {ks : List KeyR}, KeyRows H ts ks → DpAll K H (ts.map V.ref) (ks.map KeyR.dat)
  | _, _, .nil => .nil
  | _, _, .cons h t => .cons (KeyR.dp h) (KeyRows.dps t)
theorem KeyRows.snoc {H : Hp} {ts : List Addr} {ks : List KeyR} {t : Addr} {k : KeyR} (h : KeyRows H ts ks) (ht : H t = some k.tup) : KeyRows H (ts ++ [t]) (ks ++ [k]) := by
  induction h with
  | nil => exact .cons ht .nil
  | cons a _ ih => exact .cons a ih
theorem KeyRows.mono {H H' : Hp} (s : ∀ c xs, H c = some (.tup xs) → H' c = some (.tup xs)) : ∀ {ts : List Addr} {ns : List KeyR}, KeyRows H ts ns → KeyRows H' ts ns
  | _, _, .nil => .nil
  | _, _, .cons h t => .cons (s _ _ h) (KeyRows.mono s t)
/-- keys that can stand in a book -/
structure KeysOk (ks : List KeyR) : Prop where
  ne : ks ≠ []
  four : ks.length ≤ 4
  ok : ∀ k ∈ ks, k.Ok
  nd : (ks.map (·.name)).Nodup
  many : ∀ j, manyL (ks.take j) ≤ 60
/-- the lines ahead are those of the keys, then comes one of another word -/
structure KeyLs (ts : List Str) (ks : List KeyR) : Prop where
  ls : ∀ (j : Nat) k, ks[j]? = some k → ∃ t, ts[j]? = some t ∧ LnOk t 0 k.words
  nx : ∃ t w ws, ts[ks.length]? = some t ∧ LnOk t 0 (w :: ws) ∧ w ≠ "key" ∧ w ≠ "may"
def NxK (K : Frag) (G : Hp) (ks : List KeyR) (k : Nat) (lv : V) : Prop :=
  (k < ks.length ∧ ∃ p r, lv = .ref p ∧ ks[k]? = some r ∧ LineAt K G p ((k : Int) + 1) 0 r.words) ∨ (k = ks.length ∧ ∃ p n w ws, lv = .ref p ∧ LineAt K G p n 0 (w :: ws) ∧ w ≠ "key" ∧ w ≠ "may")
theorem nxk_com {K : Frag} {ts : List Str} {k : Nat} {ks : List KeyR} {H : Hp} {a : Addr} {m : Int} {Q : VK} {E : XK} (hL : KeyLs ts ks) (hR : RdAt K H a ts (k : Int) m) (hk : k ≤ ks.length)
    (hQ : ∀ lv H', Same H H' → NxK K H' ks k lv → Q lv H') : spCom K [.ref a] H Q E := by
  rcases Nat.lt_or_ge k ks.length with h | h
  · obtain ⟨t, h1, h2⟩ := hL.ls k ks[k] (List.getElem?_eq_getElem h)
    refine ⟨a, ts, k, m, rfl, hR, fun e => ?_, fun e => ⟨t, 0, _, h1, h2, fun H' p s1 _ hl => hQ _ H' s1 (.inl ⟨h, p, ks[k], rfl, List.getElem?_eq_getElem h, hl⟩)⟩⟩
    rw [e, List.getElem?_eq_none (Nat.le_refl _)] at h1
    cases h1
  · have ek : k = ks.length := by omega
    subst ek
    obtain ⟨t, w, ws, h1, h2, h3, h4⟩ := hL.nx
    refine ⟨a, ts, ks.length, m, rfl, hR, fun e => ?_, fun e => ⟨t, 0, _, h1, h2, fun H' p s1 _ hl => hQ _ H' s1 (.inr ⟨rfl, p, _, w, ws, rfl, hl, h3, h4⟩)⟩⟩
    rw [e, List.getElem?_eq_none (Nat.le_refl _)] at h1
    cases h1
def spKT (K : Frag) : Sp := fun vs H Q _ => ∃ (a : Addr) (ts : List Str) (ks : List KeyR), vs = [.ref a] ∧ RdAt K H a ts 0 0 ∧ KeysOk ks ∧ KeyLs ts ks ∧
  ∀ H' l rows, But a H H' → RdAt K H' a ts ((ks.length : Nat) : Int) 0 → H l = none → H' l = some (.lst (rows.map V.ref)) → KeyRows H' rows ks → Q (.ref l) H'
theorem manyOk {ks : List KeyR} (h : ∀ k ∈ ks, k.Ok) : ∀ k ∈ ks, k.many ≤ 4 := fun k hk => by
  unfold KeyR.many
  rcases (h k hk).sz with e | e <;> rw [e] <;> cases k.may <;> decide
section
variable {P : Program} {w : World} {K : Frag} {mg : Str → Option Value} {base : Heap}
theorem sc_keys_told : FnScope ["self", "found", "line", "row"] ["self"] (defScope m_Reader_keys_told) := ⟨rfl, rfl, rfl, by decide +kernel, rfl, by decide +kernel, by decide +kernel⟩
theorem ok_keys_told (T : Pr K mg) : MOk P w K mg base 4 (cA K "Reader") "keys_told" ["self"] (spKT K) := by
  obtain ⟨fd, F⟩ := T.f_Reader_keys_told
  have gKey := T.str "KEY" "key" (by decide +kernel)
  have gMay := T.str "MAY" "may" (by decide +kernel)
  have gMostStores := T.int "MOST_STORES" (60) (by decide +kernel)
  have blen := T.fre "len" (by decide +kernel)
  have gMostKeys := T.int "MOST_KEYS" (4) (by decide +kernel)
  refine MOk.of F (T.cls "Reader" (by decide +kernel)) (T.meth "Reader" "keys_told" (by decide +kernel)) sc_keys_told (fun _ _ _ _ _ _ us hl => match us, hl with | [_], _ => rfl) (fun vs H Q E h => ?_) (fun cdv A outer s H vs Q E hr h => ?_)
  · obtain ⟨_, _, _, rfl, _⟩ := h; rfl
  have hu : (A.deeper (envOfC "Reader.keys_told" (defScope m_Reader_keys_told) s.heap.objs.size (He.ma K (He.ga K "Reader") "keys_told") cdv)).units + 64 < cLine := by have := hr.un; omega
  refine ⟨_, PSs.nox (pss_cons (ps_set (i := 1) sc_keys_told.nd rfl (Or.inl rfl) (pe_lst pa_nil))
    (pss_cons (ps_whileW PassesOwn.never (ptw_and (ptw_cmp op_notN (pew_named (i := 2) sc_keys_told.nd rfl (Or.inl rfl) (pew_of (pe_methF0 (pv 0) (ok_coming T) (hr.mono (by decide))))) pe_non (nomark _)) (pw_and (pt_cmpR op_eq (pe_sl (pv 2)) pe_int (nomark _)) (pw_and1 (pt_cmpR op_in_seq (pe_ix ix_list (pe_sl (pv 2)) pe_int (fun _ _ => rfl)) (pe_tup (pa_cons (pe_gs (by rfl) gKey) (pa_cons (pe_gs (by rfl) gMay) pa_nil))) (by rfl)))))
      (pss_cons (ps_set (i := 3) sc_keys_told.nd rfl (Or.inl rfl) (pe_callF (ok_key_in T) (hr.mono (by decide)) rfl (pa_cons (pe_sl (pv 2)) (pa_cons (pv 1) pa_nil))))
    (pss_cons (ps_if (PW.pt (pw_or (pt_cmpR op_isN (pv 3) pe_non (nomark _)) (pw_or (pt_cmpR op_eq (pe_callB call_len_seq (by rfl) blen PySem.boot_len (pa_cons (pv 1) pa_nil)) (pe_gi (by rfl) gMostKeys) (nomark _)) (pw_or1 (pt_cmpR op_gt (pe_callF (ok_many_stores T) (hr.mono (by decide)) rfl (pa_cons (pe_lst (StX.pa_star (pv 1) (pa_cons (pv 3) pa_nil))) pa_nil)) (pe_gi (by rfl) gMostStores) (nomark _))))))
      L2.pss_never
      pss_nil)
    (pss_cons (ps_expr (pe_bm PySem.F.plainAttrs_list PySem.F.slot_list_append PySem.F.type_list_append mt_append (pv 1) (pa_cons (pv 3) pa_nil)))
    (pss_one (ps_fldaug (pv 0) pe_int in_add))))) pss_nil)
    (pss_cons (ps_if (pt_cmpR (op_eqD hu) (pv 1) (pe_lst pa_nil) (nomark _))
      L2.pss_never
      pss_nil)
    (pss_one (ps_ret (pv 1)))))), ?_⟩
  have cR := T.cls "Reader" (by decide +kernel)
  have nR : ∀ f, (("Reader" : Str), f) ∈ gFld → NoAttr K (cA K "Reader") f := T.fld "Reader"
  obtain ⟨p0, S0⟩ := T.ss_Line_depth
  obtain ⟨p2, S2⟩ := T.ss_Line_words
  obtain ⟨a, ts, ks, rfl, hR, hK, hL, hQ⟩ := h
  obtain ⟨dx, l, ha, hl⟩ := id hR
  refine ⟨Nat.zero_le _, fun lf nlf => ?_⟩
  have u1 : Same H (upd H lf (.lst [])) := same_upd nlf
  have hts : ts ≠ [] := fun z => by
    obtain ⟨t, w, ws, h1, _⟩ := hL.nx
    rw [z] at h1
    simp at h1
  refine ⟨fun mm σ G => ∃ (k : Nat) (rows : List Addr) (x y : Option V), mm = ks.length - k ∧ k ≤ ks.length ∧ σ = [some (.ref a), some (.ref lf), x, y] ∧ But a H G ∧ RdAt K G a ts (k : Int) 0 ∧ G lf = some (.lst (rows.map V.ref)) ∧ rows.length = k ∧ KeyRows G rows (ks.take k),
    ⟨_, 0, [], none, none, rfl, Nat.zero_le _, rfl, fun c u hc q => u1 _ _ q, hR.same u1, upd_same, rfl, .nil⟩, ?_⟩
  rintro mm σ G1 ⟨k, rows, x, y, rfl, hk, rfl, hbut, hR1, hlf1, hlen, hrows⟩
  obtain ⟨dx1, l1, ha1, hl1⟩ := id hR1
  refine ⟨_, rfl, a, dx1, _, rfl, ha1, rfl, ?_⟩
  unfold tNil
  refine nxk_com hL hR1 hk fun lv G2 s2 hx => ?_
  have hafl : lf ≠ a := fun z => by rw [z, ha1] at hlf1; cases hlf1
  have hlf2 := s2 _ _ hlf1
  rcases hx with ⟨hk1, p, r, rfl, hr1, hL1⟩ | ⟨e, p, n, w1, ws, rfl, hL1, hw1, hw2⟩
  rotate_left
  · subst e
    obtain ⟨dl, wl, hls, hlw⟩ := hL1
    refine ⟨rfl, _, rfl, ?_⟩
    refine iY rfl ?_
    refine ⟨_, rfl, p, _, dl, p0, _, 0, _, rfl, hls, T.sc_Line, S0, rfl, rfl, _, rfl, ?_⟩
    refine iY rfl ?_
    refine ⟨_, rfl, p, _, dl, p2, _, 2, _, rfl, hls, T.sc_Line, S2, rfl, wl, _, _, .str w1, rfl, rfl, SqL.of hlw, atI_nat (j := 0) rfl, by show 2 ≤ sizeLine; decide, fun t1 m1 => ?_⟩
    refine ⟨t1, _, rfl, .inr (SqT.of upd_same), rfl, rfl, _, rfl, ?_⟩
    refine iN ?_ ?_
    · have := inV_str w1 ["key", "may"]
      rw [show (["key", "may"] : List Str).map V.str = [.str "key", .str "may"] from rfl] at this
      exact this.trans (decide_eq_false (by simp [hw1, hw2]))
    have u3 := s2.trans (same_upd (o := .tup [.str "key", .str "may"]) m1)
    refine ⟨_, rfl, Nat.zero_le _, fun q nq => ?_⟩
    have u4 := u3.trans (same_upd (o := .lst []) nq)
    rw [List.take_of_length_le (Nat.le_refl _)] at hrows
    have hrows' := hrows.same u4
    refine ⟨.list (ks.map KeyR.dat), .list [], .lst (SqL.of (u4 _ _ hlf1)) hrows'.dps, .lst (SqL.of upd_same) .nil, shaped_list (n := 1) (fun d hd => ?_) (by decide), by decide +kernel, _, rfl, ?_⟩
    · obtain ⟨k, hk, rfl⟩ := List.mem_map.mp hd
      exact KeyR.lay (hK.ok k hk).nm
    refine iN ?_ ?_
    · have hne := hK.ne
      cases ks with
      | nil => exact absurd rfl hne
      | cons k r => rfl
    exact ⟨_, rfl, hQ _ lf rows (fun c u hc e => u4 _ _ (hbut c u hc e)) (hR1.same u4) nlf (u4 _ _ hlf1) hrows'⟩
  obtain ⟨dl, wl, hls, hlw⟩ := hL1
  refine ⟨rfl, _, rfl, ?_⟩
  refine iY rfl ?_
  refine ⟨_, rfl, p, _, dl, p0, _, 0, _, rfl, hls, T.sc_Line, S0, rfl, rfl, _, rfl, ?_⟩
  refine iY rfl ?_
  have hkr : r.words.map V.str = [.str (if r.may then "may" else "key"), .str r.name, .str (sizeT r.size)] := rfl
  refine ⟨_, rfl, p, _, dl, p2, _, 2, _, rfl, hls, T.sc_Line, S2, rfl, wl, _, _, .str (if r.may then "may" else "key"), rfl, rfl, SqL.of hlw, atI_nat (j := 0) rfl, by show 2 ≤ sizeLine; decide, fun t1 m1 => ?_⟩
  refine ⟨t1, _, rfl, .inr (SqT.of upd_same), rfl, rfl, _, rfl, ?_⟩
  refine iY (by cases r.may <;> decide +kernel) ?_
  refine ⟨fun σ' H' => ∃ m', m' < ks.length - k ∧ (∃ (k : Nat) (rows : List Addr) (x y : Option V), m' = ks.length - k ∧ k ≤ ks.length ∧ σ' = [some (.ref a), some (.ref lf), x, y] ∧ But a H H' ∧ RdAt K H' a ts (k : Int) 0 ∧ H' lf = some (.lst (rows.map V.ref)) ∧ rows.length = k ∧ KeyRows H' rows (ks.take k)), fun _ _ z => z, ?_⟩
  have v3 := same_upd (o := .tup [.str "key", .str "may"]) m1
  have u3 := s2.trans v3
  have hmem : r ∈ ks := List.mem_of_getElem? hr1
  have hok := hK.ok r hmem
  have hnew : r.name ∉ (ks.take k).map (·.name) := by
    intro hin
    obtain ⟨r2, h1, h2⟩ := List.mem_map.mp hin
    obtain ⟨j, hj⟩ := List.getElem?_of_mem h1
    have hjk : j < k := by
      have := (List.getElem?_eq_some_iff.mp hj).1
      rw [List.length_take] at this
      omega
    rw [List.getElem?_take_of_lt hjk] at hj
    have hnd := hK.nd
    have e1 : (ks.map (·.name))[j]? = some r.name := by rw [List.getElem?_map, hj]; simp [h2]
    have e2 : (ks.map (·.name))[k]? = some r.name := by rw [List.getElem?_map, hr1]; rfl
    have := (List.getElem?_inj (by rw [List.length_map]; omega) hnd).mp (e1.trans e2.symm)
    omega
  have hszr : rows.length < sizeLine := by have := sizeLine_big; have := hK.four; omega
  refine ⟨_, rfl, p, _, dl, p2, _, 2, _, rfl, Slt.same v3 hls, T.sc_Line, S2, rfl, _, rfl, wl, lf, rows, ks.take k, r, rfl, v3 _ _ hlw, u3 _ _ hlf1, hszr, hrows.same u3, hok, hnew, fun G4 t s4 ht => ?_⟩
  have u4 := u3.trans s4
  refine ⟨_, rfl, rfl, _, rfl, ?_⟩
  refine iN (decide_eq_false fun z => nomatch z) ?_
  refine ⟨_, rfl, lf, _, rfl, .inl (SqL.of (u4 _ _ hlf1)), rfl, _, rfl, ?_⟩
  refine iN (decide_eq_false fun z => ?_) ?_
  · have := V.int.inj z
    rw [List.length_map] at this
    have := hK.four
    omega
  refine ⟨_, rfl, lf, _, rfl, .inr (SqL.of (u4 _ _ hlf1)), _, rfl, ?_, fun q nq => ?_⟩
  · have := sizeLine_big
    rw [List.length_append, List.length_map]
    simp only [List.length_cons, List.length_nil]
    have := hK.four
    omega
  have v5 := same_upd (o := .lst (rows.map V.ref ++ [.ref t])) nq
  have u5 := u4.trans v5
  have htk : ks.take (k + 1) = ks.take k ++ [r] := by rw [List.take_add_one, hr1]; rfl
  refine ⟨q, rows ++ [t], ks.take (k + 1), rfl, ?_, ?_, fun x hx => manyOk hK.ok x (List.mem_of_mem_take hx), ?_⟩
  · rw [List.map_append]; exact upd_same
  · rw [htk]
    exact (hrows.same u5).snoc (v5 _ _ ht)
  refine ⟨_, _, rfl, rfl, _, rfl, ?_⟩
  refine iN (decide_eq_false ?_) ?_
  · have := hK.many (k + 1)
    omega
  have hlf5 := u5 _ _ hlf1
  refine ⟨_, rfl, .inl ⟨rfl, _, SqL.of hlf5⟩, _, rfl, lf, _, _, rfl, rfl, hlf5, ?_, ?_⟩
  · rw [List.length_map]; exact hszr
  have ha5 := u5 _ _ ha1
  have haf : a ≠ lf := Ne.symm hafl
  refine ⟨_, rfl, a, _, dx1, _, _, rfl, (upd_ne haf).trans ha5, cR, nR "own_at" (by decide +kernel), rfl, _, _, rfl, rfl, dx1, _, (upd_ne haf).trans ha5, (show (3 : Nat) < 1000 by decide), ?_⟩
  refine ⟨_, by omega, k + 1, rows ++ [t], _, _, rfl, hk1, rfl, fun c u hc e => ?_, ⟨dx1, l1, upd_same, ?_⟩, ?_, by rw [List.length_append, hlen]; rfl, ?_⟩
  · rw [upd_ne hc, upd_ne (ne_of_none e nlf)]
    exact u5 _ _ (hbut c u hc e)
  · have e1 : l1 ≠ a := ne_of hl1 ha1 (by intro z; cases z)
    have e2 : l1 ≠ lf := fun z => by
      rw [z, hlf1] at hl1
      have e := Option.some.inj hl1
      injection e with e
      exact strs_ne_refs hts e.symm
    rw [upd_ne e1, upd_ne e2]
    exact u5 _ _ hl1
  · rw [upd_ne hafl, upd_same, List.map_append]
    rfl
  · rw [htk]
    refine KeyRows.mono (fun c xs e => ?_) ((hrows.same u5).snoc (v5 _ _ ht))
    rw [upd_ne (ne_of e ha5 (by intro z; cases z)), upd_ne (ne_of e hlf5 (by intro z; cases z))]
    exact e
end
end KP

/-! booklines: Reader.groups_told of none. -/
namespace KP
open PySem PySem.Spec PyProof.Rows L2 G137 SlX
def spGT (K : Frag) : Sp := fun vs H Q _ => ∃ (a : Addr) (ts : List Str) (i : Nat) (m : Int), vs = [.ref a] ∧ RdAt K H a ts i m ∧ (∃ t w ws, ts[i]? = some t ∧ LnOk t 0 (w :: ws) ∧ w ≠ "group") ∧ ∀ H' l, Same H H' → H l = none → H' l = some (.lst []) → Q (.ref l) H'
section
variable {P : Program} {w : World} {K : Frag} {mg : Str → Option Value} {base : Heap}
theorem sc_groups_told : FnScope ["self", "found", "line", "row"] ["self"] (defScope m_Reader_groups_told) := ⟨rfl, rfl, rfl, by decide +kernel, rfl, by decide +kernel, by decide +kernel⟩
theorem ok_groups_told (T : Pr K mg) : MOk P w K mg base 4 (cA K "Reader") "groups_told" ["self"] (spGT K) := by
  obtain ⟨fd, F⟩ := T.f_Reader_groups_told
  have gGroup := T.str "GROUP" "group" (by decide +kernel)
  have blen := T.fre "len" (by decide +kernel)
  have gMostGroups := T.int "MOST_GROUPS" (2) (by decide +kernel)
  refine MOk.of F (T.cls "Reader" (by decide +kernel)) (T.meth "Reader" "groups_told" (by decide +kernel)) sc_groups_told (fun _ _ _ _ _ _ us hl => match us, hl with | [_], _ => rfl) (fun vs H Q E h => ?_) (fun cdv A outer s H vs Q E hr h => ?_)
  · obtain ⟨_, _, _, _, rfl, _⟩ := h; rfl
  refine ⟨_, PSs.nox (pss_cons (ps_set (i := 1) sc_groups_told.nd rfl (Or.inl rfl) (pe_lst pa_nil))
    (pss_cons (ps_whileW PassesOwn.never (ptw_and (ptw_cmp op_notN (pew_named (i := 2) sc_groups_told.nd rfl (Or.inl rfl) (pew_of (pe_methF0 (pv 0) (ok_coming T) (hr.mono (by decide))))) pe_non (nomark _)) (pw_and (pt_cmpR op_eq (pe_sl (pv 2)) pe_int (nomark _)) (pw_and1 (pt_cmpR op_eq (pe_ix ix_list (pe_sl (pv 2)) pe_int (fun _ _ => rfl)) (pe_gs (by rfl) gGroup) (nomark _)))))
      (pss_cons G137.ps_never
    (pss_cons (ps_if (PW.pt (pw_or (pt_cmpR op_isN (pv 3) pe_non (nomark _)) (pw_or1 (pt_cmpR op_eq (pe_callB call_len_seq (by rfl) blen PySem.boot_len (pa_cons (pv 1) pa_nil)) (pe_gi (by rfl) gMostGroups) (nomark _)))))
      L2.pss_never
      pss_nil)
    (pss_cons G137.ps_never
    (pss_one G137.ps_never)))) pss_nil)
    (pss_one (ps_ret (pv 1))))), ?_⟩
  obtain ⟨p0, S0⟩ := T.ss_Line_depth
  obtain ⟨p2, S2⟩ := T.ss_Line_words
  obtain ⟨a, ts, i, m, rfl, hR, ⟨t, w1, ws, ht, hok, hw⟩, hQ⟩ := h
  obtain ⟨dx, l, ha, hl⟩ := id hR
  refine ⟨Nat.zero_le _, fun lf nlf => ?_⟩
  have u1 : Same H (upd H lf (.lst [])) := same_upd nlf
  refine ⟨fun mm σ G => σ = [some (.ref a), some (.ref lf), none, none] ∧ G = upd H lf (.lst []), ⟨0, rfl, rfl⟩, ?_⟩
  rintro mm σ G ⟨rfl, rfl⟩
  refine ⟨_, rfl, a, dx, _, rfl, u1 _ _ ha, rfl, a, ts, i, m, rfl, hR.same u1, fun e => ?_, fun e => ⟨t, 0, _, ht, hok, fun G2 p s2 np hL => ?_⟩⟩
  · rw [e, List.getElem?_eq_none (Nat.le_refl _)] at ht
    cases ht
  obtain ⟨dl, wl, hls, hlw⟩ := hL
  refine ⟨rfl, _, rfl, ?_⟩
  refine iY rfl ?_
  refine ⟨_, rfl, p, _, dl, p0, _, 0, _, rfl, hls, T.sc_Line, S0, rfl, rfl, _, rfl, ?_⟩
  refine iY rfl ?_
  refine ⟨_, rfl, p, _, dl, p2, _, 2, _, rfl, hls, T.sc_Line, S2, rfl, wl, _, _, .str w1, rfl, rfl, SqL.of hlw, atI_nat (j := 0) rfl, rfl, _, rfl, ?_⟩
  refine iN (decide_eq_false fun z => hw (V.str.inj z)) ?_
  exact ⟨_, rfl, hQ _ lf (u1.trans s2) nlf (s2 _ _ upd_same)⟩
end
end KP

/-! booklines: Reader.deeds_told. -/
namespace KP
open PySem PySem.Spec PyProof.Rows L2 G137 SlX
structure DeedD where
  line : DeedL
  sts : List StD
def DLs (ts : List Str) : Nat → List DeedD → Prop
  | i, [] => i = ts.length
  | i, d :: r => (∃ t, ts[i]? = some t ∧ LnOk t 0 d.line.words) ∧ Block ts (i + 1) d.sts ∧ DLs ts (i + 1 + d.sts.length) r
theorem DLs.notDp {ts : List Str} {i : Nat} {r : List DeedD} (h : DLs ts i r) : NotDp ts i 0 := fun e => by
  cases r with
  | nil => exact absurd h e
  | cons d r =>
    obtain ⟨⟨t, h1, h2⟩, _⟩ := h
    exact ⟨t, 0, _, h1, h2, by decide⟩
def szs (ds : List DeedD) : Nat := (ds.map fun d => d.line.size).sum
def lns (ds : List DeedD) : Nat := (ds.map fun d => d.sts.length).sum
structure DeedsOk (ds : List DeedD) : Prop where
  ne : ds ≠ []
  five : ds.length ≤ 5
  ok : ∀ d ∈ ds, d.line.Ok
  sne : ∀ d ∈ ds, d.sts ≠ []
  se : ∀ d ∈ ds, d.sts.length ≤ 8
  nd : (ds.map fun d => d.line.name).Nodup
  sz : szs ds ≤ 8
  ln : lns ds ≤ 24
/-- a program with its statements; their lists, and the program itself, elsewhere by ok -/
def PrgP (K : Frag) (ok : Addr → Prop) (H : Hp) (p : Addr) (d : DeedD) : Prop := ∃ n st as n', ProgAt K H p n d.line st ∧ ok st ∧ H st = some (.lst (as.map V.ref)) ∧ StsP K ok H n' as d.sts
def PrgsP (K : Frag) (ok : Addr → Prop) (H : Hp) : List Addr → List DeedD → Prop := Paired (PrgP K ok H)
theorem StAtB.butL {K : Frag} {H H' : Hp} {a p C dx : Addr} {fs : List (Str × V)} {n : Int} {d : StD} {b o : Addr} (s : But a H H') (r : H a = some (.ins C dx fs)) (hf : fs.length ≠ 8) (hg : fs.length ≠ 1) (h : StAtB K H p n d b o) : StAtB K H' p n d b o := by
  obtain ⟨dy, tv, h1, h2, h3, h4⟩ := h
  refine ⟨dy, tv, s _ _ (fun z => ?_) h1, s _ _ (ne_of h2 r (by intro z; cases z)) h2, s _ _ (ne_of h3 r (by intro z; cases z)) h3, ?_⟩
  · rw [z, r] at h1
    injection h1 with h1; injection h1 with _ _ h1
    rw [h1] at hf
    exact hf rfl
  cases e : d.tot with
  | none => rw [e] at h4; exact h4
  | some v =>
    rw [e] at h4
    obtain ⟨t, ht, dz, q, h5, h6⟩ := h4
    refine ⟨t, ht, dz, q, s _ _ (fun z => ?_) h5, s _ _ (ne_of h6 r (by intro z; cases z)) h6⟩
    rw [z, r] at h5
    injection h5 with h5; injection h5 with _ _ h5
    rw [h5] at hg
    exact hg rfl
theorem PrgP.butL {K : Frag} {ok : Addr → Prop} {H H' : Hp} {a p C dx : Addr} {fs : List (Str × V)} {d : DeedD} (s : But a H H') (r : H a = some (.ins C dx fs)) (hf : fs.length ≠ 8) (hg : fs.length ≠ 1) (hp : p ≠ a) (h : PrgP K ok H p d) : PrgP K ok H' p d := by
  obtain ⟨n, st, as, n', ⟨dy, h1⟩, h2, h3, h4⟩ := h
  exact ⟨n, st, as, n', ⟨dy, s _ _ hp h1⟩, h2, s _ _ (ne_of h3 r (by intro z; cases z)) h3, h4.imp fun p n sd b o q1 q2 q3 => ⟨q1, q2, q3.butL s r hf hg⟩⟩
theorem PrgP.same {K : Frag} {ok : Addr → Prop} {H H' : Hp} {p : Addr} {d : DeedD} (s : Same H H') (h : PrgP K ok H p d) : PrgP K ok H' p d := by
  obtain ⟨n, st, as, n', h1, h2, h3, h4⟩ := h
  exact ⟨n, st, as, n', h1.same s, h2, s _ _ h3, h4.imp fun p n sd b o q1 q2 q3 => ⟨q1, q2, q3.same s⟩⟩
theorem PrgP.updl {K : Frag} {H : Hp} {lf p : Addr} {xs ys : List V} {d : DeedD} (hl : H lf = some (.lst xs)) (h : PrgP K (· ≠ lf) H p d) : PrgP K (· ≠ lf) (upd H lf (.lst ys)) p d := by
  obtain ⟨n, st, as, n', ⟨dy, h1⟩, h2, h3, h4⟩ := h
  refine ⟨n, st, as, n', ⟨dy, (upd_ne (ne_of h1 hl (by intro z; cases z))).trans h1⟩, h2, (upd_ne h2).trans h3, h4.imp fun p n sd b o hb ho h => ⟨hb, ho, ?_⟩⟩
  obtain ⟨_, _, _, g2, g3, _⟩ := id h
  exact h.mono (fun c u e nl => (upd_ne fun z => nl _ (Option.some.inj (e.symm.trans (z ▸ hl)))).trans e) ((upd_ne hb).trans g2) ((upd_ne ho).trans g3)
theorem Paired.imp {α β : Type} {R S : α → β → Prop} (h : ∀ a b, R a b → S a b) : ∀ {xs : List α} {ys : List β}, Paired R xs ys → Paired S xs ys
  | _, _, .nil => .nil
  | _, _, .cons a t => .cons (h _ _ a) (Paired.imp h t)
theorem Paired.snoc {α β : Type} {R : α → β → Prop} {a : α} {b : β} (hr : R a b) : ∀ {xs : List α} {ys : List β}, Paired R xs ys → Paired R (xs ++ [a]) (ys ++ [b])
  | _, _, .nil => .cons hr .nil
  | _, _, .cons q t => .cons q (Paired.snoc hr t)
def spDT (K : Frag) : Sp := fun vs H Q _ => ∃ (a : Addr) (ts : List Str) (i : Nat) (ds : List DeedD), vs = [.ref a] ∧ RdAt K H a ts i 0 ∧ DeedsOk ds ∧ DLs ts i ds ∧
  ∀ H' l ps, But a H H' → H l = none → H' l = some (.lst (ps.map V.ref)) → PrgsP K (· ≠ l) H' ps ds → Q (.ref l) H'
section
variable {P : Program} {w : World} {K : Frag} {mg : Str → Option Value} {base : Heap}
theorem sc_deeds_told : FnScope ["self", "found", "letters", "line", "program", "one"] ["self"] (defScope m_Reader_deeds_told) := ⟨rfl, rfl, rfl, by decide +kernel, rfl, by decide +kernel, by decide +kernel⟩
theorem ok_deeds_told (T : Pr K mg) : MOk P w K mg base 7 (cA K "Reader") "deeds_told" ["self"] (spDT K) := by
  obtain ⟨fd, F⟩ := T.f_Reader_deeds_told
  have blen := T.fre "len" (by decide +kernel)
  have gMostDeeds := T.int "MOST_DEEDS" (5) (by decide +kernel)
  have gMostLettersBooklines := T.int "MOST_LETTERS_booklines" (8) (by decide +kernel)
  refine MOk.of F (T.cls "Reader" (by decide +kernel)) (T.meth "Reader" "deeds_told" (by decide +kernel)) sc_deeds_told (fun _ _ _ _ _ _ us hl => match us, hl with | [_], _ => rfl) (fun vs H Q E h => ?_) (fun cdv A outer s H vs Q E hr h => ?_)
  · obtain ⟨_, _, _, _, rfl, _⟩ := h; rfl
  have hu : (A.deeper (envOfC "Reader.deeds_told" (defScope m_Reader_deeds_told) s.heap.objs.size (He.ma K (He.ga K "Reader") "deeds_told") cdv)).units + 0 < cLine := by have := hr.un; omega
  refine ⟨_, PSs.nox (pss_cons (ps_par (i := 1) (j := 2) rfl sc_deeds_told.nd rfl rfl (by decide) rfl rfl (pa_cons (pe_lst pa_nil) (pa_cons pe_int pa_nil)) (by rfl))
    (pss_cons (ps_whileW PassesOwn.never (ptw_cmp op_notN (pew_named (i := 3) sc_deeds_told.nd rfl (Or.inl rfl) (pew_of (pe_methF0 (pv 0) (ok_coming T) (hr.mono (by decide))))) pe_non (nomark _))
      (pss_cons (ps_set (i := 4) sc_deeds_told.nd rfl (Or.inl rfl) (pe_ifExp (pt_cmpR op_eq (pe_sl (pv 3)) pe_int (nomark _)) (pe_callF (ok_program_in T) (hr.mono (by decide)) rfl (pa_cons (pv 3) pa_nil)) pe_non))
    (pss_cons (ps_if (PW.pt (pw_or (pt_cmpR op_isN (pv 4) pe_non (nomark _)) (pw_or (pt_cmpR op_in_seq (pe_fld (pv 4) rfl) (pe_lc (own := [("one", 5)]) (g := gName 5) (tt := tYes) (te := tFld K (tVar 5) "own_name") rfl sc_deeds_told.nd (pi_list (pv 1)) (blkOk_by (own := [("one", 5)]) (N := ["self", "found", "letters", "line", "program", "one"]) (sc := defScope m_Reader_deeds_told) (by decide +kernel)) (fun _ _ _ _ _ => (pg_name (i := 5) sc_deeds_told.nd rfl (Or.inl rfl))) (fun _ _ _ _ _ => pts_nil) (fun _ _ _ _ _ => (pe_fld (pv 5) rfl))) (by rfl)) (pw_or1 (pt_cmpR op_eq (pe_callB call_len_seq (by rfl) blen PySem.boot_len (pa_cons (pv 1) pa_nil)) (pe_gi (by rfl) gMostDeeds) (nomark _))))))
      L2.pss_never
      pss_nil)
    (pss_cons (ps_aug (i := 2) sc_deeds_told.nd rfl (Or.inl rfl) (pe_fld (pv 4) rfl) iop_add)
    (pss_cons (ps_if (pt_cmpR op_gt (pv 2) (pe_gi (by rfl) gMostLettersBooklines) (nomark _))
      L2.pss_never
      pss_nil)
    (pss_cons (ps_fldaug (pv 0) pe_int in_add)
    (pss_cons (ps_fld (pv 4) (pe_methF (pv 0) (ok_block_read T) (hr.mono (by decide)) (pa_cons pe_int pa_nil)) rfl)
    (pss_one (ps_expr (pe_bm PySem.F.plainAttrs_list PySem.F.slot_list_append PySem.F.type_list_append mt_append (pv 1) (pa_cons (pv 4) pa_nil)))))))))) pss_nil)
    (pss_cons (ps_if (pt_cmpR (op_eqLen hu) (pv 1) (pe_lst pa_nil) (nomark _))
      L2.pss_never
      pss_nil)
    (pss_one (ps_ret (pv 1)))))), ?_⟩
  have cR := T.cls "Reader" (by decide +kernel)
  have nR : ∀ f, (("Reader" : Str), f) ∈ gFld → NoAttr K (cA K "Reader") f := T.fld "Reader"
  have cP := T.cls "Program" (by decide +kernel)
  have nP : ∀ f, (("Program" : Str), f) ∈ gFld → NoAttr K (cA K "Program") f := T.fld "Program"
  obtain ⟨p0, S0⟩ := T.ss_Line_depth
  obtain ⟨p2, S2⟩ := T.ss_Line_words
  obtain ⟨a, ts, i, ds, rfl, hR, hD, hL, hQ⟩ := h
  obtain ⟨dx, l, ha, hl⟩ := id hR
  refine ⟨Nat.zero_le _, fun lf nlf => ⟨_, _, rfl, ?_⟩⟩
  have u1 : Same H (upd H lf (.lst [])) := same_upd nlf
  have hts : ts ≠ [] := fun z => by
    have hne := hD.ne
    cases ds with
    | nil => exact hne rfl
    | cons d r =>
      obtain ⟨⟨t, h1, _⟩, _⟩ := hL
      rw [z] at h1
      simp at h1
  refine ⟨fun mm σ G => ∃ (dn r : List DeedD) (ps : List Addr) (i m L : Nat) (x y z : Option V), mm = r.length ∧ ds = dn ++ r ∧ σ = [some (.ref a), some (.ref lf), some (.int (L : Int)), x, y, z] ∧ But a H G ∧ RdAt K G a ts (i : Int) (m : Int) ∧ DLs ts i r ∧ L + szs r ≤ 8 ∧ m + lns r ≤ 24 ∧ G lf = some (.lst (ps.map V.ref)) ∧ PrgsP K (· ≠ lf) G ps dn,
    ⟨_, [], ds, [], i, 0, 0, none, none, none, rfl, rfl, rfl, fun c u hc q => u1 _ _ q, hR.same u1, hL, by have := hD.sz; omega, by have := hD.ln; omega, upd_same, .nil⟩, ?_⟩
  rintro mm σ G1 ⟨dn, r, ps, i1, m1, L1, x, y, z, rfl, rfl, rfl, hbut, hR1, hL1, hsz, hln, hlf1, hps⟩
  obtain ⟨dx1, l1, ha1, hl1⟩ := id hR1
  have hlf0 : H lf = none := nlf
  cases r with
  | nil =>
    have e1 : i1 = ts.length := hL1
    refine ⟨_, rfl, a, dx1, _, rfl, ha1, rfl, a, ts, i1, _, rfl, hR1, fun _ => ?_, fun e => absurd e1 e⟩
    refine ⟨rfl, _, rfl, ?_⟩
    refine iN rfl ?_
    refine ⟨_, rfl, Nat.zero_le _, fun q nq => ?_⟩
    have u4 := same_upd (o := .lst []) nq
    rw [List.append_nil] at *
    have hlen : ps.length = dn.length := Paired.length hps
    refine ⟨lf, q, _, [], rfl, rfl, SqL.of (u4 _ _ hlf1), SqL.of upd_same, ?_, _, rfl, ?_⟩
    · rw [List.length_map, hlen]
      have := List.length_pos_iff.mpr hD.ne
      simp only [List.length_nil]
      omega
    refine iN rfl ?_
    exact ⟨_, rfl, hQ _ lf ps (fun c u hc e => u4 _ _ (hbut c u hc e)) nlf (u4 _ _ hlf1) (Paired.imp (fun p d h => h.same u4) hps)⟩
  | cons d r =>
    obtain ⟨⟨t, ht, hok⟩, hB, hL2⟩ := hL1
    refine ⟨_, rfl, a, dx1, _, rfl, ha1, rfl, a, ts, i1, _, rfl, hR1, fun e => ?_, fun e => ⟨t, 0, _, ht, hok, fun G2 p s2 np hLn => ?_⟩⟩
    · rw [e, List.getElem?_eq_none (Nat.le_refl _)] at ht
      cases ht
    have hdm : d ∈ dn ++ d :: r := by simp
    refine ⟨rfl, _, rfl, ?_⟩
    refine iY rfl ?_
    refine ⟨fun σ' H' => ∃ m', m' < (d :: r).length ∧ (∃ (dn' r' : List DeedD) (ps : List Addr) (i m L : Nat) (x y z : Option V), m' = r'.length ∧ dn ++ d :: r = dn' ++ r' ∧ σ' = [some (.ref a), some (.ref lf), some (.int (L : Int)), x, y, z] ∧ But a H H' ∧ RdAt K H' a ts (i : Int) (m : Int) ∧ DLs ts i r' ∧ L + szs r' ≤ 8 ∧ m + lns r' ≤ 24 ∧ H' lf = some (.lst (ps.map V.ref)) ∧ PrgsP K (· ≠ lf) H' ps dn'), fun _ _ z => z, ?_⟩
    obtain ⟨dl, wl, hls, hlw⟩ := id hLn
    refine ⟨_, rfl, p, _, dl, p0, _, 0, _, rfl, hls, T.sc_Line, S0, rfl, rfl, _, rfl, ?_⟩
    refine iY rfl ?_
    refine ⟨_, rfl, p, _, _, _, d.line, rfl, hLn, rfl, hD.ok d hdm, fun G3 q st s3 nq hP hst => ?_⟩
    refine ⟨_, rfl, rfl, _, rfl, ?_⟩
    refine iN (decide_eq_false fun z => nomatch z) ?_
    have s13 := s2.trans s3
    obtain ⟨dq, hq⟩ := id hP
    refine ⟨_, rfl, q, _, dq, _, _, rfl, hq, cP, nP "own_name" (by decide +kernel), rfl, ?_⟩
    have hlenp : ps.length = dn.length := Paired.length hps
    have h5 := hD.five
    have hpl : ps.length < 5 := by
      rw [List.length_append, List.length_cons] at h5
      omega
    refine ⟨_, rfl, lf, rfl, ⟨_, SqL.of (s13 _ _ hlf1)⟩, fun D nD => ?_⟩
    have s13p : PrgsP K (· ≠ lf) G3 ps dn := Paired.imp (fun p d h => h.same s13) hps
    refine lc_list (xs := ps.map V.ref) (AccP (fun i => ((dn.map fun d => d.line.name).take i).map V.str) D G3) (acc_start rfl) (fun i G _ p => SqL.of (p.same nD _ _ (s13 _ _ hlf1))) (fun i v G hi pa => ?_) (fun G pa => ?_)
    · rw [List.getElem?_map] at hi
      cases et : ps[i]? with
      | none => rw [et] at hi; cases hi
      | some t1 =>
        rw [et] at hi
        obtain rfl : V.ref t1 = v := Option.some.inj hi
        obtain ⟨d1, hd1, n1, st1, as1, n1', ⟨dy, hy⟩, _⟩ := Paired.get? s13p et
        refine ⟨rfl, ?_⟩
        dsimp only [tYes]
        rw [if_pos rfl]
        refine ⟨_, rfl, t1, _, dy, _, _, rfl, pa.same nD _ _ hy, cP, nP "own_name" (by decide +kernel), rfl, acc_step pa (Same.refl _) ?_ ?_⟩
        · rw [List.length_map, List.length_take, List.length_map]
          have := Nat.min_le_right i dn.length
          have := sizeLine_big
          omega
        · rw [List.take_add_one, List.getElem?_map, hd1]; simp
    have eT : (dn.map fun d => d.line.name).take (ps.map V.ref).length = dn.map fun d => d.line.name := List.take_of_length_le (by rw [List.length_map, List.length_map]; omega)
    have hp : G D = some (.lst (((dn.map fun d => d.line.name).take (ps.map V.ref).length).map V.str)) := pa.1
    rw [eT] at hp
    have u4 : Same G3 G := pa.same nD
    have s14 := s13.trans u4
    refine ⟨D, _, rfl, .inl (SqL.of hp), rfl, flat_strs _, _, rfl, ?_⟩
    refine iN ?_ ?_
    · rw [if_neg Bool.false_ne_true, inV_str]
      refine decide_eq_false fun z => ?_
      have nd := hD.nd
      rw [List.map_append, List.nodup_append] at nd
      exact nd.2.2 _ z _ (by simp) rfl
    refine ⟨_, rfl, lf, _, rfl, .inl (SqL.of (s14 _ _ hlf1)), rfl, _, rfl, ?_⟩
    refine iN (decide_eq_false fun z => ?_) ?_
    · have := V.int.inj z
      rw [List.length_map] at this
      omega
    refine ⟨_, rfl, _, rfl, q, _, dq, _, _, rfl, u4 _ _ hq, cP, nP "own_size" (by decide +kernel), rfl, _, _, rfl, rfl, ?_⟩
    refine ⟨_, rfl, _, _, rfl, rfl, _, rfl, ?_⟩
    have hszd : szs (d :: r) = d.line.size + szs r := by simp [szs]
    have hlnd : lns (d :: r) = d.sts.length + lns r := by simp [lns]
    refine iN (decide_eq_false ?_) ?_
    · omega
    have ha4 := s14 _ _ ha1
    refine ⟨_, rfl, a, _, dx1, _, _, rfl, ha4, cR, nR "own_at" (by decide +kernel), rfl, _, _, rfl, rfl, dx1, _, ha4, (show (3 : Nat) < 1000 by decide), ?_⟩
    generalize hG5 : upd G a _ = G5
    have ha5 : G5 a = some (.ins (cA K "Reader") dx1 (fsR l1 ((i1 + 1 : Nat) : Int) (m1 : Int))) := by rw [← hG5]; exact upd_same
    have b5 : But a G G5 := fun c u hc e => by rw [← hG5, upd_ne hc]; exact e
    clear hG5
    have hl1a : l1 ≠ a := ne_of hl1 ha1 (by intro z; cases z)
    have hR5 : RdAt K G5 a ts ((i1 + 1 : Nat) : Int) (m1 : Int) := ⟨dx1, l1, ha5, b5 _ _ hl1a (s14 _ _ hl1)⟩
    have hq4 := u4 _ _ hq
    have hqa : q ≠ a := fun z => by
      rw [z, ha4] at hq4
      injection hq4 with hq4; injection hq4 with _ _ hq4; cases hq4
    have hq5 := b5 _ _ hqa hq4
    have hlfa : lf ≠ a := ne_of hlf1 ha1 (by intro z; cases z)
    have hlf5 := b5 _ _ hlfa (s14 _ _ hlf1)
    have ps5 : PrgsP K (· ≠ lf) G5 ps dn := Paired.imp (fun p d h => (h.same s14).butL b5 ha4 (by simp) (by simp) (fun z => by
      obtain ⟨_, _, _, _, ⟨_, g⟩, _⟩ := h.same s14
      rw [z, ha4] at g
      injection g with g; injection g with _ _ g; cases g)) hps
    refine ⟨_, rfl, a, dx1, _, rfl, ha5, rfl, a, ts, i1 + 1, m1, d.sts, rfl, hR5, hD.sne d hdm, hD.se d hdm, by omega, hB, hL2.notDp, fun G6 l6 as6 b6 hR6 nl6 hl6 hs6 => ?_⟩
    have hq6 := b6 _ _ hqa hq5
    have hlf6 := b6 _ _ hlfa hlf5
    have l6lf : l6 ≠ lf := fun z => by rw [z, hlf5] at nl6; cases nl6
    have l6q : l6 ≠ q := fun z => by rw [z, hq5] at nl6; cases nl6
    have qlf : q ≠ lf := ne_of hq6 hlf6 (by intro z; cases z)
    refine ⟨_, rfl, q, _, dq, _, rfl, hq6, cP, nP "statements" (by decide +kernel), (show (6 : Nat) < 1000 by decide), ?_⟩
    generalize hG7 : upd G6 q _ = G7
    have hq7 : G7 q = some (.ins (cA K "Program") dq (fsP d.line.name ((i1 : Int) + 1) (d.line.size : Int) d.line.blind d.line.wh l6)) := by rw [← hG7]; exact upd_same
    have b7 : But q G6 G7 := fun c u hc e => by rw [← hG7, upd_ne hc]; exact e
    clear hG7
    have hlf7 := b7 _ _ (Ne.symm qlf) hlf6
    refine ⟨_, rfl, .inl ⟨rfl, _, SqL.of hlf7⟩, _, rfl, lf, _, _, rfl, rfl, hlf7, ?_, ?_⟩
    · have := sizeLine_big
      rw [List.length_map]
      omega
    have fr5 : ∀ c, G5 c = none → c ≠ lf := fun c hc z => by rw [z, hlf5] at hc; cases hc
    refine ⟨_, Nat.lt_succ_self _, dn ++ [d], r, ps ++ [q], i1 + 1 + d.sts.length, m1 + d.sts.length, L1 + d.line.size, _, _, _, rfl, by simp, rfl, fun c u hc e => ?_, ?_, hL2, by omega, by omega, ?_, ?_⟩
    · have hcq : c ≠ q := fun z => by
        have g := s14 _ _ (hbut c u hc e)
        rw [z] at g
        have := s2 _ _ (hbut c u hc e)
        rw [z, nq] at this
        cases this
      rw [upd_ne (ne_of_none e nlf)]
      exact b7 _ _ hcq (b6 _ _ hc (b5 _ _ hc (s14 _ _ (hbut c u hc e))))
    · obtain ⟨dx6, l6', g1, g2⟩ := hR6
      have e1 : l6' ≠ lf := fun z => by
        rw [z, hlf6] at g2
        have e := Option.some.inj g2
        injection e with e
        exact strs_ne_refs hts e.symm
      have e2 : l6' ≠ q := ne_of g2 hq6 (by intro z; cases z)
      exact ⟨dx6, l6', (upd_ne (Ne.symm hlfa)).trans (b7 _ _ (Ne.symm hqa) g1), (upd_ne e1).trans (b7 _ _ e2 g2)⟩
    · rw [upd_same, List.map_append]
      rfl
    · refine Paired.imp (R := PrgP K (· ≠ lf) G7) (fun p d h => PrgP.updl hlf7 h) (Paired.snoc (b := d) ?_ (Paired.imp (fun p d h => ?_) hps))
      · refine ⟨_, l6, as6, _, ⟨dq, hq7⟩, l6lf, b7 _ _ l6q hl6, hs6.imp fun p n sd b o hb ho h => ⟨fr5 b hb.1, fr5 o ho.1, h.butL b7 hq6 (by simp) (by simp)⟩⟩
      · have hpa : p ≠ a := fun z => by
          obtain ⟨_, _, _, _, ⟨_, g⟩, _⟩ := h.same s14
          rw [z, ha4] at g
          injection g with g; injection g with _ _ g; cases g
        have hpq : p ≠ q := fun z => by
          obtain ⟨_, _, _, _, ⟨_, g⟩, _⟩ := h.same s2
          rw [z, nq] at g
          cases g
        exact (((h.same s14).butL b5 ha4 (by simp) (by simp) hpa).butL b6 ha5 (by simp) (by simp) hpa).butL b7 hq6 (by simp) (by simp) hpq
end
end KP

/-! booklines: Page, Reader.page, page_in. -/
namespace KP
open PySem PySem.Spec PyProof.Rows L2 G137 SlX
abbrev fsPg (k g d : Addr) : List (Str × V) := [("told_keys", .ref k), ("told_groups", .ref g), ("told_deeds", .ref d)]
def spPgI (K : Frag) : Sp := fun vs H Q _ => ∃ a dx k g d, vs = [.ref a, .ref k, .ref g, .ref d] ∧ H a = some (.ins (cA K "Page") dx []) ∧ ∀ H', But a H H' → H' a = some (.ins (cA K "Page") dx (fsPg k g d)) → Q .non H'
/-- a page -/
def PageAt (K : Frag) (H : Hp) (a : Addr) (ks : List KeyR) (ds : List DeedD) : Prop := ∃ dx k g d rows ps, H a = some (.ins (cA K "Page") dx (fsPg k g d)) ∧ H k = some (.lst (rows.map V.ref)) ∧ KeyRows H rows ks ∧ H g = some (.lst []) ∧ H d = some (.lst (ps.map V.ref)) ∧ PrgsP K (fun _ => True) H ps ds
theorem PageAt.same {K : Frag} {H H' : Hp} {a : Addr} {ks : List KeyR} {ds : List DeedD} (s : Same H H') (h : PageAt K H a ks ds) : PageAt K H' a ks ds := by
  obtain ⟨dx, k, g, d, rows, ps, h1, h2, h3, h4, h5, h6⟩ := h
  exact ⟨dx, k, g, d, rows, ps, s _ _ h1, s _ _ h2, h3.same s, s _ _ h4, s _ _ h5, Paired.imp (fun p d h => h.same s) h6⟩
structure BookLs (ts : List Str) (ks : List KeyR) (ds : List DeedD) : Prop where
  kl : KeyLs ts ks
  dl : DLs ts ks.length ds
def spPage (K : Frag) : Sp := fun vs H Q _ => ∃ (a : Addr) (ts : List Str) (ks : List KeyR) (ds : List DeedD), vs = [.ref a] ∧ RdAt K H a ts 0 0 ∧ KeysOk ks ∧ DeedsOk ds ∧ BookLs ts ks ds ∧ ∀ H' p, But a H H' → PageAt K H' p ks ds → Q (.ref p) H'
def spPgIn (K : Frag) : Sp := fun vs H Q _ => ∃ (t : Str) (ks : List KeyR) (ds : List DeedD), vs = [.str t] ∧ t.length + 2 ≤ sizeLine ∧ KeysOk ks ∧ DeedsOk ds ∧ BookLs (Txt.split t "\n") ks ds ∧ ∀ H' p, Same H H' → PageAt K H' p ks ds → Q (.ref p) H'
section
variable {P : Program} {w : World} {K : Frag} {mg : Str → Option Value} {base : Heap}
theorem sc_Page : FnScope ["self", "told_keys", "told_groups", "told_deeds"] ["self", "told_keys", "told_groups", "told_deeds"] (defScope m_Page_init) := ⟨rfl, rfl, rfl, by decide +kernel, rfl, by decide +kernel, by decide +kernel⟩
theorem ok_Page (T : Pr K mg) : NOk P w K mg base 1 (cA K "Page") "Page" ["self", "told_keys", "told_groups", "told_deeds"] (spPgI K) := by
  obtain ⟨fd, F⟩ := T.f_Page_init
  refine NOk.of F (T.mkr "Page" (by decide +kernel)) (T.glo _ (by decide +kernel)) sc_Page (fun _ _ _ _ _ _ us hl => match us, hl with | [_, _, _, _], _ => rfl) (fun vs H Q E h => ?_) (fun cdv A outer s H vs Q E hr h => ?_)
  · obtain ⟨_, _, _, _, _, rfl, _⟩ := h; rfl
  refine ⟨_, PSs.nox (pss_cons (ps_fld (pv 0) (pv 1) rfl)
    (pss_cons (ps_fld (pv 0) (pv 2) rfl)
    (pss_one (ps_fld (pv 0) (pv 3) rfl)))), ?_⟩
  have cS := T.cls "Page" (by decide +kernel)
  have nA : ∀ f, (("Page" : Str), f) ∈ gFld → NoAttr K (cA K "Page") f := T.fld "Page"
  obtain ⟨a, dx, k, g, d, rfl, ha, hQ⟩ := h
  refine ⟨_, rfl, _, rfl, a, _, dx, _, rfl, ha, cS, nA "told_keys" (by decide +kernel), (show (0 : Nat) < 1000 by decide), ?_⟩
  refine ⟨_, rfl, _, rfl, a, _, dx, _, rfl, upd_same, cS, nA "told_groups" (by decide +kernel), (show (1 : Nat) < 1000 by decide), ?_⟩
  refine ⟨_, rfl, _, rfl, a, _, dx, _, rfl, upd_same, cS, nA "told_deeds" (by decide +kernel), (show (2 : Nat) < 1000 by decide), ?_⟩
  refine hQ _ (fun b o hb e => ?_) upd_same
  rw [upd_ne hb, upd_ne hb, upd_ne hb]; exact e
theorem sc_page : FnScope ["self", "keys", "groups"] ["self"] (defScope m_Reader_page) := ⟨rfl, rfl, rfl, by decide +kernel, rfl, by decide +kernel, by decide +kernel⟩
theorem ok_page (T : Pr K mg) : MOk P w K mg base 8 (cA K "Reader") "page" ["self"] (spPage K) := by
  obtain ⟨fd, F⟩ := T.f_Reader_page
  refine MOk.of F (T.cls "Reader" (by decide +kernel)) (T.meth "Reader" "page" (by decide +kernel)) sc_page (fun _ _ _ _ _ _ us hl => match us, hl with | [_], _ => rfl) (fun vs H Q E h => ?_) (fun cdv A outer s H vs Q E hr h => ?_)
  · obtain ⟨_, _, _, _, rfl, _⟩ := h; rfl
  refine ⟨_, PSs.nox (pss_cons (ps_set (i := 1) sc_page.nd rfl (Or.inl rfl) (pe_methF0 (pv 0) (ok_keys_told T) (hr.mono (by decide))))
    (pss_cons (ps_set (i := 2) sc_page.nd rfl (Or.inl rfl) (pe_methF0 (pv 0) (ok_groups_told T) (hr.mono (by decide))))
    (pss_one (ps_ret (pe_makeF (ok_Page T) (hr.mono (by decide)) rfl (pa_cons (pv 1) (pa_cons (pv 2) (pa_cons (pe_methF0 (pv 0) (ok_deeds_told T) (hr.mono (by decide))) pa_nil)))))))), ?_⟩
  obtain ⟨a, ts, ks, ds, rfl, hR, hK, hD, hB, hQ⟩ := h
  obtain ⟨dx, l, ha, hl⟩ := id hR
  have hdl := hB.dl
  have hnx : ∃ t w ws, ts[ks.length]? = some t ∧ LnOk t 0 (w :: ws) ∧ w ≠ "group" := by
    have hne := hD.ne
    cases ds with
    | nil => exact absurd rfl hne
    | cons d r =>
      obtain ⟨⟨t, h1, h2⟩, _⟩ := hdl
      exact ⟨t, "deed", _, h1, h2, by decide +kernel⟩
  refine ⟨_, rfl, a, dx, _, rfl, ha, rfl, a, ts, ks, rfl, hR, hK, hB.kl, fun G lk rows b1 hR1 nk hk hrows => ?_⟩
  obtain ⟨dx1, l1, ha1, hl1⟩ := id hR1
  refine ⟨_, rfl, a, dx1, _, rfl, ha1, rfl, a, ts, ks.length, _, rfl, hR1, hnx, fun G2 lg s2 ng hg => ?_⟩
  refine ⟨_, rfl, _, rfl, _, rfl, a, dx1, _, rfl, s2 _ _ ha1, rfl, a, ts, ks.length, ds, rfl, hR1.same s2, hD, hdl, fun G3 ld ps b3 nd hd hps => ?_⟩
  intro x dxp nx ndx nex
  refine ⟨x, dxp, lk, lg, ld, rfl, upd_same, fun H' hb hx => ⟨rfl, ?_⟩⟩
  have s4 : Same G3 H' := made_same nx ndx hb
  have lka : lk ≠ a := ne_of hk ha1 (by intro z; cases z)
  have lga : lg ≠ a := ne_of hg (s2 _ _ ha1) (by intro z; cases z)
  refine hQ H' x (fun c u hc e => s4 _ _ (b3 _ _ hc (s2 _ _ (b1 _ _ hc e)))) ⟨dxp, lk, lg, ld, rows, ps, hx, s4 _ _ (b3 _ _ lka (s2 _ _ hk)), ?_, s4 _ _ (b3 _ _ lga hg), s4 _ _ hd, ?_⟩
  · exact KeyRows.mono (fun c xs e => s4 _ _ (b3 _ _ (ne_of e (s2 _ _ ha1) (by intro z; cases z)) e)) (hrows.same s2)
  · refine Paired.imp (fun p d h => ?_) hps
    obtain ⟨n, st, as, n', q1, q2, q3, q4⟩ := h.same s4
    exact ⟨n, st, as, n', q1, trivial, q3, q4.imp fun p n sd b o _ _ h => ⟨trivial, trivial, h⟩⟩
theorem sc_page_in : FnScope ["text"] ["text"] (defScope d_page_in) := ⟨rfl, rfl, rfl, by decide +kernel, rfl, by decide +kernel, by decide +kernel⟩
theorem ok_page_in (T : Pr K mg) : FOk P w K mg base 9 "page_in" ["text"] (spPgIn K) := by
  obtain ⟨fd, F⟩ := T.f_page_in
  have bisinstance := T.fre "isinstance" (by decide +kernel)
  have bstr := T.fre "str" (by decide +kernel)
  refine FOk.of F (T.glo _ (by decide +kernel)) sc_page_in (fun _ _ _ _ _ _ us hl => match us, hl with | [_], _ => rfl) (fun vs H Q E h => ?_) (fun cdv A outer s H vs Q E hr h => ?_)
  · obtain ⟨_, _, _, rfl, _⟩ := h; rfl
  refine ⟨_, PSs.nox (pss_cons (ps_if (pt_not (pt_val (pe_callB call_isT (by rfl) bisinstance boot_isinstance (pa_cons (pv 0) (pa_cons (pe_bltn (u := .type "str") (v := .ty "str") rfl bstr (by decide +kernel) rfl) pa_nil)))))
      L2.pss_never
      pss_nil)
    (pss_one (ps_ret (pe_methF0 (pe_makeF (ok_Reader T) (hr.mono (by decide)) rfl (pa_cons (pv 0) pa_nil)) (ok_page T) (hr.mono (by decide)))))), ?_⟩
  obtain ⟨t, ks, ds, rfl, hl, hK, hD, hB, hQ⟩ := h
  refine ⟨_, rfl, .str t, "str", "str", rfl, rfl, by decide, _, rfl, ?_⟩
  refine iN (by decide +kernel) ?_
  refine ⟨_, rfl, ?_⟩
  intro x dxp nx ndx nex
  refine ⟨x, dxp, t, rfl, upd_same, hl, fun H' hb hR => ⟨rfl, ?_⟩⟩
  have s1 : Same H H' := made_same nx ndx hb
  obtain ⟨dx, l, ha, hl⟩ := id hR
  refine ⟨x, dx, _, rfl, ha, rfl, x, _, ks, ds, rfl, hR, hK, hD, hB, fun H2 p b2 hP => hQ H2 p (fun c u e => ?_) hP⟩
  exact b2 _ _ (ne_of_none e nx) (s1 _ _ e)
end
end KP

/-! checking: Names made. -/
namespace KP
open PySem PySem.Spec PyProof.Rows L2 G137 SlX
def kmay (ks : List KeyR) : List (Str × V) := ks.map fun k => (k.name, .bl k.may)
/-- the places of deeds, from n on -/
def dplc : Nat → List DeedD → List (Str × V)
  | _, [] => []
  | n, d :: r => (d.line.name, .int (n : Int)) :: dplc (n + 1) r
theorem dplc_names : ∀ (n : Nat) (ds : List DeedD), (dplc n ds).map (·.1) = ds.map fun d => d.line.name
  | _, [] => rfl
  | n, d :: r => by rw [dplc, List.map_cons, List.map_cons, dplc_names (n + 1) r]
theorem dplc_snoc : ∀ (n : Nat) (ds : List DeedD) (d : DeedD), dplc n (ds ++ [d]) = dplc n ds ++ [(d.line.name, .int ((n + ds.length : Nat) : Int))]
  | n, [], d => rfl
  | n, e :: r, d => by
    rw [List.cons_append, dplc, dplc, dplc_snoc (n + 1) r d, List.cons_append, List.length_cons, show n + 1 + r.length = n + (r.length + 1) by omega]
/-- the first place of a deed that a key wakes -/
def wk (ds : List DeedD) (k : Str) : Option V := (ds.findIdx? fun d => decide (d.line.wh = k)).map fun j => .int (j : Int)
theorem wk_snoc (ds : List DeedD) (d : DeedD) (k : Str) : wk (ds ++ [d]) k = match wk ds k with | some v => some v | none => if d.line.wh = k then some (.int (ds.length : Int)) else none := by
  unfold wk
  rw [List.findIdx?_append]
  cases h : ds.findIdx? fun d => decide (d.line.wh = k) with
  | some j => simp
  | none =>
    simp only [Option.map_none, Option.none_or, List.findIdx?_cons, List.findIdx?_nil]
    by_cases e : d.line.wh = k <;> simp [e]
abbrev fsN (a b c d : Addr) : List (Str × V) := [("own_keys", .ref a), ("own_groups", .ref b), ("own_places", .ref c), ("own_woken", .ref d)]
def NamesAt (K : Frag) (H : Hp) (a : Addr) (ks : List KeyR) (ds : List DeedD) : Prop := ∃ dx x1 x2 x3 x4 kvw, H a = some (.ins (cA K "Names") dx (fsN x1 x2 x3 x4)) ∧ H x1 = some (.dK (mkD (kmay ks))) ∧ H x2 = some (.dK []) ∧ H x3 = some (.dK (mkD (dplc 0 ds))) ∧ H x4 = some (.dK kvw) ∧ ∀ k, valV kvw (Sum.inr k) = wk ds k
theorem NamesAt.same {K : Frag} {H H' : Hp} {a : Addr} {ks : List KeyR} {ds : List DeedD} (s : Same H H') (h : NamesAt K H a ks ds) : NamesAt K H' a ks ds := by
  obtain ⟨dx, x1, x2, x3, x4, kvw, h1, h2, h3, h4, h5, h6⟩ := h
  exact ⟨dx, x1, x2, x3, x4, kvw, s _ _ h1, s _ _ h2, s _ _ h3, s _ _ h4, s _ _ h5, h6⟩
def spNmI (K : Frag) : Sp := fun vs H Q _ => ∃ a dx p ks ds, vs = [.ref a, .ref p] ∧ H a = some (.ins (cA K "Names") dx []) ∧ PageAt K H p ks ds ∧ KeysOk ks ∧ DeedsOk ds ∧ ∀ H', But a H H' → NamesAt K H' a ks ds → Q .non H'
section
variable {P : Program} {w : World} {K : Frag} {mg : Str → Option Value} {base : Heap}
theorem sc_Names : FnScope ["self", "page", "name", "size", "is_may", "keys", "number", "place", "program"] ["self", "page"] (defScope m_Names_init) := ⟨rfl, rfl, rfl, by decide +kernel, rfl, by decide +kernel, by decide +kernel⟩
theorem ok_Names (T : Pr K mg) : NOk P w K mg base 1 (cA K "Names") "Names" ["self", "page"] (spNmI K) := by
  obtain ⟨fd, F⟩ := T.f_Names_init
  have benumerate := T.fre "enumerate" (by decide +kernel)
  refine NOk.of F (T.mkr "Names" (by decide +kernel)) (T.glo _ (by decide +kernel)) sc_Names (fun _ _ _ _ _ _ us hl => match us, hl with | [_, _], _ => rfl) (fun vs H Q E h => ?_) (fun cdv A outer s H vs Q E hr h => ?_)
  · obtain ⟨_, _, _, _, _, rfl, _⟩ := h; rfl
  refine ⟨_, PSs.nox (pss_cons (ps_fld (pv 0) (pe_dc (own := [("name", 2), ("size", 3), ("is_may", 4)]) (g := gTup K 3 (gCons (gName 2) (gCons (gName 3) (gCons (gName 4) gNil)))) (tt := tYes)  (tk := (tVar 2)) (tv := (tVar 4)) rfl sc_Names.nd (pi_list (pe_fld (pv 1) rfl)) (blkOk_by (own := [("name", 2), ("size", 3), ("is_may", 4)]) (N := ["self", "page", "name", "size", "is_may", "keys", "number", "place", "program"]) (sc := defScope m_Names_init) (by decide +kernel)) (fun _ _ _ _ _ => (pg_tup rfl (pgs_cons (pg_name (i := 2) sc_Names.nd rfl (Or.inl rfl)) (pgs_cons (pg_name (i := 3) sc_Names.nd rfl (Or.inl rfl)) (pgs_cons (pg_name (i := 4) sc_Names.nd rfl (Or.inl rfl)) pgs_nil))))) (fun _ _ _ _ _ => pts_nil) (fun _ _ _ _ _ => (pv 2)) (fun _ _ _ _ _ => (pv 4))) rfl)
    (pss_cons (ps_fld (pv 0) (pe_dc (own := [("name", 2), ("keys", 5), ("number", 6)]) (g := gTup K 3 (gCons (gName 2) (gCons (gName 5) (gCons (gName 6) gNil)))) (tt := tYes)  (tk := (tVar 2)) (tv := (tVar 5)) rfl sc_Names.nd (pi_list (pe_fld (pv 1) rfl)) (blkOk_by (own := [("name", 2), ("keys", 5), ("number", 6)]) (N := ["self", "page", "name", "size", "is_may", "keys", "number", "place", "program"]) (sc := defScope m_Names_init) (by decide +kernel)) (fun _ _ _ _ _ => (pg_tup rfl (pgs_cons (pg_name (i := 2) sc_Names.nd rfl (Or.inl rfl)) (pgs_cons (pg_name (i := 5) sc_Names.nd rfl (Or.inl rfl)) (pgs_cons (pg_name (i := 6) sc_Names.nd rfl (Or.inl rfl)) pgs_nil))))) (fun _ _ _ _ _ => pts_nil) (fun _ _ _ _ _ => (pv 2)) (fun _ _ _ _ _ => (pv 5))) rfl)
    (pss_cons (ps_fld (pv 0) (pe_dc (own := [("place", 7), ("program", 8)]) (g := gTup K 2 (gCons (gName 7) (gCons (gName 8) gNil))) (tt := tYes)  (tk := (tFld K (tVar 8) "own_name")) (tv := (tVar 7)) rfl sc_Names.nd (pi_enum (by rfl) benumerate (pa_cons (pe_fld (pv 1) rfl) pa_nil)) (blkOk_by (own := [("place", 7), ("program", 8)]) (N := ["self", "page", "name", "size", "is_may", "keys", "number", "place", "program"]) (sc := defScope m_Names_init) (by decide +kernel)) (fun _ _ _ _ _ => (pg_tup rfl (pgs_cons (pg_name (i := 7) sc_Names.nd rfl (Or.inl rfl)) (pgs_cons (pg_name (i := 8) sc_Names.nd rfl (Or.inl rfl)) pgs_nil)))) (fun _ _ _ _ _ => pts_nil) (fun _ _ _ _ _ => (pe_fld (pv 8) rfl)) (fun _ _ _ _ _ => (pv 7))) rfl)
    (pss_cons (ps_fld (pv 0) pe_dnewK rfl)
    (pss_one (ps_for PassesOwn.never rfl (pi_enum (by rfl) benumerate (pa_cons (pe_fld (pv 1) rfl) pa_nil)) (pg_tup rfl (pgs_cons (pg_name (i := 7) sc_Names.nd rfl (Or.inl rfl)) (pgs_cons (pg_name (i := 8) sc_Names.nd rfl (Or.inl rfl)) pgs_nil)))
      (pss_one (ps_expr (pe_dsetd (pe_fld (pv 0) rfl) (pe_fld (pv 8) rfl) (pv 7) ⟨rfl, rfl, rfl, rfl⟩))))))))), ?_⟩
  have cS := T.cls "Names" (by decide +kernel)
  have nA : ∀ f, (("Names" : Str), f) ∈ gFld → NoAttr K (cA K "Names") f := T.fld "Names"
  have cG := T.cls "Page" (by decide +kernel)
  have nG : ∀ f, (("Page" : Str), f) ∈ gFld → NoAttr K (cA K "Page") f := T.fld "Page"
  have cP := T.cls "Program" (by decide +kernel)
  have nP : ∀ f, (("Program" : Str), f) ∈ gFld → NoAttr K (cA K "Program") f := T.fld "Program"
  obtain ⟨a, dx, p, ks, ds, rfl, ha, hPg, hK, hD, hQ⟩ := h
  obtain ⟨dp, lk, lg, ld, rows, ps, hp, hk, hrows, hg, hd, hps⟩ := id hPg
  have hlr : rows.length = ks.length := Paired.length hrows
  have hlp : ps.length = ds.length := Paired.length hps
  have h4 := hK.four
  have h5 := hD.five
  have hbig := sizeLine_big
  refine ⟨_, rfl, p, _, dp, _, _, rfl, hp, cG, nG "told_keys" (by decide +kernel), rfl, lk, rfl, ⟨_, SqL.of hk⟩, fun D1 nD1 => ?_⟩
  refine dc_it (walk_list (xs := rows.map V.ref)) (AccD (fun i => mkD (kmay (ks.take i))) D1 H) (accd_start rfl) (fun i G _ q => SqL.of (q.same nD1 _ _ hk)) (fun i x G G' hi q y => ?_) (fun G1 q1 => ?_)
  · obtain ⟨rfl, hx⟩ := y
    rw [List.getElem?_map] at hx
    cases et : rows[i]? with
    | none => rw [et] at hx; cases hx
    | some t =>
      rw [et] at hx
      obtain rfl : V.ref t = x := Option.some.inj hx
      obtain ⟨k, hk', hkt⟩ := Paired.get? hrows et
      refine ⟨t, _, rfl, SqT.of (q.same nD1 _ _ hkt), rfl, _, _, rfl, _, _, rfl, _, _, rfl, rfl, rfl, ?_⟩
      dsimp only [tYes]
      rw [if_pos rfl]
      refine ⟨_, rfl, _, rfl, mkD (kmay (ks.take i)), Sum.inr k.name, rfl, accd_step q (Same.refl _) ?_ ?_⟩
      · rw [mkD_length]
        unfold kmay
        rw [List.length_map, List.length_take]
        have := Nat.min_le_right i ks.length
        omega
      · rw [mkD_put]
        · rw [List.take_add_one, hk']
          unfold kmay
          simp
        · have hnd := hK.nd
          unfold kmay
          rw [List.map_map]
          intro hin
          obtain ⟨r2, h1, h2⟩ := List.mem_map.mp hin
          obtain ⟨j, hj⟩ := List.getElem?_of_mem h1
          have hjk : j < i := by
            have := (List.getElem?_eq_some_iff.mp hj).1
            rw [List.length_take] at this
            omega
          rw [List.getElem?_take_of_lt hjk] at hj
          have e1 : (ks.map (·.name))[j]? = some k.name := by rw [List.getElem?_map, hj]; simpa using h2
          have e2 : (ks.map (·.name))[i]? = some k.name := by rw [List.getElem?_map, hk']; rfl
          have := (List.getElem?_inj (by rw [List.length_map]; rw [List.length_map] at hi; omega) hnd).mp (e1.trans e2.symm)
          omega
  have s1 : Same H G1 := q1.same nD1
  have hD1 : G1 D1 = some (.dK (mkD (kmay ks))) := by
    have := q1.1
    dsimp only at this
    rw [List.length_map, hlr, List.take_of_length_le (Nat.le_refl _)] at this
    exact this
  refine ⟨_, rfl, a, _, dx, _, rfl, s1 _ _ ha, cS, nA "own_keys" (by decide +kernel), (show (0 : Nat) < 1000 by decide), ?_⟩
  generalize hG2 : upd G1 a _ = G2
  have ha2 : G2 a = some (.ins (cA K "Names") dx [("own_keys", .ref D1)]) := by rw [← hG2]; exact upd_same
  have b2 : But a G1 G2 := fun c u hc e => by rw [← hG2, upd_ne hc]; exact e
  clear hG2
  have pa : p ≠ a := fun z => by
    rw [z, ha] at hp
    injection hp with hp; injection hp with _ _ hp; cases hp
  have hp2 := b2 _ _ pa (s1 _ _ hp)
  have lg2 := b2 _ _ (ne_of hg ha (by intro z; cases z)) (s1 _ _ hg)
  have ld2 := b2 _ _ (ne_of hd ha (by intro z; cases z)) (s1 _ _ hd)
  have hD12 := b2 _ _ (ne_of hD1 (s1 _ _ ha) (by intro z; cases z)) hD1
  have hps2 : Paired (fun q d => ∃ n dx st, G2 q = some (.ins (cA K "Program") dx (fsP d.line.name n (d.line.size : Int) d.line.blind d.line.wh st))) ps ds := Paired.imp (fun q d h => by
    obtain ⟨n, st, as, n', ⟨dy, h1⟩, _⟩ := h
    refine ⟨n, dy, st, b2 _ _ (fun z => ?_) (s1 _ _ h1)⟩
    rw [z, ha] at h1
    injection h1 with h1; injection h1 with _ _ h1; cases h1) hps
  have bH2 : But a H G2 := fun c u hc e => b2 _ _ hc (s1 _ _ e)
  refine ⟨_, rfl, p, _, dp, _, _, rfl, hp2, cG, nG "told_groups" (by decide +kernel), rfl, lg, rfl, ⟨_, SqL.of lg2⟩, fun D2 nD2 => ?_⟩
  refine dc_it (walk_list (xs := [])) (AccD (fun i => []) D2 G2) (accd_start rfl) (fun i G _ q => SqL.of (q.same nD2 _ _ lg2)) (fun i x G G' hi q y => absurd hi (Nat.not_lt_zero _)) (fun G3 q3 => ?_)
  have s3 : Same G2 G3 := q3.same nD2
  have hD2 : G3 D2 = some (.dK []) := q3.1
  refine ⟨_, rfl, a, _, dx, _, rfl, s3 _ _ ha2, cS, nA "own_groups" (by decide +kernel), (show (1 : Nat) < 1000 by decide), ?_⟩
  generalize hG4 : upd G3 a _ = G4
  have ha4 : G4 a = some (.ins (cA K "Names") dx [("own_keys", .ref D1), ("own_groups", .ref D2)]) := by rw [← hG4]; exact upd_same
  have b4 : But a G3 G4 := fun c u hc e => by rw [← hG4, upd_ne hc]; exact e
  clear hG4
  have bH4 : But a G2 G4 := fun c u hc e => b4 _ _ hc (s3 _ _ e)
  have hp4 := bH4 _ _ pa hp2
  have ld4 := bH4 _ _ (ne_of hd ha (by intro z; cases z)) ld2
  have hD14 := bH4 _ _ (ne_of hD1 (s1 _ _ ha) (by intro z; cases z)) hD12
  have hD24 := b4 _ _ (ne_of hD2 (s3 _ _ ha2) (by intro z; cases z)) hD2
  have pne : ∀ q (d : DeedD) n dz st, G2 q = some (.ins (cA K "Program") dz (fsP d.line.name n (d.line.size : Int) d.line.blind d.line.wh st)) → q ≠ a := fun q d n dz st h z => by
    rw [z, ha2] at h
    injection h with h; injection h with _ _ h; cases h
  have hps4 : Paired (fun q d => ∃ n dx st, G4 q = some (.ins (cA K "Program") dx (fsP d.line.name n (d.line.size : Int) d.line.blind d.line.wh st))) ps ds := Paired.imp (fun q d h => by
    obtain ⟨n, dy, st, h1⟩ := h
    exact ⟨n, dy, st, bH4 _ _ (pne q d n dy st h1) h1⟩) hps2
  refine ⟨_, rfl, p, _, dp, _, _, rfl, hp4, cG, nG "told_deeds" (by decide +kernel), rfl, ld, _, rfl, SqL.of ld4, fun D3 nD3 => ?_⟩
  refine dc_it (walk_enum (xs := ps.map V.ref)) (AccD (fun i => mkD (dplc 0 (ds.take i))) D3 G4) (accd_start rfl) (fun i G _ q => SqL.of (q.same nD3 _ _ ld4)) (fun i x G G' hi q y => ?_) (fun G5 q5 => ?_)
  · obtain ⟨t, x1, x2, rfl, nt, rfl, e1, e2⟩ := y
    obtain rfl : V.int (i : Nat) = x1 := Option.some.inj e1
    dsimp only at e2
    rw [List.getElem?_map] at e2
    cases et : ps[i]? with
    | none => rw [et] at e2; cases e2
    | some pr =>
      rw [et] at e2
      obtain rfl : V.ref pr = x2 := Option.some.inj e2
      obtain ⟨d, hd', n, dz, st, hpr⟩ := Paired.get? hps4 et
      have st1 : Same G (upd G t (.tup [.int (i : Nat), .ref pr])) := same_upd nt
      refine ⟨t, _, rfl, SqT.of upd_same, rfl, _, _, rfl, _, _, rfl, rfl, rfl, ?_⟩
      dsimp only [tYes]
      rw [if_pos rfl]
      refine ⟨_, rfl, pr, _, dz, _, _, rfl, st1 _ _ (q.same nD3 _ _ hpr), cP, nP "own_name" (by decide +kernel), rfl, _, rfl, mkD (dplc 0 (ds.take i)), Sum.inr d.line.name, rfl, accd_step q st1 ?_ ?_⟩
      · rw [mkD_length, ← List.length_map (f := (·.1)), dplc_names, List.length_map, List.length_take]
        have := Nat.min_le_right i ds.length
        omega
      · have hil : i < ds.length := (List.getElem?_eq_some_iff.mp hd').1
        rw [mkD_put]
        · rw [List.take_add_one, hd']
          show mkD (dplc 0 (ds.take i ++ [d])) = _
          rw [dplc_snoc, List.length_take, Nat.min_eq_left (Nat.le_of_lt hil), Nat.zero_add]
        · rw [dplc_names]
          have hnd := hD.nd
          intro hin
          obtain ⟨r2, h1, h2⟩ := List.mem_map.mp hin
          obtain ⟨j, hj⟩ := List.getElem?_of_mem h1
          have hjk : j < i := by
            have := (List.getElem?_eq_some_iff.mp hj).1
            rw [List.length_take] at this
            omega
          rw [List.getElem?_take_of_lt hjk] at hj
          have e1 : (ds.map fun d => d.line.name)[j]? = some d.line.name := by rw [List.getElem?_map, hj]; simpa using h2
          have e2 : (ds.map fun d => d.line.name)[i]? = some d.line.name := by rw [List.getElem?_map, hd']; rfl
          have := (List.getElem?_inj (by rw [List.length_map]; omega) hnd).mp (e1.trans e2.symm)
          omega
  have s5 : Same G4 G5 := q5.same nD3
  have hD3 : G5 D3 = some (.dK (mkD (dplc 0 ds))) := by
    have := q5.1
    dsimp only at this
    rw [List.length_map, hlp, List.take_of_length_le (Nat.le_refl _)] at this
    exact this
  refine ⟨_, rfl, a, _, dx, _, rfl, s5 _ _ ha4, cS, nA "own_places" (by decide +kernel), (show (2 : Nat) < 1000 by decide), ?_⟩
  generalize hG6 : upd G5 a _ = G6
  have ha6 : G6 a = some (.ins (cA K "Names") dx [("own_keys", .ref D1), ("own_groups", .ref D2), ("own_places", .ref D3)]) := by rw [← hG6]; exact upd_same
  have b6 : But a G5 G6 := fun c u hc e => by rw [← hG6, upd_ne hc]; exact e
  clear hG6
  intro D4 nD4
  have u7 : Same G6 (upd G6 D4 (.dK [])) := same_upd nD4
  refine ⟨_, rfl, a, _, dx, _, rfl, u7 _ _ ha6, cS, nA "own_woken" (by decide +kernel), (show (3 : Nat) < 1000 by decide), ?_⟩
  have haD4 : D4 ≠ a := Ne.symm (ne_of_none ha6 nD4)
  generalize hG8 : upd (upd G6 D4 (.dK [])) a _ = G8
  have ha8 : G8 a = some (.ins (cA K "Names") dx (fsN D1 D2 D3 D4)) := by rw [← hG8]; exact upd_same
  have b8 : But a G6 G8 := fun c u hc e => by rw [← hG8, upd_ne hc]; exact u7 _ _ e
  have hD48 : G8 D4 = some (.dK []) := by rw [← hG8, upd_ne haD4]; exact upd_same
  clear hG8
  have bH8 : But a G4 G8 := fun c u hc e => b8 _ _ hc (b6 _ _ hc (s5 _ _ e))
  have hps8 : Paired (fun q d => ∃ n dx st, G8 q = some (.ins (cA K "Program") dx (fsP d.line.name n (d.line.size : Int) d.line.blind d.line.wh st))) ps ds := Paired.imp (fun q d h => by
    obtain ⟨n, dy, st, h1⟩ := h
    refine ⟨n, dy, st, bH8 _ _ (fun z => ?_) h1⟩
    rw [z, ha4] at h1
    injection h1 with h1; injection h1 with _ _ h1; cases h1) hps4
  have ld8 := bH8 _ _ (ne_of hd ha (by intro z; cases z)) ld4
  refine ⟨_, rfl, p, _, dp, _, _, rfl, bH8 _ _ pa hp4, cG, nG "told_deeds" (by decide +kernel), rfl, ld, _, rfl, SqL.of ld8, ?_⟩
  refine for_it (walk_enum (xs := ps.map V.ref)) (fun i σ G => (∃ x1 x2 x3 x4 x5 x6 x7, σ = [some (.ref a), some (.ref p), x1, x2, x3, x4, x5, x6, x7]) ∧ But D4 G8 G ∧ ∃ kvw : List (Key × V), G D4 = some (.dK kvw) ∧ kvw.length ≤ i ∧ ∀ k, valV kvw (Sum.inr k) = wk (ds.take i) k) ⟨⟨_, _, _, _, _, _, _, rfl⟩, fun c u hc e => e, [], hD48, Nat.le_refl _, fun k => rfl⟩ (fun i σ G _ q => SqL.of (q.2.1 _ _ (ne_of ld8 hD48 (by intro z; cases z)) ld8)) ?_ ?_
  · rintro i x σ G G' hi ⟨⟨x1, x2, x3, x4, x5, x6, x7, rfl⟩, bG, kvw, hkv, hkl, hval⟩ ⟨t, y1, y2, rfl, nt, rfl, e1, e2⟩
    obtain rfl : V.int (i : Nat) = y1 := Option.some.inj e1
    dsimp only at e2
    rw [List.getElem?_map] at e2
    cases et : ps[i]? with
    | none => rw [et] at e2; cases e2
    | some pr =>
      rw [et] at e2
      obtain rfl : V.ref pr = y2 := Option.some.inj e2
      obtain ⟨d, hd', n, dz, st, hpr⟩ := Paired.get? hps8 et
      have st1 : Same G (upd G t (.tup [.int (i : Nat), .ref pr])) := same_upd nt
      have haG := st1 _ _ (bG _ _ (Ne.symm haD4) ha8)
      have hprG := st1 _ _ (bG _ _ (ne_of hpr hD48 (by intro z; cases z)) hpr)
      have hkvG := st1 _ _ hkv
      have htD4 : t ≠ D4 := fun z => by rw [z, hkv] at nt; cases nt
      have hil : i < ds.length := (List.getElem?_eq_some_iff.mp hd').1
      have htk : ds.take (i + 1) = ds.take i ++ [d] := by rw [List.take_add_one, hd']; rfl
      refine ⟨t, _, rfl, SqT.of upd_same, rfl, _, _, rfl, _, _, rfl, rfl, ?_⟩
      refine ⟨_, rfl, a, _, dx, _, _, rfl, haG, cS, nA "own_woken" (by decide +kernel), rfl, D4, rfl, .inl ⟨_, .inl hkvG⟩, ?_⟩
      refine ⟨_, rfl, pr, _, dz, _, _, rfl, hprG, cP, nP "when" (by decide +kernel), rfl, _, rfl, kvw, Sum.inr d.line.wh, hkvG, rfl, by omega, fun v hv => ?_, fun hn => ?_⟩
      · refine ⟨⟨_, _, _, _, _, _, _, rfl⟩, fun c u hc e => st1 _ _ (bG _ _ hc e), kvw, hkvG, by omega, fun k => ?_⟩
        rw [htk, wk_snoc, ← hval]
        by_cases ek : d.line.wh = k
        · rw [← ek, hv]
        · rw [if_neg ek]
          cases valV kvw (Sum.inr k) <;> rfl
      · refine ⟨⟨_, _, _, _, _, _, _, rfl⟩, fun c u hc e => (upd_ne hc).trans (st1 _ _ (bG _ _ hc e)), _, upd_same, ?_, fun k => ?_⟩
        · have hany : (kvw.any fun kv => decide (kv.1 = Sum.inr d.line.wh)) = false := by rw [valV_any, hn]; rfl
          unfold putK
          rw [hany, if_neg Bool.false_ne_true, List.length_append]
          simp only [List.length_cons, List.length_nil]
          omega
        · rw [htk, wk_snoc, ← hval]
          by_cases ek : d.line.wh = k
          · rw [← ek, hn, valV_put, if_pos rfl, if_pos rfl, List.length_take, Nat.min_eq_left (Nat.le_of_lt hil)]
          · rw [valV_put, if_neg (fun z => ek (Sum.inr.inj z).symm), if_neg ek]
            cases valV kvw (Sum.inr k) <;> rfl
  · rintro σ G ⟨_, bG, kvw, hkv, _, hval⟩
    rw [List.length_map, hlp, List.take_of_length_le (Nat.le_refl _)] at hval
    have nD4H : H D4 = none := by
      cases z : H D4 with
      | none => rfl
      | some u =>
        have := b6 _ _ haD4 (s5 _ _ (bH4 _ _ haD4 (bH2 _ _ haD4 z)))
        rw [nD4] at this
        cases this
    have n1 : D1 ≠ a := ne_of hD1 (s1 _ _ ha) (by intro z; cases z)
    have n2 : D2 ≠ a := ne_of hD2 (s3 _ _ ha2) (by intro z; cases z)
    have n3 : D3 ≠ a := ne_of hD3 (s5 _ _ ha4) (by intro z; cases z)
    have g1 := b6 _ _ n1 (s5 _ _ hD14)
    have g2 := b6 _ _ n2 (s5 _ _ hD24)
    have g3 := b6 _ _ n3 hD3
    exact hQ G (fun c u hc e => bG _ _ (ne_of_none e nD4H) (bH8 _ _ hc (bH4 _ _ hc (bH2 _ _ hc e)))) ⟨dx, D1, D2, D3, D4, kvw, bG _ _ (Ne.symm haD4) ha8, bG _ _ (ne_of_none g1 nD4) (b8 _ _ n1 g1), bG _ _ (ne_of_none g2 nD4) (b8 _ _ n2 g2), bG _ _ (ne_of_none g3 nD4) (b8 _ _ n3 g3), hkv, hval⟩
end
end KP

/-! trees: Sum.names, Statement.looked_at; checking: Names.keys_by. -/
namespace KP
open PySem PySem.Spec PyProof.Rows L2 G137 SlX
/-- a part of a sum -/
def PartV (v : V) : Prop := (∃ n, v = .int n) ∨ ∃ x, v = .str x ∧ nameS x = true
theorem PartOk.v {x : Str} {v : V} (h : PartOk x v) : PartV v := by
  rcases h with ⟨_, _, n, _, rfl⟩ | ⟨_, h, rfl⟩
  · exact .inl ⟨n, rfl⟩
  · exact .inr ⟨x, rfl, h⟩
/-- the words of a part that are not it -/
def partN : V → List Str
  | .str x => if x = "it" then [] else [x]
  | _ => []
def lookN : Option V → List Str
  | none => []
  | some v => partN v
def spSmN (K : Frag) : Sp := fun vs H Q _ => ∃ a v, vs = [.ref a] ∧ SumAt K H a v ∧ PartV v ∧ ∀ H' l, Same H H' → H l = none → H' l = some (.lst ((partN v).map V.str)) → Q (.ref l) H'
def spLk (K : Frag) : Sp := fun vs H Q _ => ∃ a n sd, vs = [.ref a] ∧ StAt K H a n sd ∧ (∀ v, sd.tot = some v → PartV v) ∧ ∀ H' l, Same H H' → H l = none → H' l = some (.lst ((lookN sd.tot).map V.str)) → Q (.ref l) H'
def spKBy (K : Frag) : Sp := fun vs H Q _ => ∃ a x rk ks ds, vs = [.ref a, .str x, rk] ∧ NamesAt K H a ks ds ∧ x ∈ ks.map (·.name) ∧ x ≠ "here" ∧ ∀ H' t, Same H H' → H' t = some (.tup [.str x]) → Q (.ref t) H'
section
variable {P : Program} {w : World} {K : Frag} {mg : Str → Option Value} {base : Heap}
theorem sc_Sum_names : FnScope ["self", "part"] ["self"] (defScope m_Sum_names) := ⟨rfl, rfl, rfl, by decide +kernel, rfl, by decide +kernel, by decide +kernel⟩
theorem ok_Sum_names (T : Pr K mg) : MOk P w K mg base 1 (cA K "Sum") "names" ["self"] (spSmN K) := by
  obtain ⟨fd, F⟩ := T.f_Sum_names
  have gIt := T.str "IT" "it" (by decide +kernel)
  have bisinstance := T.fre "isinstance" (by decide +kernel)
  have bstr := T.fre "str" (by decide +kernel)
  refine MOk.of F (T.cls "Sum" (by decide +kernel)) (T.meth "Sum" "names" (by decide +kernel)) sc_Sum_names (fun _ _ _ _ _ _ us hl => match us, hl with | [_], _ => rfl) (fun vs H Q E h => ?_) (fun cdv A outer s H vs Q E hr h => ?_)
  · obtain ⟨_, _, rfl, _⟩ := h; rfl
  refine ⟨_, PSs.nox (pss_one (ps_ret (pe_lc (own := [("part", 1)]) (g := gName 1)  (te := (tVar 1)) rfl sc_Sum_names.nd (pi_tup (pe_fld (pv 0) rfl)) (blkOk_by (own := [("part", 1)]) (N := ["self", "part"]) (sc := defScope m_Sum_names) (by decide +kernel)) (fun _ _ _ _ _ => (pg_name (i := 1) sc_Sum_names.nd rfl (Or.inl rfl))) (fun _ _ _ _ _ => (pts_one (PW.pt (pw_and (pt_val (pe_callB call_isT (by rfl) bisinstance boot_isinstance (pa_cons (pv 1) (pa_cons (pe_bltn (u := .type "str") (v := .ty "str") rfl bstr (by decide +kernel) rfl) pa_nil)))) (pw_and1 (pt_cmpR op_ne (pv 1) (pe_gs (by rfl) gIt) (nomark _))))))) (fun _ _ _ _ _ => (pv 1))))), ?_⟩
  have cS := T.cls "Sum" (by decide +kernel)
  have nA : ∀ f, (("Sum" : Str), f) ∈ gFld → NoAttr K (cA K "Sum") f := T.fld "Sum"
  obtain ⟨a, v, rfl, ⟨dx, t, ha, ht⟩, hv, hQ⟩ := h
  refine ⟨_, rfl, a, _, dx, _, _, rfl, ha, cS, nA "parts" (by decide +kernel), rfl, t, rfl, ⟨_, SqT.of ht⟩, fun D nD => ?_⟩
  refine lc_tup (xs := [v]) (AccP (fun i => if i = 0 then [] else (partN v).map V.str) D H) (acc_start rfl) (fun i G _ p => SqT.of (p.same nD _ _ ht)) (fun i y G hi p => ?_) (fun G p => hQ G D (p.same nD) nD p.1)
  cases i with
  | succ i => simp at hi
  | zero =>
    obtain rfl : v = y := Option.some.inj hi
    refine ⟨rfl, ?_⟩
    rcases hv with ⟨n, rfl⟩ | ⟨x, rfl, hx⟩
    · refine ⟨_, rfl, .int n, "int", "str", rfl, rfl, by decide, _, rfl, ?_⟩
      refine iN rfl ?_
      refine iN rfl ?_
      exact acc_skip p (Same.refl _) rfl
    · refine ⟨_, rfl, .str x, "str", "str", rfl, rfl, by decide, _, rfl, ?_⟩
      refine iY rfl ?_
      refine ⟨_, rfl, rfl, _, rfl, ?_⟩
      by_cases e : x = "it"
      · refine iN (by rw [e]; decide +kernel) ?_
        refine acc_skip p (Same.refl _) ?_
        show (if x = "it" then ([] : List Str) else [x]).map V.str = []
        rw [if_pos e]; rfl
      · refine iY (by rw [decide_eq_false fun z => e (V.str.inj z)]; rfl) ?_
        refine ⟨_, rfl, acc_step p (Same.refl _) (by show 0 < sizeLine; decide) ?_⟩
        show (if x = "it" then ([] : List Str) else [x]).map V.str = [V.str x]
        rw [if_neg e]; rfl
theorem sc_looked_at : FnScope ["self", "found"] ["self"] (defScope m_Statement_looked_at) := ⟨rfl, rfl, rfl, by decide +kernel, rfl, by decide +kernel, by decide +kernel⟩
theorem ok_looked_at (T : Pr K mg) : MOk P w K mg base 2 (cA K "Statement") "looked_at" ["self"] (spLk K) := by
  obtain ⟨fd, F⟩ := T.f_Statement_looked_at
  refine MOk.of F (T.cls "Statement" (by decide +kernel)) (T.meth "Statement" "looked_at" (by decide +kernel)) sc_looked_at (fun _ _ _ _ _ _ us hl => match us, hl with | [_], _ => rfl) (fun vs H Q E h => ?_) (fun cdv A outer s H vs Q E hr h => ?_)
  · obtain ⟨_, _, _, rfl, _⟩ := h; rfl
  refine ⟨_, PSs.nox (pss_cons (ps_set (i := 1) sc_looked_at.nd rfl (Or.inl rfl) (pe_ifExp (pt_cmpR op_isN (pe_fld (pv 0) rfl) pe_non (nomark _)) (pe_lst pa_nil) (pe_methF0 (pe_fld (pv 0) rfl) (ok_Sum_names T) (hr.mono (by decide)))))
    (pss_one (ps_ret (pe_ifExp (pt_cmpR op_isN (pe_fld (pv 0) rfl) pe_non (nomark _)) (pv 1) G137.pe_never)))), ?_⟩
  have cS := T.cls "Statement" (by decide +kernel)
  have nA : ∀ f, (("Statement" : Str), f) ∈ gFld → NoAttr K (cA K "Statement") f := T.fld "Statement"
  obtain ⟨a, n, sd, rfl, ⟨b, o, dx, tv, ha, hb, ho, ht⟩, hv, hQ⟩ := h
  refine ⟨_, rfl, a, _, dx, _, _, rfl, ha, cS, nA "total" (by decide +kernel), rfl, rfl, _, rfl, ?_⟩
  cases et : sd.tot with
  | none =>
    rw [et] at ht hQ
    subst ht
    refine iY rfl ?_
    refine ⟨Nat.zero_le _, fun l nl => ?_⟩
    have u1 : Same H (upd H l (.lst [])) := same_upd nl
    refine ⟨_, rfl, a, _, dx, _, _, rfl, u1 _ _ ha, cS, nA "test" (by decide +kernel), rfl, rfl, _, rfl, ?_⟩
    refine iY rfl ?_
    exact ⟨_, rfl, hQ _ l u1 nl upd_same⟩
  | some v =>
    rw [et] at ht hQ
    obtain ⟨t, rfl, hS⟩ := ht
    refine iN (decide_eq_false fun z => nomatch z) ?_
    obtain ⟨dz, tt, hs1, hs2⟩ := id hS
    refine ⟨_, rfl, a, _, dx, _, _, rfl, ha, cS, nA "total" (by decide +kernel), rfl, t, dz, _, rfl, hs1, rfl, t, v, rfl, hS, hv v et, fun G l u1 nl hl => ?_⟩
    refine ⟨_, rfl, a, _, dx, _, _, rfl, u1 _ _ ha, cS, nA "test" (by decide +kernel), rfl, rfl, _, rfl, ?_⟩
    refine iY rfl ?_
    exact ⟨_, rfl, hQ _ l u1 nl hl⟩
theorem sc_keys_by : FnScope ["self", "word", "round_keys"] ["self", "word", "round_keys"] (defScope m_Names_keys_by) := ⟨rfl, rfl, rfl, by decide +kernel, rfl, by decide +kernel, by decide +kernel⟩
theorem ok_keys_by (T : Pr K mg) : MOk P w K mg base 1 (cA K "Names") "keys_by" ["self", "word", "round_keys"] (spKBy K) := by
  obtain ⟨fd, F⟩ := T.f_Names_keys_by
  have gHere := T.str "HERE" "here" (by decide +kernel)
  refine MOk.of F (T.cls "Names" (by decide +kernel)) (T.meth "Names" "keys_by" (by decide +kernel)) sc_keys_by (fun _ _ _ _ _ _ us hl => match us, hl with | [_, _, _], _ => rfl) (fun vs H Q E h => ?_) (fun cdv A outer s H vs Q E hr h => ?_)
  · obtain ⟨_, _, _, _, _, rfl, _⟩ := h; rfl
  have hu : (A.deeper (envOfC "Names.keys_by" (defScope m_Names_keys_by) s.heap.objs.size (He.ma K (He.ga K "Names") "keys_by") cdv)).units + 1 < cLine := by have := hr.un; omega
  refine ⟨_, PSs.nox (pss_cons (ps_if (pt_cmpR op_eq (pv 1) (pe_gs (by rfl) gHere) (nomark _))
      (pss_one (ps_ret (pv 2)))
      pss_nil)
    (pss_one (ps_ret (pe_ifExp (pt_cmp (pc_din hu (pv 1) (pe_fld (pv 0) rfl))) (pe_tup (pa_cons (pv 1) pa_nil)) (pe_tup pa_nil))))), ?_⟩
  have cS := T.cls "Names" (by decide +kernel)
  have nA : ∀ f, (("Names" : Str), f) ∈ gFld → NoAttr K (cA K "Names") f := T.fld "Names"
  obtain ⟨a, x, rk, ks, ds, rfl, ⟨dx, x1, x2, x3, x4, kvw, ha, h1, h2, h3, h4, h5⟩, hx, hne, hQ⟩ := h
  refine ⟨_, rfl, rfl, _, rfl, ?_⟩
  refine iN (decide_eq_false fun z => hne (V.str.inj z)) ?_
  refine ⟨_, rfl, _, rfl, a, _, dx, _, _, rfl, ha, cS, nA "own_keys" (by decide +kernel), rfl, x1, _, rfl, DGet.k (k := Sum.inr x) h1, _, rfl, ?_⟩
  refine iY ?_ ?_
  · rw [← valV_any, mkD_any]
    refine decide_eq_true ?_
    unfold kmay
    rw [List.map_map]
    exact hx
  refine ⟨_, rfl, by show 1 ≤ sizeLine; decide, fun t nt => hQ _ t (same_upd nt) upd_same⟩
end
end KP

/-! checking: Names.is_named, is_downward of flat statements. -/
namespace KP
open PySem PySem.Spec PyProof.Rows L2 G137 SlX
def flatW : List Str := ["set", "add", "ask", "try", "say", "refuse"]
structure NamedOk (ks : List KeyR) (ds : List DeedD) (sd : StD) : Prop where
  wd : sd.word ∈ flatW
  tot : ∀ v, sd.tot = some v → PartV v
  tgt : sd.word = "ask" ∨ sd.word = "try" → sd.target ∈ ds.map fun d => d.line.name
  lk : ∀ x ∈ lookN sd.tot, x ∈ ks.map (·.name) ∧ x ≠ "here" ∧ nameS x = true
  ky : sd.word = "set" ∨ sd.word = "add" → sd.key ∈ ks.map (·.name) ∧ sd.key ≠ "here" ∧ nameS sd.key = true
def spNmd (K : Frag) : Sp := fun vs H Q _ => ∃ a st rk ks ds n sd, vs = [.ref a, .ref st, rk] ∧ NamesAt K H a ks ds ∧ StAt K H st n sd ∧ NamedOk ks ds sd ∧ ∀ H', Same H H' → Q (.bl true) H'
theorem ite_join {c : Bool} {A B R : Prop} (h1 : c = true → R → A) (h2 : c = false → R → B) (h : R) : if c = true then A else B := by
  cases c with
  | true => rw [if_pos rfl]; exact h1 rfl h
  | false => rw [if_neg Bool.false_ne_true]; exact h2 rfl h
theorem ite_joinR {c : Bool} {A B : Prop} (Pre : Addr → Hp → Prop) {R : Addr → Hp → Prop} (h1 : c = true → (∀ l H, Pre l H → R l H) → A) (h2 : c = false → (∀ l H, Pre l H → R l H) → B) (h : ∀ l H, Pre l H → R l H) : if c = true then A else B := by
  cases c with
  | true => rw [if_pos rfl]; exact h1 rfl h
  | false => rw [if_neg Bool.false_ne_true]; exact h2 rfl h
theorem inV_dec (x : Str) (ns : List Str) (vs : List V) (h : ns.map V.str = vs) : inV (.str x) vs = decide (x ∈ ns) := by rw [← h]; exact inV_str x ns
/-- the lists of one text each are not () -/
theorem nil_notin (ws : List Str) : (ws.map fun x => PyData.tuple [.str x]).any (fun z => PyData.eqv z (.tuple [])) = false := by
  rw [List.any_map, List.any_eq_false]
  intro x _ z
  have z' : PyData.eqv (.tuple [.str x]) (.tuple []) = true := z
  simp [PyData.eqv, PyData.eqvAll] at z'
theorem tups_dp {K : Frag} {H : Hp} : ∀ {ts : List Addr} {ws : List Str}, Paired (fun t x => H t = some (.tup [.str x])) ts ws → DpAll K H (ts.map V.ref) (ws.map fun x => PyData.tuple [.str x])
  | _, _, .nil => .nil
  | _, _, .cons h t => .cons (.tup (SqT.of h) (.cons (.str _) .nil)) (tups_dp t)
section
variable {P : Program} {w : World} {K : Frag} {mg : Str → Option Value} {base : Heap}
theorem sc_is_named : FnScope ["self", "statement", "round_keys", "words", "word", "dropped", "key"] ["self", "statement", "round_keys"] (defScope m_Names_is_named) := ⟨rfl, rfl, rfl, by decide +kernel, rfl, by decide +kernel, by decide +kernel⟩
theorem ok_is_named (T : Pr K mg) : MOk P w K mg base 3 (cA K "Names") "is_named" ["self", "statement", "round_keys"] (spNmd K) := by
  obtain ⟨fd, F⟩ := T.f_Names_is_named
  have gAsk := T.str "ASK" "ask" (by decide +kernel)
  have gTry := T.str "TRY" "try" (by decide +kernel)
  have gEach := T.str "EACH" "each" (by decide +kernel)
  have gSet := T.str "SET" "set" (by decide +kernel)
  have gAdd := T.str "ADD" "add" (by decide +kernel)
  have gDrop := T.str "DROP" "drop" (by decide +kernel)
  have ball := T.fre "all" (by decide +kernel)
  refine MOk.of F (T.cls "Names" (by decide +kernel)) (T.meth "Names" "is_named" (by decide +kernel)) sc_is_named (fun _ _ _ _ _ _ us hl => match us, hl with | [_, _, _], _ => rfl) (fun vs H Q E h => ?_) (fun cdv A outer s H vs Q E hr h => ?_)
  · obtain ⟨_, _, _, _, _, _, _, rfl, _⟩ := h; rfl
  have hu : (A.deeper (envOfC "Names.is_named" (defScope m_Names_is_named) s.heap.objs.size (He.ma K (He.ga K "Names") "is_named") cdv)).units + 65 < cLine := by have := hr.un; omega
  have hu1 : (A.deeper (envOfC "Names.is_named" (defScope m_Names_is_named) s.heap.objs.size (He.ma K (He.ga K "Names") "is_named") cdv)).units + 1 < cLine := by omega
  have hu64 : (A.deeper (envOfC "Names.is_named" (defScope m_Names_is_named) s.heap.objs.size (He.ma K (He.ga K "Names") "is_named") cdv)).units + 64 < cLine := by omega
  refine ⟨_, PSs.nox (pss_cons (ps_if (pt_cmpR op_in_seq (pe_fld (pv 1) rfl) (pe_tup (pa_cons (pe_gs (by rfl) gAsk) (pa_cons (pe_gs (by rfl) gTry) pa_nil))) (by rfl))
      (pss_one (ps_if (pt_cmp (pc_dnotin hu1 (pe_fld (pv 1) rfl) (pe_fld (pv 0) rfl)))
      (pss_one (ps_ret pe_bl))
      pss_nil))
      (pss_one (ps_if (PW.pt (pw_and (pt_cmpR op_eq (pe_fld (pv 1) rfl) (pe_gs (by rfl) gEach) (nomark _)) (pw_and1 G137.pt_never)))
      (pss_one (ps_ret pe_bl))
      pss_nil)))
    (pss_cons (ps_set (i := 3) sc_is_named.nd rfl (Or.inl rfl) (pe_methF0 (pv 1) (ok_looked_at T) (hr.mono (by decide))))
    (pss_cons (ps_if (pt_cmpR op_in_seq (pe_fld (pv 1) rfl) (pe_tup (pa_cons (pe_gs (by rfl) gSet) (pa_cons (pe_gs (by rfl) gAdd) (pa_cons (pe_gs (by rfl) gDrop) pa_nil)))) (by rfl))
      (pss_one (ps_set (i := 3) sc_is_named.nd rfl (Or.inl rfl) (pe_lst (StX.pa_star (pv 3) (pa_cons (pe_fld (pv 1) rfl) pa_nil)))))
      pss_nil)
    (pss_cons (ps_if (pt_cmpR (op_inD hu) (pe_tup pa_nil) (pe_lc (own := [("word", 4)]) (g := gName 4) (tt := tYes) (te := tMeth (cA K "Names") "keys_by" (spKBy K) [] E0 (tVar 0) (tCons (tVar 4) (tCons (tVar 2) tNil))) rfl sc_is_named.nd (pi_list (pv 3)) (blkOk_by (own := [("word", 4)]) (N := ["self", "statement", "round_keys", "words", "word", "dropped", "key"]) (sc := defScope m_Names_is_named) (by decide +kernel)) (fun _ _ _ _ _ => (pg_name (i := 4) sc_is_named.nd rfl (Or.inl rfl))) (fun _ _ _ _ _ => pts_nil) (fun _ _ _ _ _ => (pe_methF (pv 0) (ok_keys_by T) (hr.mono (by decide)) (pa_cons (pv 4) (pa_cons (pv 2) pa_nil))))) (by rfl))
      (pss_one (ps_ret pe_bl))
      pss_nil)
    (pss_cons (ps_set (i := 5) sc_is_named.nd rfl (Or.inl rfl) (pe_ifExp (pt_cmpR op_eq (pe_fld (pv 1) rfl) (pe_gs (by rfl) gDrop) (nomark _)) G137.pe_never (pe_tup pa_nil)))
    (pss_one (ps_ret (pe_callB (cr_all rfl) (by rfl) ball (by decide +kernel) (pa_cons (pe_lc (own := [("key", 6)]) (g := gName 6) (tt := tYes) (te := fun _ _ _ => False) rfl sc_is_named.nd (pi_tup (pv 5)) (blkOk_by (own := [("key", 6)]) (N := ["self", "statement", "round_keys", "words", "word", "dropped", "key"]) (sc := defScope m_Names_is_named) (by decide +kernel)) (fun _ _ _ _ _ => (pg_name (i := 6) sc_is_named.nd rfl (Or.inl rfl))) (fun _ _ _ _ _ => pts_nil) (fun _ _ _ _ _ => G137.pe_never)) pa_nil))))))))), ?_⟩
  have cN := T.cls "Names" (by decide +kernel)
  have nN : ∀ f, (("Names" : Str), f) ∈ gFld → NoAttr K (cA K "Names") f := T.fld "Names"
  have cS := T.cls "Statement" (by decide +kernel)
  have nS : ∀ f, (("Statement" : Str), f) ∈ gFld → NoAttr K (cA K "Statement") f := T.fld "Statement"
  obtain ⟨a, st, rk, ks, ds, n, sd, rfl, hN, hSt, ok, hQ⟩ := h
  obtain ⟨dx, x1, x2, x3, x4, kvw, ha, h1, h2, h3, h4, h5⟩ := id hN
  obtain ⟨b, o, dz, tv, hst, hb, ho, ht⟩ := id hSt
  refine ⟨_, rfl, st, _, dz, _, _, rfl, hst, cS, nS "word" (by decide +kernel), rfl, by show 2 ≤ sizeLine; decide, fun t1 m1 => ?_⟩
  have u1 : Same H (upd H t1 (.tup [.str "ask", .str "try"])) := same_upd m1
  refine ⟨t1, _, rfl, .inr (SqT.of upd_same), rfl, rfl, _, rfl, ?_⟩
  generalize upd H t1 (.tup [.str "ask", .str "try"]) = G1 at u1 ⊢
  have eA : inV (.str sd.word) [.str "ask", .str "try"] = decide (sd.word ∈ (["ask", "try"] : List Str)) := inV_dec _ _ _ rfl
  rw [if_neg Bool.false_ne_true, eA]
  apply ite_join
  · intro hc r
    have hA := of_decide_eq_true hc
    refine ⟨_, rfl, st, _, dz, _, _, rfl, u1 _ _ hst, cS, nS "target" (by decide +kernel), rfl, _, rfl, a, _, dx, _, _, rfl, u1 _ _ ha, cN, nN "own_places" (by decide +kernel), rfl, x3, _, rfl, DGet.k (k := Sum.inr sd.target) (u1 _ _ h3), _, rfl, ?_⟩
    refine iN ?_ ?_
    · rw [← valV_any, mkD_any, dplc_names, decide_eq_true (ok.tgt (by simpa using hA))]
      rfl
    exact r
  · intro hc r
    refine ⟨_, rfl, st, _, dz, _, _, rfl, u1 _ _ hst, cS, nS "word" (by decide +kernel), rfl, rfl, _, rfl, ?_⟩
    refine iN (decide_eq_false fun z => ?_) ?_
    · have := V.str.inj z
      have hw := ok.wd
      rw [this] at hw
      exact absurd hw (by decide +kernel)
    refine iN rfl ?_
    exact r
  refine ⟨_, rfl, st, dz, _, rfl, u1 _ _ hst, rfl, st, n, sd, rfl, hSt.same u1, ok.tot, fun G2 lw u2 nlw hlw => ?_⟩
  have u12 := u1.trans u2
  refine ⟨_, rfl, st, _, dz, _, _, rfl, u12 _ _ hst, cS, nS "word" (by decide +kernel), rfl, by show 3 ≤ sizeLine; decide, fun t2 m2 => ?_⟩
  have u3 := same_upd (o := .tup [.str "set", .str "add", .str "drop"]) m2
  refine ⟨t2, _, rfl, .inr (SqT.of upd_same), rfl, rfl, _, rfl, ?_⟩
  generalize upd G2 t2 (.tup [.str "set", .str "add", .str "drop"]) = G3 at u3 ⊢
  have u13 := u12.trans u3
  have eB : inV (.str sd.word) [.str "set", .str "add", .str "drop"] = decide (sd.word ∈ (["set", "add", "drop"] : List Str)) := inV_dec _ _ _ rfl
  rw [if_neg Bool.false_ne_true, eB]
  apply ite_joinR (fun l G => Same G3 G ∧ ∃ ws : List Str, G l = some (.lst (ws.map V.str)) ∧ ws.length ≤ 2 ∧ ∀ x ∈ ws, x ∈ ks.map (·.name) ∧ x ≠ "here" ∧ nameS x = true)
  · intro hc r
    have hB := of_decide_eq_true hc
    have hk : sd.key ∈ ks.map (·.name) ∧ sd.key ≠ "here" ∧ nameS sd.key = true := by
      refine ok.ky ?_
      rcases List.mem_cons.mp hB with z | hB
      · exact .inl z
      rcases List.mem_cons.mp hB with z | hB
      · exact .inr z
      have z := List.mem_singleton.mp hB
      have hw := ok.wd
      rw [z] at hw
      exact absurd hw (by decide +kernel)
    have hle : (lookN sd.tot).length ≤ 1 := by
      unfold lookN
      cases sd.tot with
      | none => simp
      | some v =>
        unfold partN
        cases v <;> simp
        split <;> simp
    refine ⟨_, rfl, lw, _, rfl, .inr (SqL.of (u3 _ _ hlw)), _, rfl, st, _, dz, _, _, rfl, u13 _ _ hst, cS, nS "key" (by decide +kernel), rfl, ?_, fun l2 nl2 => ?_⟩
    · rw [List.length_append, List.length_map]
      have := sizeLine_big
      simp only [List.length_cons, List.length_nil]
      omega
    have u4 := same_upd (o := .lst ((lookN sd.tot).map V.str ++ [.str sd.key])) nl2
    have hl2 : upd G3 l2 (.lst ((lookN sd.tot).map V.str ++ [.str sd.key])) l2 = _ := upd_same
    generalize upd G3 l2 (.lst ((lookN sd.tot).map V.str ++ [.str sd.key])) = G4 at u4 hl2 ⊢
    refine r l2 G4 ⟨u4, lookN sd.tot ++ [sd.key], by rw [List.map_append]; exact hl2, by rw [List.length_append]; simp only [List.length_cons, List.length_nil]; omega, fun x hx => ?_⟩
    rcases List.mem_append.mp hx with h | h
    · exact ok.lk x h
    · rw [List.mem_singleton.mp h]; exact hk
  · intro hc r
    have hle : (lookN sd.tot).length ≤ 1 := by
      unfold lookN
      cases sd.tot with
      | none => simp
      | some v =>
        unfold partN
        cases v <;> simp
        split <;> simp
    exact r lw G3 ⟨Same.refl _, lookN sd.tot, u3 _ _ hlw, by omega, ok.lk⟩
  rintro lw2 G4 ⟨u4, ws, hws, hwl, hwo⟩
  have u14 := u13.trans u4
  have hN4 := hN.same u14
  refine ⟨by show 0 ≤ sizeLine; decide, fun e1 ne1 => ?_⟩
  have v5 := same_upd (o := .tup []) ne1
  refine ⟨_, rfl, lw2, rfl, ⟨_, SqL.of (v5 _ _ hws)⟩, fun D nD => ?_⟩
  generalize hG5 : upd G4 e1 (.tup []) = G5 at v5 nD ⊢
  have he1 : G5 e1 = some (.tup []) := by rw [← hG5]; exact upd_same
  clear hG5
  have u15 := u14.trans v5
  refine lc_list (xs := ws.map V.str) (fun i G => KeepD D G5 G ∧ ∃ ts : List Addr, G D = some (.lst (ts.map V.ref)) ∧ Paired (fun t x => G t = some (.tup [.str x])) ts (ws.take i)) ⟨fun b o hb e => (upd_ne hb).trans e, [], upd_same, .nil⟩ (fun i G _ p => SqL.of (p.1.same nD _ _ (v5 _ _ hws))) (fun i v G hi p => ?_) (fun G6 p => ?_)
  · rw [List.getElem?_map] at hi
    cases et : ws[i]? with
    | none => rw [et] at hi; cases hi
    | some x =>
      rw [et] at hi
      obtain rfl : V.str x = v := Option.some.inj hi
      obtain ⟨kp, ts, hD, hts⟩ := p
      obtain ⟨w1, w2, w3⟩ := hwo x (List.mem_of_getElem? et)
      have sG := u15.trans (kp.same nD)
      refine ⟨rfl, ?_⟩
      dsimp only [tYes]
      rw [if_pos rfl]
      refine ⟨_, rfl, a, dx, _, rfl, sG _ _ ha, rfl, _, rfl, _, rfl, a, x, rk, ks, ds, rfl, hN.same sG, w1, w2, fun G7 t s7 ht => ?_⟩
      have hlt : ts.length = (ws.take i).length := Paired.length hts
      refine ⟨_, s7 _ _ hD, ?_, fun b o hb e => (upd_ne hb).trans (s7 _ _ (kp b o hb e)), ts ++ [t], ?_, ?_⟩
      · rw [List.length_map, hlt, List.length_take]
        have := sizeLine_big
        have := Nat.min_le_right i ws.length
        omega
      · rw [upd_same, List.map_append]; rfl
      · rw [List.take_add_one, et]
        have hDt : ∀ c xs, G7 c = some (.tup xs) → c ≠ D := fun c xs e => ne_of e (s7 _ _ hD) (by intro z; cases z)
        exact Paired.snoc (R := fun t x => upd G7 D _ t = some (.tup [.str x])) ((upd_ne (hDt _ _ ht)).trans ht) (Paired.imp (fun c x h => (upd_ne (hDt _ _ (s7 _ _ h))).trans (s7 _ _ h)) hts)
  obtain ⟨kp, ts, hD, hts⟩ := p
  rw [List.length_map, List.take_of_length_le (Nat.le_refl _)] at hts
  have s6 := kp.same nD
  have u16 := u15.trans s6
  refine ⟨.tuple [], ws.map fun x => .tuple [.str x], .tup (SqT.of (s6 _ _ he1)) .nil, .lst (SqL.of hD) (tups_dp hts), by decide +kernel, shaped_list (n := 1) (fun d hd => ?_) (by decide), _, rfl, ?_⟩
  · obtain ⟨x, hx, rfl⟩ := List.mem_map.mp hd
    have hl := nameS_lay (hwo x hx).2.2
    constructor
    · simp only [PyData.canLay0, PyData.canLayAll0, Bool.and_true] at hl ⊢
      exact hl
    · simp [PyData.depth, PyData.depthAll]
  refine iN (nil_notin ws) ?_
  refine ⟨_, rfl, st, _, dz, _, _, rfl, u16 _ _ hst, cS, nS "word" (by decide +kernel), rfl, rfl, _, rfl, ?_⟩
  refine iN (decide_eq_false fun z => ?_) ?_
  · have := V.str.inj z
    have hw := ok.wd
    rw [this] at hw
    exact absurd hw (by decide +kernel)
  refine ⟨by show 0 ≤ sizeLine; decide, fun e2 ne2 => ?_⟩
  have v7 := same_upd (o := .tup []) ne2
  refine ⟨_, rfl, e2, rfl, ⟨_, SqT.of upd_same⟩, fun D2 nD2 => ?_⟩
  refine lc_tup (xs := []) (te := fun _ _ _ => False) (AccP (fun i => []) D2 (upd G6 e2 (.tup []))) (acc_start rfl) (fun i G _ p => SqT.of (p.same nD2 _ _ upd_same)) (fun i v G hi p => nomatch hi) (fun G8 p8 => ?_)
  exact ⟨D2, [], rfl, SqL.of p8.1, hQ G8 ((u16.trans v7).trans (p8.same nD2))⟩
end
end KP

/-! checking: Names.is_downward of flat statements. -/
namespace KP
open PySem PySem.Spec PyProof.Rows L2 G137 SlX
structure DownOk (ks : List KeyR) (ds : List DeedD) (place : Nat) (sd : StD) : Prop where
  tgt : sd.word = "ask" ∨ sd.word = "try" → ∃ j : Nat, valV (mkD (dplc 0 ds)) (Sum.inr sd.target) = some (.int (j : Int)) ∧ place < j
  ky : sd.word = "set" ∨ sd.word = "add" → sd.key ∈ ks.map (·.name) ∧ sd.key ≠ "here" ∧ (wk ds sd.key = none ∨ ∃ j : Nat, wk ds sd.key = some (.int (j : Int)) ∧ place < j)
def spDwn (K : Frag) : Sp := fun vs H Q _ => ∃ a st rk ks ds n sd place, vs = [.ref a, .ref st, rk, .int ((place : Nat) : Int)] ∧ NamesAt K H a ks ds ∧ StAt K H st n sd ∧ DownOk ks ds place sd ∧ ∀ H', Same H H' → Q (.bl true) H'
section
variable {P : Program} {w : World} {K : Frag} {mg : Str → Option Value} {base : Heap}
theorem sc_is_downward : FnScope ["self", "statement", "round_keys", "place", "keys", "key"] ["self", "statement", "round_keys", "place"] (defScope m_Names_is_downward) := ⟨rfl, rfl, rfl, by decide +kernel, rfl, by decide +kernel, by decide +kernel⟩
theorem ok_is_downward (T : Pr K mg) : MOk P w K mg base 2 (cA K "Names") "is_downward" ["self", "statement", "round_keys", "place"] (spDwn K) := by
  obtain ⟨fd, F⟩ := T.f_Names_is_downward
  have gAsk := T.str "ASK" "ask" (by decide +kernel)
  have gTry := T.str "TRY" "try" (by decide +kernel)
  have gSet := T.str "SET" "set" (by decide +kernel)
  have gAdd := T.str "ADD" "add" (by decide +kernel)
  have ball := T.fre "all" (by decide +kernel)
  refine MOk.of F (T.cls "Names" (by decide +kernel)) (T.meth "Names" "is_downward" (by decide +kernel)) sc_is_downward (fun _ _ _ _ _ _ us hl => match us, hl with | [_, _, _, _], _ => rfl) (fun vs H Q E h => ?_) (fun cdv A outer s H vs Q E hr h => ?_)
  · obtain ⟨_, _, _, _, _, _, _, _, rfl, _⟩ := h; rfl
  have hu : (A.deeper (envOfC "Names.is_downward" (defScope m_Names_is_downward) s.heap.objs.size (He.ma K (He.ga K "Names") "is_downward") cdv)).units + 65 < cLine := by have := hr.un; omega
  have hu1 : (A.deeper (envOfC "Names.is_downward" (defScope m_Names_is_downward) s.heap.objs.size (He.ma K (He.ga K "Names") "is_downward") cdv)).units + 1 < cLine := by omega
  have hu64 : (A.deeper (envOfC "Names.is_downward" (defScope m_Names_is_downward) s.heap.objs.size (He.ma K (He.ga K "Names") "is_downward") cdv)).units + 64 < cLine := by omega
  refine ⟨_, PSs.nox (pss_cons (ps_if (pt_cmpR op_in_seq (pe_fld (pv 1) rfl) (pe_tup (pa_cons (pe_gs (by rfl) gAsk) (pa_cons (pe_gs (by rfl) gTry) pa_nil))) (by rfl))
      (pss_one (ps_ret (pe_cmpR op_gt (pe_dget hu1 (pe_fld (pv 0) rfl) (pe_fld (pv 1) rfl) (fun _ _ => rfl)) (pv 3) (nomark _))))
      pss_nil)
    (pss_cons (ps_if (pt_cmpR op_notIn_seq (pe_fld (pv 1) rfl) (pe_tup (pa_cons (pe_gs (by rfl) gSet) (pa_cons (pe_gs (by rfl) gAdd) pa_nil))) (by rfl))
      (pss_one (ps_ret pe_bl))
      pss_nil)
    (pss_cons (ps_set (i := 4) sc_is_downward.nd rfl (Or.inl rfl) (pe_methF (pv 0) (ok_keys_by T) (hr.mono (by decide)) (pa_cons (pe_fld (pv 1) rfl) (pa_cons (pv 2) pa_nil))))
    (pss_one (ps_ret (pe_callB (cr_all rfl) (by rfl) ball (by decide +kernel) (pa_cons (pe_lc (own := [("key", 5)]) (g := gName 5) (tt := tYes) (te := tOp (rI0 fun i j => .bl (decide (j < i))) (tDGet2 (tFld K (tVar 0) "own_woken") (tVar 5) (tOp (rI0 fun i j => .int (i + j)) (tVar 3) (tC (.int 1)))) (tVar 3)) rfl sc_is_downward.nd (pi_tup (pv 4)) (blkOk_by (own := [("key", 5)]) (N := ["self", "statement", "round_keys", "place", "keys", "key"]) (sc := defScope m_Names_is_downward) (by decide +kernel)) (fun _ _ _ _ _ => (pg_name (i := 5) sc_is_downward.nd rfl (Or.inl rfl))) (fun _ _ _ _ _ => pts_nil) (fun _ _ _ _ _ => (pe_cmpR op_gt (pe_dget2 hu1 (pe_fld (pv 0) rfl) (pv 5) (pe_op op_add (pv 3) pe_int) ⟨rfl, rfl, rfl, rfl⟩) (pv 3) (nomark _)))) pa_nil))))))), ?_⟩
  have cN := T.cls "Names" (by decide +kernel)
  have nN : ∀ f, (("Names" : Str), f) ∈ gFld → NoAttr K (cA K "Names") f := T.fld "Names"
  have cS := T.cls "Statement" (by decide +kernel)
  have nS : ∀ f, (("Statement" : Str), f) ∈ gFld → NoAttr K (cA K "Statement") f := T.fld "Statement"
  obtain ⟨a, st, rk, ks, ds, n, sd, place, rfl, hN, hSt, ok, hQ⟩ := h
  obtain ⟨dx, x1, x2, x3, x4, kvw, ha, h1, h2, h3, h4, h5⟩ := id hN
  obtain ⟨b, o, dz, tv, hst, hb, ho, ht⟩ := id hSt
  refine ⟨_, rfl, st, _, dz, _, _, rfl, hst, cS, nS "word" (by decide +kernel), rfl, by show 2 ≤ sizeLine; decide, fun t1 m1 => ?_⟩
  have u1 : Same H (upd H t1 (.tup [.str "ask", .str "try"])) := same_upd m1
  refine ⟨t1, _, rfl, .inr (SqT.of upd_same), rfl, rfl, _, rfl, ?_⟩
  generalize upd H t1 (.tup [.str "ask", .str "try"]) = G1 at u1 ⊢
  have eA : inV (.str sd.word) [.str "ask", .str "try"] = decide (sd.word ∈ (["ask", "try"] : List Str)) := inV_dec _ _ _ rfl
  rw [if_neg Bool.false_ne_true, eA]
  by_cases hA : sd.word ∈ (["ask", "try"] : List Str)
  · refine iY (decide_eq_true hA) ?_
    obtain ⟨j, hj, hp⟩ := ok.tgt (by simpa using hA)
    refine ⟨_, rfl, a, _, dx, _, _, rfl, u1 _ _ ha, cN, nN "own_places" (by decide +kernel), rfl, _, rfl, st, _, dz, _, _, rfl, u1 _ _ hst, cS, nS "target" (by decide +kernel), rfl, x3, _, rfl, hj ▸ DGet.k (k := Sum.inr sd.target) (u1 _ _ h3), _, rfl, _, _, rfl, rfl, ?_⟩
    show Q (.bl (decide ((place : Int) < (j : Int)))) G1
    rw [decide_eq_true (by omega)]
    exact hQ G1 u1
  refine iN (decide_eq_false hA) ?_
  refine ⟨_, rfl, st, _, dz, _, _, rfl, u1 _ _ hst, cS, nS "word" (by decide +kernel), rfl, by show 2 ≤ sizeLine; decide, fun t2 m2 => ?_⟩
  have u2 := same_upd (o := .tup [.str "set", .str "add"]) m2
  refine ⟨t2, _, rfl, .inr (SqT.of upd_same), rfl, rfl, _, rfl, ?_⟩
  generalize upd G1 t2 (.tup [.str "set", .str "add"]) = G2 at u2 ⊢
  have u12 := u1.trans u2
  have eB : inV (.str sd.word) [.str "set", .str "add"] = decide (sd.word ∈ (["set", "add"] : List Str)) := inV_dec _ _ _ rfl
  rw [if_pos rfl, eB]
  by_cases hB : sd.word ∈ (["set", "add"] : List Str)
  rotate_left
  · refine iY (by rw [decide_eq_false hB]; rfl) ?_
    exact hQ G2 u12
  refine iN (by rw [decide_eq_true hB]; rfl) ?_
  obtain ⟨k1, k2, k3⟩ := ok.ky (by simpa using hB)
  refine ⟨_, rfl, a, dx, _, rfl, u12 _ _ ha, rfl, _, rfl, st, _, dz, _, _, rfl, u12 _ _ hst, cS, nS "key" (by decide +kernel), rfl, _, rfl, a, sd.key, rk, ks, ds, rfl, hN.same u12, k1, k2, fun G3 t u3 ht => ?_⟩
  have u13 := u12.trans u3
  refine ⟨_, rfl, t, rfl, ⟨_, SqT.of ht⟩, fun D nD => ?_⟩
  refine lc_tup (xs := [.str sd.key]) (AccP (fun i => if i = 0 then [] else [.bl true]) D G3) (acc_start rfl) (fun i G _ p => SqT.of (p.same nD _ _ ht)) (fun i v G hi p => ?_) (fun G p => ?_)
  · cases i with
    | succ i => simp at hi
    | zero =>
      obtain rfl : V.str sd.key = v := Option.some.inj hi
      have uG := u13.trans (p.same nD)
      refine ⟨rfl, ?_⟩
      dsimp only [tYes]
      rw [if_pos rfl]
      refine ⟨_, rfl, a, _, dx, _, _, rfl, uG _ _ ha, cN, nN "own_woken" (by decide +kernel), rfl, x4, rfl, .inl ⟨_, .inl (uG _ _ h4)⟩, _, rfl, _, rfl, _, _, rfl, rfl, _, DGet.k (k := Sum.inr sd.key) (uG _ _ h4), ?_⟩
      rw [h5]
      have hd : ∃ z : Int, (wk ds sd.key).getD (.int ((place : Int) + 1)) = .int z ∧ (place : Int) < z := by
        rcases k3 with e | ⟨j, e, hp⟩
        · rw [e]; exact ⟨_, rfl, by omega⟩
        · rw [e]; exact ⟨_, rfl, by omega⟩
      obtain ⟨z, e1, e2⟩ := hd
      refine ⟨_, rfl, z, _, e1, rfl, ?_⟩
      dsimp only
      rw [decide_eq_true e2]
      exact acc_step p (Same.refl _) (by show 0 < sizeLine; decide) rfl
  · exact ⟨D, [true], rfl, SqL.of p.1, hQ G (u13.trans (p.same nD))⟩
end
end KP

/-! The generator method with_rounds over flat statements. -/
namespace KP
open PySem PySem.Spec PyProof.Rows L2 G137 GenW
abbrev sWR : Stmt := m_Names_with_rounds
abbrev nWR : List Str := ["self", "statements", "round_keys", "statement", "inner"]
theorem scWR : GScope nWR ["self", "statements", "round_keys"] (defScope sWR) := ⟨rfl, rfl, rfl, by decide +kernel, rfl, by decide +kernel, by decide +kernel⟩
theorem ncWR : NoCells (defScope sWR) := fun n => by rfl
def forTg : Stmt → Expr
  | .For t _ _ _ _ => t
  | _ => .Name "" ⟨0, 0, 0, 0⟩
def forIt : Stmt → Expr
  | .For _ i _ _ _ => i
  | _ => .Name "" ⟨0, 0, 0, 0⟩
def forBd : Stmt → List Stmt
  | .For _ _ b _ _ => b
  | _ => []
def forPs : Stmt → Pos
  | .For _ _ _ _ p => p
  | _ => ⟨0, 0, 0, 0⟩
abbrev wrFor : Stmt := (defBody sWR).getD 0 (.Pass ⟨0, 0, 0, 0⟩)
theorem wr_eq : defBody sWR = [.For (forTg wrFor) (forIt wrFor) (forBd wrFor) [] (forPs wrFor)] := by rfl
/-- a statement without a block, not an each -/
def StF (Cst : Addr) (H : Hp) (a : Addr) : Prop := ∃ dx fs b o x, H a = some (.ins Cst dx fs) ∧ fs.lookup ("word" : Str) = some (V.str x) ∧ x ≠ ("each" : Str) ∧ fs.lookup ("block" : Str) = some (V.ref b) ∧ H b = some (.lst []) ∧ fs.lookup ("other" : Str) = some (V.ref o) ∧ H o = some (.lst [])
theorem StF.same {Cst : Addr} {H H' : Hp} {a : Addr} (h : StF Cst H a) (s : Same H H') : StF Cst H' a := by
  obtain ⟨dx, fs, b, o, x, h1, h2, h3, h4, h5, h6, h7⟩ := h
  exact ⟨dx, fs, b, o, x, s _ _ h1, h2, h3, h4, s _ _ h5, h6, s _ _ h7⟩
def NmAt (Cn : Addr) (H : Hp) (a : Addr) : Prop := ∃ dx fs, H a = some (.ins Cn dx fs) ∧ fs.lookup ("with_rounds" : Str) = none
/-- with no statement -/
def spW0 (Cn : Addr) : SpI := fun vs H R => ∃ self l rk, vs = [.ref self, .ref l, rk] ∧ H l = some (.lst []) ∧ R [] H
def itemsW (rk : V) (as : List Addr) : List Item := as.map fun a => (.ref a, rk, True)
def spW (Cn Cst : Addr) : SpI := fun vs H R => ∃ self l rk as, vs = [.ref self, .ref l, rk] ∧ NmAt Cn H self ∧ H l = some (.lst (as.map V.ref)) ∧ (∀ a ∈ as, StF Cst H a) ∧ R (itemsW rk as) H
section
variable {P : Program} {w : World} {K : PySem.W.Frag} {mg : Str → Option Value} {base : Heap} {f Cn Cst : Addr} {fd : FuncData} {cdv : Value} {Aw : Around} {outer : List Env} {L a : Addr} {g : Nat} {go : Obj}
abbrev eWR (L f : Addr) (cdv : Value) : Env := envOfC "Names.with_rounds" (defScope sWR) L f cdv
abbrev xWR (P : Program) (w : World) (K : PySem.W.Frag) (mg : Str → Option Value) (base : Heap) (f : Addr) (cdv : Value) (Aw : Around) (outer : List Env) (L : Addr) (s : Shared) (H : Hp) : Cx := gX P w K mg base nWR "Names.with_rounds" (defScope sWR) f cdv Aw outer L (cutS L s) H
abbrev lpWR (L f : Addr) (cdv : Value) (it : Addr) : Code := .forLoop (forTg wrFor) (.ref it) (forBd wrFor) [] (eWR L f cdv)
abbrev fsWR (L f : Addr) (cdv : Value) (p : Pos) : List Frame := [.ret (backK (eWR L f cdv) (fun fl => match fl with | .next => (execs [] (eWR L f cdv)).wrap genK (genJ (eWR L f cdv)) id id | fl => genK fl) (genJ (eWR L f cdv)) id id) none false [] (.func (defBody sWR) (eWR L f cdv)) p []]
theorem over_lp {it : Addr} {p : Pos} : Aw.over (lpWR L f cdv it) (fsWR L f cdv p) = Aw.deeper (eWR L f cdv) := (over_loop rfl rfl).trans over_func
/-- the loop's end: the generator's end -/
theorem wr_end {it : Addr} {p : Pos} {H₃ H : Hp} {s₃ s : Shared} {Hg : Hp} {pins : List (Addr × Obj)} {σ : L2.St} (I : Inv (xWR P w K mg base f cdv Aw outer L s₃ H₃) pins σ H s) (hs : Same H₃ H) :
    Sg (model P w) Aw (GPost P w K mg base Aw outer Hg L a g [] H₃ s₃) (lpWR L f cdv it) (.pure (.again (.block [] (eWR L f cdv)))) (fsWR L f cdv p) s := by
  refine sg_block ?_
  exact sg_end (.ok (.ret .none)) ⟨rfl, H, I.os, I.bare, hs, I.base, I.hok⟩
theorem ok_W0 (F : FunD K "with_rounds" "Names.with_rounds" (defArgs sWR) (defBody sWR) (defScope sWR) [] [] f fd) : GFnS P w K mg base 1 f fd ["self", "statements", "round_keys"] (spW0 Cn) := by
  refine gfnS_of (k := 0) F scWR ncWR (fun vs H R h => ?_) (fun cdv vs H R h => ?_)
  · obtain ⟨_, _, _, rfl, _⟩ := h
    rfl
  obtain ⟨self, l, rk, rfl, hl, hR⟩ := h
  refine ⟨[], hR, fun Aw outer L a g go H₃ s₃ G hr hs I => ?_⟩
  rw [wr_eq]
  refine sg_execs_cons (sg_ForB over_func ?_)
  rw [← wr_eq]
  refine wpAny_mono ((pi_list (X := xWR P w K mg base f cdv Aw outer L s₃ H₃) (tg := forTg wrFor) (pv 1)).run _ s₃ _ H₃ (fun J H' => J = Itl K l ∧ H' = H₃) I ⟨_, rfl, l, rfl, ⟨[], .inl (.inl (hs _ _ hl))⟩, rfl, rfl⟩) (fun v s1 h1 => ?_) (fun _ _ z => z.elim)
  refine wpAny_mono h1 (fun itv s2 h2 => ?_) (fun _ _ z => z.elim)
  obtain ⟨it, fp, tn, J, H', rfl, I2, T, st2, f2, rfl, rfl⟩ := h2
  intro p
  refine sg_forLoopB over_lp ?_
  refine wpAny_mono (T.done _ rfl rfl rfl rfl 0 _ s2 _ H' (fun _ _ => False) I2 f2 st2 ⟨[], .inl (.inl (hs _ _ hl)), Nat.le_refl _⟩) (fun r s3 h3 => ?_) (fun _ _ z => z.elim)
  obtain ⟨rfl, I3⟩ := h3
  exact wr_end I3 (Same.refl _)

/-- the loop over flat statements -/
theorem wr_loop (G : Gst base outer L a g go) (hr : Room 3 (Aw.deeper (eWR L f cdv))) (cN : L2.Cls K Cn) (mN : Meth K Cn "with_rounds" f) (cS : L2.Cls K Cst) (nS : ∀ x ∈ (["word", "block", "other"] : List Str), NoAttr K Cst x) (F0 : GFnS P w K mg base 1 f fd ["self", "statements", "round_keys"] (spW0 Cn))
    (hb : Binds K fd ["self", "statements", "round_keys"] []) (gE : ∃ t, mg "EACH" = some (.str "each" t)) {self l : Addr} {rk : V} {as : List Addr} {Hg : Hp} (hN : NmAt Cn Hg self) (hl : Hg l = some (.lst (as.map V.ref))) (hS : ∀ a ∈ as, StF Cst Hg a) {it : Addr} {fp : List Addr} {tn : Nat → Heap → Prop} (T : Turn P w K (forTg wrFor) (Itl K l) fp it tn) (hfp : ∀ b ∈ fp, L ≤ b ∧ b ≠ L ∧ b ≠ a) (p : Pos) :
    ∀ (n i : Nat), i + n = as.length → ∀ (H₃ H : Hp) (s₃ s : Shared) (σ : L2.St), Inv (xWR P w K mg base f cdv Aw outer L s₃ H₃) [(a, go)] σ H s → tn i s.heap → (∀ b ∈ fp, FpOk (xWR P w K mg base f cdv Aw outer L s₃ H₃) [(a, go)] H b) → (∃ x y, σ = [some (.ref self), some (.ref l), some rk, x, y]) → Same Hg H₃ → Same H₃ H →
      Sg (model P w) Aw (GPost P w K mg base Aw outer Hg L a g ((itemsW rk as).drop i) H₃ s₃) (lpWR L f cdv it) ((model P w).den (lpWR L f cdv it)) (fsWR L f cdv p) s := by
  intro n
  induction n with
  | zero =>
    intro i hi H₃ H s₃ s σ I st fpk hσ s1 s2
    have hd : (itemsW rk as).drop i = [] := List.drop_eq_nil_of_le (by simp [itemsW]; omega)
    rw [hd]
    refine sg_forLoopB over_lp ?_
    refine wpAny_mono (T.done _ rfl rfl rfl rfl i _ s _ H (fun _ _ => False) I fpk st ⟨as.map V.ref, .inl (.inl (s2 _ _ (s1 _ _ hl))), by simp; omega⟩) (fun r s3 h3 => ?_) (fun _ _ z => z.elim)
    obtain ⟨rfl, I3⟩ := h3
    exact wr_end I3 s2
  | succ n ih =>
    intro i hi H₃ H s₃ s σ I st fpk hσ s1 s2
    obtain ⟨x0, y0, rfl⟩ := hσ
    have hlt : i < as.length := by omega
    obtain ⟨b, hb'⟩ : ∃ b, as[i]? = some b := ⟨_, List.getElem?_eq_getElem hlt⟩
    have hd : (itemsW rk as).drop i = (.ref b, rk, True) :: (itemsW rk as).drop (i + 1) := by
      rw [List.drop_eq_getElem_cons (by simp [itemsW]; omega)]
      congr 1
      simp only [itemsW, List.getElem_map]
      rw [List.getElem?_eq_getElem hlt] at hb'
      rw [Option.some.inj hb']
    rw [hd]
    have hlH : SqL K H l (as.map V.ref) := .inl (.inl (s2 _ _ (s1 _ _ hl)))
    refine sg_forLoopB over_lp ?_
    refine wpAny_mono (T.item _ rfl rfl rfl rfl i _ s _ H (fun _ _ => False) I fpk st ⟨as.map V.ref, .ref b, hlH, by simp [hb']⟩) (fun r s3 h3 => ?_) (fun _ _ z => z.elim)
    obtain ⟨u, rfl, h4⟩ := h3
    refine wpAny_mono h4 (fun _ s4 h5 => ?_) (fun _ _ z => z.elim)
    obtain ⟨x, H4, I4, rx, ⟨rfl, hx⟩, st4, fr4⟩ := h5
    have ex : x = .ref b := by
      have := hx _ hlH
      simp [hb'] at this
      exact this.symm
    subst ex
    have hf4 : ∀ b ∈ fp, FpOk (xWR P w K mg base f cdv Aw outer L s₃ H₃) [(a, go)] H4 b := fun c hc => ⟨fr4 c hc, (fpk c hc).2⟩
    have I4' := I4.pinned hf4 (T.obj _ _ st4)
    refine wpAny_mono ((pg_name (X := xWR P w K mg base f cdv Aw outer L s₃ H₃) (i := 3) scWR.nd rfl (.inl rfl)).run _ s4 _ H4 _ _ (fun σ' H' => σ' = [some (.ref self), some (.ref l), some rk, some (.ref b), y0] ∧ H' = H4) I4' rx ⟨rfl, rfl⟩) (fun _ s5 h6 => ?_) (fun _ _ z => z.elim)
    obtain ⟨σ5, H5, I5, rfl, rfl⟩ := h6
    refine sg_execs_cons (sg_YieldB over_lp rfl ?_)
    refine wpAny_mono ((pe_tup (X := xWR P w K mg base f cdv Aw outer L s₃ H₃) (pa_cons (pv 3) (pa_cons (pv 2) pa_nil))).run _ s5 _ H5 (fun v H' => ∃ T, v = .ref T ∧ H5 T = none ∧ H' = upd H5 T (.tup [.ref b, rk])) I5 ⟨_, rfl, _, rfl, by show 2 ≤ sizeLine; decide, fun T hT => ⟨T, rfl, hT, rfl⟩⟩) (fun v s6 h7 => ?_) (fun _ _ z => z.elim)
    obtain ⟨x6, H6, I6, r6, TT, rfl, hTT, rfl⟩ := h7
    obtain rfl : v = Value.ref TT := r6
    have s56 : Same H5 (upd H5 TT (.tup [.ref b, rk])) := same_upd hTT
    intro lv k pk hk
    have pin6 : ∀ q ∈ [(a, go)] ++ pinsAt fp s4.heap, s6.heap.get? q.1 = some q.2 ∧ upd H5 TT (.tup [.ref b, rk]) q.1 = none := fun q hq => ⟨(I6.pin q (List.mem_append_right _ hq)).1, (I6.pin q (List.mem_append_right _ hq)).2.1⟩
    have hga := pin6 (a, go) (by simp)
    refine ⟨rfl, TT, _, L :: a :: fp, rfl, ⟨I6.os, I6.bare, s2.trans s56, I6.base, I6.hok⟩, upd_same, G.gen hga.1, by simp, ?_, fun _ H7 s7 wk => hk _ s7 ?_⟩
    · intro c hc
      rcases List.mem_cons.mp hc with rfl | hc
      · obtain ⟨m, ⟨o, es, ep, ho, hd', _⟩, _⟩ := I6.loc
        exact ⟨Nat.le_refl _, I6.free, o, ho, fun v z => by rw [hd'] at z; cases z⟩
      rcases List.mem_cons.mp hc with rfl | hc
      · exact ⟨Nat.le_of_lt G.la, hga.2, go, hga.1, G.nocell⟩
      · obtain ⟨o, ho, hnc⟩ := T.obj _ _ st4 c hc
        have := pin6 (c, o) (List.mem_append_right _ (mem_pinsAt hc ho))
        exact ⟨(hfp c hc).1, this.2, o, this.1, hnc⟩
    have I7 := inv_wake I6 ncWR wk.e0 hr.hd G.fr G.bz wk.sz (fun o eo => (wk.own L (by simp)).2 o eo) (wk.own L (by simp)).1 (fun q hq => ?_)
    rotate_left
    · have h8 := pin6 q hq
      rcases List.mem_append.mp hq with z | z
      · rw [List.mem_singleton.mp z] at h8 ⊢
        exact ⟨(wk.own a (by simp)).2 _ h8.1, (wk.own a (by simp)).1⟩
      · have hm := (of_pinsAt z).1
        exact ⟨(wk.own q.1 (by simp [hm])).2 _ h8.1, (wk.own q.1 (by simp [hm])).1⟩
    obtain ⟨dxb, fsb, bb, oo, xw, hb1, hb2, hb3, hb4, hb5, hb6, hb7⟩ := (hS b (List.mem_of_getElem? hb')).same wk.sub
    obtain ⟨dxs, fss, hn1, hn2⟩ := id hN
    have hn1' := wk.sub _ _ hn1
    refine sg_execs_cons (sg_ps (X := xWR P w K mg base f cdv Aw outer L s7 H7) (ps_set (i := 4) scWR.nd rfl (.inl rfl) (pe_ifExp (pt_cmpR op_eq (pe_fld (pv 3) rfl) (pe_gs (by rfl) gE) (nomark _)) pe_never (pv 2))) (fun _ _ z => z) over_lp I7
      (D := { nx := fun σ' H' => σ' = [some (.ref self), some (.ref l), some rk, some (.ref b), some rk] ∧ H' = H7, rt := fun _ _ => False }) ?_ (fun fl s8 h8 => ?_))
    · refine ⟨_, rfl, b, Cst, dxb, fsb, _, rfl, hb1, cS, nS "word" (by decide), hb2, ?_⟩
      refine ⟨rfl, _, rfl, ?_⟩
      refine iN (decide_eq_false fun e => hb3 (V.str.inj e)) ?_
      exact ⟨_, rfl, rfl, rfl⟩
    cases fl with
    | brk => obtain ⟨_, _, _, q⟩ := h8; exact q.elim
    | cont => obtain ⟨_, _, _, q⟩ := h8; exact q.elim
    | ret v => obtain ⟨_, _, _, _, _, q⟩ := h8; exact q.elim
    | next =>
    obtain ⟨σ8, H8, I8, rfl, rfl⟩ := h8
    have hr1 : Room 1 (Aw.deeper (eWR L f cdv)) := hr.mono (by decide)
    refine sg_execs_cons (sg_ps (X := xWR P w K mg base f cdv Aw outer L s7 H8) (ps_yf0 (pgn_meth (pv 0) cN mN F0 hr1 hb .nil (pa_cons (pe_fld (pv 3) rfl) (pa_cons (pv 4) pa_nil))) hr) (fun _ _ z => z) over_lp I8
      (D := { nx := fun σ' H' => σ' = [some (.ref self), some (.ref l), some rk, some (.ref b), some rk] ∧ Same H8 H', rt := fun _ _ => False }) ?_ (fun fl s9 h9 => ?_))
    · exact ⟨_, rfl, self, dxs, fss, rfl, hn1', hn2, _, rfl, b, Cst, dxb, fsb, _, rfl, hb1, cS, nS "block" (by decide), hb4, _, rfl, self, bb, rk, rfl, hb5, rfl, fun H2 h2 => ⟨rfl, h2⟩⟩
    cases fl with
    | brk => obtain ⟨_, _, _, q⟩ := h9; exact q.elim
    | cont => obtain ⟨_, _, _, q⟩ := h9; exact q.elim
    | ret v => obtain ⟨_, _, _, _, _, q⟩ := h9; exact q.elim
    | next =>
    obtain ⟨σ9, H9, I9, rfl, s9s⟩ := h9
    refine sg_execs_cons (sg_ps (X := xWR P w K mg base f cdv Aw outer L s7 H8) (ps_yf0 (pgn_meth (pv 0) cN mN F0 hr1 hb .nil (pa_cons (pe_fld (pv 3) rfl) (pa_cons (pv 4) pa_nil))) hr) (fun _ _ z => z) over_lp I9
      (D := { nx := fun σ' H' => σ' = [some (.ref self), some (.ref l), some rk, some (.ref b), some rk] ∧ Same H8 H', rt := fun _ _ => False }) ?_ (fun fl s10 h10 => ?_))
    · exact ⟨_, rfl, self, dxs, fss, rfl, s9s _ _ hn1', hn2, _, rfl, b, Cst, dxb, fsb, _, rfl, s9s _ _ hb1, cS, nS "other" (by decide), hb6, _, rfl, self, oo, rk, rfl, s9s _ _ hb7, rfl, fun H2 h2 => ⟨rfl, s9s.trans h2⟩⟩
    cases fl with
    | brk => obtain ⟨_, _, _, q⟩ := h10; exact q.elim
    | cont => obtain ⟨_, _, _, q⟩ := h10; exact q.elim
    | ret v => obtain ⟨_, _, _, _, _, q⟩ := h10; exact q.elim
    | next =>
    obtain ⟨σ10, H10, I10, rfl, s10s⟩ := h10
    refine sg_execs_nil (sg_again rfl ?_)
    refine ih (i + 1) (by omega) H8 H10 s7 s10 _ (I10.pins_of fun q hq => I10.pin q (List.mem_append_right _ (List.mem_append_left _ hq))) (T.keep _ _ _ st4 fun c hc o eo => (I10.pin (c, o) (List.mem_append_right _ (List.mem_append_right _ (mem_pinsAt hc eo)))).1) (fun c hc => ?_) ⟨_, _, rfl⟩ wk.sub s10s
    obtain ⟨o, ho, hnc⟩ := T.obj _ _ st4 c hc
    obtain ⟨q1, q2, q3, q4, _⟩ := I10.pin (c, o) (List.mem_append_right _ (List.mem_append_right _ (mem_pinsAt hc ho)))
    refine ⟨q2, q3, q4, .inr ?_, (fpk c hc).2.2.2.2.1, (fpk c hc).2.2.2.2.2⟩
    show (cut L s7.heap).objs.size ≤ c
    rw [cut_size wk.sz]
    exact (hfp c hc).1
theorem ok_W (F : FunD K "with_rounds" "Names.with_rounds" (defArgs sWR) (defBody sWR) (defScope sWR) [] [] f fd) (cN : L2.Cls K Cn) (mN : Meth K Cn "with_rounds" f) (cS : L2.Cls K Cst) (nS : ∀ x ∈ (["word", "block", "other"] : List Str), NoAttr K Cst x) (gE : ∃ t, mg "EACH" = some (.str "each" t)) :
    GFnS P w K mg base 4 f fd ["self", "statements", "round_keys"] (spW Cn Cst) := by
  have hb : Binds K fd ["self", "statements", "round_keys"] [] := F.bindsN fun _ _ _ _ _ _ us hl => match us, hl with | [_, _, _], _ => rfl
  refine gfnS_of (k := 3) F scWR ncWR (fun vs H R h => ?_) (fun cdv vs H R h => ?_)
  · obtain ⟨_, _, _, _, rfl, _⟩ := h
    rfl
  obtain ⟨self, l, rk, as, rfl, hN, hl, hS, hR⟩ := h
  refine ⟨itemsW rk as, hR, fun Aw outer L a g go H₃ s₃ G hr hs I => ?_⟩
  rw [wr_eq]
  refine sg_execs_cons (sg_ForB over_func ?_)
  rw [← wr_eq]
  refine wpAny_mono ((pi_list (X := xWR P w K mg base f cdv Aw outer L s₃ H₃) (tg := forTg wrFor) (pv 1)).run _ s₃ _ H₃ (fun J H' => J = Itl K l ∧ H' = H₃) I ⟨_, rfl, l, rfl, ⟨_, .inl (.inl (hs _ _ hl))⟩, rfl, rfl⟩) (fun v s1 h1 => ?_) (fun _ _ z => z.elim)
  refine wpAny_mono h1 (fun itv s2 h2 => ?_) (fun _ _ z => z.elim)
  obtain ⟨it, fp, tn, J, H', rfl, I2, T, st2, f2, rfl, rfl⟩ := h2
  intro p
  have hsz : L ≤ s₃.heap.objs.size := Nat.le_of_lt I.lt
  refine wr_loop G hr cN mN cS nS (ok_W0 F) hb gE hN hl hS T (fun b hb => ?_) p as.length 0 (Nat.zero_add _) H' H' s₃ s2 _ I2 st2 f2 ⟨none, none, rfl⟩ hs (Same.refl _)
  obtain ⟨_, h2, _, h4, _, h6⟩ := f2 b hb
  refine ⟨?_, h2, fun z => h6 (a, go) (by simp) z.symm⟩
  rcases h4 with z | z
  · cases z
  · have z' : (cut L s₃.heap).objs.size ≤ b := z
    rw [cut_size hsz] at z'
    exact z'
end
end KP
/-! checking: check_page of flat books. -/
namespace KP
open PySem PySem.Spec PyProof.Rows L2 G137 SlX
structure PageOk (ks : List KeyR) (ds : List DeedD) : Prop where
  k : KeysOk ks
  d : DeedsOk ds
  wn : ∀ d ∈ ds, d.line.wh = "" ∨ d.line.wh ∈ ks.map (·.name)
  nm : ∀ d ∈ ds, ∀ sd ∈ d.sts, NamedOk ks ds sd
  dn : ∀ (j : Nat) d, ds[j]? = some d → ∀ sd ∈ d.sts, DownOk ks ds j sd
def spChk (K : Frag) : Sp := fun vs H Q _ => ∃ p ks ds, vs = [.ref p] ∧ PageAt K H p ks ds ∧ PageOk ks ds ∧ ∀ H', Same H H' → Q .non H'
theorem StAt.stf {K : Frag} {H : Hp} {a : Addr} {n : Int} {sd : StD} (h : StAt K H a n sd) (hw : sd.word ≠ "each") : StF (cA K "Statement") H a := by
  obtain ⟨b, o, dx, tv, h1, h2, h3, _⟩ := h
  exact ⟨dx, _, b, o, sd.word, h1, rfl, hw, rfl, h2, rfl, h3⟩
theorem StsP.get {K : Frag} {ok : Addr → Prop} {H : Hp} {n : Int} {as : List Addr} {sts : List StD} (h : StsP K ok H n as sts) {i : Nat} {a : Addr} (e : as[i]? = some a) : ∃ sd n', sts[i]? = some sd ∧ StAt K H a n' sd := by
  have hl : i < sts.length := h.1 ▸ (List.getElem?_eq_some_iff.mp e).1
  obtain ⟨b, o, _, _, q⟩ := h.2 i a sts[i] e (List.getElem?_eq_getElem hl)
  exact ⟨sts[i], _, List.getElem?_eq_getElem hl, b, o, q⟩
section
variable {P : Program} {w : World} {K : Frag} {mg : Str → Option Value} {base : Heap}
theorem sc_check_page : FnScope ["page", "names", "name", "keys", "number", "key", "program", "statement", "round_keys", "place"] ["page"] (defScope d_check_page) := ⟨rfl, rfl, rfl, by decide +kernel, rfl, by decide +kernel, by decide +kernel⟩
theorem ok_check_page (T : Pr K mg) : FOk P w K mg base 6 "check_page" ["page"] (spChk K) := by
  obtain ⟨fd, F⟩ := T.f_check_page
  have benumerate := T.fre "enumerate" (by decide +kernel)
  refine FOk.of F (T.glo _ (by decide +kernel)) sc_check_page (fun _ _ _ _ _ _ us hl => match us, hl with | [_], _ => rfl) (fun vs H Q E h => ?_) (fun cdv A outer s H vs Q E hr h => ?_)
  · obtain ⟨_, _, _, rfl, _⟩ := h; rfl
  have hu : (A.deeper (envOfC "check_page" (defScope d_check_page) s.heap.objs.size (He.ga K "check_page") cdv)).units + 65 < cLine := by have := hr.un; omega
  have hu1 : (A.deeper (envOfC "check_page" (defScope d_check_page) s.heap.objs.size (He.ga K "check_page") cdv)).units + 1 < cLine := by omega
  have hu64 : (A.deeper (envOfC "check_page" (defScope d_check_page) s.heap.objs.size (He.ga K "check_page") cdv)).units + 64 < cLine := by omega
  have cN := T.cls "Names" (by decide +kernel)
  have nN : ∀ f, (("Names" : Str), f) ∈ gFld → NoAttr K (cA K "Names") f := T.fld "Names"
  have mN := T.meth "Names" "with_rounds" (by decide +kernel)
  have cS := T.cls "Statement" (by decide +kernel)
  have nS : ∀ f, (("Statement" : Str), f) ∈ gFld → NoAttr K (cA K "Statement") f := T.fld "Statement"
  obtain ⟨fdW, FW0⟩ := T.f_Names_with_rounds
  have hbW : Binds K fdW ["self", "statements", "round_keys"] [] := FW0.bindsN fun _ _ _ _ _ _ us hl => match us, hl with | [_, _, _], _ => rfl
  have FW : GFnS P w K mg base 4 _ fdW ["self", "statements", "round_keys"] (spW (cA K "Names") (cA K "Statement")) := ok_W FW0 cN mN cS (fun x hx => nS x (by revert x; decide +kernel)) (T.str "EACH" "each" (by decide +kernel))
  refine ⟨_, PSs.nox (pss_cons (ps_set (i := 1) sc_check_page.nd rfl (Or.inr rfl) (pe_makeF (ok_Names T) (hr.mono (by decide)) rfl (pa_cons (pv 0) pa_nil)))
    (pss_cons (ps_for PassesOwn.never rfl (pi_list (pe_fld (pv 0) rfl)) (pg_tup rfl (pgs_cons (pg_name (i := 2) sc_check_page.nd rfl (Or.inl rfl)) (pgs_cons (pg_name (i := 3) sc_check_page.nd rfl (Or.inl rfl)) (pgs_cons (pg_name (i := 4) sc_check_page.nd rfl (Or.inl rfl)) pgs_nil))))
      (pss_one G137.ps_never))
    (pss_cons (ps_for PassesOwn.never rfl (pi_list (pe_fld (pv 0) rfl)) (pg_name (i := 6) sc_check_page.nd rfl (Or.inl rfl))
      (pss_cons (ps_if (PW.pt (pw_and (pt_cmpR op_ne (pe_fld (pv 6) rfl) pe_str (nomark _)) (pw_and1 (pt_cmp (pc_dnotin hu1 (pe_fld (pv 6) rfl) (pe_fld (pv 1) rfl))))))
      L2.pss_never
      pss_nil)
    (pss_one (ps_forG PassesOwn.never rfl (fun _ _ _ _ h _ => h.elim) (hr.mono (by decide)) (pgn_meth (pv 1) cN mN FW (hr.mono (by decide)) hbW .nil (pa_cons (pe_fld (pv 6) rfl) (pa_cons (pe_tup pa_nil) pa_nil))) (pg_tup rfl (pgs_cons (pg_name (i := 7) sc_check_page.nd rfl (Or.inl rfl)) (pgs_cons (pg_name (i := 8) sc_check_page.nd rfl (Or.inl rfl)) pgs_nil)))
      (pss_one (ps_if (pt_not (pt_val (pe_methF (pv 1) (ok_is_named T) (hr.mono (by decide)) (pa_cons (pv 7) (pa_cons (pv 8) pa_nil)))))
      L2.pss_never
      pss_nil))))))
    (pss_one (ps_for PassesOwn.never rfl (pi_enum (by rfl) benumerate (pa_cons (pe_fld (pv 0) rfl) pa_nil)) (pg_tup rfl (pgs_cons (pg_name (i := 9) sc_check_page.nd rfl (Or.inl rfl)) (pgs_cons (pg_name (i := 6) sc_check_page.nd rfl (Or.inl rfl)) pgs_nil)))
      (pss_one (ps_forG PassesOwn.never rfl (fun _ _ _ _ h _ => h.elim) (hr.mono (by decide)) (pgn_meth (pv 1) cN mN FW (hr.mono (by decide)) hbW .nil (pa_cons (pe_fld (pv 6) rfl) (pa_cons (pe_tup pa_nil) pa_nil))) (pg_tup rfl (pgs_cons (pg_name (i := 7) sc_check_page.nd rfl (Or.inl rfl)) (pgs_cons (pg_name (i := 8) sc_check_page.nd rfl (Or.inl rfl)) pgs_nil)))
      (pss_one (ps_if (pt_not (pt_val (pe_methF (pv 1) (ok_is_downward T) (hr.mono (by decide)) (pa_cons (pv 7) (pa_cons (pv 8) (pa_cons (pv 9) pa_nil))))))
      L2.pss_never
      pss_nil))))))))), ?_⟩
  have cG := T.cls "Page" (by decide +kernel)
  have nG : ∀ f, (("Page" : Str), f) ∈ gFld → NoAttr K (cA K "Page") f := T.fld "Page"
  have cP := T.cls "Program" (by decide +kernel)
  have nP : ∀ f, (("Program" : Str), f) ∈ gFld → NoAttr K (cA K "Program") f := T.fld "Program"
  obtain ⟨p, ks, ds, rfl, hPg, ok, hQ⟩ := h
  obtain ⟨dp, lk, lg, ld, rows, ps, hp, hk, hrows, hg, hd, hps⟩ := id hPg
  have hlp : ps.length = ds.length := Paired.length hps
  refine ⟨_, rfl, fun nm dxn nx ndx nex => ?_⟩
  have v0 : Same H (upd (upd H dxn (.own nm)) nm (.ins (cA K "Names") dxn [])) := fun c u e => (upd_ne (ne_of_none e nx)).trans ((upd_ne (ne_of_none e ndx)).trans e)
  refine ⟨nm, dxn, p, ks, ds, rfl, upd_same, hPg.same v0, ok.k, ok.d, fun G1 b1 hN => ⟨rfl, ?_⟩⟩
  have u1 : Same H G1 := made_same nx ndx b1
  obtain ⟨dx, x1, x2, x3, x4, kvw, ha, h1, h2, h3, h4, h5⟩ := id hN
  refine ⟨_, rfl, p, _, dp, _, _, rfl, u1 _ _ hp, cG, nG "told_groups" (by decide +kernel), rfl, lg, rfl, ⟨_, SqL.of (u1 _ _ hg)⟩, ?_⟩
  refine for_list (xs := []) (tb := fun _ _ _ => False) (fun i σ G => σ = [some (.ref p), some (.ref nm), none, none, none, none, none, none, none, none] ∧ G = G1) ⟨rfl, rfl⟩ (fun i σ G _ q => by rw [q.2]; exact SqL.of (u1 _ _ hg)) (fun i x σ G hx => nomatch hx) ?_
  rintro σ G ⟨rfl, rfl⟩
  refine ⟨_, rfl, p, _, dp, _, _, rfl, u1 _ _ hp, cG, nG "told_deeds" (by decide +kernel), rfl, ld, rfl, ⟨_, SqL.of (u1 _ _ hd)⟩, ?_⟩
  refine for_list (xs := ps.map V.ref) (fun i σ G' => (∃ y1 y2 y3, σ = [some (.ref p), some (.ref nm), none, none, none, none, y1, y2, y3, none]) ∧ Same G G') ⟨⟨_, _, _, rfl⟩, Same.refl _⟩ (fun i σ G' _ q => SqL.of (q.2 _ _ (u1 _ _ hd))) ?_ ?_
  · rintro i x σ G2 hx ⟨⟨y1, y2, y3, rfl⟩, u2⟩
    rw [List.getElem?_map] at hx
    cases et : ps[i]? with
    | none => rw [et] at hx; cases hx
    | some pr =>
    rw [et] at hx
    obtain rfl : V.ref pr = x := Option.some.inj hx
    obtain ⟨d, hd', hprg⟩ := Paired.get? hps et
    have hdm : d ∈ ds := List.mem_of_getElem? hd'
    have u12 := u1.trans u2
    obtain ⟨n, st, as, n', ⟨dq, hq⟩, _, hst, hsts⟩ := hprg.same u12
    refine ⟨_, rfl, pr, _, dq, _, _, rfl, hq, cP, nP "when" (by decide +kernel), rfl, rfl, _, rfl, ?_⟩
    apply ite_join
    · intro hc r
      have hw : d.line.wh ∈ ks.map (·.name) := by
        rcases ok.wn d hdm with z | z
        · rw [z] at hc; exact absurd hc (by decide +kernel)
        · exact z
      refine ⟨_, rfl, pr, _, dq, _, _, rfl, hq, cP, nP "when" (by decide +kernel), rfl, _, rfl, nm, _, dx, _, _, rfl, u2 _ _ ha, cN, nN "own_keys" (by decide +kernel), rfl, x1, _, rfl, DGet.k (k := Sum.inr d.line.wh) (u2 _ _ h1), _, rfl, ?_⟩
      refine iN ?_ r
      rw [← valV_any, mkD_any]
      unfold kmay
      rw [List.map_map]
      exact congrArg (!·) (decide_eq_true hw)
    · intro hc r
      exact iN rfl r
    refine ⟨_, rfl, nm, dx, _, rfl, u2 _ _ ha, rfl, _, rfl, pr, _, dq, _, _, rfl, hq, cP, nP "statements" (by decide +kernel), rfl, by show 0 ≤ sizeLine; decide, fun e1 ne1 => ?_⟩
    have v3 := same_upd (o := .tup []) ne1
    have hsts3 : ∀ i a, as[i]? = some a → ∃ sd n', d.sts[i]? = some sd ∧ StAt K (upd G2 e1 (.tup [])) a n' sd := fun i a e => by
      obtain ⟨sd, n', h1, h2⟩ := hsts.get e
      exact ⟨sd, n', h1, h2.same v3⟩
    refine ⟨nm, st, .ref e1, as, rfl, ⟨dx, _, v3 _ _ (u2 _ _ ha), rfl⟩, v3 _ _ hst, fun c hc => ?_, ?_⟩
    · obtain ⟨j, hj⟩ := List.getElem?_of_mem hc
      obtain ⟨sd, n', e1, e2⟩ := hsts3 j c hj
      refine e2.stf fun z => ?_
      have := (ok.nm d hdm sd (List.mem_of_getElem? e1)).wd
      rw [z] at this
      exact absurd this (by decide +kernel)
    generalize upd G2 e1 (.tup []) = G3 at v3 hsts3 ⊢
    refine ⟨fun j σ G4 => (∃ z1 z2, σ = [some (.ref p), some (.ref nm), none, none, none, none, some (.ref pr), z1, z2, none]) ∧ Same G3 G4, ⟨⟨_, _, rfl⟩, Same.refl _⟩, fun _ _ _ q => q.2, ?_⟩
    rintro j σ G4 ⟨⟨z1, z2, rfl⟩, u4⟩ G5 u5
    refine ⟨fun _ => ⟨⟨_, _, _, rfl⟩, u2.trans (v3.trans (u4.trans u5))⟩, fun x y okp hit t ht => ?_⟩
    have hit' : as[j]?.map (fun a => ((V.ref a, V.ref e1, True) : Item)) = some (x, y, okp) := by
      rw [← hit]
      simp only [itemsW, List.getElem?_map]
    cases ea : as[j]? with
    | none => rw [ea] at hit'; cases hit'
    | some sa =>
    rw [ea] at hit'
    injection hit' with hit'
    injection hit' with i1 i2
    injection i2 with i2 i3
    subst i1 i2 i3
    obtain ⟨sd, n2, hsd, hSt⟩ := hsts3 j sa ea
    have u35 := u4.trans u5
    have uN := u2.trans (v3.trans u35)
    refine ⟨t, _, rfl, SqT.of ht, rfl, _, _, rfl, _, _, rfl, rfl, ?_⟩
    refine ⟨_, rfl, nm, dx, _, rfl, uN _ _ ha, rfl, _, rfl, _, rfl, nm, sa, .ref e1, ks, ds, n2, sd, rfl, hN.same uN, hSt.same u35, ok.nm d hdm sd (List.mem_of_getElem? hsd), fun G6 u6 => ⟨_, rfl, ?_⟩⟩
    refine iN rfl ?_
    exact ⟨trivial, ⟨_, _, rfl⟩, u35.trans u6⟩
  · rintro σ G2 ⟨⟨y1, y2, y3, rfl⟩, u2⟩
    have u12 := u1.trans u2
    refine ⟨_, rfl, p, _, dp, _, _, rfl, u12 _ _ hp, cG, nG "told_deeds" (by decide +kernel), rfl, ld, _, rfl, SqL.of (u12 _ _ hd), ?_⟩
    refine for_it (walk_enum (xs := ps.map V.ref)) (fun i σ G' => (∃ y1 y2 y3 y4, σ = [some (.ref p), some (.ref nm), none, none, none, none, y1, y2, y3, y4]) ∧ Same G2 G') ⟨⟨_, _, _, _, rfl⟩, Same.refl _⟩ (fun i σ G' _ q => SqL.of (q.2 _ _ (u12 _ _ hd))) ?_ ?_
    rotate_left
    · rintro σ G3 ⟨_, u3⟩
      exact hQ G3 (u12.trans u3)
    rintro i x σ G3 G4 hi ⟨⟨z1, z2, z3, z4, rfl⟩, u3⟩ ⟨t, w1, w2, rfl, nt, rfl, e1, e2⟩
    dsimp only at e2
    obtain rfl : V.int (i : Nat) = w1 := Option.some.inj e1
    rw [List.getElem?_map] at e2
    cases et : ps[i]? with
    | none => rw [et] at e2; cases e2
    | some pr =>
    rw [et] at e2
    obtain rfl : V.ref pr = w2 := Option.some.inj e2
    obtain ⟨d, hd', hprg⟩ := Paired.get? hps et
    have v4 := same_upd (o := .tup [.int (i : Nat), .ref pr]) nt
    have u14 := u12.trans (u3.trans v4)
    obtain ⟨n, st, as, n', ⟨dq, hq⟩, _, hst, hsts⟩ := hprg.same u14
    refine ⟨t, _, rfl, SqT.of upd_same, rfl, _, _, rfl, _, _, rfl, rfl, ?_⟩
    have uN4 := u2.trans (u3.trans v4)
    refine ⟨_, rfl, nm, dx, _, rfl, uN4 _ _ ha, rfl, _, rfl, pr, _, dq, _, _, rfl, hq, cP, nP "statements" (by decide +kernel), rfl, by show 0 ≤ sizeLine; decide, fun e1 ne1 => ?_⟩
    generalize hG4 : upd G3 t (.tup [.int (i : Nat), .ref pr]) = G4 at *
    have v5 := same_upd (o := .tup []) ne1
    have hsts5 : ∀ i a, as[i]? = some a → ∃ sd n', d.sts[i]? = some sd ∧ StAt K (upd G4 e1 (.tup [])) a n' sd := fun i a e => by
      obtain ⟨sd, n', h1, h2⟩ := hsts.get e
      exact ⟨sd, n', h1, h2.same v5⟩
    have hdm : d ∈ ds := List.mem_of_getElem? hd'
    refine ⟨nm, st, .ref e1, as, rfl, ⟨dx, _, v5 _ _ (uN4 _ _ ha), rfl⟩, v5 _ _ hst, fun c hc => ?_, ?_⟩
    · obtain ⟨j, hj⟩ := List.getElem?_of_mem hc
      obtain ⟨sd, n', e1, e2⟩ := hsts5 j c hj
      refine e2.stf fun z => ?_
      have := (ok.nm d hdm sd (List.mem_of_getElem? e1)).wd
      rw [z] at this
      exact absurd this (by decide +kernel)
    generalize upd G4 e1 (.tup []) = G5 at v5 hsts5 ⊢
    refine ⟨fun j σ G6 => (∃ z1 z2, σ = [some (.ref p), some (.ref nm), none, none, none, none, some (.ref pr), z1, z2, some (.int (i : Nat))]) ∧ Same G5 G6, ⟨⟨_, _, rfl⟩, Same.refl _⟩, fun _ _ _ q => q.2, ?_⟩
    rintro j σ G6 ⟨⟨z1, z2, rfl⟩, u6⟩ G7 u7
    have u57 := u6.trans u7
    refine ⟨fun _ => ⟨⟨_, _, _, _, rfl⟩, u3.trans (v4.trans (v5.trans u57))⟩, fun x y okp hit t ht => ?_⟩
    have hit' : as[j]?.map (fun a => ((V.ref a, V.ref e1, True) : Item)) = some (x, y, okp) := by
      rw [← hit]
      simp only [itemsW, List.getElem?_map]
    cases ea : as[j]? with
    | none => rw [ea] at hit'; cases hit'
    | some sa =>
    rw [ea] at hit'
    injection hit' with hit'
    injection hit' with i1 i2
    injection i2 with i2 i3
    subst i1 i2 i3
    obtain ⟨sd, n2, hsd, hSt⟩ := hsts5 j sa ea
    have uN := uN4.trans (v5.trans u57)
    refine ⟨t, _, rfl, SqT.of ht, rfl, _, _, rfl, _, _, rfl, rfl, ?_⟩
    refine ⟨_, rfl, nm, dx, _, rfl, uN _ _ ha, rfl, _, rfl, _, rfl, _, rfl, nm, sa, .ref e1, ks, ds, n2, sd, i, rfl, hN.same uN, hSt.same u57, ok.dn i d hd' sd (List.mem_of_getElem? hsd), fun G8 u8 => ⟨_, rfl, ?_⟩⟩
    refine iN rfl ?_
    exact ⟨trivial, ⟨_, _, rfl⟩, u57.trans u8⟩
end
end KP

/-! books: all_stores. -/
namespace KP
open PySem PySem.Spec PyProof.Rows L2 G137 SlX
/-- a tuple of n values -/
def TupN (G : Hp) (n : Nat) (v : V) : Prop := ∃ t ys, v = .ref t ∧ G t = some (.tup ys) ∧ ys.length = n
theorem ite_tC {c : Bool} {a b : Int} {σ : L2.St} {H : Hp} {Q : VK} (h : Q (.int (if c = true then a else b)) H) : if c = true then tC (.int a) σ H Q else tC (.int b) σ H Q := by
  cases c with
  | true => rw [if_pos rfl]; exact h
  | false => rw [if_neg Bool.false_ne_true]; exact h
def spAll (K : Frag) : Sp := fun vs H Q _ => ∃ r rows ks, vs = [.ref r] ∧ H r = some (.tup (rows.map V.ref)) ∧ KeyRows H rows ks ∧ KeysOk ks ∧ ∀ H' t xs, Same H H' → H' t = some (.tup xs) → Q (.ref t) H'
section
variable {P : Program} {w : World} {K : Frag} {mg : Str → Option Value} {base : Heap}
theorem sc_all_stores : FnScope ["rows", "found", "name", "size", "is_may", "some", "worth"] ["rows"] (defScope d_all_stores) := ⟨rfl, rfl, rfl, by decide +kernel, rfl, by decide +kernel, by decide +kernel⟩
theorem ok_all_stores (T : Pr K mg) : FOk P w K mg base 1 "all_stores" ["rows"] (spAll K) := by
  obtain ⟨fd, F⟩ := T.f_all_stores
  have btuple := T.fre "tuple" (by decide +kernel)
  refine FOk.of F (T.glo _ (by decide +kernel)) sc_all_stores (fun _ _ _ _ _ _ us hl => match us, hl with | [_], _ => rfl) (fun vs H Q E h => ?_) (fun cdv A outer s H vs Q E hr h => ?_)
  · obtain ⟨_, _, _, rfl, _⟩ := h; rfl
  have brange := T.fre "range" (by decide +kernel)
  have gGone := T.int "GONE" (-1) (by decide +kernel)
  refine ⟨_, PSs.nox (pss_cons (ps_set (i := 1) sc_all_stores.nd rfl (Or.inl rfl) (pe_lst (pa_cons (pe_tup pa_nil) pa_nil)))
    (pss_cons (ps_for PassesOwn.never rfl (pi_tup (pv 0)) (pg_tup rfl (pgs_cons (pg_name (i := 2) sc_all_stores.nd rfl (Or.inl rfl)) (pgs_cons (pg_name (i := 3) sc_all_stores.nd rfl (Or.inr rfl)) (pgs_cons (pg_name (i := 4) sc_all_stores.nd rfl (Or.inr rfl)) pgs_nil))))
      (pss_one (ps_setLc2 (i := 1) (own := [("some", 5), ("worth", 6)]) (vs1 := [6]) (g := gName 5) (tt := tYes) (wi1 := iRng2 (tCons (tIf (tB (tVar 4)) (tC (.int (-1))) (tC (.int 0))) (tCons (tVar 3) tNil))) (g1 := gName 6) (tt1 := tYes) (te := tTup (StX.tStar K (tVar 5) (tCons (tVar 6) tNil))) rfl sc_all_stores.nd rfl rfl (sw_true rfl rfl rfl (by decide +kernel)) (pi_list (pv 1)) (blkOk_by (own := [("some", 5), ("worth", 6)]) (N := ["rows", "found", "name", "size", "is_may", "some", "worth"]) (sc := defScope d_all_stores) (by decide +kernel)) (by decide) (fun _ _ _ _ _ => pg_name (i := 5) sc_all_stores.nd rfl (Or.inl rfl)) (fun _ _ _ _ _ => pts_nil) (fun _ _ _ _ _ => pi_range2 (by rfl) brange (pa_cons (pe_ifExp (pt_val (pv 4)) (pe_gi (by rfl) gGone) pe_int) (pa_cons (pv 3) pa_nil))) (fun _ _ _ _ _ => pg_name (i := 6) sc_all_stores.nd rfl (Or.inl rfl)) (fun _ _ _ _ _ => pts_nil) (fun _ _ _ _ _ => pe_tup (StX.pa_star (pv 5) (pa_cons (pv 6) pa_nil))))))
    (pss_one (ps_ret (pe_callTy call_tuple_of (by rfl) btuple (by decide +kernel) (pa_cons (pv 1) pa_nil)))))), ?_⟩
  obtain ⟨r, rows, ks, rfl, hr', hrows, hK, hQ⟩ := h
  have hbig := sizeLine_big
  have h4 := hK.four
  have hlr : rows.length = ks.length := Paired.length hrows
  refine ⟨by show 0 ≤ sizeLine; decide, fun e0 ne0 => ⟨by show 1 ≤ sizeLine; decide, fun f0 nf0 => ?_⟩⟩
  have u0 := (same_upd (o := .tup []) ne0)
  have u1 := same_upd (o := .lst [.ref e0]) nf0
  refine ⟨_, rfl, r, rfl, ⟨_, SqT.of (u1 _ _ (u0 _ _ hr'))⟩, ?_⟩
  refine for_tup (xs := rows.map V.ref) (fun i σ G => ∃ (fl : Addr) (xs : List V) (y1 y2 y3 : Option V), σ = [some (.ref r), some (.ref fl), y1, y2, y3, none, none] ∧ Same H G ∧ G fl = some (.lst xs) ∧ xs.length = manyL (ks.take i) ∧ ∀ x ∈ xs, TupN G i x) ⟨f0, [.ref e0], _, _, _, rfl, u0.trans u1, upd_same, rfl, fun x hx => ?_⟩ (fun i σ G _ q => ?_) ?_ ?_
  · rw [List.mem_singleton.mp hx]
    exact ⟨e0, [], rfl, u1 _ _ upd_same, rfl⟩
  · obtain ⟨_, _, _, _, _, _, s, _⟩ := q
    exact SqT.of (s _ _ hr')
  · rintro i x σ G hx ⟨fl, xs, y1, y2, y3, rfl, s1, hfl, hxl, htup⟩
    rw [List.getElem?_map] at hx
    cases et : rows[i]? with
    | none => rw [et] at hx; cases hx
    | some t =>
    rw [et] at hx
    obtain rfl : V.ref t = x := Option.some.inj hx
    obtain ⟨k, hk, hkt⟩ := Paired.get? hrows et
    have hil : i < ks.length := (List.getElem?_eq_some_iff.mp hk).1
    have htk : ks.take (i + 1) = ks.take i ++ [k] := by rw [List.take_add_one, hk]; rfl
    have hmany : manyL (ks.take (i + 1)) = manyL (ks.take i) * k.many := by
      rw [htk]
      unfold manyL
      rw [List.foldl_append]
      rfl
    have h60 := hK.many (i + 1)
    refine ⟨t, _, rfl, SqT.of (s1 _ _ hkt), rfl, _, _, rfl, _, _, rfl, _, _, rfl, rfl, ?_⟩
    refine ⟨_, rfl, fl, rfl, ⟨_, SqL.of hfl⟩, fun D nD => ?_⟩
    refine ⟨fun i1 m1 G1 => m1 = xs.length - i1 ∧ i1 ≤ xs.length ∧ KeepD D G G1 ∧ ∃ acc, G1 D = some (.lst acc) ∧ acc.length = i1 * k.many ∧ ∀ x ∈ acc, TupN G1 (i + 1) x, ⟨_, rfl, Nat.zero_le _, fun b o hb e => (upd_ne hb).trans e, [], upd_same, by simp, fun x hx => nomatch hx⟩, ?_⟩
    rintro i1 m1 G1 ⟨rfl, hi1, kp, acc, hacc, hal, hat⟩
    have hfl1 := kp.same nD _ _ hfl
    by_cases hlt : i1 < xs.length
    rotate_left
    · have e : i1 = xs.length := by omega
      refine .inl ⟨⟨xs, SqL.of hfl1, by omega⟩, ?_⟩
      refine ⟨D, acc, _, _, _, rfl, s1.trans (kp.same nD), hacc, ?_, hat⟩
      rw [hal, e, hxl, hmany]
    refine .inr ⟨⟨xs, xs[i1], SqL.of hfl1, by simp [hlt]⟩, fun G2 => (xs.length - (i1 + 1) < xs.length - i1 ∧ (xs.length - (i1 + 1) = xs.length - (i1 + 1) ∧ i1 + 1 ≤ xs.length ∧ KeepD D G G2 ∧ ∃ acc, G2 D = some (.lst acc) ∧ acc.length = (i1 + 1) * k.many ∧ ∀ x ∈ acc, TupN G2 (i + 1) x)), fun H' q => ⟨_, q.1, q.2⟩, fun x G2 y => ?_⟩
    obtain ⟨rfl, hy⟩ := y
    have hx1 := hy xs (SqL.of hfl1)
    have hxm : x ∈ xs := List.mem_of_getElem? hx1
    obtain ⟨tx, ys, rfl, htx, hys⟩ := htup x hxm
    refine ⟨rfl, ?_⟩
    dsimp only [tYes]
    rw [if_pos rfl]
    refine ⟨_, rfl, _, rfl, ?_⟩
    refine ite_tC ?_
    have hsz := (hK.ok k (List.mem_of_getElem? hk)).sz
    have hmk : (((k.size : Int) - (if k.may = true then -1 else 0)).toNat) = k.many := by
      unfold KeyR.many
      cases k.may <;> simp <;> omega
    refine ⟨_, rfl, _, _, rfl, ⟨?_, ?_, ?_, ?_⟩, ?_⟩
    · cases k.may <;> decide
    · cases k.may <;> decide
    · omega
    · omega
    rw [hmk]
    refine ⟨fun j1 m1 G3 => m1 = k.many - j1 ∧ j1 ≤ k.many ∧ KeepD D G G3 ∧ ∃ acc, G3 D = some (.lst acc) ∧ acc.length = i1 * k.many + j1 ∧ ∀ x ∈ acc, TupN G3 (i + 1) x, ⟨_, rfl, Nat.zero_le _, kp, acc, hacc, hal, hat⟩, ?_⟩
    rintro j1 m1 G3 ⟨rfl, hj1, kp3, acc3, hacc3, hal3, hat3⟩
    by_cases hjt : j1 < k.many
    rotate_left
    · refine .inl ⟨by show k.many ≤ j1; omega, by omega, rfl, by omega, kp3, acc3, hacc3, ?_, hat3⟩
      have : j1 = k.many := by omega
      rw [hal3, this, Nat.succ_mul]
    refine .inr ⟨hjt, fun G4 => (k.many - (j1 + 1) < k.many - j1 ∧ (k.many - (j1 + 1) = k.many - (j1 + 1) ∧ j1 + 1 ≤ k.many ∧ KeepD D G G4 ∧ ∃ acc, G4 D = some (.lst acc) ∧ acc.length = i1 * k.many + (j1 + 1) ∧ ∀ x ∈ acc, TupN G4 (i + 1) x)), fun H' q => ⟨_, q.1, q.2⟩, fun x G4 y => ?_⟩
    obtain ⟨rfl, rfl⟩ := y
    have htx3 := kp3.same nD _ _ htx
    refine ⟨rfl, ?_⟩
    dsimp only [tYes]
    rw [if_pos rfl]
    refine ⟨_, rfl, tx, ys, rfl, .inl (SqT.of htx3), _, rfl, ?_, fun T nT => ?_⟩
    · rw [List.length_append, hys]
      simp only [List.length_cons, List.length_nil]
      omega
    have v5 := same_upd (o := .tup (ys ++ [.int ((if k.may = true then -1 else 0) + (j1 : Int))])) nT
    have hDT : D ≠ T := ne_of_none hacc3 nT
    refine ⟨acc3, v5 _ _ hacc3, ?_, by omega, rfl, hjt, fun b o hb e => (upd_ne hb).trans (v5 _ _ (kp3 b o hb e)), acc3 ++ [.ref T], upd_same, ?_, fun x hx => ?_⟩
    · have : i1 * k.many + j1 < manyL (ks.take (i + 1)) := by
        rw [hmany, ← hxl]
        calc i1 * k.many + j1 < i1 * k.many + k.many := by omega
          _ = (i1 + 1) * k.many := (Nat.succ_mul _ _).symm
          _ ≤ xs.length * k.many := Nat.mul_le_mul_right _ hlt
      omega
    · rw [List.length_append, hal3]
      rfl
    · rcases List.mem_append.mp hx with h | h
      · obtain ⟨t2, ys2, rfl, h1, h2⟩ := hat3 x h
        exact ⟨t2, ys2, rfl, (upd_ne (ne_of (v5 _ _ h1) (v5 _ _ hacc3) (by intro z; cases z))).trans (v5 _ _ h1), h2⟩
      · rw [List.mem_singleton.mp h]
        refine ⟨T, _, rfl, (upd_ne (Ne.symm hDT)).trans upd_same, ?_⟩
        rw [List.length_append, hys]
        rfl
  · rintro σ G ⟨fl, xs, y1, y2, y3, rfl, s1, hfl, hxl, htup⟩
    exact ⟨_, rfl, fl, xs, rfl, .inl ⟨SqL.of hfl, fun t nt => hQ _ t xs (s1.trans (same_upd nt)) upd_same⟩⟩
end
end KP

/-! books: Book made. -/
namespace KP
open PySem PySem.Spec PyProof.Rows L2 G137 SlX
def progD (ps : List Addr) (ds : List DeedD) : List (Str × V) := (ps.zip ds).map fun q => (q.2.line.name, .ref q.1)
def kplc : Nat → List KeyR → List (Str × V)
  | _, [] => []
  | n, k :: r => (k.name, .int (n : Int)) :: kplc (n + 1) r
theorem kplc_names : ∀ (n : Nat) (ks : List KeyR), (kplc n ks).map (·.1) = ks.map (·.name)
  | _, [] => rfl
  | n, d :: r => by rw [kplc, List.map_cons, List.map_cons, kplc_names (n + 1) r]
theorem kplc_snoc : ∀ (n : Nat) (ks : List KeyR) (k : KeyR), kplc n (ks ++ [k]) = kplc n ks ++ [(k.name, .int ((n + ks.length : Nat) : Int))]
  | n, [], d => rfl
  | n, e :: r, d => by
    rw [List.cons_append, kplc, kplc, kplc_snoc (n + 1) r d, List.cons_append, List.length_cons, show n + 1 + r.length = n + (r.length + 1) by omega]
/-- the programs that a key wakes -/
def wkl (ps : List Addr) (ds : List DeedD) (k : Str) : List V := ((ps.zip ds).filter fun q => decide (q.2.line.wh = k)).map fun q => .ref q.1
abbrev fsB (t : Str) (a b c d e f g : Addr) : List (Str × V) := [("own_text", .str t), ("own_key_rows", .ref a), ("own_groups", .ref b), ("programs", .ref c), ("key_names", .ref d), ("own_stores", .ref e), ("own_places", .ref f), ("own_woken", .ref g)]
def BookAt (K : Frag) (H : Hp) (a : Addr) (t : Str) (ks : List KeyR) (ds : List DeedD) : Prop := ∃ dx kr g pd kn s pl w rows ps xs kvw, H a = some (.ins (cA K "Book") dx (fsB t kr g pd kn s pl w)) ∧ H kr = some (.tup (rows.map V.ref)) ∧ KeyRows H rows ks ∧ H g = some (.tup []) ∧ H pd = some (.dK (mkD (progD ps ds))) ∧ PrgsP K (fun _ => True) H ps ds ∧
  H kn = some (.tup (ks.map fun k => .str k.name)) ∧ H s = some (.tup xs) ∧ H pl = some (.dK (mkD (kplc 0 ks))) ∧ H w = some (.dK kvw) ∧ ∀ k ∈ ks, ∃ tw, valV kvw (Sum.inr k.name) = some (.ref tw) ∧ H tw = some (.tup (wkl ps ds k.name))
theorem BookAt.same {K : Frag} {H H' : Hp} {a : Addr} {t : Str} {ks : List KeyR} {ds : List DeedD} (s : Same H H') (h : BookAt K H a t ks ds) : BookAt K H' a t ks ds := by
  obtain ⟨dx, kr, g, pd, kn, st, pl, w, rows, ps, xs, kvw, h1, h2, h3, h4, h5, h6, h7, h8, h9, h10, h11⟩ := h
  refine ⟨dx, kr, g, pd, kn, st, pl, w, rows, ps, xs, kvw, s _ _ h1, s _ _ h2, h3.same s, s _ _ h4, s _ _ h5, Paired.imp (fun p d h => h.same s) h6, s _ _ h7, s _ _ h8, s _ _ h9, s _ _ h10, fun k hk => ?_⟩
  obtain ⟨tw, e1, e2⟩ := h11 k hk
  exact ⟨tw, e1, s _ _ e2⟩
def spBkI (K : Frag) : Sp := fun vs H Q _ => ∃ a dx t ks ds, vs = [.ref a, .str t] ∧ H a = some (.ins (cA K "Book") dx []) ∧ t.length + 2 ≤ sizeLine ∧ PageOk ks ds ∧ BookLs (Txt.split t "\n") ks ds ∧ ∀ H', But a H H' → BookAt K H' a t ks ds → Q .non H'
section
variable {P : Program} {w : World} {K : Frag} {mg : Str → Option Value} {base : Heap}
theorem sc_Book : FnScope ["self", "text", "page", "name", "keys", "number", "program", "row", "place", "key"] ["self", "text"] (defScope m_Book_init) := ⟨rfl, rfl, rfl, by decide +kernel, rfl, by decide +kernel, by decide +kernel⟩
theorem ok_Book (T : Pr K mg) : NOk P w K mg base 10 (cA K "Book") "Book" ["self", "text"] (spBkI K) := by
  obtain ⟨fd, F⟩ := T.f_Book_init
  have btuple := T.fre "tuple" (by decide +kernel)
  refine NOk.of F (T.mkr "Book" (by decide +kernel)) (T.glo _ (by decide +kernel)) sc_Book (fun _ _ _ _ _ _ us hl => match us, hl with | [_, _], _ => rfl) (fun vs H Q E h => ?_) (fun cdv A outer s H vs Q E hr h => ?_)
  · obtain ⟨_, _, _, _, _, rfl, _⟩ := h; rfl
  have hu : (A.deeper (envOfC "Book.__init__" (defScope m_Book_init) s.heap.objs.size (He.ma K (He.ga K "Book") "__init__") cdv)).units + 65 < cLine := by have := hr.un; omega
  have hu1 : (A.deeper (envOfC "Book.__init__" (defScope m_Book_init) s.heap.objs.size (He.ma K (He.ga K "Book") "__init__") cdv)).units + 1 < cLine := by omega
  have hu64 : (A.deeper (envOfC "Book.__init__" (defScope m_Book_init) s.heap.objs.size (He.ma K (He.ga K "Book") "__init__") cdv)).units + 64 < cLine := by omega
  have benumerate := T.fre "enumerate" (by decide +kernel)
  refine ⟨_, PSs.nox (pss_cons (ps_set (i := 2) sc_Book.nd rfl (Or.inl rfl) (pe_callF (ok_page_in T) (hr.mono (by decide)) rfl (pa_cons (pv 1) pa_nil)))
    (pss_cons (ps_expr (pe_callF (ok_check_page T) (hr.mono (by decide)) rfl (pa_cons (pv 2) pa_nil)))
    (pss_cons (ps_fld (pv 0) (pv 1) rfl)
    (pss_cons (ps_fld (pv 0) (pe_callTy call_tuple_of (by rfl) btuple (by decide +kernel) (pa_cons (pe_fld (pv 2) rfl) pa_nil)) rfl)
    (pss_cons (ps_fld (pv 0) (pe_callTy call_tuple_of (by rfl) btuple (by decide +kernel) (pa_cons (pe_lc (own := [("name", 3), ("keys", 4), ("number", 5)]) (g := gTup K 3 (gCons (gName 3) (gCons (gName 4) (gCons (gName 5) gNil)))) (tt := tYes) (te := fun _ _ _ => False) rfl sc_Book.nd (pi_list (pe_fld (pv 2) rfl)) (blkOk_by (own := [("name", 3), ("keys", 4), ("number", 5)]) (N := ["self", "text", "page", "name", "keys", "number", "program", "row", "place", "key"]) (sc := defScope m_Book_init) (by decide +kernel)) (fun _ _ _ _ _ => (pg_tup rfl (pgs_cons (pg_name (i := 3) sc_Book.nd rfl (Or.inl rfl)) (pgs_cons (pg_name (i := 4) sc_Book.nd rfl (Or.inl rfl)) (pgs_cons (pg_name (i := 5) sc_Book.nd rfl (Or.inl rfl)) pgs_nil))))) (fun _ _ _ _ _ => pts_nil) (fun _ _ _ _ _ => G137.pe_never)) pa_nil)) rfl)
    (pss_cons (ps_fld (pv 0) (pe_dc (own := [("program", 6)]) (g := gName 6) (tt := tYes)  (tk := (tFld K (tVar 6) "own_name")) (tv := (tVar 6)) rfl sc_Book.nd (pi_list (pe_fld (pv 2) rfl)) (blkOk_by (own := [("program", 6)]) (N := ["self", "text", "page", "name", "keys", "number", "program", "row", "place", "key"]) (sc := defScope m_Book_init) (by decide +kernel)) (fun _ _ _ _ _ => (pg_name (i := 6) sc_Book.nd rfl (Or.inl rfl))) (fun _ _ _ _ _ => pts_nil) (fun _ _ _ _ _ => (pe_fld (pv 6) rfl)) (fun _ _ _ _ _ => (pv 6))) rfl)
    (pss_cons (ps_fld (pv 0) (pe_callTy call_tuple_of (by rfl) btuple (by decide +kernel) (pa_cons (pe_lc (own := [("row", 7)]) (g := gName 7) (tt := tYes) (te := tOp (rIxT K) (tVar 7) (tC (.int 0))) rfl sc_Book.nd (pi_tup (pe_fld (pv 0) rfl)) (blkOk_by (own := [("row", 7)]) (N := ["self", "text", "page", "name", "keys", "number", "program", "row", "place", "key"]) (sc := defScope m_Book_init) (by decide +kernel)) (fun _ _ _ _ _ => (pg_name (i := 7) sc_Book.nd rfl (Or.inl rfl))) (fun _ _ _ _ _ => pts_nil) (fun _ _ _ _ _ => (pe_ix ix_tup (pv 7) pe_int (fun _ _ => rfl)))) pa_nil)) rfl)
    (pss_cons (ps_fld (pv 0) (pe_callF (ok_all_stores T) (hr.mono (by decide)) rfl (pa_cons (pe_fld (pv 0) rfl) pa_nil)) rfl)
    (pss_cons (ps_fld (pv 0) (pe_dc (own := [("place", 8), ("name", 3)]) (g := gTup K 2 (gCons (gName 8) (gCons (gName 3) gNil))) (tt := tYes)  (tk := (tVar 3)) (tv := (tVar 8)) rfl sc_Book.nd (pi_enumT (by rfl) benumerate (pa_cons (pe_fld (pv 0) rfl) pa_nil)) (blkOk_by (own := [("place", 8), ("name", 3)]) (N := ["self", "text", "page", "name", "keys", "number", "program", "row", "place", "key"]) (sc := defScope m_Book_init) (by decide +kernel)) (fun _ _ _ _ _ => (pg_tup rfl (pgs_cons (pg_name (i := 8) sc_Book.nd rfl (Or.inl rfl)) (pgs_cons (pg_name (i := 3) sc_Book.nd rfl (Or.inl rfl)) pgs_nil)))) (fun _ _ _ _ _ => pts_nil) (fun _ _ _ _ _ => (pv 3)) (fun _ _ _ _ _ => (pv 8))) rfl)
    (pss_cons (ps_fld (pv 0) pe_dnewK rfl)
    (pss_one (ps_for PassesOwn.never rfl (pi_tup (pe_fld (pv 0) rfl)) (pg_name (i := 9) sc_Book.nd rfl (Or.inr rfl))
      (pss_one (ps_dput hu1 (pe_fld (pv 0) rfl) (pv 9) (pe_callTy call_tuple_of (by rfl) btuple (by decide +kernel) (pa_cons (pe_lc (own := [("program", 6)]) (g := gName 6) (tt := tTest (tOp rEq (tFld K (tVar 6) "when") (tVar 9))) (te := (tVar 6)) rfl sc_Book.nd (pi_list (pe_fld (pv 2) rfl)) (blkOk_by (own := [("program", 6)]) (N := ["self", "text", "page", "name", "keys", "number", "program", "row", "place", "key"]) (sc := defScope m_Book_init) (by decide +kernel)) (fun _ _ _ _ _ => (pg_name (i := 6) sc_Book.nd rfl (Or.inl rfl))) (fun _ _ _ _ _ => (pts_one (pt_cmpR op_eq (pe_fld (pv 6) rfl) (pv 9) (nomark _)))) (fun _ _ _ _ _ => (pv 6))) pa_nil)) rfl)))))))))))))), ?_⟩
  have cB := T.cls "Book" (by decide +kernel)
  have nB : ∀ f, (("Book" : Str), f) ∈ gFld → NoAttr K (cA K "Book") f := T.fld "Book"
  have cG := T.cls "Page" (by decide +kernel)
  have nG : ∀ f, (("Page" : Str), f) ∈ gFld → NoAttr K (cA K "Page") f := T.fld "Page"
  have cP := T.cls "Program" (by decide +kernel)
  have nP : ∀ f, (("Program" : Str), f) ∈ gFld → NoAttr K (cA K "Program") f := T.fld "Program"
  obtain ⟨a, dx, t, ks, ds, rfl, ha, hlt, ok, hB, hQ⟩ := h
  refine ⟨_, rfl, t, ks, ds, rfl, hlt, ok.k, ok.d, hB, fun G1 p u1 hPg => ?_⟩
  refine ⟨_, rfl, p, ks, ds, rfl, hPg, ok, fun G2 u2 => ?_⟩
  have hbig := sizeLine_big
  have h4 := ok.k.four
  have h5 := ok.d.five
  have ha2 : G2 a = some (.ins (cA K "Book") dx []) := u2 _ _ (u1 _ _ ha)
  obtain ⟨dp, lk, lg, ld, rows, ps, hp, hk, hrows, hg, hd, hps⟩ := hPg.same u2
  have hlr : rows.length = ks.length := Paired.length hrows
  have hlp : ps.length = ds.length := Paired.length hps
  have pa : p ≠ a := fun z => by
    rw [z, ha2] at hp
    injection hp with hp; injection hp with _ _ hp; cases hp
  have nl : ∀ c xs, G2 c = some (.lst xs) → c ≠ a := fun c xs e => ne_of e ha2 (by intro z; cases z)
  have nt : ∀ c xs, G2 c = some (.tup xs) → c ≠ a := fun c xs e => ne_of e ha2 (by intro z; cases z)
  refine ⟨_, rfl, _, rfl, a, _, dx, _, rfl, ha2, cB, nB "own_text" (by decide +kernel), (show (0 : Nat) < 1000 by decide), ?_⟩
  generalize hG : upd G2 a _ = G3
  have ha3 : G3 a = some (.ins (cA K "Book") dx [("own_text", .str t)]) := by rw [← hG]; exact upd_same
  have c3 : But a G2 G3 := fun c u hc e => by rw [← hG, upd_ne hc]; exact e
  clear hG
  refine ⟨_, rfl, p, _, dp, _, _, rfl, c3 _ _ pa hp, cG, nG "told_keys" (by decide +kernel), rfl, lk, _, rfl, .inl ⟨SqL.of (c3 _ _ (nl _ _ hk) hk), fun kr nkr => ?_⟩⟩
  have v4 := same_upd (o := .tup (rows.map V.ref)) nkr
  have hkr4 : upd G3 kr (.tup (rows.map V.ref)) kr = _ := upd_same
  have ha4 := v4 _ _ ha3
  generalize upd G3 kr (.tup (rows.map V.ref)) = G4 at v4 hkr4 ha4 ⊢
  refine ⟨_, rfl, a, _, dx, _, rfl, ha4, cB, nB "own_key_rows" (by decide +kernel), (show (1 : Nat) < 1000 by decide), ?_⟩
  generalize hG : upd G4 a _ = G5
  have ha5 : G5 a = some (.ins (cA K "Book") dx [("own_text", .str t), ("own_key_rows", .ref kr)]) := by rw [← hG]; exact upd_same
  have c5 : But a G4 G5 := fun c u hc e => by rw [← hG, upd_ne hc]; exact e
  clear hG
  have b5 : But a G2 G5 := fun c u hc e => c5 _ _ hc (v4 _ _ (c3 _ _ hc e))
  have kra : kr ≠ a := ne_of hkr4 ha4 (by intro z; cases z)
  have hkr5 := c5 _ _ kra hkr4
  refine ⟨_, rfl, p, _, dp, _, _, rfl, b5 _ _ pa hp, cG, nG "told_groups" (by decide +kernel), rfl, lg, rfl, ⟨_, SqL.of (b5 _ _ (nl _ _ hg) hg)⟩, fun D1 nD1 => ?_⟩
  refine lc_list (xs := []) (te := fun _ _ _ => False) (AccP (fun i => []) D1 G5) (acc_start rfl) (fun i G _ q => SqL.of (q.same nD1 _ _ (b5 _ _ (nl _ _ hg) hg))) (fun i v G hi q => nomatch hi) (fun G6 q6 => ?_)
  have u6 : Same G5 G6 := q6.same nD1
  refine ⟨D1, [], rfl, .inl ⟨SqL.of q6.1, fun gt ngt => ?_⟩⟩
  have v7 := same_upd (o := .tup []) ngt
  have hgt7 : upd G6 gt (.tup []) gt = _ := upd_same
  have ha7 := v7 _ _ (u6 _ _ ha5)
  generalize upd G6 gt (.tup []) = G7 at v7 hgt7 ha7 ⊢
  refine ⟨_, rfl, a, _, dx, _, rfl, ha7, cB, nB "own_groups" (by decide +kernel), (show (2 : Nat) < 1000 by decide), ?_⟩
  generalize hG : upd G7 a _ = G8
  have ha8 : G8 a = some (.ins (cA K "Book") dx [("own_text", .str t), ("own_key_rows", .ref kr), ("own_groups", .ref gt)]) := by rw [← hG]; exact upd_same
  have c8 : But a G7 G8 := fun c u hc e => by rw [← hG, upd_ne hc]; exact e
  clear hG
  have b58 : But a G5 G8 := fun c u hc e => c8 _ _ hc (v7 _ _ (u6 _ _ e))
  have b8 : But a G2 G8 := fun c u hc e => b58 _ _ hc (b5 _ _ hc e)
  have gta : gt ≠ a := ne_of hgt7 ha7 (by intro z; cases z)
  have hgt8 := c8 _ _ gta hgt7
  have hkr8 := b58 _ _ kra hkr5
  have prg : ∀ {G : Hp}, But a G2 G → ∀ i q, ps[i]? = some q → ∃ (d : DeedD) (n : Int) (dz st : Addr), ds[i]? = some d ∧ G q = some (.ins (cA K "Program") dz (fsP d.line.name n (d.line.size : Int) d.line.blind d.line.wh st)) := fun {G} hb i q e => by
    obtain ⟨d, hd', n, st, as, n', ⟨dz, h1⟩, _⟩ := Paired.get? hps e
    refine ⟨d, n, dz, st, hd', hb _ _ (fun z => ?_) h1⟩
    rw [z, ha2] at h1
    injection h1 with h1; injection h1 with _ _ h1; cases h1
  have hld : ∀ {G : Hp}, But a G2 G → G ld = some (.lst (ps.map V.ref)) := fun {G} hb => hb _ _ (nl _ _ hd) hd
  refine ⟨_, rfl, p, _, dp, _, _, rfl, b8 _ _ pa hp, cG, nG "told_deeds" (by decide +kernel), rfl, ld, rfl, ⟨_, SqL.of (hld b8)⟩, fun D2 nD2 => ?_⟩
  refine dc_it (walk_list (xs := ps.map V.ref)) (AccD (fun i => mkD (progD (ps.take i) (ds.take i))) D2 G8) (accd_start rfl) (fun i G _ q => SqL.of (q.same nD2 _ _ (hld b8))) (fun i x G G' hi q y => ?_) (fun G9 q9 => ?_)
  · obtain ⟨rfl, hx⟩ := y
    rw [List.getElem?_map] at hx
    cases et : ps[i]? with
    | none => rw [et] at hx; cases hx
    | some pr =>
    rw [et] at hx
    obtain rfl : V.ref pr = x := Option.some.inj hx
    obtain ⟨d, n, dz, st, hd', hpr⟩ := prg b8 i pr et
    have hil : i < ds.length := (List.getElem?_eq_some_iff.mp hd').1
    have hzl : (progD (ps.take i) (ds.take i)).length = i := by
      unfold progD
      rw [List.length_map, List.length_zip, List.length_take, List.length_take]
      omega
    have hzn : (progD (ps.take i) (ds.take i)).map (·.1) = (ds.take i).map fun d => d.line.name := by
      unfold progD
      rw [List.map_map]
      have : ((fun x => x.1) ∘ fun (q : Addr × DeedD) => (q.2.line.name, V.ref q.1)) = (fun d : DeedD => d.line.name) ∘ Prod.snd := rfl
      rw [this, ← List.map_map, List.map_snd_zip (by rw [List.length_take, List.length_take]; omega)]
    refine ⟨rfl, ?_⟩
    dsimp only [tYes]
    rw [if_pos rfl]
    refine ⟨_, rfl, pr, _, dz, _, _, rfl, q.same nD2 _ _ hpr, cP, nP "own_name" (by decide +kernel), rfl, _, rfl, mkD (progD (ps.take i) (ds.take i)), Sum.inr d.line.name, rfl, accd_step q (Same.refl _) ?_ ?_⟩
    · rw [mkD_length, hzl]; omega
    · rw [mkD_put]
      · rw [List.take_add_one, List.take_add_one, et, hd']
        unfold progD
        rw [List.zip_append (by rw [List.length_take, List.length_take]; omega), List.map_append]
        rfl
      · rw [hzn]
        have hnd := ok.d.nd
        intro hin
        obtain ⟨r2, h1, h2⟩ := List.mem_map.mp hin
        obtain ⟨j, hj⟩ := List.getElem?_of_mem h1
        have hjk : j < i := by
          have := (List.getElem?_eq_some_iff.mp hj).1
          rw [List.length_take] at this
          omega
        rw [List.getElem?_take_of_lt hjk] at hj
        have e1 : (ds.map fun d => d.line.name)[j]? = some d.line.name := by rw [List.getElem?_map, hj]; simpa using h2
        have e2 : (ds.map fun d => d.line.name)[i]? = some d.line.name := by rw [List.getElem?_map, hd']; rfl
        have := (List.getElem?_inj (by rw [List.length_map]; omega) hnd).mp (e1.trans e2.symm)
        omega
  have u9 : Same G8 G9 := q9.same nD2
  have hD2 : G9 D2 = some (.dK (mkD (progD ps ds))) := by
    have := q9.1
    dsimp only at this
    rw [List.length_map, List.take_of_length_le (Nat.le_refl _), List.take_of_length_le (by omega)] at this
    exact this
  have ha9 := u9 _ _ ha8
  refine ⟨_, rfl, a, _, dx, _, rfl, ha9, cB, nB "programs" (by decide +kernel), (show (3 : Nat) < 1000 by decide), ?_⟩
  generalize hG : upd G9 a _ = G10
  have ha10 : G10 a = some (.ins (cA K "Book") dx [("own_text", .str t), ("own_key_rows", .ref kr), ("own_groups", .ref gt), ("programs", .ref D2)]) := by rw [← hG]; exact upd_same
  have c10 : But a G9 G10 := fun c u hc e => by rw [← hG, upd_ne hc]; exact e
  clear hG
  have b810 : But a G8 G10 := fun c u hc e => c10 _ _ hc (u9 _ _ e)
  have b10 : But a G2 G10 := fun c u hc e => b810 _ _ hc (b8 _ _ hc e)
  have D2a : D2 ≠ a := ne_of hD2 ha9 (by intro z; cases z)
  have hD210 := c10 _ _ D2a hD2
  have hkr10 := b810 _ _ kra hkr8
  have hgt10 := b810 _ _ gta hgt8
  have krow : ∀ {G : Hp}, But a G2 G → KeyRows G rows ks := fun {G} hb => KeyRows.mono (fun c xs e => hb _ _ (nt _ _ e) e) hrows
  refine ⟨_, rfl, a, _, dx, _, _, rfl, ha10, cB, nB "own_key_rows" (by decide +kernel), rfl, kr, rfl, ⟨_, SqT.of hkr10⟩, fun D3 nD3 => ?_⟩
  refine lc_tup (xs := rows.map V.ref) (AccP (fun i => (ks.take i).map fun k => .str k.name) D3 G10) (acc_start rfl) (fun i G _ q => SqT.of (q.same nD3 _ _ hkr10)) (fun i v G hi q => ?_) (fun G11 q11 => ?_)
  · rw [List.getElem?_map] at hi
    cases et : rows[i]? with
    | none => rw [et] at hi; cases hi
    | some r =>
    rw [et] at hi
    obtain rfl : V.ref r = v := Option.some.inj hi
    obtain ⟨k, hk', hkt⟩ := Paired.get? (krow b10) et
    refine ⟨rfl, ?_⟩
    dsimp only [tYes]
    rw [if_pos rfl]
    refine ⟨_, rfl, r, _, _, .str k.name, rfl, rfl, SqT.of (q.same nD3 _ _ hkt), atI_nat (j := 0) rfl, acc_step q (Same.refl _) ?_ ?_⟩
    · rw [List.length_map, List.length_take]
      have := Nat.min_le_right i ks.length
      omega
    · rw [List.take_add_one, hk']; simp
  have u11 : Same G10 G11 := q11.same nD3
  have hD3 : G11 D3 = some (.lst (ks.map fun k => .str k.name)) := by
    have := q11.1
    dsimp only at this
    rw [List.length_map, hlr, List.take_of_length_le (Nat.le_refl _)] at this
    exact this
  refine ⟨D3, _, rfl, .inl ⟨SqL.of hD3, fun kn nkn => ?_⟩⟩
  have v12 := same_upd (o := .tup (ks.map fun k => .str k.name)) nkn
  have hkn12 : upd G11 kn (.tup (ks.map fun k => .str k.name)) kn = _ := upd_same
  have ha12 := v12 _ _ (u11 _ _ ha10)
  generalize upd G11 kn (.tup (ks.map fun k => .str k.name)) = G12 at v12 hkn12 ha12 ⊢
  refine ⟨_, rfl, a, _, dx, _, rfl, ha12, cB, nB "key_names" (by decide +kernel), (show (4 : Nat) < 1000 by decide), ?_⟩
  generalize hG : upd G12 a _ = G13
  have ha13 : G13 a = some (.ins (cA K "Book") dx [("own_text", .str t), ("own_key_rows", .ref kr), ("own_groups", .ref gt), ("programs", .ref D2), ("key_names", .ref kn)]) := by rw [← hG]; exact upd_same
  have c13 : But a G12 G13 := fun c u hc e => by rw [← hG, upd_ne hc]; exact e
  clear hG
  have b1013 : But a G10 G13 := fun c u hc e => c13 _ _ hc (v12 _ _ (u11 _ _ e))
  have b13 : But a G2 G13 := fun c u hc e => b1013 _ _ hc (b10 _ _ hc e)
  have kna : kn ≠ a := ne_of hkn12 ha12 (by intro z; cases z)
  have hkn13 := c13 _ _ kna hkn12
  have hkr13 := b1013 _ _ kra hkr10
  refine ⟨_, rfl, a, _, dx, _, _, rfl, ha13, cB, nB "own_key_rows" (by decide +kernel), rfl, kr, rows, ks, rfl, hkr13, krow b13, ok.k, fun G14 sts xs u14 hsts => ?_⟩
  have ha14 := u14 _ _ ha13
  refine ⟨_, rfl, a, _, dx, _, rfl, ha14, cB, nB "own_stores" (by decide +kernel), (show (5 : Nat) < 1000 by decide), ?_⟩
  generalize hG : upd G14 a _ = G15
  have ha15 : G15 a = some (.ins (cA K "Book") dx [("own_text", .str t), ("own_key_rows", .ref kr), ("own_groups", .ref gt), ("programs", .ref D2), ("key_names", .ref kn), ("own_stores", .ref sts)]) := by rw [← hG]; exact upd_same
  have c15 : But a G14 G15 := fun c u hc e => by rw [← hG, upd_ne hc]; exact e
  clear hG
  have b1315 : But a G13 G15 := fun c u hc e => c15 _ _ hc (u14 _ _ e)
  have b15 : But a G2 G15 := fun c u hc e => b1315 _ _ hc (b13 _ _ hc e)
  have stsa : sts ≠ a := ne_of hsts ha14 (by intro z; cases z)
  have hsts15 := c15 _ _ stsa hsts
  have hkn15 := b1315 _ _ kna hkn13
  refine ⟨_, rfl, a, _, dx, _, _, rfl, ha15, cB, nB "key_names" (by decide +kernel), rfl, kn, _, rfl, SqT.of hkn15, fun D4 nD4 => ?_⟩
  refine dc_it (walk_enumT (xs := ks.map fun k => .str k.name)) (AccD (fun i => mkD (kplc 0 (ks.take i))) D4 G15) (accd_start rfl) (fun i G _ q => SqT.of (q.same nD4 _ _ hkn15)) (fun i x G G' hi q y => ?_) (fun G16 q16 => ?_)
  · obtain ⟨t2, x1, x2, rfl, nt2, rfl, e1, e2⟩ := y
    obtain rfl : V.int (i : Nat) = x1 := Option.some.inj e1
    dsimp only at e2
    rw [List.getElem?_map] at e2
    cases et : ks[i]? with
    | none => rw [et] at e2; cases e2
    | some k =>
    rw [et] at e2
    obtain rfl : V.str k.name = x2 := Option.some.inj e2
    have hil : i < ks.length := (List.getElem?_eq_some_iff.mp et).1
    have st1 : Same G (upd G t2 (.tup [.int (i : Nat), .str k.name])) := same_upd nt2
    refine ⟨t2, _, rfl, SqT.of upd_same, rfl, _, _, rfl, _, _, rfl, rfl, rfl, ?_⟩
    dsimp only [tYes]
    rw [if_pos rfl]
    refine ⟨_, rfl, _, rfl, mkD (kplc 0 (ks.take i)), Sum.inr k.name, rfl, accd_step q st1 ?_ ?_⟩
    · rw [mkD_length, ← List.length_map (f := (·.1)), kplc_names, List.length_map, List.length_take]
      have := Nat.min_le_right i ks.length
      omega
    · rw [mkD_put]
      · rw [List.take_add_one, et]
        show mkD (kplc 0 (ks.take i ++ [k])) = _
        rw [kplc_snoc, List.length_take, Nat.min_eq_left (Nat.le_of_lt hil), Nat.zero_add]
      · rw [kplc_names]
        have hnd := ok.k.nd
        intro hin
        obtain ⟨r2, h1, h2⟩ := List.mem_map.mp hin
        obtain ⟨j, hj⟩ := List.getElem?_of_mem h1
        have hjk : j < i := by
          have := (List.getElem?_eq_some_iff.mp hj).1
          rw [List.length_take] at this
          omega
        rw [List.getElem?_take_of_lt hjk] at hj
        have e1 : (ks.map (·.name))[j]? = some k.name := by rw [List.getElem?_map, hj]; simpa using h2
        have e2 : (ks.map (·.name))[i]? = some k.name := by rw [List.getElem?_map, et]; rfl
        have := (List.getElem?_inj (by rw [List.length_map]; omega) hnd).mp (e1.trans e2.symm)
        omega
  have u16 : Same G15 G16 := q16.same nD4
  have hD4 : G16 D4 = some (.dK (mkD (kplc 0 ks))) := by
    have := q16.1
    dsimp only at this
    rw [List.length_map, List.take_of_length_le (Nat.le_refl _)] at this
    exact this
  have ha16 := u16 _ _ ha15
  refine ⟨_, rfl, a, _, dx, _, rfl, ha16, cB, nB "own_places" (by decide +kernel), (show (6 : Nat) < 1000 by decide), ?_⟩
  generalize hG : upd G16 a _ = G17
  have ha17 : G17 a = some (.ins (cA K "Book") dx [("own_text", .str t), ("own_key_rows", .ref kr), ("own_groups", .ref gt), ("programs", .ref D2), ("key_names", .ref kn), ("own_stores", .ref sts), ("own_places", .ref D4)]) := by rw [← hG]; exact upd_same
  have c17 : But a G16 G17 := fun c u hc e => by rw [← hG, upd_ne hc]; exact e
  clear hG
  have b1517 : But a G15 G17 := fun c u hc e => c17 _ _ hc (u16 _ _ e)
  have D4a : D4 ≠ a := ne_of hD4 ha16 (by intro z; cases z)
  have hD417 := c17 _ _ D4a hD4
  intro D5 nD5
  have v18 := same_upd (o := .dK []) nD5
  have hD518 : upd G17 D5 (.dK []) D5 = _ := upd_same
  have ha18 := v18 _ _ ha17
  generalize upd G17 D5 (.dK []) = G18 at v18 hD518 ha18 ⊢
  refine ⟨_, rfl, a, _, dx, _, rfl, ha18, cB, nB "own_woken" (by decide +kernel), (show (7 : Nat) < 1000 by decide), ?_⟩
  generalize hG : upd G18 a _ = G19
  have ha19 : G19 a = some (.ins (cA K "Book") dx (fsB t kr gt D2 kn sts D4 D5)) := by rw [← hG]; exact upd_same
  have c19 : But a G18 G19 := fun c u hc e => by rw [← hG, upd_ne hc]; exact e
  clear hG
  have b1719 : But a G17 G19 := fun c u hc e => c19 _ _ hc (v18 _ _ e)
  have b1519 : But a G15 G19 := fun c u hc e => b1719 _ _ hc (b1517 _ _ hc e)
  have b19 : But a G2 G19 := fun c u hc e => b1519 _ _ hc (b15 _ _ hc e)
  have D5a : D5 ≠ a := ne_of hD518 ha18 (by intro z; cases z)
  have hD519 := c19 _ _ D5a hD518
  have hkn19 := b1519 _ _ kna hkn15
  have nd5 : ∀ c u, c ≠ a → G17 c = some u → c ≠ D5 := fun c u _ e => ne_of_none e nD5
  have wlen : ∀ i k, (wkl (ps.take i) (ds.take i) k).length ≤ i := fun i k => by
    unfold wkl
    rw [List.length_map]
    refine Nat.le_trans (List.length_filter_le _ _) ?_
    rw [List.length_zip, List.length_take, List.length_take]
    omega
  refine ⟨_, rfl, a, _, dx, _, _, rfl, ha19, cB, nB "key_names" (by decide +kernel), rfl, kn, rfl, ⟨_, SqT.of hkn19⟩, ?_⟩
  have kn5 : kn ≠ D5 := ne_of hkn19 hD519 (by intro z; cases z)
  refine for_tup (xs := ks.map fun k => .str k.name) (fun i σ G => (∃ x1 x2 x3 x4 x5 x6 x7, σ = [some (.ref a), some (.str t), some (.ref p), x1, x2, x3, x4, x5, x6, x7]) ∧ But D5 G19 G ∧ ∃ kvw : List (Key × V), G D5 = some (.dK kvw) ∧ kvw.length ≤ i ∧ ∀ (j : Nat) k, j < i → ks[j]? = some k → ∃ tw, valV kvw (Sum.inr k.name) = some (.ref tw) ∧ G tw = some (.tup (wkl ps ds k.name))) ⟨⟨_, _, _, _, _, _, _, rfl⟩, fun c u hc e => e, [], hD519, Nat.le_refl _, fun j k hj => absurd hj (Nat.not_lt_zero _)⟩ (fun i σ G _ q => SqT.of (q.2.1 _ _ kn5 hkn19)) ?_ ?_
  · rintro i x σ G hx ⟨⟨x1, x2, x3, x4, x5, x6, x7, rfl⟩, bG, kvw, hkv, hkl, hval⟩
    rw [List.getElem?_map] at hx
    cases et : ks[i]? with
    | none => rw [et] at hx; cases hx
    | some k =>
    rw [et] at hx
    obtain rfl : V.str k.name = x := Option.some.inj hx
    have hil : i < ks.length := (List.getElem?_eq_some_iff.mp et).1
    have hpa5 : p ≠ D5 := ne_of (b19 _ _ pa hp) hD519 (by intro z; cases z)
    have hld5 : ld ≠ D5 := ne_of (hld b19) hD519 (by intro z; cases z)
    refine ⟨_, rfl, p, _, dp, _, _, rfl, bG _ _ hpa5 (b19 _ _ pa hp), cG, nG "told_deeds" (by decide +kernel), rfl, ld, rfl, ⟨_, SqL.of (bG _ _ hld5 (hld b19))⟩, fun D nD => ?_⟩
    refine lc_list (xs := ps.map V.ref) (AccP (fun i => wkl (ps.take i) (ds.take i) k.name) D G) (acc_start rfl) (fun i G' _ q => SqL.of (q.same nD _ _ (bG _ _ hld5 (hld b19)))) (fun i v G' hi q => ?_) (fun G20 q20 => ?_)
    · rw [List.getElem?_map] at hi
      cases et' : ps[i]? with
      | none => rw [et'] at hi; cases hi
      | some pr =>
      rw [et'] at hi
      obtain rfl : V.ref pr = v := Option.some.inj hi
      obtain ⟨d, n, dz, st, hd', hpr⟩ := prg b19 i pr et'
      have hpr' := q.same nD _ _ (bG _ _ (ne_of hpr hD519 (by intro z; cases z)) hpr)
      refine ⟨rfl, ?_⟩
      refine ⟨_, rfl, pr, _, dz, _, _, rfl, hpr', cP, nP "when" (by decide +kernel), rfl, _, rfl, rfl, _, rfl, ?_⟩
      have hstep : wkl (ps.take (i + 1)) (ds.take (i + 1)) k.name = wkl (ps.take i) (ds.take i) k.name ++ (if d.line.wh = k.name then [.ref pr] else []) := by
        have hil2 : i < ds.length := (List.getElem?_eq_some_iff.mp hd').1
        rw [List.take_add_one, List.take_add_one, et', hd']
        unfold wkl
        rw [List.zip_append (by rw [List.length_take, List.length_take]; omega), List.filter_append, List.map_append]
        congr 1
        by_cases e : d.line.wh = k.name <;> simp [e]
      by_cases e : d.line.wh = k.name
      · refine iY (decide_eq_true (by rw [e])) ?_
        rw [if_pos e] at hstep
        exact ⟨_, rfl, acc_step q (Same.refl _) (by have := wlen i k.name; have : i < ps.length := (List.getElem?_eq_some_iff.mp et').1; omega) hstep⟩
      · refine iN (decide_eq_false fun z => e (V.str.inj z)) ?_
        rw [if_neg e, List.append_nil] at hstep
        exact acc_skip q (Same.refl _) hstep
    have hD : G20 D = some (.lst (wkl ps ds k.name)) := by
      have := q20.1
      dsimp only at this
      rw [List.length_map, List.take_of_length_le (Nat.le_refl _), List.take_of_length_le (by omega)] at this
      exact this
    have u20 : Same G G20 := q20.same nD
    refine ⟨D, _, rfl, .inl ⟨SqL.of hD, fun tw ntw => ?_⟩⟩
    have v21 := same_upd (o := .tup (wkl ps ds k.name)) ntw
    have htw : upd G20 tw (.tup (wkl ps ds k.name)) tw = _ := upd_same
    generalize upd G20 tw (.tup (wkl ps ds k.name)) = G21 at v21 htw ⊢
    have ua := v21 _ _ (u20 _ _ (bG _ _ (Ne.symm D5a) ha19))
    have hkv21 := v21 _ _ (u20 _ _ hkv)
    have tw5 : tw ≠ D5 := ne_of htw hkv21 (by intro z; cases z)
    refine ⟨_, rfl, a, _, dx, _, _, rfl, ua, cB, nB "own_woken" (by decide +kernel), rfl, _, rfl, D5, _, rfl, DPut.k (k := Sum.inr k.name) hkv21 (by omega), ?_⟩
    refine ⟨⟨_, _, _, _, _, _, _, rfl⟩, fun c u hc e => (upd_ne hc).trans (v21 _ _ (u20 _ _ (bG _ _ hc e))), _, upd_same, ?_, fun j k2 hj hk2 => ?_⟩
    · unfold putK
      split
      · rw [List.length_map]; omega
      · rw [List.length_append]; simp only [List.length_cons, List.length_nil]; omega
    · rw [valV_put]
      by_cases e : k2.name = k.name
      · rw [if_pos (by rw [e]), e]
        exact ⟨tw, rfl, (upd_ne tw5).trans htw⟩
      · rw [if_neg (fun z => e (Sum.inr.inj z))]
        have hji : j < i := by
          rcases Nat.lt_or_ge j i with h | h
          · exact h
          · have : j = i := by omega
            subst this
            rw [et] at hk2
            exact absurd (by rw [Option.some.inj hk2]) e
        obtain ⟨tw2, e1, e2⟩ := hval j k2 hji hk2
        have e2' := v21 _ _ (u20 _ _ e2)
        exact ⟨tw2, e1, (upd_ne (ne_of e2' hkv21 (by intro z; cases z))).trans e2'⟩
  · rintro σ G ⟨_, bG, kvw, hkv, _, hval⟩
    rw [List.length_map] at hval
    have g1719 : ∀ c u, c ≠ a → G17 c = some u → G c = some u := fun c u hc e => bG _ _ (nd5 c u hc e) (b1719 _ _ hc e)
    have g15 : ∀ c u, c ≠ a → G15 c = some u → G c = some u := fun c u hc e => g1719 c u hc (b1517 _ _ hc e)
    have g10 : ∀ c u, c ≠ a → G10 c = some u → G c = some u := fun c u hc e => g15 c u hc (b1315 _ _ hc (b1013 _ _ hc e))
    have bAll : But a G2 G := fun c u hc e => g15 c u hc (b15 _ _ hc e)
    refine hQ G (fun c u hc e => bAll c u hc (u2 _ _ (u1 _ _ e))) ⟨dx, kr, gt, D2, kn, sts, D4, D5, rows, ps, xs, kvw, bG _ _ (Ne.symm D5a) ha19, g10 _ _ kra hkr10, krow bAll, g10 _ _ gta hgt10, g10 _ _ D2a hD210, ?_, g15 _ _ kna hkn15, g15 _ _ stsa hsts15, g1719 _ _ D4a hD417, hkv, fun k hk => ?_⟩
    · refine Paired.imp (fun q d h => ?_) hps
      have hqa : q ≠ a := fun z => by
        obtain ⟨_, _, _, _, ⟨_, g⟩, _⟩ := h
        rw [z, ha2] at g
        injection g with g; injection g with _ _ g; cases g
      exact h.butL bAll ha2 (by simp) (by simp) hqa
    · obtain ⟨j, hj⟩ := List.getElem?_of_mem hk
      exact hval j k (List.getElem?_eq_some_iff.mp hj).1 hj
end
end KP

/-! words: is_tuple, is_word_of; books: key_rows, place_of; forms: is_worth, is_key, is_worth_of. -/
namespace KP
open PySem PySem.Spec PyProof.Rows L2 G137 SlX
/-- what the module says of its errors -/
structure Er (P : Program) (w : World) (K : Frag) (mg : Str → Option Value) (base : Heap) : Prop where
  m : ∀ x ∈ gExc, ErrM P w K mg base (cA K "OnlyError") (cA K x)
  k : ∀ x ∈ gExc, ErrK K (cA K x)
  kit : ∀ x ∈ gExc, ∀ y ∈ gExc, PySem.W.kitOne K (.ref (cA K x)) (.ref (cA K y)) = some (x == y)
  exm : ∀ x ∈ gExc, PySem.W.exmOne K (.ref (cA K x)) (.ref (cA K "OnlyError")) = some true
/-- the members of a tuple -/
def tupO : Option HO → Option (List V)
  | some (.tup xs) => some xs
  | _ => none
def tupOf (H : Hp) : V → Option (List V)
  | .ref a => tupO (H a)
  | _ => none
theorem isB_tuple {H : Hp} {v : V} {T : String} (h : tyS H v = some T) : isB T "tuple" = (tupOf H v).isSome := by
  cases v with
  | non => cases h; rfl
  | bl b => cases h; rfl
  | int b => cases h; rfl
  | str b => cases h; rfl
  | ref a => rcases tyO_some h with ⟨rfl, xs, e⟩ | ⟨rfl, xs, e⟩ | ⟨rfl, xs, e⟩ <;> (show _ = (tupO (H a)).isSome; rw [e]; rfl)
  | byt b => cases h
  | flt b => cases h
  | ty b => cases h
theorem tupOf_some {H : Hp} {v : V} {xs : List V} (h : tupOf H v = some xs) : ∃ a, v = .ref a ∧ H a = some (.tup xs) := by
  cases v with
  | ref a =>
    have h' : tupO (H a) = some xs := h
    unfold tupO at h'
    split at h'
    · rename_i ys e
      cases h'
      exact ⟨a, rfl, e⟩
    · cases h'
  | _ => cases h
theorem tupOf_same {H H' : Hp} {v : V} (s : Same H H') (h : Pl H v) : tupOf H' v = tupOf H v := by
  obtain ⟨T, hT⟩ := h
  cases v with
  | ref a => rcases tyO_some hT with ⟨rfl, xs, e⟩ | ⟨rfl, xs, e⟩ | ⟨rfl, xs, e⟩ <;> (show tupO (H' a) = tupO (H a); rw [e, s _ _ e])
  | _ => rfl
def tupB (H : Hp) (v : V) (lo hi : Int) : Bool := match tupOf H v with
  | some xs => decide (lo ≤ (xs.length : Int)) && decide ((xs.length : Int) ≤ hi)
  | none => false
def spTup : Sp := fun vs H Q _ => ∃ v lo hi, vs = [v, .int lo, .int hi] ∧ Pl H v ∧ Q (.bl (tupB H v lo hi)) H
def wordB (v : V) (ws : List Str) : Bool := match v with
  | .str x => decide (x ∈ ws)
  | _ => false
def spWd (K : Frag) : Sp := fun vs H Q _ => ∃ v l ws, vs = [v, .ref l] ∧ Pl H v ∧ (SqL K H l (ws.map V.str) ∨ SqT K H l (ws.map V.str)) ∧ Q (.bl (wordB v ws)) H
def KeyR.lo (k : KeyR) : Int := if k.may = true then -1 else 0
def worthB (k : KeyR) (v : V) : Bool := betV v k.lo ((k.size : Int) - 1)
def spWth : Sp := fun vs H Q _ => ∃ t k v, vs = [.ref t, v] ∧ H t = some k.tup ∧ Pl H v ∧ Q (.bl (worthB k v)) H
/-- the tuple of the rows of a book's keys -/
def BkRows (K : Frag) (H : Hp) (b : Addr) (ks : List KeyR) (kr : Addr) : Prop := ∃ dx t g pd kn s pl w rows, H b = some (.ins (cA K "Book") dx (fsB t kr g pd kn s pl w)) ∧ H kr = some (.tup (rows.map V.ref)) ∧ KeyRows H rows ks
theorem BookAt.rows {K : Frag} {H : Hp} {a : Addr} {t : Str} {ks : List KeyR} {ds : List DeedD} (h : BookAt K H a t ks ds) : ∃ kr, BkRows K H a ks kr := by
  obtain ⟨dx, kr, g, pd, kn, st, pl, w, rows, ps, xs, kvw, h1, h2, h3, _⟩ := h
  exact ⟨kr, dx, t, g, pd, kn, st, pl, w, rows, h1, h2, h3⟩
theorem BkRows.same {K : Frag} {H H' : Hp} {a kr : Addr} {ks : List KeyR} (s : Same H H') (h : BkRows K H a ks kr) : BkRows K H' a ks kr := by
  obtain ⟨dx, t, g, pd, kn, st, pl, w, rows, h1, h2, h3⟩ := h
  exact ⟨dx, t, g, pd, kn, st, pl, w, rows, s _ _ h1, s _ _ h2, h3.same s⟩
def spRows (K : Frag) : Sp := fun vs H Q _ => ∃ b ks kr, vs = [.ref b] ∧ BkRows K H b ks kr ∧ Q (.ref kr) H
/-- the place of a key -/
def keyIx (ks : List KeyR) (v : V) : Option Nat := match v with
  | .str x => ks.findIdx? fun k => decide (k.name = x)
  | _ => none
def spKey (K : Frag) : Sp := fun vs H Q _ => ∃ b ks kr v, vs = [.ref b, v] ∧ BkRows K H b ks kr ∧ ks.length ≤ 4 ∧ Pl H v ∧ ∀ H', Same H H' → Q (.bl (keyIx ks v).isSome) H'
theorem keyIx_some {ks : List KeyR} {v : V} {i : Nat} (h : keyIx ks v = some i) : ∃ k, ks[i]? = some k ∧ v = .str k.name := by
  unfold keyIx at h
  cases v with
  | str x =>
    dsimp only at h
    obtain ⟨hi, h1, h2⟩ := List.findIdx?_eq_some_iff_getElem.mp h
    exact ⟨ks[i], List.getElem?_eq_getElem hi, by rw [of_decide_eq_true h1]⟩
  | _ => cases h
theorem keyIx_isSome (ks : List KeyR) (v : V) : (keyIx ks v).isSome = wordB v (ks.map (·.name)) := by
  unfold keyIx wordB
  cases v with
  | str x =>
    dsimp only
    rw [List.findIdx?_isSome]
    by_cases h : x ∈ ks.map (·.name)
    · rw [decide_eq_true h, List.any_eq_true]
      obtain ⟨k, h1, h2⟩ := List.mem_map.mp h
      exact ⟨k, h1, decide_eq_true h2⟩
    · rw [decide_eq_false h, List.any_eq_false]
      intro k hk z
      exact h (List.mem_map.mpr ⟨k, hk, of_decide_eq_true z⟩)
  | _ => rfl
section
variable {P : Program} {w : World} {K : Frag} {mg : Str → Option Value} {base : Heap}
theorem sc_is_tuple : FnScope ["value", "low", "high"] ["value", "low", "high"] (defScope d_is_tuple) := ⟨rfl, rfl, rfl, by decide +kernel, rfl, by decide +kernel, by decide +kernel⟩
theorem ok_is_tuple (T : Pr K mg) : FOk P w K mg base 1 "is_tuple" ["value", "low", "high"] spTup := by
  obtain ⟨fd, F⟩ := T.f_is_tuple
  have blen := T.fre "len" (by decide +kernel)
  have bisinstance := T.fre "isinstance" (by decide +kernel)
  have btuple := T.fre "tuple" (by decide +kernel)
  refine FOk.of F (T.glo _ (by decide +kernel)) sc_is_tuple (fun _ _ _ _ _ _ us hl => match us, hl with | [_, _, _], _ => rfl) (fun vs H Q E h => ?_) (fun cdv A outer s H vs Q E hr h => ?_)
  · obtain ⟨_, _, _, rfl, _⟩ := h; rfl
  refine ⟨_, PSs.nox (pss_one (ps_ret (pe_and (pe_callB call_isT (by rfl) bisinstance boot_isinstance (pa_cons (pv 0) (pa_cons (pe_bltn (u := .type "tuple") (v := .ty "tuple") rfl btuple (by decide +kernel) rfl) pa_nil))) (pe_one (pe_chain op_le op_le (pv 1) (pe_callB call_len_seq (by rfl) blen PySem.boot_len (pa_cons (pv 0) pa_nil)) (pv 2)))))), ?_⟩
  obtain ⟨v, lo, hi, rfl, ⟨Ty, hT⟩, hQ⟩ := h
  refine ⟨_, rfl, v, Ty, "tuple", rfl, hT, by decide, _, rfl, ?_⟩
  rw [isB_tuple hT]
  cases e : tupOf H v with
  | none =>
    have : tupB H v lo hi = false := by unfold tupB; rw [e]
    rw [this] at hQ
    exact iN rfl hQ
  | some xs =>
    obtain ⟨a, rfl, ha⟩ := tupOf_some e
    have e1 : tupB H (.ref a) lo hi = (decide (lo ≤ (xs.length : Int)) && decide ((xs.length : Int) ≤ hi)) := by unfold tupB; rw [e]
    rw [e1] at hQ
    refine iY rfl ?_
    refine ⟨_, rfl, _, rfl, a, _, rfl, .inr (SqT.of ha), _, _, rfl, rfl, _, rfl, ?_⟩
    cases e2 : decide (lo ≤ (xs.length : Int)) with
    | true =>
      rw [e2] at hQ
      refine iY rfl ?_
      exact ⟨_, rfl, _, _, rfl, rfl, hQ⟩
    | false =>
      rw [e2] at hQ
      exact iN rfl hQ
theorem sc_is_word_of : FnScope ["value", "words"] ["value", "words"] (defScope d_is_word_of) := ⟨rfl, rfl, rfl, by decide +kernel, rfl, by decide +kernel, by decide +kernel⟩
theorem ok_is_word_of (T : Pr K mg) : FOk P w K mg base 1 "is_word_of" ["value", "words"] (spWd K) := by
  obtain ⟨fd, F⟩ := T.f_is_word_of
  have bisinstance := T.fre "isinstance" (by decide +kernel)
  have bstr := T.fre "str" (by decide +kernel)
  refine FOk.of F (T.glo _ (by decide +kernel)) sc_is_word_of (fun _ _ _ _ _ _ us hl => match us, hl with | [_, _], _ => rfl) (fun vs H Q E h => ?_) (fun cdv A outer s H vs Q E hr h => ?_)
  · obtain ⟨_, _, _, rfl, _⟩ := h; rfl
  refine ⟨_, PSs.nox (pss_one (ps_ret (pe_and (pe_callB call_isT (by rfl) bisinstance boot_isinstance (pa_cons (pv 0) (pa_cons (pe_bltn (u := .type "str") (v := .ty "str") rfl bstr (by decide +kernel) rfl) pa_nil))) (pe_one (pe_cmpR op_in_seq (pv 0) (pv 1) (by rfl)))))), ?_⟩
  obtain ⟨v, l, ws, rfl, ⟨Ty, hT⟩, hl, hQ⟩ := h
  refine ⟨_, rfl, v, Ty, "str", rfl, hT, by decide, _, rfl, ?_⟩
  rw [isB_str hT]
  cases v with
  | str x =>
    refine iY rfl ?_
    refine ⟨_, rfl, _, rfl, l, _, rfl, hl, rfl, flat_strs ws, ?_⟩
    rw [if_neg Bool.false_ne_true, inV_str]
    exact hQ
  | _ => exact iN rfl hQ
theorem sc_is_worth : FnScope ["row", "value", "name", "size", "is_may"] ["row", "value"] (defScope d_is_worth) := ⟨rfl, rfl, rfl, by decide +kernel, rfl, by decide +kernel, by decide +kernel⟩
theorem ok_is_worth (T : Pr K mg) : FOk P w K mg base 3 "is_worth" ["row", "value"] spWth := by
  obtain ⟨fd, F⟩ := T.f_is_worth
  have gGone := T.int "GONE" (-1) (by decide +kernel)
  refine FOk.of F (T.glo _ (by decide +kernel)) sc_is_worth (fun _ _ _ _ _ _ us hl => match us, hl with | [_, _], _ => rfl) (fun vs H Q E h => ?_) (fun cdv A outer s H vs Q E hr h => ?_)
  · obtain ⟨_, _, _, rfl, _⟩ := h; rfl
  refine ⟨_, PSs.nox (pss_cons (ps_asg (pv 0) (pg_tup rfl (pgs_cons (pg_name (i := 2) sc_is_worth.nd rfl (Or.inl rfl)) (pgs_cons (pg_name (i := 3) sc_is_worth.nd rfl (Or.inl rfl)) (pgs_cons (pg_name (i := 4) sc_is_worth.nd rfl (Or.inl rfl)) pgs_nil)))))
    (pss_one (ps_ret (pe_callF (ok_is_between T) (hr.mono (by decide)) rfl (pa_cons (pv 1) (pa_cons (pe_ifExp (pt_val (pv 4)) (pe_gi (by rfl) gGone) pe_int) (pa_cons (pe_op op_sub (pv 3) pe_int) pa_nil))))))), ?_⟩
  obtain ⟨t, k, v, rfl, ht, hp, hQ⟩ := h
  refine ⟨_, rfl, t, _, rfl, SqT.of ht, rfl, _, _, rfl, _, _, rfl, _, _, rfl, rfl, ?_⟩
  refine ⟨_, rfl, _, rfl, _, rfl, ?_⟩
  refine ite_tC ?_
  exact ⟨_, rfl, _, _, rfl, rfl, v, _, _, rfl, hp, hQ⟩
theorem sc_key_rows : FnScope ["self"] ["self"] (defScope m_Book_key_rows) := ⟨rfl, rfl, rfl, by decide +kernel, rfl, by decide +kernel, by decide +kernel⟩
theorem ok_p_Book_key_rows (T : Pr K mg) : POk P w K mg base 1 (cA K "Book") "key_rows"  (spRows K) := by
  obtain ⟨p_, g_, fd, hp, F⟩ := T.p_Book_key_rows
  refine POk.of F (T.cls "Book" (by decide +kernel)) hp sc_key_rows (fun _ _ _ _ _ _ us hl => match us, hl with | [_], _ => rfl) (fun vs H Q E h => ?_) (fun cdv A outer s H vs Q E hr h => ?_)
  · obtain ⟨_, _, _, rfl, _⟩ := h; rfl
  refine ⟨_, PSs.nox (pss_one (ps_ret (pe_fld (pv 0) rfl))), ?_⟩
  have cB := T.cls "Book" (by decide +kernel)
  have nB : ∀ f, (("Book" : Str), f) ∈ gFld → NoAttr K (cA K "Book") f := T.fld "Book"
  obtain ⟨b, ks, kr, rfl, ⟨dx, t, g, pd, kn, st, pl, w, rows, h1, h2, h3⟩, hQ⟩ := h
  exact ⟨_, rfl, b, _, dx, _, _, rfl, h1, cB, nB "own_key_rows" (by decide +kernel), rfl, hQ⟩
theorem sc_is_key : FnScope ["book", "value", "row"] ["book", "value"] (defScope d_is_key) := ⟨rfl, rfl, rfl, by decide +kernel, rfl, by decide +kernel, by decide +kernel⟩
theorem ok_is_key (T : Pr K mg) : FOk P w K mg base 3 "is_key" ["book", "value"] (spKey K) := by
  obtain ⟨fd, F⟩ := T.f_is_key
  refine FOk.of F (T.glo _ (by decide +kernel)) sc_is_key (fun _ _ _ _ _ _ us hl => match us, hl with | [_, _], _ => rfl) (fun vs H Q E h => ?_) (fun cdv A outer s H vs Q E hr h => ?_)
  · obtain ⟨_, _, _, _, rfl, _⟩ := h; rfl
  refine ⟨_, PSs.nox (pss_one (ps_ret (pe_callF (ok_is_word_of T) (hr.mono (by decide)) rfl (pa_cons (pv 1) (pa_cons (pe_lc (own := [("row", 2)]) (g := gName 2) (tt := tYes) (te := tOp (rIxT K) (tVar 2) (tC (.int 0))) rfl sc_is_key.nd (pi_tup (pe_propF (pv 0) (ok_p_Book_key_rows T) (hr.mono (by decide)))) (blkOk_by (own := [("row", 2)]) (N := ["book", "value", "row"]) (sc := defScope d_is_key) (by decide +kernel)) (fun _ _ _ _ _ => (pg_name (i := 2) sc_is_key.nd rfl (Or.inl rfl))) (fun _ _ _ _ _ => pts_nil) (fun _ _ _ _ _ => (pe_ix ix_tup (pv 2) pe_int (fun _ _ => rfl)))) pa_nil))))), ?_⟩
  obtain ⟨b, ks, kr, v, rfl, hB, h4, hp, hQ⟩ := h
  obtain ⟨dx, t, g, pd, kn, st, pl, w, rows, h1, h2, h3⟩ := id hB
  have hbig := sizeLine_big
  have hlr : rows.length = ks.length := Paired.length h3
  refine ⟨_, rfl, _, rfl, b, dx, _, rfl, h1, b, ks, kr, rfl, hB, kr, rfl, ⟨_, SqT.of h2⟩, fun D nD => ?_⟩
  refine lc_tup (xs := rows.map V.ref) (AccP (fun i => ((ks.map (·.name)).take i).map V.str) D H) (acc_start rfl) (fun i G _ q => SqT.of (q.same nD _ _ h2)) (fun i y G hi q => ?_) (fun G q => ?_)
  · rw [List.getElem?_map] at hi
    cases et : rows[i]? with
    | none => rw [et] at hi; cases hi
    | some r =>
    rw [et] at hi
    obtain rfl : V.ref r = y := Option.some.inj hi
    obtain ⟨k, hk', hkt⟩ := Paired.get? h3 et
    refine ⟨rfl, ?_⟩
    dsimp only [tYes]
    rw [if_pos rfl]
    refine ⟨_, rfl, r, _, _, .str k.name, rfl, rfl, SqT.of (q.same nD _ _ hkt), atI_nat (j := 0) rfl, acc_step q (Same.refl _) ?_ ?_⟩
    · rw [List.length_map, List.length_take, List.length_map]
      have := Nat.min_le_right i ks.length
      omega
    · rw [List.take_add_one, List.getElem?_map, hk']; simp
  have hD : G D = some (.lst ((ks.map (·.name)).map V.str)) := by
    have := q.1
    dsimp only at this
    rw [List.length_map, hlr, List.take_of_length_le (by rw [List.length_map]; exact Nat.le_refl _)] at this
    exact this
  refine ⟨v, D, ks.map (·.name), rfl, hp.same (q.same nD), .inl (SqL.of hD), ?_⟩
  rw [← keyIx_isSome]
  exact hQ G (q.same nD)
end
end KP

/-! forms: is_store, check_store, is_worth_of; books: place_of. -/
namespace G137
open PySem L2
theorem walk_zipT {K : PySem.W.Frag} {a b : Addr} {xs ys : List V} {n : Nat} (hn : n = min xs.length ys.length) : Walk (RZ.ItzT K a b) n (fun H => SqT K H a xs ∧ SqT K H b ys) (YPair (fun i => xs[i]?) (fun i => ys[i]?)) where
  goes := fun i H hi h => ⟨xs, ys, xs[i]'(by omega), ys[i]'(by omega), h.1, h.2, List.getElem?_eq_getElem _, List.getElem?_eq_getElem _⟩
  stops := fun H h => ⟨xs, ys, h.1, h.2, by omega⟩
  yields := fun i H x H' hi h y => by
    obtain ⟨T, u, v, e1, e2, e3, e4, e5⟩ := y
    exact ⟨T, u, v, e1, e2, e3, e4 xs h.1, e5 ys h.2⟩
end G137
namespace KP
open PySem PySem.Spec PyProof.Rows L2 G137 SlX
/-- whether a value tells a store -/
def storeB (H : Hp) (ks : List KeyR) (v : V) : Bool := match tupOf H v with
  | some xs => decide (xs.length = ks.length) && (ks.zip xs).all fun p => worthB p.1 p.2
  | none => false
/-- a plain value, its members too if it is a tuple -/
def Pl1 (H : Hp) (v : V) : Prop := Pl H v ∧ ∀ xs, tupOf H v = some xs → ∀ x ∈ xs, Pl H x
theorem Pl1.same {H H' : Hp} {v : V} (h : Pl1 H v) (s : Same H H') : Pl1 H' v :=
  ⟨h.1.same s, fun xs e x hx => (h.2 xs ((tupOf_same s h.1).symm.trans e) x hx).same s⟩
def spIsSt (K : Frag) : Sp := fun vs H Q _ => ∃ b ks kr v, vs = [.ref b, v] ∧ BkRows K H b ks kr ∧ ks.length ≤ 4 ∧ Pl1 H v ∧ ∀ H', Same H H' → Q (.bl (storeB H ks v)) H'
def spChkS (K : Frag) : Sp := fun vs H Q E => ∃ b ks kr v, vs = [.ref b, v] ∧ BkRows K H b ks kr ∧ ks.length ≤ 4 ∧ Pl1 H v ∧ (storeB H ks v = true → ∀ H', Same H H' → Q .non H') ∧ (storeB H ks v = false → ∀ H' d, Same H H' → H' d = some (.xd [("value", v)]) → E (.ref (cA K "BadStore")) (some d) H')
def BkPl (K : Frag) (H : Hp) (b : Addr) (ks : List KeyR) : Prop := ∃ dx t kr g pd kn s pl w, H b = some (.ins (cA K "Book") dx (fsB t kr g pd kn s pl w)) ∧ H pl = some (.dK (mkD (kplc 0 ks)))
theorem BookAt.pl {K : Frag} {H : Hp} {a : Addr} {t : Str} {ks : List KeyR} {ds : List DeedD} (h : BookAt K H a t ks ds) : BkPl K H a ks := by
  obtain ⟨dx, kr, g, pd, kn, st, pl, w, rows, ps, xs, kvw, h1, _, _, _, _, _, _, _, h9, _⟩ := h
  exact ⟨dx, t, kr, g, pd, kn, st, pl, w, h1, h9⟩
theorem BkPl.same {K : Frag} {H H' : Hp} {a : Addr} {ks : List KeyR} (s : Same H H') (h : BkPl K H a ks) : BkPl K H' a ks := by
  obtain ⟨dx, t, kr, g, pd, kn, st, pl, w, h1, h2⟩ := h
  exact ⟨dx, t, kr, g, pd, kn, st, pl, w, s _ _ h1, s _ _ h2⟩
theorem kplc_val : ∀ (n : Nat) (ks : List KeyR) (x : Str), ((kplc n ks).find? fun p => decide (p.1 = x)).map (·.2) = (ks.findIdx? fun k => decide (k.name = x)).map fun i => V.int ((n + i : Nat) : Int)
  | n, [], x => rfl
  | n, k :: r, x => by
    rw [kplc, List.find?_cons, List.findIdx?_cons]
    by_cases h : k.name = x
    · simp [h]
    · simp only [decide_eq_false h]
      rw [kplc_val (n + 1) r x, if_neg Bool.false_ne_true, Option.map_map]
      congr 1
      funext i
      show V.int ((n + 1 + i : Nat) : Int) = V.int ((n + (i + 1) : Nat) : Int)
      rw [show n + 1 + i = n + (i + 1) by omega]
theorem place_val {ks : List KeyR} {v : V} {i : Nat} (h : keyIx ks v = some i) : ∃ x, v = .str x ∧ valV (mkD (kplc 0 ks)) (Sum.inr x) = some (.int (i : Int)) := by
  cases v with
  | str x =>
    refine ⟨x, rfl, ?_⟩
    rw [mkD_val, kplc_val]
    have h' : ks.findIdx? (fun k => decide (k.name = x)) = some i := h
    rw [h']
    simp
  | _ => cases h
def spPlc (K : Frag) : Sp := fun vs H Q _ => ∃ b ks v i, vs = [.ref b, v] ∧ BkPl K H b ks ∧ keyIx ks v = some i ∧ Q (.int (i : Int)) H
def spWof (K : Frag) : Sp := fun vs H Q _ => ∃ b ks kr v i k x, vs = [.ref b, v, x] ∧ BkPl K H b ks ∧ BkRows K H b ks kr ∧ keyIx ks v = some i ∧ ks[i]? = some k ∧ Pl H x ∧ Q (.bl (worthB k x)) H
section
variable {P : Program} {w : World} {K : Frag} {mg : Str → Option Value} {base : Heap}
theorem sc_is_store : FnScope ["book", "value", "many", "row", "worth"] ["book", "value"] (defScope d_is_store) := ⟨rfl, rfl, rfl, by decide +kernel, rfl, by decide +kernel, by decide +kernel⟩
theorem ok_is_store (T : Pr K mg) : FOk P w K mg base 4 "is_store" ["book", "value"] (spIsSt K) := by
  obtain ⟨fd, F⟩ := T.f_is_store
  have blen := T.fre "len" (by decide +kernel)
  have ball := T.fre "all" (by decide +kernel)
  refine FOk.of F (T.glo _ (by decide +kernel)) sc_is_store (fun _ _ _ _ _ _ us hl => match us, hl with | [_, _], _ => rfl) (fun vs H Q E h => ?_) (fun cdv A outer s H vs Q E hr h => ?_)
  · obtain ⟨_, _, _, _, rfl, _⟩ := h; rfl
  have bzip := T.fre "zip" (by decide +kernel)
  refine ⟨_, PSs.nox (pss_cons (ps_set (i := 2) sc_is_store.nd rfl (Or.inl rfl) (pe_callB call_len_seq (by rfl) blen PySem.boot_len (pa_cons (pe_propF (pv 0) (ok_p_Book_key_rows T) (hr.mono (by decide))) pa_nil)))
    (pss_one (ps_ret (pe_and (pe_callF (ok_is_tuple T) (hr.mono (by decide)) rfl (pa_cons (pv 1) (pa_cons (pv 2) (pa_cons (pv 2) pa_nil)))) (pe_one (pe_callB (cr_all rfl) (by rfl) ball (by decide +kernel) (pa_cons (pe_lc (own := [("row", 3), ("worth", 4)]) (g := gTup K 2 (gCons (gName 3) (gCons (gName 4) gNil))) (tt := tYes) (te := tCall spWth [] E0 (tCons (tVar 3) (tCons (tVar 4) tNil))) rfl sc_is_store.nd (RZ.pi_zipA (by rfl) bzip (pa_cons (pe_propF (pv 0) (ok_p_Book_key_rows T) (hr.mono (by decide))) (pa_cons (pv 1) pa_nil))) (blkOk_by (own := [("row", 3), ("worth", 4)]) (N := ["book", "value", "many", "row", "worth"]) (sc := defScope d_is_store) (by decide +kernel)) (fun _ _ _ _ _ => (pg_tup rfl (pgs_cons (pg_name (i := 3) sc_is_store.nd rfl (Or.inl rfl)) (pgs_cons (pg_name (i := 4) sc_is_store.nd rfl (Or.inl rfl)) pgs_nil)))) (fun _ _ _ _ _ => pts_nil) (fun _ _ _ _ _ => (pe_callF (ok_is_worth T) (hr.mono (by decide)) rfl (pa_cons (pv 3) (pa_cons (pv 4) pa_nil))))) pa_nil))))))), ?_⟩
  obtain ⟨b, ks, kr, v, rfl, hB, h4, hp, hQ⟩ := h
  obtain ⟨dx, t, g, pd, kn, st, pl, w, rows, h1, h2, h3⟩ := id hB
  have hbig := sizeLine_big
  have hlr : rows.length = ks.length := Paired.length h3
  refine ⟨_, rfl, b, dx, _, rfl, h1, b, ks, kr, rfl, hB, kr, _, rfl, .inr (SqT.of h2), ?_⟩
  refine ⟨_, rfl, _, rfl, _, rfl, v, _, _, rfl, hp.1, _, rfl, ?_⟩
  have hQ0 := hQ H (Same.refl H)
  cases e : tupOf H v with
  | none =>
    have e1 : storeB H ks v = false := by unfold storeB; rw [e]
    rw [e1] at hQ0
    have e2 : tupB H v ((rows.map V.ref).length : Int) ((rows.map V.ref).length : Int) = false := by unfold tupB; rw [e]
    rw [e2]
    exact iN rfl hQ0
  | some xs =>
    have e1 : storeB H ks v = (decide (xs.length = ks.length) && (ks.zip xs).all fun p => worthB p.1 p.2) := by unfold storeB; rw [e]
    have e2 : tupB H v ((rows.map V.ref).length : Int) ((rows.map V.ref).length : Int) = decide (xs.length = ks.length) := by
      unfold tupB
      rw [e, List.length_map, hlr]
      by_cases z : xs.length = ks.length
      · simp [z]
      · rw [decide_eq_false z]
        simp only [Bool.and_eq_false_iff, decide_eq_false_iff_not]
        omega
    rw [e2]
    by_cases z : xs.length = ks.length
    rotate_left
    · rw [decide_eq_false z] at e1
      rw [e1] at hQ0
      exact iN (decide_eq_false z) hQ0
    refine iY (decide_eq_true z) ?_
    obtain ⟨a, rfl, ha⟩ := tupOf_some e
    refine ⟨_, rfl, b, dx, _, rfl, h1, b, ks, kr, rfl, hB, _, rfl, kr, a, _, xs, rfl, .inr ⟨SqT.of h2, SqT.of ha, fun D nD => ?_⟩⟩
    refine lc_it (walk_zipT (xs := rows.map V.ref) (ys := xs) (n := ks.length) (by rw [List.length_map]; omega)) (AccP (fun i => (((ks.zip xs).take i).map fun p => worthB p.1 p.2).map V.bl) D H) (acc_start rfl) (fun i G _ q => ⟨SqT.of (q.same nD _ _ h2), SqT.of (q.same nD _ _ ha)⟩) (fun i y G G' hi q yl => ?_) (fun G q => ?_)
    · obtain ⟨t2, y1, y2, rfl, nt, rfl, f1, f2⟩ := yl
      dsimp only at f1 f2
      rw [List.getElem?_map] at f1
      cases et : rows[i]? with
      | none => rw [et] at f1; cases f1
      | some r =>
      rw [et] at f1
      obtain rfl : V.ref r = y1 := Option.some.inj f1
      obtain ⟨k, hk', hkt⟩ := Paired.get? h3 et
      have st1 := same_upd (o := .tup [.ref r, y2]) nt
      have sG := q.same nD
      refine ⟨t2, _, rfl, SqT.of upd_same, rfl, _, _, rfl, _, _, rfl, rfl, rfl, ?_⟩
      dsimp only [tYes]
      rw [if_pos rfl]
      refine ⟨_, rfl, _, rfl, r, k, y2, rfl, st1 _ _ (sG _ _ hkt), ((hp.2 xs e y2 (List.mem_of_getElem? f2)).same sG).same st1, acc_step q st1 ?_ ?_⟩
      · rw [List.length_map, List.length_map, List.length_take, List.length_zip]
        omega
      · have hz : (ks.zip xs)[i]? = some (k, y2) := by rw [List.getElem?_zip_eq_some]; exact ⟨hk', f2⟩
        rw [List.take_add_one, hz]; simp
    · refine ⟨D, _, rfl, SqL.of q.1, ?_⟩
      have sG := q.same nD
      have e3 : (ks.zip xs).take ks.length = ks.zip xs := List.take_of_length_le (by rw [List.length_zip]; omega)
      have := hQ G sG
      rw [e1, decide_eq_true z, Bool.true_and] at this
      rw [e3, List.all_map]
      exact this
theorem sc_check_store : FnScope ["book", "value"] ["book", "value"] (defScope d_check_store) := ⟨rfl, rfl, rfl, by decide +kernel, rfl, by decide +kernel, by decide +kernel⟩
theorem ok_check_store (T : Pr K mg) (R : Er P w K mg base) : FOkX P w K mg base 5 "check_store" ["book", "value"] (spChkS K) := by
  obtain ⟨fd, F⟩ := T.f_check_store
  refine FOkX.of F (T.glo _ (by decide +kernel)) sc_check_store (fun _ _ _ _ _ _ us hl => match us, hl with | [_, _], _ => rfl) (fun vs H Q E h => ?_) (fun cdv A outer s H vs Q E hr h => ?_)
  · obtain ⟨_, _, _, _, rfl, _⟩ := h; rfl
  refine ⟨_, (pss_one (ps_if (pt_not (pt_val (pe_callF (ok_is_store T) (hr.mono (by decide)) rfl (pa_cons (pv 0) (pa_cons (pv 1) pa_nil)))))
      (pss_one (ps_raise rfl (takes_of rfl rfl rfl rfl) (pmk_err (R.m "BadStore" (by decide +kernel)) (hr.mono (by decide)) rfl (T.glo "BadStore" (by decide +kernel)) (pv 1))))
      pss_nil)), ?_⟩
  obtain ⟨b, ks, kr, v, rfl, hB, h4, hp, hQ, hE⟩ := h
  refine ⟨_, rfl, _, rfl, b, ks, kr, v, rfl, hB, h4, hp, fun G s1 => ⟨_, rfl, ?_⟩⟩
  cases e : storeB H ks v with
  | true => exact iN rfl (hQ e G s1)
  | false =>
    refine iY rfl ?_
    exact ⟨_, rfl, fun d nd => hE e _ d (s1.trans (same_upd nd)) upd_same⟩
theorem sc_place_of : FnScope ["self", "key"] ["self", "key"] (defScope m_Book_place_of) := ⟨rfl, rfl, rfl, by decide +kernel, rfl, by decide +kernel, by decide +kernel⟩
theorem ok_place_of (T : Pr K mg) : MOk P w K mg base 1 (cA K "Book") "place_of" ["self", "key"] (spPlc K) := by
  obtain ⟨fd, F⟩ := T.f_Book_place_of
  refine MOk.of F (T.cls "Book" (by decide +kernel)) (T.meth "Book" "place_of" (by decide +kernel)) sc_place_of (fun _ _ _ _ _ _ us hl => match us, hl with | [_, _], _ => rfl) (fun vs H Q E h => ?_) (fun cdv A outer s H vs Q E hr h => ?_)
  · obtain ⟨_, _, _, _, rfl, _⟩ := h; rfl
  have hu : (A.deeper (envOfC "Book.place_of" (defScope m_Book_place_of) s.heap.objs.size (He.ma K (He.ga K "Book") "place_of") cdv)).units + 1 < cLine := by have := hr.un; omega
  have hu1 : (A.deeper (envOfC "Book.place_of" (defScope m_Book_place_of) s.heap.objs.size (He.ma K (He.ga K "Book") "place_of") cdv)).units + 1 < cLine := by omega
  refine ⟨_, PSs.nox (pss_one (ps_ret (pe_dget hu1 (pe_fld (pv 0) rfl) (pv 1) (fun _ _ => rfl)))), ?_⟩
  have cB := T.cls "Book" (by decide +kernel)
  have nB : ∀ f, (("Book" : Str), f) ∈ gFld → NoAttr K (cA K "Book") f := T.fld "Book"
  obtain ⟨b, ks, v, i, rfl, ⟨dx, t, kr, g, pd, kn, st, pl, w, h1, h2⟩, hi, hQ⟩ := h
  obtain ⟨x, rfl, hx⟩ := place_val hi
  exact ⟨_, rfl, b, _, dx, _, _, rfl, h1, cB, nB "own_places" (by decide +kernel), rfl, _, rfl, pl, _, rfl, hx ▸ DGet.k (k := Sum.inr x) h2, hQ⟩
theorem sc_is_worth_of : FnScope ["book", "key", "value"] ["book", "key", "value"] (defScope d_is_worth_of) := ⟨rfl, rfl, rfl, by decide +kernel, rfl, by decide +kernel, by decide +kernel⟩
theorem ok_is_worth_of (T : Pr K mg) : FOk P w K mg base 4 "is_worth_of" ["book", "key", "value"] (spWof K) := by
  obtain ⟨fd, F⟩ := T.f_is_worth_of
  refine FOk.of F (T.glo _ (by decide +kernel)) sc_is_worth_of (fun _ _ _ _ _ _ us hl => match us, hl with | [_, _, _], _ => rfl) (fun vs H Q E h => ?_) (fun cdv A outer s H vs Q E hr h => ?_)
  · obtain ⟨_, _, _, _, _, _, _, rfl, _⟩ := h; rfl
  refine ⟨_, PSs.nox (pss_one (ps_ret (pe_callF (ok_is_worth T) (hr.mono (by decide)) rfl (pa_cons (pe_ix ix_tup (pe_propF (pv 0) (ok_p_Book_key_rows T) (hr.mono (by decide))) (pe_methF (pv 0) (ok_place_of T) (hr.mono (by decide)) (pa_cons (pv 1) pa_nil)) (fun _ _ => rfl)) (pa_cons (pv 2) pa_nil))))), ?_⟩
  obtain ⟨b, ks, kr, v, i, k, x, rfl, hP, hB, hi, hk, hp, hQ⟩ := h
  obtain ⟨dx, t, g, pd, kn, st, pl, w, rows, h1, h2, h3⟩ := id hB
  have hlr : rows.length = ks.length := Paired.length h3
  have hil : i < ks.length := (List.getElem?_eq_some_iff.mp hk).1
  obtain ⟨r, hr'⟩ : ∃ r, rows[i]? = some r := ⟨_, List.getElem?_eq_getElem (by omega)⟩
  obtain ⟨k', hk', hkt⟩ := Paired.get? h3 hr'
  obtain rfl : k = k' := Option.some.inj (hk.symm.trans hk')
  exact ⟨_, rfl, b, dx, _, rfl, h1, b, ks, kr, rfl, hB, _, rfl, b, dx, _, rfl, h1, rfl, _, rfl, b, ks, v, i, rfl, hP, hi, kr, _, _, .ref r, rfl, rfl, SqT.of h2, atI_nat (j := i) (by rw [List.getElem?_map, hr']; rfl), _, rfl, r, k, x, rfl, hkt, hp, hQ⟩
end
end KP

/-! stores: Store made, worth_of, let_be, len, in, [], []=, drop. -/
namespace KP
open PySem PySem.Spec PyProof.Rows L2 G137 SlX
abbrev fsS (b kr : Addr) (v : V) : List (Str × V) := [("own_book", .ref b), ("own_key_rows", .ref kr), ("own_worths", v)]
/-- a book's keys -/
structure BkOk (K : Frag) (H : Hp) (b : Addr) (ks : List KeyR) (kr : Addr) : Prop where
  r : BkRows K H b ks kr
  p : BkPl K H b ks
  four : ks.length ≤ 4
theorem BkOk.same {K : Frag} {H H' : Hp} {b kr : Addr} {ks : List KeyR} (s : Same H H') (h : BkOk K H b ks kr) : BkOk K H' b ks kr := ⟨h.r.same s, h.p.same s, h.four⟩
/-- a store of the book at b -/
def StoreAt (K : Frag) (H : Hp) (a b kr w : Addr) (ws : List Int) : Prop := ∃ dx, H a = some (.ins (cA K "Store") dx (fsS b kr (.ref w))) ∧ H w = some (.tup (ws.map V.int))
theorem StoreAt.same {K : Frag} {H H' : Hp} {a b kr w : Addr} {ws : List Int} (s : Same H H') (h : StoreAt K H a b kr w ws) : StoreAt K H' a b kr w ws := by
  obtain ⟨dx, h1, h2⟩ := h
  exact ⟨dx, s _ _ h1, s _ _ h2⟩
/-- an error of the class x with its value v -/
def ErrAt (K : Frag) (E : XK) (H : Hp) (x : Str) (v : V) : Prop := ∀ H' d, Same H H' → H' d = some (.xd [("value", v)]) → E (.ref (cA K x)) (some d) H'
theorem ErrAt.same {K : Frag} {E : XK} {H H' : Hp} {x : Str} {v : V} (s : Same H H') (h : ErrAt K E H x v) : ErrAt K E H' x v := fun H2 d s2 e => h H2 d (s.trans s2) e
def spStI0 (K : Frag) : Sp := fun vs H Q E => ∃ a dx b ks kr v, vs = [.ref a, .ref b, v] ∧ H a = some (.ins (cA K "Store") dx []) ∧ BkOk K H b ks kr ∧ Pl1 H v ∧
  (storeB H ks v = true → ∀ H', But a H H' → H' a = some (.ins (cA K "Store") dx (fsS b kr v)) → Q .non H') ∧ (storeB H ks v = false → ErrAt K E H "BadStore" v)
def spWrO (K : Frag) : Sp := fun vs H Q E => ∃ a b ks kr w ws v, vs = [.ref a, v] ∧ StoreAt K H a b kr w ws ∧ BkOk K H b ks kr ∧ ws.length = ks.length ∧ Pl H v ∧
  (∀ i x, keyIx ks v = some i → ws[i]? = some x → ∀ H', Same H H' → Q (.int x) H') ∧ (keyIx ks v = none → ErrAt K E H "NoKey" v)
/-- the worths with one changed, in a store -/
def spLet (K : Frag) : Sp := fun vs H Q _ => ∃ a b ks kr w ws v i z, vs = [.ref a, v, .int z] ∧ StoreAt K H a b kr w ws ∧ BkOk K H b ks kr ∧ ws.length = ks.length ∧ keyIx ks v = some i ∧
  ∀ H' w', But a H H' → StoreAt K H' a b kr w' (ws.set i z) → Q .non H'
theorem keyIx_get {ks : List KeyR} {v : V} {i : Nat} {ws : List Int} (h : keyIx ks v = some i) (hl : ws.length = ks.length) : ∃ x, ws[i]? = some x ∧ i < ws.length := by
  obtain ⟨k, hk, _⟩ := keyIx_some h
  have : i < ws.length := by
    have := (List.getElem?_eq_some_iff.mp hk).1
    omega
  exact ⟨_, List.getElem?_eq_getElem this, this⟩
section
variable {P : Program} {w : World} {K : Frag} {mg : Str → Option Value} {base : Heap}
theorem sc_Store : FnScope ["self", "book", "worths"] ["self", "book", "worths"] (defScope m_Store_init) := ⟨rfl, rfl, rfl, by decide +kernel, rfl, by decide +kernel, by decide +kernel⟩
theorem fn_Store (T : Pr K mg) (R : Er P w K mg base) {fd : FuncData} (F : FunD K "__init__" "Store.__init__" (defArgs m_Store_init) (defBody m_Store_init) (defScope m_Store_init) [] [] (He.ma K (He.ga K "Store") "__init__") fd) : FnOk P w K mg base (L2.CX P w) 6 (He.ma K (He.ga K "Store") "__init__") fd ["self", "book", "worths"] (spStI0 K) := by
  refine F.ok sc_Store (fun vs H Q E h => ?_) (fun cdv A outer s H vs Q E hr h => ?_)
  · obtain ⟨_, _, _, _, _, _, rfl, _⟩ := h; rfl
  refine ⟨_, (pss_cons (ps_expr (pe_callX (ok_check_store T R) (hr.mono (by decide)) (passes_call (takes_of rfl rfl rfl rfl) fun _ _ _ _ h => h) rfl (pa_cons (pv 1) (pa_cons (pv 2) pa_nil))))
    (pss_cons (ps_fld (pv 0) (pv 1) rfl)
    (pss_cons (ps_fld (pv 0) (pe_propF (pv 1) (ok_p_Book_key_rows T) (hr.mono (by decide))) rfl)
    (pss_one (ps_fld (pv 0) (pv 2) rfl))))), ?_⟩
  have cS := T.cls "Store" (by decide +kernel)
  have nS : ∀ f, (("Store" : Str), f) ∈ gFld → NoAttr K (cA K "Store") f := T.fld "Store"
  obtain ⟨a, dx, b, ks, kr, v, rfl, ha, hB, hp, hQ, hE⟩ := h
  refine ⟨_, rfl, _, rfl, b, ks, kr, v, rfl, hB.r, hB.four, hp, fun hs G s1 => ?_, fun hs G d s1 hd => hE hs G d s1 hd⟩
  obtain ⟨dxb, t, g, pd, kn, st, pl, w, rows, h1, h2, h3⟩ := hB.r.same s1
  have ha1 := s1 _ _ ha
  have hba : b ≠ a := fun z => by
    rw [z, ha1] at h1
    injection h1 with h1; injection h1 with _ _ h1; cases h1
  have hkra : kr ≠ a := ne_of h2 ha1 (by intro z; cases z)
  refine ⟨_, rfl, _, rfl, a, _, dx, _, rfl, ha1, cS, nS "own_book" (by decide +kernel), (show (0 : Nat) < 1000 by decide), ?_⟩
  have hB2 : BkRows K (upd G a (.ins (cA K "Store") dx [("own_book", .ref b)])) b ks kr := ⟨dxb, t, g, pd, kn, st, pl, w, rows, (upd_ne hba).trans h1, (upd_ne hkra).trans h2, KeyRows.mono (fun c xs e => (upd_ne (ne_of e ha1 (by intro z; cases z))).trans e) h3⟩
  refine ⟨_, rfl, b, dxb, _, rfl, (upd_ne hba).trans h1, b, ks, kr, rfl, hB2, ?_⟩
  refine ⟨_, rfl, a, _, dx, _, rfl, upd_same, cS, nS "own_key_rows" (by decide +kernel), (show (1 : Nat) < 1000 by decide), ?_⟩
  refine ⟨_, rfl, _, rfl, a, _, dx, _, rfl, upd_same, cS, nS "own_worths" (by decide +kernel), (show (2 : Nat) < 1000 by decide), ?_⟩
  exact hQ hs _ (fun c u hc e => (upd_ne hc).trans ((upd_ne hc).trans ((upd_ne hc).trans (s1 _ _ e)))) upd_same
theorem ok_Store (T : Pr K mg) (R : Er P w K mg base) : NOkX P w K mg base 6 (cA K "Store") "Store" ["self", "book", "worths"] (spStI0 K) := by
  obtain ⟨fd, F⟩ := T.f_Store_init
  exact ⟨_, fd, fn_Store T R F, F.bindsN (fun _ _ _ _ _ _ us hl => match us, hl with | [_, _, _], _ => rfl), T.mkr "Store" (by decide +kernel), T.glo _ (by decide +kernel)⟩
theorem sc_worth_of : FnScope ["self", "key"] ["self", "key"] (defScope m_Store_worth_of) := ⟨rfl, rfl, rfl, by decide +kernel, rfl, by decide +kernel, by decide +kernel⟩
theorem ok_worth_of (T : Pr K mg) (R : Er P w K mg base) : MOkX P w K mg base 4 (cA K "Store") "worth_of" ["self", "key"] (spWrO K) := by
  obtain ⟨fd, F⟩ := T.f_Store_worth_of
  refine MOkX.of F (T.cls "Store" (by decide +kernel)) (T.meth "Store" "worth_of" (by decide +kernel)) sc_worth_of (fun _ _ _ _ _ _ us hl => match us, hl with | [_, _], _ => rfl) (fun vs H Q E h => ?_) (fun cdv A outer s H vs Q E hr h => ?_)
  · obtain ⟨_, _, _, _, _, _, _, rfl, _⟩ := h; rfl
  refine ⟨_, (pss_cons (ps_if (pt_not (pt_val (pe_callF (ok_is_key T) (hr.mono (by decide)) rfl (pa_cons (pe_fld (pv 0) rfl) (pa_cons (pv 1) pa_nil)))))
      (pss_one (ps_raise rfl (takes_of rfl rfl rfl rfl) (pmk_err (R.m "NoKey" (by decide +kernel)) (hr.mono (by decide)) rfl (T.glo "NoKey" (by decide +kernel)) (pv 1))))
      pss_nil)
    (pss_one (ps_ret (pe_ix ix_tup (pe_fld (pv 0) rfl) (pe_methF (pe_fld (pv 0) rfl) (ok_place_of T) (hr.mono (by decide)) (pa_cons (pv 1) pa_nil)) (fun _ _ => rfl))))), ?_⟩
  have cS := T.cls "Store" (by decide +kernel)
  have nS : ∀ f, (("Store" : Str), f) ∈ gFld → NoAttr K (cA K "Store") f := T.fld "Store"
  obtain ⟨a, b, ks, kr, w, ws, v, rfl, ⟨dx, ha, hw⟩, hB, hl, hp, hQ, hE⟩ := h
  refine ⟨_, rfl, a, _, dx, _, _, rfl, ha, cS, nS "own_book" (by decide +kernel), rfl, _, rfl, b, ks, kr, v, rfl, hB.r, hB.four, hp, fun G s1 => ⟨_, rfl, ?_⟩⟩
  cases e : keyIx ks v with
  | none =>
    refine iY rfl ?_
    exact ⟨_, rfl, fun d nd => hE e _ d (s1.trans (same_upd nd)) upd_same⟩
  | some i =>
    refine iN rfl ?_
    obtain ⟨x, hx, hil⟩ := keyIx_get e hl
    obtain ⟨dxb, t, g, pd, kn, st, pl, w', rows, h1, h2, h3⟩ := hB.r.same s1
    refine ⟨_, rfl, a, _, dx, _, _, rfl, s1 _ _ ha, cS, nS "own_worths" (by decide +kernel), rfl, _, rfl, a, _, dx, _, _, rfl, s1 _ _ ha, cS, nS "own_book" (by decide +kernel), rfl, b, dxb, _, rfl, h1, rfl, _, rfl, b, ks, v, i, rfl, hB.p.same s1, e, w, _, _, .int x, rfl, rfl, SqT.of (s1 _ _ hw), atI_nat (j := i) (by rw [List.getElem?_map, hx]; rfl), ?_⟩
    exact hQ i x e hx G s1
theorem sc_let_be : FnScope ["self", "key", "worth", "place"] ["self", "key", "worth"] (defScope m_Store_let_be) := ⟨rfl, rfl, rfl, by decide +kernel, rfl, by decide +kernel, by decide +kernel⟩
theorem ok_let_be (T : Pr K mg) : MOk P w K mg base 2 (cA K "Store") "let_be" ["self", "key", "worth"] (spLet K) := by
  obtain ⟨fd, F⟩ := T.f_Store_let_be
  refine MOk.of F (T.cls "Store" (by decide +kernel)) (T.meth "Store" "let_be" (by decide +kernel)) sc_let_be (fun _ _ _ _ _ _ us hl => match us, hl with | [_, _, _], _ => rfl) (fun vs H Q E h => ?_) (fun cdv A outer s H vs Q E hr h => ?_)
  · obtain ⟨_, _, _, _, _, _, _, _, _, rfl, _⟩ := h; rfl
  refine ⟨_, PSs.nox (pss_cons (ps_set (i := 3) sc_let_be.nd rfl (Or.inl rfl) (pe_methF (pe_fld (pv 0) rfl) (ok_place_of T) (hr.mono (by decide)) (pa_cons (pv 1) pa_nil)))
    (pss_one (ps_fld (pv 0) (pe_tup (StX.pa_star (pe_slice sl_tup (pe_fld (pv 0) rfl) po_none (po_some (pv 3))) (pa_cons (pv 2) (StX.pa_star (pe_slice sl_tup (pe_fld (pv 0) rfl) (po_some (pe_op op_add (pv 3) pe_int)) po_none) pa_nil)))) rfl))), ?_⟩
  have cS := T.cls "Store" (by decide +kernel)
  have nS : ∀ f, (("Store" : Str), f) ∈ gFld → NoAttr K (cA K "Store") f := T.fld "Store"
  obtain ⟨a, b, ks, kr, w, ws, v, i, z, rfl, ⟨dx, ha, hw⟩, hB, hl, hi, hQ⟩ := h
  obtain ⟨x, hx, hil⟩ := keyIx_get hi hl
  have h4 := hB.four
  have hbig := sizeLine_big
  obtain ⟨dxb, t, g, pd, kn, st, pl, w', rows, h1, h2, h3⟩ := hB.r
  refine ⟨_, rfl, a, _, dx, _, _, rfl, ha, cS, nS "own_book" (by decide +kernel), rfl, b, dxb, _, rfl, h1, rfl, _, rfl, b, ks, v, i, rfl, hB.p, hi, ?_⟩
  refine ⟨_, rfl, a, _, dx, _, _, rfl, ha, cS, nS "own_worths" (by decide +kernel), rfl, _, rfl, _, rfl, w, _, rfl, SqT.of hw, ?_, fun p1 n1 => ?_⟩
  · rw [HT.sIx_nat, HT.sIx_none, List.length_map]
    intro q
    omega
  rw [cutV_to]
  have u1 := same_upd (o := .tup ((ws.map V.int).take i)) n1
  refine ⟨p1, _, rfl, .inl (SqT.of upd_same), _, rfl, ?_⟩
  refine ⟨_, rfl, a, _, dx, _, _, rfl, u1 _ _ ha, cS, nS "own_worths" (by decide +kernel), rfl, _, rfl, _, _, rfl, rfl, _, rfl, w, _, rfl, SqT.of (u1 _ _ hw), ?_, fun p2 n2 => ?_⟩
  · rw [show ((i : Int) + 1) = ((i + 1 : Nat) : Int) from rfl, HT.sIx_nat, HT.sIx_none, List.length_map]
    intro q
    omega
  rw [show ((i : Int) + 1) = ((i + 1 : Nat) : Int) from rfl, cutV_from]
  have u2 := same_upd (o := .tup ((ws.map V.int).drop (i + 1))) n2
  refine ⟨p2, _, rfl, .inl (SqT.of upd_same), ?_, fun w2 nw2 => ?_⟩
  · simp only [List.length_append, List.length_take, List.length_drop, List.length_map, List.length_cons, List.length_nil]
    omega
  have u3 := u1.trans u2
  have eset : (ws.map V.int).take i ++ (.int z :: ((ws.map V.int).drop (i + 1) ++ [])) = (ws.set i z).map V.int := by
    rw [List.append_nil, List.set_eq_take_append_cons_drop, if_pos hil, List.map_append, List.map_cons, List.map_take, List.map_drop]
  have haw : a ≠ w2 := ne_of_none (u3 _ _ ha) nw2
  refine ⟨_, rfl, a, _, dx, _, rfl, (upd_ne haw).trans (u3 _ _ ha), cS, nS "own_worths" (by decide +kernel), (show (3 : Nat) < 1000 by decide), ?_⟩
  refine hQ _ w2 (fun c u hc e => (upd_ne hc).trans ((upd_ne (ne_of_none (u3 _ _ e) nw2)).trans (u3 _ _ e))) ⟨dx, upd_same, ?_⟩
  rw [upd_ne (Ne.symm haw)]
  show upd _ w2 (.tup ((ws.map V.int).take i ++ (.int z :: ((ws.map V.int).drop (i + 1) ++ [])))) w2 = _
  rw [eset, upd_same]
end
end KP

/-! stores: len, in, [], []=, drop, ==, book, worths; books: ==. -/
namespace L2
open PySem
mutual
theorem Dp.same {K : PySem.W.Frag} {H H' : Hp} : ∀ {v : V} {d : PyData}, Dp K H v d → Same H H' → Dp K H' v d
  | _, _, .non, _ => .non
  | _, _, .bl b, _ => .bl b
  | _, _, .int b, _ => .int b
  | _, _, .str b, _ => .str b
  | _, _, .lst h r, s => .lst (s.seq h) (DpAll.same r s)
  | _, _, .tup h r, s => .tup (SqT.ext h s) (DpAll.same r s)
theorem DpAll.same {K : PySem.W.Frag} {H H' : Hp} : ∀ {v : List V} {d : List PyData}, DpAll K H v d → Same H H' → DpAll K H' v d
  | _, _, .nil, _ => .nil
  | _, _, .cons a r, s => .cons (a.same s) (DpAll.same r s)
end
end L2
namespace KP
open PySem PySem.Spec PyProof.Rows L2 G137 SlX
theorem BkOk.but {K : Frag} {H H' : Hp} {a b kr w dx C : Addr} {ks : List KeyR} {fs : List (Str × V)} (s : But a H H') (ha : H a = some (.ins C dx fs)) (hf : fs.length ≠ 8) (h : BkOk K H b ks kr) : BkOk K H' b ks kr := by
  have nb : ∀ c D dy t x1 x2 x3 x4 x5 x6 x7, H c = some (.ins D dy (fsB t x1 x2 x3 x4 x5 x6 x7)) → c ≠ a := fun c D dy t x1 x2 x3 x4 x5 x6 x7 e z => by
    rw [z, ha] at e
    injection e with e; injection e with _ _ e
    rw [e] at hf
    exact hf rfl
  have no : ∀ c u, H c = some u → (∀ D dy gs, u ≠ .ins D dy gs) → H' c = some u := fun c u e n => s _ _ (fun z => by rw [z, ha] at e; exact n _ _ _ (Option.some.inj e).symm) e
  refine ⟨?_, ?_, h.four⟩
  · obtain ⟨dy, t, g, pd, kn, st, pl, w, rows, h1, h2, h3⟩ := h.r
    exact ⟨dy, t, g, pd, kn, st, pl, w, rows, s _ _ (nb _ _ _ _ _ _ _ _ _ _ _ h1) h1, no _ _ h2 (fun _ _ _ z => nomatch z), KeyRows.mono (fun c xs e => no _ _ e (fun _ _ _ z => nomatch z)) h3⟩
  · obtain ⟨dy, t, kr', g, pd, kn, st, pl, w, h1, h2⟩ := h.p
    exact ⟨dy, t, kr', g, pd, kn, st, pl, w, s _ _ (nb _ _ _ _ _ _ _ _ _ _ _ h1) h1, no _ _ h2 (fun _ _ _ z => nomatch z)⟩
/-- what stands in a store and its book -/
structure StK (K : Frag) (H : Hp) (a b kr w : Addr) (ks : List KeyR) (ws : List Int) : Prop where
  s : StoreAt K H a b kr w ws
  b : BkOk K H b ks kr
  l : ws.length = ks.length
theorem StK.same {K : Frag} {H H' : Hp} {a b kr w : Addr} {ks : List KeyR} {ws : List Int} (s : Same H H') (h : StK K H a b kr w ks ws) : StK K H' a b kr w ks ws := ⟨h.s.same s, h.b.same s, h.l⟩
def thereN (ws : List Int) : Nat := (ws.filter fun x => decide (x ≠ -1)).length
def spLen (K : Frag) : Sp := fun vs H Q _ => ∃ a b kr w ws, vs = [.ref a] ∧ StoreAt K H a b kr w ws ∧ ws.length ≤ 4 ∧ ∀ H', Same H H' → Q (.int (thereN ws : Int)) H'
/-- whether a value is a key that is there -/
def thereB (ks : List KeyR) (ws : List Int) (v : V) : Bool := match keyIx ks v with
  | some i => decide (ws.getD i (-1) ≠ -1)
  | none => false
def spIn (K : Frag) : Sp := fun vs H Q _ => ∃ a b kr w ks ws v, vs = [.ref a, v] ∧ StK K H a b kr w ks ws ∧ Pl H v ∧ ∀ H', Same H H' → Q (.bl (thereB ks ws v)) H'
def spGet (K : Frag) : Sp := fun vs H Q E => ∃ a b kr w ks ws v, vs = [.ref a, v] ∧ StK K H a b kr w ks ws ∧ Pl H v ∧
  (∀ i x, keyIx ks v = some i → ws[i]? = some x → x ≠ -1 → ∀ H', Same H H' → Q (.int x) H') ∧ (∀ i, keyIx ks v = some i → ws[i]? = some (-1) → ErrAt K E H "Gone" v) ∧ (keyIx ks v = none → ErrAt K E H "NoKey" v)
/-- a worth that can be set -/
def setB (k : KeyR) (x : V) : Option Int := match x with
  | .int z => if 0 ≤ z ∧ z < (k.size : Int) then some z else none
  | _ => none
def spSet (K : Frag) : Sp := fun vs H Q E => ∃ a b kr w ks ws v x d, vs = [.ref a, v, x] ∧ StK K H a b kr w ks ws ∧ Pl H v ∧ Pl H x ∧ Dp K H x d ∧ SeqAt.shaped d = true ∧
  (∀ i k z, keyIx ks v = some i → ks[i]? = some k → setB k x = some z → ∀ H' w', But a H H' → StoreAt K H' a b kr w' (ws.set i z) → Q .non H') ∧
  (∀ i k, keyIx ks v = some i → ks[i]? = some k → setB k x = none → ErrAt K E H "BadWorth" x) ∧ (keyIx ks v = none → ErrAt K E H "NoKey" v)
def spDrop (K : Frag) : Sp := fun vs H Q E => ∃ a b kr w ks ws v, vs = [.ref a, v] ∧ StK K H a b kr w ks ws ∧ Pl H v ∧
  (∀ i k x, keyIx ks v = some i → ks[i]? = some k → k.may = true → ws[i]? = some x → x ≠ -1 → ∀ H' w', But a H H' → StoreAt K H' a b kr w' (ws.set i (-1)) → Q .non H') ∧
  (∀ i k, keyIx ks v = some i → ks[i]? = some k → k.may = false → ErrAt K E H "Lasting" v) ∧ (∀ i k, keyIx ks v = some i → ks[i]? = some k → k.may = true → ws[i]? = some (-1) → ErrAt K E H "Gone" v) ∧ (keyIx ks v = none → ErrAt K E H "NoKey" v)
theorem dp_int {K : Frag} {H : Hp} {z : Int} {d : PyData} (h : Dp K H (.int z) d) : d = .int z := by cases h; rfl
theorem dp_eqv {K : Frag} {H : Hp} {x : V} {d : PyData} (h : Dp K H x d) : PyData.eqv d (.int (-1)) = decide (x = .int (-1)) := by
  cases h with
  | non => simp [PyData.eqv]
  | bl b => cases b <;> simp [PyData.eqv]
  | int i =>
    simp only [PyData.eqv]
    by_cases e : i = -1
    · rw [e]; rfl
    · rw [decide_eq_false (fun z => e (V.int.inj z))]
      simpa using e
  | str x => simp [PyData.eqv]
  | lst _ _ => simp [PyData.eqv]
  | tup _ _ => simp [PyData.eqv]
section
variable {P : Program} {w : World} {K : Frag} {mg : Str → Option Value} {base : Heap}
theorem sc_Store_len : FnScope ["self", "worth"] ["self"] (defScope m_Store_len) := ⟨rfl, rfl, rfl, by decide +kernel, rfl, by decide +kernel, by decide +kernel⟩
theorem ok_Store_len (T : Pr K mg) : MOk P w K mg base 1 (cA K "Store") "__len__" ["self"] (spLen K) := by
  obtain ⟨fd, F⟩ := T.f_Store_len
  have blen := T.fre "len" (by decide +kernel)
  have gGone := T.int "GONE" (-1) (by decide +kernel)
  refine MOk.of F (T.cls "Store" (by decide +kernel)) (T.meth "Store" "__len__" (by decide +kernel)) sc_Store_len (fun _ _ _ _ _ _ us hl => match us, hl with | [_], _ => rfl) (fun vs H Q E h => ?_) (fun cdv A outer s H vs Q E hr h => ?_)
  · obtain ⟨_, _, _, _, _, rfl, _⟩ := h; rfl
  refine ⟨_, PSs.nox (pss_one (ps_ret (pe_callB call_len_seq (by rfl) blen PySem.boot_len (pa_cons (pe_lc (own := [("worth", 1)]) (g := gName 1) (tt := tTest (tOp rNe (tVar 1) (tC (.int (-1))))) (te := (tVar 1)) rfl sc_Store_len.nd (pi_tup (pe_fld (pv 0) rfl)) (blkOk_by (own := [("worth", 1)]) (N := ["self", "worth"]) (sc := defScope m_Store_len) (by decide +kernel)) (fun _ _ _ _ _ => (pg_name (i := 1) sc_Store_len.nd rfl (Or.inl rfl))) (fun _ _ _ _ _ => (pts_one (pt_cmpR op_ne (pv 1) (pe_gi (by rfl) gGone) (nomark _)))) (fun _ _ _ _ _ => (pv 1))) pa_nil)))), ?_⟩
  have cS := T.cls "Store" (by decide +kernel)
  have nS : ∀ f, (("Store" : Str), f) ∈ gFld → NoAttr K (cA K "Store") f := T.fld "Store"
  have hbig := sizeLine_big
  obtain ⟨a, b, kr, w, ws, rfl, ⟨dx, ha, hw⟩, h4, hQ⟩ := h
  refine ⟨_, rfl, a, _, dx, _, _, rfl, ha, cS, nS "own_worths" (by decide +kernel), rfl, w, rfl, ⟨_, SqT.of hw⟩, fun D nD => ?_⟩
  refine lc_tup (xs := ws.map V.int) (AccP (fun i => ((ws.take i).filter fun x => decide (x ≠ -1)).map V.int) D H) (acc_start rfl) (fun i G _ q => SqT.of (q.same nD _ _ hw)) (fun i y G hi q => ?_) (fun G q => ?_)
  · rw [List.getElem?_map] at hi
    cases et : ws[i]? with
    | none => rw [et] at hi; cases hi
    | some x =>
    rw [et] at hi
    obtain rfl : V.int x = y := Option.some.inj hi
    refine ⟨rfl, ?_⟩
    refine ⟨_, rfl, rfl, _, rfl, ?_⟩
    by_cases e : x = -1
    · refine iN (by rw [e]; rfl) ?_
      refine acc_skip q (Same.refl _) ?_
      rw [List.take_add_one, et, List.filter_append]
      simp [e]
    · refine iY (by rw [decide_eq_false fun z => e (V.int.inj z)]; rfl) ?_
      refine ⟨_, rfl, acc_step q (Same.refl _) ?_ ?_⟩
      · rw [List.length_map]
        have := List.length_filter_le (fun x => decide (x ≠ -1)) (ws.take i)
        rw [List.length_take] at this
        omega
      · rw [List.take_add_one, et, List.filter_append]
        simp [e]
  have hD := q.1
  dsimp only at hD
  rw [List.length_map, List.take_of_length_le (Nat.le_refl _)] at hD
  refine ⟨D, _, rfl, .inl (SqL.of hD), ?_⟩
  rw [List.length_map]
  exact hQ G (q.same nD)
theorem sc_Store_in : FnScope ["self", "value"] ["self", "value"] (defScope m_Store_contains) := ⟨rfl, rfl, rfl, by decide +kernel, rfl, by decide +kernel, by decide +kernel⟩
theorem ok_Store_in (T : Pr K mg) (R : Er P w K mg base) : MOk P w K mg base 5 (cA K "Store") "__contains__" ["self", "value"] (spIn K) := by
  obtain ⟨fd, F⟩ := T.f_Store_contains
  have gGone := T.int "GONE" (-1) (by decide +kernel)
  refine MOk.of F (T.cls "Store" (by decide +kernel)) (T.meth "Store" "__contains__" (by decide +kernel)) sc_Store_in (fun _ _ _ _ _ _ us hl => match us, hl with | [_, _], _ => rfl) (fun vs H Q E h => ?_) (fun cdv A outer s H vs Q E hr h => ?_)
  · obtain ⟨_, _, _, _, _, _, _, rfl, _⟩ := h; rfl
  refine ⟨_, PSs.nox (pss_one (ps_ret (pe_and (pe_callF (ok_is_key T) (hr.mono (by decide)) rfl (pa_cons (pe_fld (pv 0) rfl) (pa_cons (pv 1) pa_nil))) (pe_one (pe_cmpR op_ne (pe_methX (pv 0) (ok_worth_of T R) (hr.mono (by decide)) passL (pa_cons (pv 1) pa_nil)) (pe_gi (by rfl) gGone) (nomark _)))))), ?_⟩
  have cS := T.cls "Store" (by decide +kernel)
  have nS : ∀ f, (("Store" : Str), f) ∈ gFld → NoAttr K (cA K "Store") f := T.fld "Store"
  obtain ⟨a, b, kr, w, ks, ws, v, rfl, hS, hp, hQ⟩ := h
  obtain ⟨dx, ha, hw⟩ := hS.s
  refine ⟨_, rfl, a, _, dx, _, _, rfl, ha, cS, nS "own_book" (by decide +kernel), rfl, _, rfl, b, ks, kr, v, rfl, hS.b.r, hS.b.four, hp, fun G s1 => ⟨_, rfl, ?_⟩⟩
  cases e : keyIx ks v with
  | none =>
    have := hQ G s1
    unfold thereB at this
    rw [e] at this
    exact iN rfl this
  | some i =>
    refine iY rfl ?_
    obtain ⟨x, hx, hil⟩ := keyIx_get e hS.l
    refine ⟨_, rfl, a, dx, _, rfl, s1 _ _ ha, rfl, _, rfl, a, b, ks, kr, w, ws, v, rfl, hS.s.same s1, hS.b.same s1, hS.l, hp.same s1, fun j y hj hy G2 s2 => ?_, fun hn => by rw [e] at hn; cases hn⟩
    obtain rfl : i = j := Option.some.inj (e.symm.trans hj)
    obtain rfl : x = y := Option.some.inj (hx.symm.trans hy)
    refine ⟨rfl, ?_⟩
    have := hQ G2 (s1.trans s2)
    unfold thereB at this
    rw [e] at this
    dsimp only at this
    rw [List.getD_eq_getElem?_getD, hx] at this
    by_cases e2 : x = -1
    · rw [e2] at this ⊢; exact this
    · rw [decide_eq_true (by simpa using e2)] at this
      rw [decide_eq_false (fun z => e2 (V.int.inj z))]
      exact this
theorem sc_Store_get : FnScope ["self", "key", "worth"] ["self", "key"] (defScope m_Store_getitem) := ⟨rfl, rfl, rfl, by decide +kernel, rfl, by decide +kernel, by decide +kernel⟩
theorem ok_Store_get (T : Pr K mg) (R : Er P w K mg base) : MOkX P w K mg base 5 (cA K "Store") "__getitem__" ["self", "key"] (spGet K) := by
  obtain ⟨fd, F⟩ := T.f_Store_getitem
  have gGone := T.int "GONE" (-1) (by decide +kernel)
  refine MOkX.of F (T.cls "Store" (by decide +kernel)) (T.meth "Store" "__getitem__" (by decide +kernel)) sc_Store_get (fun _ _ _ _ _ _ us hl => match us, hl with | [_, _], _ => rfl) (fun vs H Q E h => ?_) (fun cdv A outer s H vs Q E hr h => ?_)
  · obtain ⟨_, _, _, _, _, _, _, rfl, _⟩ := h; rfl
  refine ⟨_, (pss_cons (ps_set (i := 2) sc_Store_get.nd rfl (Or.inl rfl) (pe_methX (pv 0) (ok_worth_of T R) (hr.mono (by decide)) (passes_call (takes_of rfl rfl rfl rfl) fun _ _ _ _ h => h) (pa_cons (pv 1) pa_nil)))
    (pss_cons (ps_if (pt_cmpR op_eq (pv 2) (pe_gi (by rfl) gGone) (nomark _))
      (pss_one (ps_raise rfl (takes_of rfl rfl rfl rfl) (pmk_err (R.m "Gone" (by decide +kernel)) (hr.mono (by decide)) rfl (T.glo "Gone" (by decide +kernel)) (pv 1))))
      pss_nil)
    (pss_one (ps_ret (pv 2))))), ?_⟩
  obtain ⟨a, b, kr, w, ks, ws, v, rfl, hS, hp, hQ, hG, hN⟩ := h
  obtain ⟨dx, ha, hw⟩ := hS.s
  refine ⟨_, rfl, a, dx, _, rfl, ha, rfl, _, rfl, a, b, ks, kr, w, ws, v, rfl, hS.s, hS.b, hS.l, hp, fun j y hj hy G s1 => ?_, hN⟩
  refine ⟨_, rfl, rfl, _, rfl, ?_⟩
  by_cases e : y = -1
  · refine iY (by rw [e]; rfl) ?_
    rw [e] at hy
    exact ⟨_, rfl, fun d nd => hG j hj hy _ d (s1.trans (same_upd nd)) upd_same⟩
  · refine iN (decide_eq_false fun z => e (V.int.inj z)) ?_
    exact ⟨_, rfl, hQ j y hj hy e G s1⟩
theorem sc_Store_set : FnScope ["self", "key", "worth"] ["self", "key", "worth"] (defScope m_Store_setitem) := ⟨rfl, rfl, rfl, by decide +kernel, rfl, by decide +kernel, by decide +kernel⟩
theorem ok_Store_set (T : Pr K mg) (R : Er P w K mg base) : MOkX P w K mg base 5 (cA K "Store") "__setitem__" ["self", "key", "worth"] (spSet K) := by
  obtain ⟨fd, F⟩ := T.f_Store_setitem
  have gGone := T.int "GONE" (-1) (by decide +kernel)
  refine MOkX.of F (T.cls "Store" (by decide +kernel)) (T.meth "Store" "__setitem__" (by decide +kernel)) sc_Store_set (fun _ _ _ _ _ _ us hl => match us, hl with | [_, _, _], _ => rfl) (fun vs H Q E h => ?_) (fun cdv A outer s H vs Q E hr h => ?_)
  · obtain ⟨_, _, _, _, _, _, _, _, _, rfl, _⟩ := h; rfl
  have hu : (A.deeper (envOfC "Store.__setitem__" (defScope m_Store_setitem) s.heap.objs.size (He.ma K (He.ga K "Store") "__setitem__") cdv)).units + 64 < cLine := by have := hr.un; omega
  have hu1 : (A.deeper (envOfC "Store.__setitem__" (defScope m_Store_setitem) s.heap.objs.size (He.ma K (He.ga K "Store") "__setitem__") cdv)).units + 1 < cLine := by omega
  have hu64 : (A.deeper (envOfC "Store.__setitem__" (defScope m_Store_setitem) s.heap.objs.size (He.ma K (He.ga K "Store") "__setitem__") cdv)).units + 64 < cLine := by omega
  refine ⟨_, (pss_cons (ps_expr (pe_methX (pv 0) (ok_worth_of T R) (hr.mono (by decide)) (passes_call (takes_of rfl rfl rfl rfl) fun _ _ _ _ h => h) (pa_cons (pv 1) pa_nil)))
    (pss_cons (ps_if (PW.pt (pw_or (pt_cmpR (op_eqD hu64) (pv 2) (pe_gi (by rfl) gGone) (nomark _)) (pw_or1 (pt_not (pt_val (pe_callF (ok_is_worth_of T) (hr.mono (by decide)) rfl (pa_cons (pe_fld (pv 0) rfl) (pa_cons (pv 1) (pa_cons (pv 2) pa_nil)))))))))
      (pss_one (ps_raise rfl (takes_of rfl rfl rfl rfl) (pmk_err (R.m "BadWorth" (by decide +kernel)) (hr.mono (by decide)) rfl (T.glo "BadWorth" (by decide +kernel)) (pv 2))))
      pss_nil)
    (pss_one (ps_expr (pe_methF (pv 0) (ok_let_be T) (hr.mono (by decide)) (pa_cons (pv 1) (pa_cons (pv 2) pa_nil))))))), ?_⟩
  have cS := T.cls "Store" (by decide +kernel)
  have nS : ∀ f, (("Store" : Str), f) ∈ gFld → NoAttr K (cA K "Store") f := T.fld "Store"
  obtain ⟨a, b, kr, w, ks, ws, v, x, d, rfl, hS, hp, hpx, hd, hsh, hQ, hB, hN⟩ := h
  obtain ⟨dx, ha, hw⟩ := hS.s
  refine ⟨_, rfl, a, dx, _, rfl, ha, rfl, _, rfl, a, b, ks, kr, w, ws, v, rfl, hS.s, hS.b, hS.l, hp, fun j y hj hy G s1 => ?_, hN⟩
  obtain ⟨k, hk, hv⟩ := keyIx_some hj
  have hd1 : Dp K G x d := hd.same s1
  refine ⟨_, rfl, d, .int (-1), hd1, .int _, hsh, by decide +kernel, _, rfl, ?_⟩
  rw [dp_eqv hd1]
  have bad : setB k x = none → ∀ G', Same H G' → ∀ d', G' d' = none → E (.ref (cA K "BadWorth")) (some d') (upd G' d' (.xd [("value", x)])) := fun e G' s' d' nd => hB j k hj hk e _ d' (s'.trans (same_upd nd)) upd_same
  by_cases e1 : x = .int (-1)
  · refine iY (decide_eq_true e1) ?_
    exact ⟨_, rfl, fun d' nd => bad (by rw [e1]; rfl) G s1 d' nd⟩
  refine iN (decide_eq_false e1) ?_
  refine ⟨_, rfl, a, _, dx, _, _, rfl, s1 _ _ ha, cS, nS "own_book" (by decide +kernel), rfl, _, rfl, _, rfl, b, ks, kr, v, j, k, x, rfl, hS.b.p.same s1, hS.b.r.same s1, hj, hk, hpx.same s1, _, rfl, ?_⟩
  have hse : worthB k x = (setB k x).isSome := by
    unfold worthB betV setB
    cases x with
    | int z =>
      have : z ≠ -1 := fun q => e1 (by rw [q])
      dsimp only
      unfold KeyR.lo
      by_cases h : 0 ≤ z ∧ z < (k.size : Int)
      · rw [if_pos h]
        simp only [Option.isSome_some, Bool.and_eq_true, decide_eq_true_eq]
        constructor
        · split <;> omega
        · omega
      · rw [if_neg h]
        simp only [Option.isSome_none, Bool.and_eq_false_iff, decide_eq_false_iff_not]
        split <;> omega
    | _ => rfl
  rw [hse]
  cases e2 : setB k x with
  | none =>
    refine iY rfl ?_
    exact ⟨_, rfl, fun d' nd => bad e2 G s1 d' nd⟩
  | some z =>
    refine iN rfl ?_
    have hx : x = .int z := by
      unfold setB at e2
      cases x with
      | int z' =>
        dsimp only at e2
        split at e2
        · cases e2; rfl
        · cases e2
      | _ => cases e2
    subst hx
    refine ⟨_, rfl, a, dx, _, rfl, s1 _ _ ha, rfl, _, rfl, _, rfl, a, b, ks, kr, w, ws, v, j, z, rfl, hS.s.same s1, hS.b.same s1, hS.l, hj, fun G2 w' b2 hS2 => ?_⟩
    exact hQ j k z hj hk e2 G2 w' (fun c u hc e => b2 _ _ hc (s1 _ _ e)) hS2
theorem sc_drop : FnScope ["self", "key", "worth"] ["self", "key"] (defScope m_Store_drop) := ⟨rfl, rfl, rfl, by decide +kernel, rfl, by decide +kernel, by decide +kernel⟩
theorem fn_drop (T : Pr K mg) (R : Er P w K mg base) {fd : FuncData} (F : FunD K "drop" "Store.drop" (defArgs m_Store_drop) (defBody m_Store_drop) (defScope m_Store_drop) [] [] (He.ma K (He.ga K "Store") "drop") fd) : FnOk P w K mg base (L2.CX P w) 5 (He.ma K (He.ga K "Store") "drop") fd ["self", "key"] (spDrop K) := by
  have gGone := T.int "GONE" (-1) (by decide +kernel)
  refine F.ok sc_drop (fun vs H Q E h => ?_) (fun cdv A outer s H vs Q E hr h => ?_)
  · obtain ⟨_, _, _, _, _, _, _, rfl, _⟩ := h; rfl
  refine ⟨_, (pss_cons (ps_set (i := 2) sc_drop.nd rfl (Or.inl rfl) (pe_methX (pv 0) (ok_worth_of T R) (hr.mono (by decide)) (passes_call (takes_of rfl rfl rfl rfl) fun _ _ _ _ h => h) (pa_cons (pv 1) pa_nil)))
    (pss_cons (ps_if (pt_not (pt_val (pe_callF (ok_is_worth_of T) (hr.mono (by decide)) rfl (pa_cons (pe_fld (pv 0) rfl) (pa_cons (pv 1) (pa_cons (pe_gi (by rfl) gGone) pa_nil))))))
      (pss_one (ps_raise rfl (takes_of rfl rfl rfl rfl) (pmk_err (R.m "Lasting" (by decide +kernel)) (hr.mono (by decide)) rfl (T.glo "Lasting" (by decide +kernel)) (pv 1))))
      pss_nil)
    (pss_cons (ps_if (pt_cmpR op_eq (pv 2) (pe_gi (by rfl) gGone) (nomark _))
      (pss_one (ps_raise rfl (takes_of rfl rfl rfl rfl) (pmk_err (R.m "Gone" (by decide +kernel)) (hr.mono (by decide)) rfl (T.glo "Gone" (by decide +kernel)) (pv 1))))
      pss_nil)
    (pss_one (ps_expr (pe_methF (pv 0) (ok_let_be T) (hr.mono (by decide)) (pa_cons (pv 1) (pa_cons (pe_gi (by rfl) gGone) pa_nil)))))))), ?_⟩
  have cS := T.cls "Store" (by decide +kernel)
  have nS : ∀ f, (("Store" : Str), f) ∈ gFld → NoAttr K (cA K "Store") f := T.fld "Store"
  obtain ⟨a, b, kr, w, ks, ws, v, rfl, hS, hp, hQ, hL, hG, hN⟩ := h
  obtain ⟨dx, ha, hw⟩ := hS.s
  refine ⟨_, rfl, a, dx, _, rfl, ha, rfl, _, rfl, a, b, ks, kr, w, ws, v, rfl, hS.s, hS.b, hS.l, hp, fun j y hj hy G s1 => ?_, hN⟩
  obtain ⟨k, hk, hv⟩ := keyIx_some hj
  refine ⟨_, rfl, a, _, dx, _, _, rfl, s1 _ _ ha, cS, nS "own_book" (by decide +kernel), rfl, _, rfl, b, ks, kr, v, j, k, .int (-1), rfl, hS.b.p.same s1, hS.b.r.same s1, hj, hk, ⟨_, rfl⟩, _, rfl, ?_⟩
  cases hm : k.may with
  | false =>
    refine iY ?_ ?_
    · show (!betV (.int (-1)) k.lo ((k.size : Int) - 1)) = true
      unfold KeyR.lo betV
      rw [hm]
      rfl
    exact ⟨_, rfl, fun d nd => hL j k hj hk hm _ d (s1.trans (same_upd nd)) upd_same⟩
  | true =>
    refine iN ?_ ?_
    · show (!betV (.int (-1)) k.lo ((k.size : Int) - 1)) = false
      unfold KeyR.lo betV
      rw [hm]
      have : (-1 : Int) ≤ (k.size : Int) - 1 := by omega
      simp [this]
    refine ⟨_, rfl, rfl, _, rfl, ?_⟩
    by_cases e : y = -1
    · refine iY (by rw [e]; rfl) ?_
      rw [e] at hy
      exact ⟨_, rfl, fun d nd => hG j k hj hk hm hy _ d (s1.trans (same_upd nd)) upd_same⟩
    · refine iN (decide_eq_false fun z => e (V.int.inj z)) ?_
      refine ⟨_, rfl, a, dx, _, rfl, s1 _ _ ha, rfl, _, rfl, a, b, ks, kr, w, ws, v, j, -1, rfl, hS.s.same s1, hS.b.same s1, hS.l, hj, fun G2 w' b2 hS2 => ?_⟩
      exact hQ j k y hj hk hm hy e G2 w' (fun c u hc e => b2 _ _ hc (s1 _ _ e)) hS2
theorem ok_drop (T : Pr K mg) (R : Er P w K mg base) : MOkX P w K mg base 5 (cA K "Store") "drop" ["self", "key"] (spDrop K) := by
  obtain ⟨fd, F⟩ := T.f_Store_drop
  exact ⟨_, fd, fn_drop T R F, F.bindsN (fun _ _ _ _ _ _ us hl => match us, hl with | [_, _], _ => rfl), T.cls "Store" (by decide +kernel), T.meth "Store" "drop" (by decide +kernel)⟩
end
end KP

/-! stores: ==, book, worths; books: ==. -/
namespace KP
open PySem PySem.Spec PyProof.Rows L2 G137 SlX
theorem eqvAll_ints : ∀ (xs ys : List Int), PyData.eqvAll (xs.map PyData.int) (ys.map PyData.int) = decide (xs = ys)
  | [], [] => by simp [PyData.eqvAll]
  | [], _ :: _ => by simp [PyData.eqvAll]
  | _ :: _, [] => by simp [PyData.eqvAll]
  | x :: xs, y :: ys => by
    rw [List.map_cons, List.map_cons, PyData.eqvAll, eqvAll_ints xs ys, PyData.eqv]
    by_cases h : x = y
    · by_cases h2 : xs = ys
      · simp [h, h2]
      · simp [h, h2]
    · simp [h]
theorem ints_dp {K : Frag} {H : Hp} : ∀ ws : List Int, DpAll K H (ws.map V.int) (ws.map PyData.int)
  | [] => .nil
  | x :: xs => .cons (.int x) (ints_dp xs)
theorem ints_shaped (ws : List Int) : SeqAt.shaped (.tuple (ws.map PyData.int)) = true := shaped_tup (n := 0) (fun d hd => by
  obtain ⟨z, _, rfl⟩ := List.mem_map.mp hd
  exact ⟨by simp [PyData.canLay0], by simp [PyData.depth]⟩) (by decide)
def rowsD (ks : List KeyR) : PyData := .tuple (ks.map KeyR.dat)
theorem rows_shaped {ks : List KeyR} (h : ∀ k ∈ ks, nameS k.name = true) : SeqAt.shaped (rowsD ks) = true := shaped_tup (n := 1) (fun d hd => by
  obtain ⟨k, hk, rfl⟩ := List.mem_map.mp hd
  exact KeyR.lay (h k hk)) (by decide)
theorem rows_refl {ks : List KeyR} (h : ∀ k ∈ ks, nameS k.name = true) : PyData.eqv (rowsD ks) (rowsD ks) = true := SeqAt.eqv_refl _ (SeqAt.canLay_of_shaped (rows_shaped h))
/-- no store: plain, or an instance of another class -/
def NoSt (K : Frag) (H : Hp) (v : V) : Prop := Pl H v ∨ ∃ a dx fs, v = .ref a ∧ H a = some (.ins (cA K "Book") dx fs)
def spSEq (K : Frag) : Sp := fun vs H Q _ => ∃ a b kr w ks ws y, vs = [.ref a, y] ∧ StK K H a b kr w ks ws ∧ (∀ k ∈ ks, nameS k.name = true) ∧
  ((NoSt K H y ∧ Q (.bl false) H) ∨ ∃ a2 b2 kr2 w2 ks2 ws2, y = .ref a2 ∧ StK K H a2 b2 kr2 w2 ks2 ws2 ∧ (∀ k ∈ ks2, nameS k.name = true) ∧ Q (.bl (PyData.eqv (rowsD ks) (rowsD ks2) && decide (ws = ws2))) H)
theorem BkOk.rows {K : Frag} {H : Hp} {b kr : Addr} {ks : List KeyR} (h : BkOk K H b ks kr) : Dp K H (.ref kr) (rowsD ks) := by
  obtain ⟨dy, t, g, pd, kn, st, pl, w, rows, h1, h2, h3⟩ := h.r
  exact .tup (SqT.of h2) h3.dps
def spBkOf (K : Frag) : Sp := fun vs H Q _ => ∃ a dx b kr v, vs = [.ref a] ∧ H a = some (.ins (cA K "Store") dx (fsS b kr v)) ∧ Q (.ref b) H
def spWrs (K : Frag) : Sp := fun vs H Q _ => ∃ a dx b kr v, vs = [.ref a] ∧ H a = some (.ins (cA K "Store") dx (fsS b kr v)) ∧ Q v H
def BkTxt (K : Frag) (H : Hp) (b : Addr) (t : Str) : Prop := ∃ dx x1 x2 x3 x4 x5 x6 x7, H b = some (.ins (cA K "Book") dx (fsB t x1 x2 x3 x4 x5 x6 x7))
theorem BookAt.txt {K : Frag} {H : Hp} {a : Addr} {t : Str} {ks : List KeyR} {ds : List DeedD} (h : BookAt K H a t ks ds) : BkTxt K H a t := by
  obtain ⟨dx, kr, g, pd, kn, st, pl, w, rows, ps, xs, kvw, h1, _⟩ := h
  exact ⟨dx, kr, g, pd, kn, st, pl, w, h1⟩
theorem BkTxt.same {K : Frag} {H H' : Hp} {b : Addr} {t : Str} (s : Same H H') (h : BkTxt K H b t) : BkTxt K H' b t := by
  obtain ⟨dx, x1, x2, x3, x4, x5, x6, x7, h⟩ := h
  exact ⟨dx, x1, x2, x3, x4, x5, x6, x7, s _ _ h⟩
def spBEq (K : Frag) : Sp := fun vs H Q _ => ∃ a t b t2, vs = [.ref a, .ref b] ∧ BkTxt K H a t ∧ BkTxt K H b t2 ∧ Q (.bl (decide (t = t2))) H
section
variable {P : Program} {w : World} {K : Frag} {mg : Str → Option Value} {base : Heap}
theorem sc_Store_eq : FnScope ["self", "other"] ["self", "other"] (defScope m_Store_eq) := ⟨rfl, rfl, rfl, by decide +kernel, rfl, by decide +kernel, by decide +kernel⟩
theorem ok_Store_eq (T : Pr K mg) : MOk P w K mg base 1 (cA K "Store") "__eq__" ["self", "other"] (spSEq K) := by
  obtain ⟨fd, F⟩ := T.f_Store_eq
  have bisinstance := T.fre "isinstance" (by decide +kernel)
  refine MOk.of F (T.cls "Store" (by decide +kernel)) (T.meth "Store" "__eq__" (by decide +kernel)) sc_Store_eq (fun _ _ _ _ _ _ us hl => match us, hl with | [_, _], _ => rfl) (fun vs H Q E h => ?_) (fun cdv A outer s H vs Q E hr h => ?_)
  · obtain ⟨_, _, _, _, _, _, _, rfl, _⟩ := h; rfl
  have hu : (A.deeper (envOfC "Store.__eq__" (defScope m_Store_eq) s.heap.objs.size (He.ma K (He.ga K "Store") "__eq__") cdv)).units + 64 < cLine := by have := hr.un; omega
  have hu1 : (A.deeper (envOfC "Store.__eq__" (defScope m_Store_eq) s.heap.objs.size (He.ma K (He.ga K "Store") "__eq__") cdv)).units + 1 < cLine := by omega
  have hu64 : (A.deeper (envOfC "Store.__eq__" (defScope m_Store_eq) s.heap.objs.size (He.ma K (He.ga K "Store") "__eq__") cdv)).units + 64 < cLine := by omega
  refine ⟨_, PSs.nox (pss_cons (ps_if (pt_not (pt_val (pe_callB call_isi (by rfl) bisinstance boot_isinstance (pa_cons (pv 1) (pa_cons (pe_glob (v := .ref (cA K "Store")) rfl (T.glo "Store" (by decide +kernel)) rfl) pa_nil)))))
      (pss_one (ps_ret pe_bl))
      pss_nil)
    (pss_one (ps_ret (pe_and (pe_cmpR (op_eqD hu64) (pe_fld (pv 0) rfl) (pe_fld (pv 1) rfl) (nomark _)) (pe_one (pe_cmpR (op_eqD hu64) (pe_fld (pv 0) rfl) (pe_fld (pv 1) rfl) (nomark _))))))), ?_⟩
  have cS := T.cls "Store" (by decide +kernel)
  have nS : ∀ f, (("Store" : Str), f) ∈ gFld → NoAttr K (cA K "Store") f := T.fld "Store"
  obtain ⟨a, b, kr, w, ks, ws, y, rfl, hS, hn, h⟩ := h
  rcases h with ⟨hno, hQ⟩ | ⟨a2, b2, kr2, w2, ks2, ws2, rfl, hS2, hn2, hQ⟩
  · rcases hno with ⟨Ty, hT⟩ | ⟨a2, dx2, fs2, rfl, h2⟩
    · refine ⟨_, rfl, y, .ref (cA K "Store"), _, _, _, rfl, .own _, tyS_tyx hT, T.kitT Ty (tyS_mem hT) "Store" (by decide +kernel), _, rfl, ?_⟩
      exact iY rfl hQ
    · refine ⟨_, rfl, _, .ref (cA K "Store"), _, _, _, rfl, .own _, (T.isi "Book" (by decide +kernel)).ty (T.cls "Book" (by decide +kernel)) h2, T.kitC "Book" (by decide +kernel) "Store" (by decide +kernel), _, rfl, ?_⟩
      exact iY (by decide +kernel) hQ
  · obtain ⟨dx, ha, hw⟩ := hS.s
    obtain ⟨dx2, ha2, hw2⟩ := hS2.s
    refine ⟨_, rfl, _, .ref (cA K "Store"), _, _, _, rfl, .own _, (T.isi "Store" (by decide +kernel)).ty cS ha2, T.kitC "Store" (by decide +kernel) "Store" (by decide +kernel), _, rfl, ?_⟩
    refine iN (by decide +kernel) ?_
    refine ⟨_, rfl, a, _, dx, _, _, rfl, ha, cS, nS "own_key_rows" (by decide +kernel), rfl, _, rfl, a2, _, dx2, _, _, rfl, ha2, cS, nS "own_key_rows" (by decide +kernel), rfl, rowsD ks, rowsD ks2, hS.b.rows, hS2.b.rows, rows_shaped hn, rows_shaped hn2, _, rfl, ?_⟩
    cases e : PyData.eqv (rowsD ks) (rowsD ks2) with
    | false =>
      rw [e] at hQ
      exact iN rfl hQ
    | true =>
      rw [e] at hQ
      refine iY rfl ?_
      refine ⟨_, rfl, a, _, dx, _, _, rfl, ha, cS, nS "own_worths" (by decide +kernel), rfl, _, rfl, a2, _, dx2, _, _, rfl, ha2, cS, nS "own_worths" (by decide +kernel), rfl, .tuple (ws.map PyData.int), .tuple (ws2.map PyData.int), .tup (SqT.of hw) (ints_dp ws), .tup (SqT.of hw2) (ints_dp ws2), ints_shaped ws, ints_shaped ws2, ?_⟩
      rw [show PyData.eqv (.tuple (ws.map PyData.int)) (.tuple (ws2.map PyData.int)) = PyData.eqvAll (ws.map PyData.int) (ws2.map PyData.int) by rw [PyData.eqv], eqvAll_ints]
      exact hQ
theorem sc_book : FnScope ["self"] ["self"] (defScope m_Store_book) := ⟨rfl, rfl, rfl, by decide +kernel, rfl, by decide +kernel, by decide +kernel⟩
theorem ok_p_Store_book (T : Pr K mg) : POk P w K mg base 1 (cA K "Store") "book"  (spBkOf K) := by
  obtain ⟨p_, g_, fd, hp, F⟩ := T.p_Store_book
  refine POk.of F (T.cls "Store" (by decide +kernel)) hp sc_book (fun _ _ _ _ _ _ us hl => match us, hl with | [_], _ => rfl) (fun vs H Q E h => ?_) (fun cdv A outer s H vs Q E hr h => ?_)
  · obtain ⟨_, _, _, _, _, rfl, _⟩ := h; rfl
  refine ⟨_, PSs.nox (pss_one (ps_ret (pe_fld (pv 0) rfl))), ?_⟩
  have cS := T.cls "Store" (by decide +kernel)
  have nS : ∀ f, (("Store" : Str), f) ∈ gFld → NoAttr K (cA K "Store") f := T.fld "Store"
  obtain ⟨a, dx, b, kr, v, rfl, ha, hQ⟩ := h
  exact ⟨_, rfl, a, _, dx, _, _, rfl, ha, cS, nS "own_book" (by decide +kernel), rfl, hQ⟩
theorem sc_worths : FnScope ["self"] ["self"] (defScope m_Store_worths) := ⟨rfl, rfl, rfl, by decide +kernel, rfl, by decide +kernel, by decide +kernel⟩
theorem ok_p_Store_worths (T : Pr K mg) : POk P w K mg base 1 (cA K "Store") "worths"  (spWrs K) := by
  obtain ⟨p_, g_, fd, hp, F⟩ := T.p_Store_worths
  refine POk.of F (T.cls "Store" (by decide +kernel)) hp sc_worths (fun _ _ _ _ _ _ us hl => match us, hl with | [_], _ => rfl) (fun vs H Q E h => ?_) (fun cdv A outer s H vs Q E hr h => ?_)
  · obtain ⟨_, _, _, _, _, rfl, _⟩ := h; rfl
  refine ⟨_, PSs.nox (pss_one (ps_ret (pe_fld (pv 0) rfl))), ?_⟩
  have cS := T.cls "Store" (by decide +kernel)
  have nS : ∀ f, (("Store" : Str), f) ∈ gFld → NoAttr K (cA K "Store") f := T.fld "Store"
  obtain ⟨a, dx, b, kr, v, rfl, ha, hQ⟩ := h
  exact ⟨_, rfl, a, _, dx, _, _, rfl, ha, cS, nS "own_worths" (by decide +kernel), rfl, hQ⟩
theorem sc_Book_eq : FnScope ["self", "other"] ["self", "other"] (defScope m_Book_eq) := ⟨rfl, rfl, rfl, by decide +kernel, rfl, by decide +kernel, by decide +kernel⟩
theorem ok_Book_eq (T : Pr K mg) : MOk P w K mg base 1 (cA K "Book") "__eq__" ["self", "other"] (spBEq K) := by
  obtain ⟨fd, F⟩ := T.f_Book_eq
  have bisinstance := T.fre "isinstance" (by decide +kernel)
  refine MOk.of F (T.cls "Book" (by decide +kernel)) (T.meth "Book" "__eq__" (by decide +kernel)) sc_Book_eq (fun _ _ _ _ _ _ us hl => match us, hl with | [_, _], _ => rfl) (fun vs H Q E h => ?_) (fun cdv A outer s H vs Q E hr h => ?_)
  · obtain ⟨_, _, _, _, rfl, _⟩ := h; rfl
  refine ⟨_, PSs.nox (pss_one (ps_ret (pe_and (pe_callB call_isi (by rfl) bisinstance boot_isinstance (pa_cons (pv 1) (pa_cons (pe_glob (v := .ref (cA K "Book")) rfl (T.glo "Book" (by decide +kernel)) rfl) pa_nil))) (pe_one (pe_cmpR op_eq (pe_fld (pv 0) rfl) (pe_fld (pv 1) rfl) (nomark _)))))), ?_⟩
  have cB := T.cls "Book" (by decide +kernel)
  have nB : ∀ f, (("Book" : Str), f) ∈ gFld → NoAttr K (cA K "Book") f := T.fld "Book"
  obtain ⟨a, t, b, t2, rfl, ⟨dx, x1, x2, x3, x4, x5, x6, x7, ha⟩, ⟨dy, y1, y2, y3, y4, y5, y6, y7, hb⟩, hQ⟩ := h
  refine ⟨_, rfl, _, .ref (cA K "Book"), _, _, _, rfl, .own _, (T.isi "Book" (by decide +kernel)).ty cB hb, T.kitC "Book" (by decide +kernel) "Book" (by decide +kernel), _, rfl, ?_⟩
  refine iY (by decide +kernel) ?_
  refine ⟨_, rfl, a, _, dx, _, _, rfl, ha, cB, nB "own_text" (by decide +kernel), rfl, _, rfl, b, _, dy, _, _, rfl, hb, cB, nB "own_text" (by decide +kernel), rfl, rfl, ?_⟩
  rw [show decide (V.str t = V.str t2) = decide (t = t2) from by by_cases h : t = t2 <;> simp [h]]
  exact hQ
end
end KP

/-! the law's draws: pot, take, of. -/
namespace KP
open PySem PySem.Spec PyProof.Rows L2 G137 SlX
/-- a pot: three numbers -/
def PotH (H : Hp) (p : Addr) (n0 n1 n2 : Int) : Prop := H p = some (.lst [.int n0, .int n1, .int n2])
/-- a pot of which at most b numbers were mixed -/
def Pot (H : Hp) (p : Addr) (b : Nat) : Prop := ∃ n0 n1 n2, PotH H p n0 n1 n2 ∧ 0 ≤ n1 ∧ n1 < 2305843009213693921 ∧ 0 ≤ n2 ∧ n2 ≤ (b : Int)
theorem Pot.same {H H' : Hp} {p : Addr} {b : Nat} (s : Same H H') (h : Pot H p b) : Pot H' p b := by
  obtain ⟨n0, n1, n2, h1, h2⟩ := h
  exact ⟨n0, n1, n2, s _ _ h1, h2⟩
theorem Pot.mono {H : Hp} {p : Addr} {b c : Nat} (h : Pot H p b) (hc : b ≤ c) : Pot H p c := by
  obtain ⟨n0, n1, n2, h1, h2, h3, h4, h5⟩ := h
  exact ⟨n0, n1, n2, h1, h2, h3, h4, by omega⟩
theorem But.trans {a : Addr} {H H1 H2 : Hp} (x : But a H H1) (y : But a H1 H2) : But a H H2 := fun c u hc e => y _ _ hc (x _ _ hc e)
theorem But.of {a : Addr} {H H1 : Hp} (x : Same H H1) : But a H H1 := fun c u _ e => x _ _ e
theorem But.gone {p b : Addr} {n : Nat} {H H' : Hp} (k : But p H H') (hp : Pot H' p n) (e : H' b = none) : H b = none := by
  obtain ⟨n0, n1, n2, h1, _⟩ := hp
  exact k.free e (fun z => by rw [z, show H' p = _ from h1] at e; cases e)
def spTake : Sp := fun vs H Q _ => ∃ (p : Addr) (n : Int) (b : Nat), vs = [.ref p, .int n] ∧ Pot H p b ∧ 0 < n ∧ n < 1000000 ∧ b < 100000 ∧ ∀ (d : Int) (H' : Hp), 0 ≤ d → d < n → But p H H' → Pot H' p (b + 1) → Q (.int d) H'
theorem at3_0 {a b c : V} : atI [a, b, c] 0 = some a := atI_nat (j := 0) rfl
theorem at3_1 {a b c : V} : atI [a, b, c] 1 = some b := atI_nat (j := 1) rfl
theorem at3_2 {a b c : V} : atI [a, b, c] 2 = some c := atI_nat (j := 2) rfl
theorem primes_at {i : Int} (h0 : 0 ≤ i) (h5 : i < 5) : ∃ p : Int, atI ([2147483647, 2147483629, 2147483587, 2147483579, 2147483563].map V.int) i = some (.int p) ∧ 0 < p ∧ p < 2147483648 := by
  have : i = 0 ∨ i = 1 ∨ i = 2 ∨ i = 3 ∨ i = 4 := by omega
  rcases this with rfl | rfl | rfl | rfl | rfl
  · exact ⟨_, atI_nat (j := 0) rfl, by decide, by decide⟩
  · exact ⟨_, atI_nat (j := 1) rfl, by decide, by decide⟩
  · exact ⟨_, atI_nat (j := 2) rfl, by decide, by decide⟩
  · exact ⟨_, atI_nat (j := 3) rfl, by decide, by decide⟩
  · exact ⟨_, atI_nat (j := 4) rfl, by decide, by decide⟩
theorem op_powX {X : Cx} : OpR X (binaryOp .Pow) (rI (fun i j => 0 ≤ j ∧ (Builtin.Int.intBits i : Int) * j ≤ 2 ^ 27) fun i j => .int (i ^ j.toNat)) := opI fun _ _ _ _ _ _ _ hc q => pow_int hc.1 hc.2 q
theorem pos300 : (0 : Int) < (10 ^ Int.toNat 60) ^ Int.toNat 5 := by decide +kernel
theorem b01 (b : Bool) : -(2 ^ 64 : Int) < (if b = true then 1 else 0) ∧ (if b = true then 1 else 0) < (2 ^ 64 : Int) := by cases b <;> decide
section
variable {P : Program} {w : World} {K : Frag} {mg : Str → Option Value} {base : Heap}
theorem sc_law_take : FnScope ["_law_pot_here", "_law_upto", "_law_digit", "_law_prime", "_law_mixed"] ["_law_pot_here", "_law_upto"] (defScope d_law_take) := ⟨rfl, rfl, rfl, by decide +kernel, rfl, by decide +kernel, by decide +kernel⟩
theorem ok_law_take (T : Pr K mg) : FOk P w K mg base 1 "_law_take" ["_law_pot_here", "_law_upto"] spTake := by
  obtain ⟨fd, F⟩ := T.f_law_take
  have gI := T.fre "int" (by decide +kernel)
  refine FOk.of F (T.glo _ (by decide +kernel)) sc_law_take (fun _ _ _ _ _ _ us hl => match us, hl with | [_, _], _ => rfl) (fun vs H Q E h => ?_) (fun cdv A outer s H vs Q E hr h => ?_)
  · obtain ⟨p, n, b, rfl, _⟩ := h
    rfl
  refine ⟨_, pss_cons (ps_if (pt_cmpR op_gt (pe_ix ix_list (pv 0) pe_int (fun _ _ => rfl)) pe_int (nomark _))
      (pss_cons (ps_set (i := 2) sc_law_take.nd rfl (Or.inl rfl) (pe_op op_mod (pe_callTy call_int1 (by rfl) gI boot_int (pa_cons (pe_ix ix_list (pv 0) pe_int (fun _ _ => rfl)) pa_nil)) (pv 1)))
      (pss_cons (ps_asg (pe_op op_fdiv (pe_ix ix_list (pv 0) pe_int (fun _ _ => rfl)) (pv 1)) (pg_sub (pv 0) pe_int set_list))
      (pss_one (ps_ret (pv 2))))) pss_nil)
    (pss_cons (ps_asg (pe_op op_add (pe_ix ix_list (pv 0) pe_int (fun _ _ => rfl)) pe_int) (pg_sub (pv 0) pe_int set_list))
    (pss_cons (ps_set (i := 3) sc_law_take.nd rfl (Or.inl rfl) (pe_ix ix_list (pe_lst (pa_cons pe_int (pa_cons pe_int (pa_cons pe_int (pa_cons pe_int (pa_cons pe_int pa_nil))))))
        (pe_op op_mod (pe_callTy call_int1 (by rfl) gI boot_int (pa_cons (pe_ix ix_list (pv 0) pe_int (fun _ _ => rfl)) pa_nil)) pe_int) (fun _ _ => rfl)))
    (pss_cons (ps_set (i := 4) sc_law_take.nd rfl (Or.inl rfl) (pe_op op_mod (pe_callTy call_int1 (by rfl) gI boot_int (pa_cons (pe_op op_pow (pe_op op_add (pe_op op_add (pe_ix ix_list (pv 0) pe_int (fun _ _ => rfl))
        (pe_op op_mul (pe_op op_mul pe_int (pe_ix ix_list (pv 0) pe_int (fun _ _ => rfl))) (pe_ix ix_list (pv 0) pe_int (fun _ _ => rfl)))) pe_int) pe_int) pa_nil)) (pv 3)))
    (pss_one (ps_ret (pe_op op_mod (pe_callTy call_int1 (by rfl) gI boot_int (pa_cons (pe_op op_fdiv (pe_op op_mul (pv 4) (pe_op op_add (pe_op op_mod (pe_callTy call_int1 (by rfl) gI boot_int (pa_cons (pv 4) pa_nil)) pe_int)
        (pe_op op_mul pe_int (pe_ix ix_list (pv 0) pe_int (fun _ _ => rfl))))) pe_int) pa_nil)) (pv 1))))))), ?_⟩
  obtain ⟨p, n, bb, rfl, ⟨n0, n1, n2, hP, h1, h1', h2, h2b⟩, hn, hn', hbb, hQ0⟩ := h
  have h2' : n2 < 100000 := by omega
  have hQ : ∀ (d n0' n2' : Int) (H' : Hp), 0 ≤ d → d < n → n2 ≤ n2' → n2' ≤ n2 + 1 → But p H H' → PotH H' p n0' n1 n2' → Q (.int d) H' := fun d n0' n2' H' q1 q2 q3 q4 q5 q6 => hQ0 d H' q1 q2 q5 ⟨n0', n1, n2', q6, h1, h1', by omega, by omega⟩
  refine ⟨_, rfl, p, _, 0, _, rfl, rfl, SqL.of hP, at3_0, _, _, rfl, rfl, _, rfl, ?_⟩
  by_cases hpos : 0 < n0
  · refine iY (decide_eq_true hpos) ?_
    refine ⟨_, rfl, p, _, 0, _, rfl, rfl, SqL.of hP, at3_0, .inl ⟨_, rfl, ?_⟩⟩
    refine ⟨_, rfl, _, _, rfl, rfl, hn, ?_⟩
    refine ⟨_, rfl, p, _, 0, _, rfl, rfl, SqL.of hP, at3_0, ?_⟩
    refine ⟨_, rfl, _, _, rfl, rfl, ⟨hn, by omega⟩, ?_⟩
    refine ⟨_, rfl, p, _, 0, 0, rfl, rfl, hP, rfl, ?_⟩
    refine ⟨_, rfl, ?_⟩
    exact hQ (n0 % n) (n0 / n) n2 _ (Int.emod_nonneg _ (by omega)) (Int.emod_lt_of_pos _ hn) (Int.le_refl _) (by omega) (fun b o hb e => by rw [upd_ne hb]; exact e) upd_same
  · refine iN (decide_eq_false hpos) ?_
    refine ⟨_, rfl, p, _, 2, _, rfl, rfl, SqL.of hP, at3_2, _, _, rfl, rfl, ?_⟩
    refine ⟨_, rfl, p, _, 2, 2, rfl, rfl, hP, rfl, ?_⟩
    have hP1 : PotH (upd H p (.lst [.int n0, .int n1, .int (n2 + 1)])) p n0 n1 (n2 + 1) := upd_same
    refine ⟨by decide, fun l nl => ?_⟩
    have hlp : p ≠ l := ne_of_none hP1 nl
    have hP2 : PotH (upd (upd H p (.lst [.int n0, .int n1, .int (n2 + 1)])) l (.lst [.int 2147483647, .int 2147483629, .int 2147483587, .int 2147483579, .int 2147483563])) p n0 n1 (n2 + 1) := by
      unfold PotH; rw [upd_ne hlp]; exact hP1
    refine ⟨_, rfl, p, _, 2, _, rfl, rfl, SqL.of hP2, at3_2, .inl ⟨_, rfl, ?_⟩⟩
    refine ⟨_, _, rfl, rfl, (by show (0 : Int) < 5; decide), ?_⟩
    obtain ⟨pr, hpr, pp, pl⟩ := primes_at (i := (n2 + 1) % 5) (Int.emod_nonneg _ (by decide)) (Int.emod_lt_of_pos _ (by decide))
    refine ⟨l, _, _, _, rfl, rfl, SqL.of upd_same, hpr, ?_⟩
    have hq0 : 0 ≤ n2 * n2 := Int.mul_nonneg h2 h2
    have hsq : (n2 + 1) * (n2 + 1) ≤ 100000 * 100000 := Int.mul_le_mul (by omega) (by omega) (by omega) (by omega)
    have hsq0 : 0 ≤ (n2 + 1) * (n2 + 1) := Int.mul_nonneg (by omega) (by omega)
    have e80 : 80021 * (n2 + 1) * (n2 + 1) = 80021 * ((n2 + 1) * (n2 + 1)) := Int.mul_assoc _ _ _
    refine ⟨_, rfl, p, _, 1, _, rfl, rfl, SqL.of hP2, at3_1, ?_⟩
    refine ⟨_, rfl, p, _, 2, _, rfl, rfl, SqL.of hP2, at3_2, _, _, rfl, rfl, .inl ⟨by decide, by decide⟩, ?_⟩
    refine ⟨_, rfl, p, _, 2, _, rfl, rfl, SqL.of hP2, at3_2, _, _, rfl, rfl, .inr ⟨by omega, by omega⟩, ?_⟩
    refine ⟨_, _, rfl, rfl, _, _, rfl, rfl, _, _, rfl, rfl, ⟨by decide, by decide, ?_⟩, .inl ⟨_, rfl, ?_⟩⟩
    · rw [e80]
      generalize (n2 + 1) * (n2 + 1) = y at hsq hsq0
      omega
    refine ⟨_, rfl, _, _, rfl, rfl, pp, ?_⟩
    generalize hm : ((n1 + 80021 * (n2 + 1) * (n2 + 1) + 59) ^ (3 : Int).toNat) % pr = m
    have hm0 : 0 ≤ m := by rw [← hm]; exact Int.emod_nonneg _ (by omega)
    have hm1 : m < 2147483648 := by
      have := Int.emod_lt_of_pos ((n1 + 80021 * (n2 + 1) * (n2 + 1) + 59) ^ (3 : Int).toNat) pp
      rw [hm] at this; omega
    refine ⟨_, rfl, _, rfl, .inl ⟨_, rfl, ?_⟩⟩
    refine ⟨_, _, rfl, rfl, (by show (0 : Int) < 10009; decide), ?_⟩
    refine ⟨_, rfl, p, _, 2, _, rfl, rfl, SqL.of hP2, at3_2, _, _, rfl, rfl, .inl ⟨by decide, by decide⟩, ?_⟩
    refine ⟨_, _, rfl, rfl, _, _, rfl, rfl, .inl ⟨by omega, by omega⟩, ?_⟩
    refine ⟨_, _, rfl, rfl, ⟨by decide, by decide⟩, .inl ⟨_, rfl, ?_⟩⟩
    refine ⟨_, rfl, _, _, rfl, rfl, hn, ?_⟩
    exact hQ _ n0 (n2 + 1) _ (Int.emod_nonneg _ (by omega)) (Int.emod_lt_of_pos _ hn) (by omega) (Int.le_refl _) (fun b o hb e => by
      have hbl : b ≠ l := fun z => by
        rw [z] at e hb
        rw [upd_ne hb] at nl
        rw [nl] at e; cases e
      rw [upd_ne hbl, upd_ne hb]; exact e) hP2
def spPot (K : Frag) : Sp := fun vs H Q _ => ∃ (a : Addr) (ns : List Int) (k : Nat), vs = [.ref a, .int k] ∧ SqL K H a (ns.map V.int) ∧ k < 100 ∧ ∀ (H' : Hp) (p : Addr), Same H H' → H p = none → Pot H' p 0 → Q (.ref p) H'
theorem sc_law_pot : FnScope ["_law_script", "_law_k", "_law_cell", "_law_own"] ["_law_script", "_law_k"] (defScope d_law_pot) := ⟨rfl, rfl, rfl, by decide +kernel, rfl, by decide +kernel, by decide +kernel⟩
theorem ok_law_pot (T : Pr K mg) : FOk P w K mg base 1 "_law_pot" ["_law_script", "_law_k"] (spPot K) := by
  obtain ⟨fd, F⟩ := T.f_law_pot
  have gI := T.fre "int" (by decide +kernel)
  have gL := T.fre "len" (by decide +kernel)
  have gA := T.fre "abs" (by decide +kernel)
  refine FOk.of F (T.glo _ (by decide +kernel)) sc_law_pot (fun _ _ _ _ _ _ us hl => match us, hl with | [_, _], _ => rfl) (fun vs H Q E h => ?_) (fun cdv A outer s H vs Q E hr h => ?_)
  · obtain ⟨a, ns, k, rfl, _⟩ := h
    rfl
  refine ⟨_, pss_cons (ps_set (i := 2) sc_law_pot.nd rfl (Or.inl rfl) (pe_ifExp (pt_cmpR op_lt (pv 1) (pe_callB call_len_seq (by rfl) gL PySem.boot_len (pa_cons (pv 0) pa_nil)) (nomark _))
      (pe_ix ix_list (pv 0) (pv 1) (fun _ _ => rfl)) (pe_op op_add (pe_op op_mul pe_int (pv 1)) pe_int)))
    (pss_cons (ps_set (i := 3) sc_law_pot.nd rfl (Or.inl rfl) (pe_op op_mul (pe_op op_mod (pe_callTy call_int1 (by rfl) gI boot_int (pa_cons (pe_callB call_abs (by rfl) gA (by decide +kernel) (pa_cons (pv 2) pa_nil)) pa_nil))
        (pe_op op_powX (pe_op op_pow pe_int pe_int) pe_int))
      (pe_callTy call_int1 (by rfl) gI boot_int (pa_cons (pe_cmpR op_ge (pe_callB call_abs (by rfl) gA (by decide +kernel) (pa_cons (pv 2) pa_nil)) (pe_op op_pow pe_int pe_int) (nomark _)) pa_nil))))
    (pss_one (ps_ret (pe_lst (pa_cons (pv 3) (pa_cons (pe_op op_mod (pe_callTy call_int1 (by rfl) gI boot_int (pa_cons (pe_op op_add (pe_op op_add (pe_op op_mul (pe_op op_mod (pe_callTy call_int1 (by rfl) gI boot_int (pa_cons (pv 2) pa_nil)) pe_int) pe_int)
        (pe_op op_mul (pe_op op_mul pe_int (pv 1)) (pv 1))) pe_int) pa_nil)) pe_int) (pa_cons pe_int pa_nil))))))), ?_⟩
  obtain ⟨a, ns, k, rfl, hS, hk, hQ⟩ := h
  refine ⟨_, rfl, _, rfl, a, _, rfl, .inl hS, _, _, rfl, rfl, _, rfl, ?_⟩
  have pre : ∀ b : Bool, b = decide ((k : Int) < ((ns.map V.int).length : Int)) → b = true → ∃ c, atI (ns.map V.int) (k : Int) = some (.int c) := fun b e1 e2 => by
    rw [e1] at e2
    have hlt := of_decide_eq_true e2
    rw [List.length_map] at hlt
    have hlt' : k < ns.length := by omega
    exact ⟨ns[k], atI_nat (by rw [List.getElem?_map, List.getElem?_eq_getElem hlt']; rfl)⟩
  generalize hb : decide ((k : Int) < ((ns.map V.int).length : Int)) = b at *
  have hk1 : (0 : Int) ≤ k := by omega
  have hk2 : (k : Int) < 100 := by omega
  have hkk : (6101 : Int) * k ≤ 6101 * 100 := by omega
  cases b
  case' false => refine iN rfl ?_; refine ⟨_, rfl, _, _, rfl, rfl, .inl ⟨by decide, by decide⟩, _, _, rfl, rfl, ?_⟩
  case' true => obtain ⟨c, hc⟩ := pre true rfl rfl; refine iY rfl ?_; refine ⟨_, rfl, _, rfl, a, _, _, _, rfl, rfl, hS, hc, ?_⟩
  all_goals
    refine ⟨_, rfl, _, rfl, .inl ⟨_, rfl, ?_⟩⟩
    refine ⟨_, _, rfl, rfl, ⟨by decide, by decide, by decide⟩, ?_⟩
    refine ⟨_, _, rfl, rfl, ⟨by decide, by decide +kernel⟩, ?_⟩
    refine ⟨_, _, rfl, rfl, pos300, ?_⟩
    refine ⟨_, rfl, _, rfl, ?_⟩
    refine ⟨_, _, rfl, rfl, ⟨by decide, by decide, by decide⟩, ?_⟩
    refine ⟨_, _, rfl, rfl, .inr ⟨_, rfl, ?_⟩⟩
    refine ⟨_, _, rfl, rfl, .inr (b01 _), ?_⟩
    refine ⟨_, rfl, _, rfl, .inl ⟨_, rfl, ?_⟩⟩
    refine ⟨_, _, rfl, rfl, (by show (0 : Int) < 2305843009213693951; decide), ?_⟩
    refine ⟨_, _, rfl, rfl, .inr ⟨by decide, by decide⟩, ?_⟩
    refine ⟨_, rfl, _, _, rfl, rfl, .inl ⟨by decide, by decide⟩, ?_⟩
    refine ⟨_, rfl, _, _, rfl, rfl, .inr ⟨by omega, by omega⟩, ?_⟩
    refine ⟨_, _, rfl, rfl, _, _, rfl, rfl, .inl ⟨_, rfl, ?_⟩⟩
    refine ⟨_, _, rfl, rfl, (by show (0 : Int) < 2305843009213693921; decide), ?_⟩
    refine ⟨(by show 3 ≤ sizeLine; decide), fun p np => ?_⟩
    exact hQ _ p (fun b o e => by rw [upd_ne (ne_of_none e np)]; exact e) np ⟨_, _, 0, upd_same, Int.emod_nonneg _ (by decide), Int.emod_lt_of_pos _ (by decide), by decide, by decide⟩
def spOfL (K : Frag) : Sp := fun vs H Q _ => ∃ (p l : Addr) (xs : List V) (b : Nat), vs = [.ref p, .ref l] ∧ Pot H p b ∧ SqL K H l xs ∧ l ≠ p ∧ 0 < xs.length ∧ xs.length < 1000000 ∧ b < 100000 ∧ ∀ (i : Nat) (x : V) (H' : Hp), xs[i]? = some x → But p H H' → Pot H' p (b + 1) → Q x H'
def spOfS : Sp := fun vs H Q _ => ∃ (p : Addr) (z : Str) (b : Nat), vs = [.ref p, .str z] ∧ Pot H p b ∧ 0 < z.length ∧ z.length < 1000 ∧ b < 100000 ∧ ∀ (i c : Nat) (H' : Hp), z.cps.toList[i]? = some c → But p H H' → Pot H' p (b + 1) → Q (.str ⟨#[c]⟩) H'
theorem SqL.but {K : Frag} {H H' : Hp} {l p : Addr} {xs : List V} (s : But p H H') (hne : l ≠ p) (h : SqL K H l xs) : SqL K H' l xs := by
  rcases h with h | h
  · rcases h with h | ⟨o, h⟩
    · exact .inl (.inl (s _ _ hne h))
    · exact .inl (.inr ⟨o, s _ _ hne h⟩)
  · exact .inr h
theorem sc_law_of : FnScope ["_law_pot_here", "_law_some"] ["_law_pot_here", "_law_some"] (defScope d_law_of) := ⟨rfl, rfl, rfl, by decide +kernel, rfl, by decide +kernel, by decide +kernel⟩
theorem ok_law_of (T : Pr K mg) : FOk P w K mg base 2 "_law_of" ["_law_pot_here", "_law_some"] (spOfL K) := by
  obtain ⟨fd, F⟩ := T.f_law_of
  have gL := T.fre "len" (by decide +kernel)
  refine FOk.of F (T.glo _ (by decide +kernel)) sc_law_of (fun _ _ _ _ _ _ us hl => match us, hl with | [_, _], _ => rfl) (fun vs H Q E h => ?_) (fun cdv A outer s H vs Q E hr h => ?_)
  · obtain ⟨p, n, b, _, rfl, _⟩ := h
    rfl
  refine ⟨_, PSs.nox (pss_one (ps_ret (pe_ix ix_list (pv 1) (pe_callF (ok_law_take T) hr rfl (pa_cons (pv 0) (pa_cons (pe_callB call_len_seq (by rfl) gL PySem.boot_len (pa_cons (pv 1) pa_nil)) pa_nil))) (fun _ _ => rfl)))), ?_⟩
  obtain ⟨p, l, xs, b, rfl, hP, hl, hne, h0, h1, hb, hQ⟩ := h
  refine ⟨_, rfl, _, rfl, _, rfl, l, _, rfl, .inl hl, p, _, b, rfl, hP, by omega, by omega, hb, fun d H' d0 d1 k hP' => ?_⟩
  obtain ⟨j, rfl⟩ := Int.eq_ofNat_of_zero_le d0
  have hlt : j < xs.length := by omega
  exact ⟨l, _, _, xs[j], rfl, rfl, SqL.but k hne hl, atI_nat (List.getElem?_eq_getElem hlt), hQ j _ H' (List.getElem?_eq_getElem hlt) k hP'⟩
theorem ok_law_ofS (T : Pr K mg) : FOk P w K mg base 2 "_law_of" ["_law_pot_here", "_law_some"] spOfS := by
  obtain ⟨fd, F⟩ := T.f_law_of
  have gL := T.fre "len" (by decide +kernel)
  refine FOk.of F (T.glo _ (by decide +kernel)) sc_law_of (fun _ _ _ _ _ _ us hl => match us, hl with | [_, _], _ => rfl) (fun vs H Q E h => ?_) (fun cdv A outer s H vs Q E hr h => ?_)
  · obtain ⟨p, n, b, rfl, _⟩ := h
    rfl
  refine ⟨_, PSs.nox (pss_one (ps_ret (pe_ix ix_str (pv 1) (pe_callF (ok_law_take T) hr rfl (pa_cons (pv 0) (pa_cons (pe_callB call_len_str (by rfl) gL PySem.boot_len (pa_cons (pv 1) pa_nil)) pa_nil))) (fun _ _ => rfl)))), ?_⟩
  obtain ⟨p, z, b, rfl, hP, h0, h1, hb, hQ⟩ := h
  have hbig := sizeLine_big
  refine ⟨_, rfl, _, rfl, _, rfl, z, rfl, by omega, p, _, b, rfl, hP, by omega, by omega, hb, fun d H' d0 d1 k hP' => ?_⟩
  obtain ⟨j, rfl⟩ := Int.eq_ofNat_of_zero_le d0
  have hlt : j < z.cps.toList.length := by
    have e : z.cps.toList.length = z.length := rfl
    omega
  exact ⟨z, _, z.cps.toList[j], rfl, rfl, by omega, atI_nat (List.getElem?_eq_getElem hlt), hQ j _ H' (List.getElem?_eq_getElem hlt) k hP'⟩
end
end KP
/-! a text times 0 or 1. -/
namespace G137
open PySem PySem.Spec PyProof.Rows L2
def rMulS : R2 := fun x y H Q => ∃ (z : Str) (b : Bool), x = .str z ∧ y = .int (if b = true then 1 else 0) ∧ Q (.str (if b = true then z else Str.empty)) H
theorem op_mulS {X : Cx} : OpR X (binaryOp .Mult) rMulS := by
  intro pins s σ H x y v u Q I rx ry h
  obtain ⟨z, b, rfl, rfl, q⟩ := h
  obtain ⟨t, rfl⟩ := (show ∃ t, v = Value.str z t from rx)
  obtain ⟨t', rfl⟩ := (show ∃ t', u = Value.int (if b = true then 1 else 0) t' from ry)
  have ok : MulOk z (if b = true then 1 else 0) := by
    cases b with
    | true => exact ⟨by decide, fun _ h => absurd h (by simp), fun _ h => absurd h (by simp)⟩
    | false => exact ⟨by decide, fun h => absurd (by decide) h, fun h => absurd (by decide) h⟩
  refine SB.mul ok fun t2 k => ⟨.str (if b = true then z else Str.empty), H, I.tok _, ⟨t2, ?_⟩, q⟩
  cases b with
  | true => rfl
  | false => rfl
end G137
/-! the law's draws: unlike. -/
namespace KP
open PySem PySem.Spec PyProof.Rows L2 G137 SlX
def spUnl (K : Frag) : Sp := fun vs H Q _ => ∃ (p l : Addr) (xs : List Str) (m b : Nat), vs = [.ref p, .ref l, .int (m : Int)] ∧ Pot H p b ∧ H l = some (.lst (xs.map V.str)) ∧ l ≠ p ∧ xs.Nodup ∧ xs.length ≤ 100 ∧ m ≤ 100 ∧ b + m < 100000 ∧
  ∀ (ys : List Str) (r : Addr) (H' : Hp), ys.Nodup → (∀ y ∈ ys, y ∈ xs) → ys.length = min m xs.length → But p H H' → Pot H' p (b + m) → H r = none → H' r = some (.lst (ys.map V.str)) → Q (.ref r) H'
theorem er_map {α β : Type} (f : α → β) : ∀ (l : List α) (j : Nat), (l.map f).eraseIdx j = (l.eraseIdx j).map f
  | [], _ => rfl
  | _ :: _, 0 => rfl
  | a :: l, j + 1 => by simp [List.eraseIdx, er_map f l j]
theorem er_perm {α : Type} : ∀ (l : List α) (j : Nat) (h : j < l.length), (l[j] :: l.eraseIdx j).Perm l
  | a :: l, 0, h => by simp
  | a :: l, j + 1, h => by
    have ih := er_perm l j (by simpa using h)
    simp only [List.getElem_cons_succ, List.eraseIdx_cons_succ]
    exact (List.Perm.swap _ _ _).trans (ih.cons a)
theorem cutV_at (xs : List V) (k : Nat) : cutV xs none (some (k : Int)) ++ cutV xs (some ((k : Int) + 1)) none = xs.eraseIdx k := by
  rw [cutV_to, show ((k : Int) + 1) = ((k + 1 : Nat) : Int) from rfl, cutV_from, List.eraseIdx_eq_take_drop_succ]
section
variable {P : Program} {w : World} {K : Frag} {mg : Str → Option Value} {base : Heap}
theorem sc_law_unlike : FnScope ["_law_pot_here", "_law_some", "_law_many", "_law_left", "_law_found", "_law_turn_here", "_law_at"] ["_law_pot_here", "_law_some", "_law_many"] (defScope d_law_unlike) := ⟨rfl, rfl, rfl, by decide +kernel, rfl, by decide +kernel, by decide +kernel⟩
theorem ok_law_unlike (T : Pr K mg) : FOk P w K mg base 2 "_law_unlike" ["_law_pot_here", "_law_some", "_law_many"] (spUnl K) := by
  obtain ⟨fd, F⟩ := T.f_law_unlike
  have blist := T.fre "list" (by decide +kernel)
  have brange := T.fre "range" (by decide +kernel)
  have bmin := T.fre "min" (by decide +kernel)
  have blen := T.fre "len" (by decide +kernel)
  refine FOk.of F (T.glo _ (by decide +kernel)) sc_law_unlike (fun _ _ _ _ _ _ us hl => match us, hl with | [_, _, _], _ => rfl) (fun vs H Q E h => ?_) (fun cdv A outer s H vs Q E hr h => ?_)
  · obtain ⟨_, _, _, _, _, rfl, _⟩ := h; rfl
  refine ⟨_, PSs.nox (pss_cons (ps_par (i := 3) (j := 4) rfl sc_law_unlike.nd rfl rfl (by decide) rfl rfl (pa_cons (pe_callTy call_list_of (by rfl) blist (by decide +kernel) (pa_cons (pv 1) pa_nil)) (pa_cons (pe_lst pa_nil) pa_nil)) (by rfl))
    (pss_cons (ps_for PassesOwn.never rfl (pi_range1 rfl brange (pa_cons (pe_callB (call_min2 rfl) (by rfl) bmin (by decide +kernel) (pa_cons (pv 2) (pa_cons (pe_callB call_len_seq (by rfl) blen PySem.boot_len (pa_cons (pv 3) pa_nil)) pa_nil))) pa_nil)) (pg_name (i := 5) sc_law_unlike.nd rfl (Or.inl rfl))
      (pss_cons (ps_set (i := 6) sc_law_unlike.nd rfl (Or.inl rfl) (pe_callF (ok_law_take T) (hr.mono (by decide)) rfl (pa_cons (pv 0) (pa_cons (pe_callB call_len_seq (by rfl) blen PySem.boot_len (pa_cons (pv 3) pa_nil)) pa_nil))))
    (pss_cons (ps_expr (pe_bm PySem.F.plainAttrs_list PySem.F.slot_list_append PySem.F.type_list_append mt_append (pv 4) (pa_cons (pe_ix ix_list (pv 3) (pv 6) (fun _ _ => rfl)) pa_nil)))
    (pss_one (ps_set (i := 3) sc_law_unlike.nd rfl (Or.inl rfl) (pe_op (op_cat) (pe_slice sl_list (pv 3) po_none (po_some (pv 6))) (pe_slice sl_list (pv 3) (po_some (pe_op op_add (pv 6) pe_int)) po_none)))))))
    (pss_one (ps_ret (pv 4))))), ?_⟩
  have hbig := sizeLine_big
  obtain ⟨p, l, xs, m, b, rfl, hP, hl, hlp, hnd, hx100, hm100, hb, hQ⟩ := h
  refine ⟨_, rfl, l, _, rfl, .inl (SqL.of hl), fun l1 nl1 => ⟨Nat.zero_le _, fun l2 nl2 => ⟨_, _, rfl, ?_⟩⟩⟩
  have u1 := same_upd (o := .lst (xs.map V.str)) nl1
  have u2 := same_upd (o := .lst []) nl2
  have hl1 := u2 l1 _ upd_same
  have l12 : l1 ≠ l2 := fun z => by rw [z] at nl2; rw [upd_same] at nl2; cases nl2
  refine ⟨_, rfl, _, rfl, l1, _, rfl, .inl (SqL.of hl1), _, _, rfl, ?_⟩
  have hmin : (if (((xs.map V.str).length : Nat) : Int) < (m : Int) then (((xs.map V.str).length : Nat) : Int) else (m : Int)) = ((min m xs.length : Nat) : Int) := by
    rw [List.length_map]
    split <;> omega
  rw [hmin]
  refine ⟨_, rfl, by omega, by omega, ?_⟩
  rw [Int.toNat_natCast]
  have hP2 := (hP.same u1).same u2
  have nl1H : H l1 = none := nl1
  have nl2H : H l2 = none := u1.free nl2
  have hpl2 : p ≠ l2 := by obtain ⟨_, _, _, h, _⟩ := hP.same u1; exact ne_of_none h nl2
  have hl1p : l1 ≠ p := fun z => by
    obtain ⟨_, _, _, h, _⟩ := hP
    rw [z] at nl1
    rw [show H p = _ from h] at nl1
    cases nl1
  refine for_range (n := min m xs.length) (fun i σ G => ∃ (ls fs : List Str) (lf : Addr) (x1 x2 : Option V), σ = [some (.ref p), some (.ref l), some (.int (m : Int)), some (.ref lf), some (.ref l2), x1, x2] ∧ But p H G ∧ Pot G p (b + i) ∧ G lf = some (.lst (ls.map V.str)) ∧ G l2 = some (.lst (fs.map V.str)) ∧ lf ≠ l2 ∧ lf ≠ p ∧ fs.length = i ∧ ls.length + i = xs.length ∧ (fs ++ ls).Nodup ∧ ∀ y ∈ fs ++ ls, y ∈ xs)
    ⟨xs, [], l1, none, none, rfl, fun c u hc e => u2 _ _ (u1 _ _ e), hP2, hl1, upd_same, l12, hl1p, rfl, rfl, hnd, fun y hy => hy⟩ ?_ ?_
  · rintro i σ G hi ⟨ls, fs, lf, x1, x2, rfl, bG, hPG, hlf, hfs, hne, hlfp, hfl, hll, hnd2, hsub⟩
    refine ⟨_, rfl, _, rfl, lf, _, rfl, .inl (SqL.of hlf), p, _, b + i, rfl, hPG, ?_, ?_, by omega, fun d G2 d0 d1 k2 hP2 => ?_⟩
    · rw [List.length_map]; omega
    · rw [List.length_map]; omega
    rw [List.length_map] at d1
    obtain ⟨j, rfl⟩ := Int.eq_ofNat_of_zero_le d0
    have hj : j < ls.length := by omega
    have hl2p : l2 ≠ p := Ne.symm hpl2
    have hlf2 := k2 _ _ hlfp hlf
    have hfs2 := k2 _ _ hl2p hfs
    refine ⟨_, rfl, .inl ⟨rfl, _, SqL.of hfs2⟩, _, rfl, _, rfl, lf, _, _, .str ls[j], rfl, rfl, SqL.of hlf2, atI_nat (j := j) (by rw [List.getElem?_map, List.getElem?_eq_getElem hj]; rfl), l2, _, _, rfl, rfl, hfs2, ?_, ?_⟩
    · rw [List.length_map]; omega
    have hlf3 := (upd_ne (o := .lst (fs.map V.str ++ [.str ls[j]])) hne).trans hlf2
    have hfs3 : upd G2 l2 (.lst (fs.map V.str ++ [.str ls[j]])) l2 = _ := upd_same
    have bG3 : But p H (upd G2 l2 (.lst (fs.map V.str ++ [.str ls[j]]))) := fun c u hc e => (upd_ne (ne_of_none e nl2H)).trans (k2 _ _ hc (bG _ _ hc e))
    have hP3 : Pot (upd G2 l2 (.lst (fs.map V.str ++ [.str ls[j]]))) p (b + i + 1) := by
      obtain ⟨n0, n1, n2, h1, h2⟩ := hP2
      exact ⟨n0, n1, n2, (upd_ne hpl2).trans h1, h2⟩
    generalize upd G2 l2 (.lst (fs.map V.str ++ [.str ls[j]])) = G3 at hlf3 hfs3 bG3 hP3 ⊢
    refine ⟨_, rfl, _, rfl, _, rfl, lf, _, rfl, SqL.of hlf3, fun q1 nq1 => ?_⟩
    have v1 := same_upd (o := .lst (cutV (ls.map V.str) none (some (j : Int)))) nq1
    refine ⟨_, rfl, _, rfl, _, _, rfl, rfl, _, rfl, lf, _, rfl, SqL.of (v1 _ _ hlf3), fun q2 nq2 => ?_⟩
    have v2 := same_upd (o := .lst (cutV (ls.map V.str) (some ((j : Int) + 1)) none)) nq2
    refine ⟨q1, q2, _, _, rfl, rfl, v2 _ _ upd_same, upd_same, ?_, fun q3 nq3 => ?_⟩
    · rw [← List.length_append, cutV_at]
      have := List.length_eraseIdx_le (ls.map V.str) j
      rw [List.length_map] at this
      omega
    rw [cutV_at]
    have v3 := same_upd (o := .lst ((ls.map V.str).eraseIdx j)) nq3
    have v13 := v1.trans (v2.trans v3)
    have eer : (ls.map V.str).eraseIdx j = (ls.eraseIdx j).map V.str := er_map _ _ _
    have q3l2 : q3 ≠ l2 := Ne.symm (ne_of_none (v2 _ _ (v1 _ _ hfs3)) nq3)
    have q3p : q3 ≠ p := by
      obtain ⟨_, _, _, h, _⟩ := (hP3.same v1).same v2
      exact Ne.symm (ne_of_none h nq3)
    have hper : (fs ++ [ls[j]] ++ ls.eraseIdx j).Perm (fs ++ ls) := by
      rw [List.append_assoc]
      refine List.Perm.append_left fs ?_
      exact er_perm ls j hj
    refine ⟨ls.eraseIdx j, fs ++ [ls[j]], q3, _, _, rfl, fun c u hc e => v13 _ _ (bG3 _ _ hc e), hP3.same v13, ?_, ?_, q3l2, q3p, by rw [List.length_append, hfl]; rfl, ?_, hper.nodup_iff.mpr hnd2, fun y hy => hsub y (hper.mem_iff.mp hy)⟩
    · rw [← eer]; exact upd_same
    · rw [List.map_append]; exact v13 _ _ hfs3
    · rw [List.length_eraseIdx_of_lt hj]; omega
  · rintro σ G ⟨ls, fs, lf, x1, x2, rfl, bG, hPG, hlf, hfs, hne, hlfp, hfl, hll, hnd2, hsub⟩
    rw [List.nodup_append] at hnd2
    exact ⟨_, rfl, hQ fs l2 G hnd2.1 (fun y hy => hsub y (List.mem_append_left _ hy)) hfl bG (hPG.mono (by omega)) nl2H hfs⟩
end
end KP

/-! the law's draws: names. -/
namespace KP
open PySem PySem.Spec PyProof.Rows L2 G137 SlX
def abc : Str := "abcdefghijklmnopqrstuvwxyz"
def menu : List Str := (["a", "b", "key", "set", "when", "has", "end"] : List Str) ++ (["it", "here", "blind", "deed", "group", "say", "zzzzzzzz"] : List Str)
def S1 (c : Nat) : Str := ⟨#[c]⟩
/-- drawn letters: the list as it grows -/
def Drw (D p : Addr) (H1 : Hp) (b i : Nat) (G : Hp) : Prop := ∃ cs : List Nat, G D = some (.lst ((cs.map S1).map V.str)) ∧ cs.length = i ∧ (∀ c ∈ cs, c ∈ abc.cps.toList) ∧ (∀ a o, a ≠ D → a ≠ p → H1 a = some o → G a = some o) ∧ Pot G p (b + i)
theorem drw_step {D p : Addr} {H1 : Hp} {b i : Nat} {G G' : Hp} {c : Nat} (q : Drw D p H1 b i G) (hDp : D ≠ p) (k : But p G G') (hP : Pot G' p (b + i + 1)) (hc : c ∈ abc.cps.toList) (hi : i < 100) :
    ∃ acc, G' D = some (.lst acc) ∧ acc.length < sizeLine ∧ Drw D p H1 b (i + 1) (upd G' D (.lst (acc ++ [.str (S1 c)]))) := by
  obtain ⟨cs, h1, h2, h3, h4, h5⟩ := q
  have hbig := sizeLine_big
  refine ⟨_, k _ _ hDp h1, by rw [List.length_map, List.length_map]; omega, cs ++ [c], ?_, by rw [List.length_append, h2]; rfl, fun x hx => ?_, fun a o ha hap e => (upd_ne ha).trans (k _ _ hap (h4 a o ha hap e)), ?_⟩
  · rw [upd_same, List.map_append, List.map_append]; rfl
  · rcases List.mem_append.mp hx with h | h
    · exact h3 x h
    · rw [List.mem_singleton.mp h]; exact hc
  · obtain ⟨n0, n1, n2, g1, g2⟩ := hP
    exact ⟨n0, n1, n2, (upd_ne (Ne.symm hDp)).trans g1, g2⟩
theorem drw_start {D p : Addr} {H1 : Hp} {b : Nat} (hP : Pot H1 p b) (hDp : D ≠ p) : Drw D p H1 b 0 (upd H1 D (.lst [])) := by
  refine ⟨[], upd_same, rfl, (fun _ h => nomatch h), fun a o ha hap e => (upd_ne ha).trans e, ?_⟩
  obtain ⟨n0, n1, n2, g1, g2⟩ := hP
  exact ⟨n0, n1, n2, (upd_ne (Ne.symm hDp)).trans g1, g2⟩
theorem Pot.ne {H : Hp} {p a : Addr} {b : Nat} (h : Pot H p b) (n : H a = none) : a ≠ p := fun z => by
  obtain ⟨_, _, _, h, _⟩ := h
  rw [z, show H p = _ from h] at n
  cases n
theorem tl_S (cs : List Nat) : TL.tl ⟨cs.toArray⟩ = cs := by
  show (cs.toArray).toList = cs
  simp
theorem len_S (cs : List Nat) : (⟨cs.toArray⟩ : Str).length = cs.length := by
  show cs.toArray.size = _
  simp
theorem len_app (x y : Str) : (x ++ y).length = x.length + y.length := by
  rw [TL.len_tl, TL.len_tl x, TL.len_tl y, TL.tl_append, List.length_append]
theorem join_nil : ∀ cs : List Nat, Txt.join "" (cs.map S1) = ⟨cs.toArray⟩ := fun cs => by
  refine TL.ext_tl ?_
  rw [TL.join_eq, TL.tl_join]
  have e : (cs.map S1).map TL.tl = cs.map fun c => [c] := by rw [List.map_map]; rfl
  rw [e]
  have h : ∀ cs : List Nat, TL.joinL (TL.tl "") (cs.map fun c => [c]) = cs := by
    intro cs
    induction cs with
    | nil => rfl
    | cons c r ih =>
      cases r with
      | nil => rfl
      | cons d r =>
        show [c] ++ (TL.tl "" ++ TL.joinL (TL.tl "") ((d :: r).map fun c => [c])) = _
        rw [ih]
        rfl
  rw [h]
theorem sum_one : ∀ cs : List Nat, ((cs.map S1).map (·.length)).sum = cs.length
  | [] => rfl
  | c :: r => by
    rw [List.map_cons, List.map_cons, List.sum_cons, sum_one r, List.length_cons]
    show 1 + r.length = _
    omega
theorem nameS_of {x : Str} (h0 : 1 ≤ x.length) (h8 : x.length ≤ 8) (h : ∀ c ∈ TL.tl x, c ∈ abc.cps.toList) : nameS x = true := by
  unfold nameS allIn
  rw [Bool.and_eq_true]
  exact ⟨decide_eq_true ⟨h0, h8⟩, List.all_eq_true.mpr fun c hc => decide_eq_true (h c hc)⟩
/-- the letter at a place tells the names apart -/
def letK (f k : Nat) : Nat := abc.cps.toList.getD ((f + 9 * k) % 26) 0
theorem letK_inj {f j k : Nat} (hj : j < 26) (hk : k < 26) (h : letK f j = letK f k) : j = k := by
  unfold letK at h
  have inj : ∀ a b : Fin 26, abc.cps.toList.getD a.val 0 = abc.cps.toList.getD b.val 0 → a = b := by decide +kernel
  have := inj ⟨(f + 9 * j) % 26, Nat.mod_lt _ (by decide)⟩ ⟨(f + 9 * k) % 26, Nat.mod_lt _ (by decide)⟩ h
  have e : (f + 9 * j) % 26 = (f + 9 * k) % 26 := congrArg Fin.val this
  omega
structure NmAtK (bs : List Str) (pl f k : Nat) (y : Str) : Prop where
  ok : nameS y = true
  nb : y ∉ bs
  at_ : (TL.tl y)[pl]? = some (letK f k)
def spNms (K : Frag) : Sp := fun vs H Q _ => ∃ (p lb : Addr) (bs : List Str) (m b : Nat), vs = [.ref p, .int (m : Int), .ref lb] ∧ Pot H p b ∧ H lb = some (.lst (bs.map V.str)) ∧ lb ≠ p ∧ m ≤ 10 ∧ b + 200 < 100000 ∧ (∀ y ∈ bs, (y ++ "z") ∉ bs ∧ y.length ≤ 7) ∧ m ≤ (menu.filter fun x => decide (x ∉ bs)).length ∧
  ∀ (ys : List Str) (r : Addr) (H' : Hp), ys.Nodup → (∀ y ∈ ys, nameS y = true ∧ y ∉ bs) → ys.length = m → But p H H' → Pot H' p (b + 200) → H r = none → H' r = some (.lst (ys.map V.str)) → Q (.ref r) H'
theorem menu_ok : ∀ y ∈ menu, nameS y = true := by decide +kernel
theorem menu_nd : menu.Nodup := by decide +kernel
section
variable {P : Program} {w : World} {K : Frag} {mg : Str → Option Value} {base : Heap}
theorem sc_law_names : FnScope ["_law_pot_here", "_law_many", "_law_barred", "_law_words", "_law_word", "_law_letters", "_law_found", "_law_place", "_law_first", "_law_k", "_law_turn_here", "_law_name"] ["_law_pot_here", "_law_many", "_law_barred"] (defScope d_law_names) := ⟨rfl, rfl, rfl, by decide +kernel, rfl, by decide +kernel, by decide +kernel⟩
theorem ok_law_names (T : Pr K mg) : FOk P w K mg base 3 "_law_names" ["_law_pot_here", "_law_many", "_law_barred"] (spNms K) := by
  obtain ⟨fd, F⟩ := T.f_law_names
  have brange := T.fre "range" (by decide +kernel)
  have bint := T.fre "int" (by decide +kernel)
  refine FOk.of F (T.glo _ (by decide +kernel)) sc_law_names (fun _ _ _ _ _ _ us hl => match us, hl with | [_, _, _], _ => rfl) (fun vs H Q E h => ?_) (fun cdv A outer s H vs Q E hr h => ?_)
  · obtain ⟨_, _, _, _, _, rfl, _⟩ := h; rfl
  refine ⟨_, PSs.nox (pss_cons (ps_set (i := 3) sc_law_names.nd rfl (Or.inl rfl) (pe_lst (pa_cons pe_str (pa_cons pe_str (pa_cons pe_str (pa_cons pe_str (pa_cons pe_str (pa_cons pe_str (pa_cons pe_str (pa_cons pe_str (pa_cons pe_str (pa_cons pe_str (pa_cons pe_str (pa_cons pe_str (pa_cons pe_str (pa_cons pe_str pa_nil))))))))))))))))
    (pss_cons (ps_if (pt_cmpR op_eq (pe_callF (ok_law_take T) (hr.mono (by decide)) rfl (pa_cons (pv 0) (pa_cons pe_int pa_nil))) pe_int (nomark _))
      (pss_one (ps_ret (pe_callF (ok_law_unlike T) (hr.mono (by decide)) rfl (pa_cons (pv 0) (pa_cons (pe_lc (own := [("_law_word", 4)]) (g := gName 4) (tt := tTest (tOp (rIn K true) (tVar 4) (tVar 2))) (te := (tVar 4)) rfl sc_law_names.nd (pi_list (pv 3)) (blkOk_by (own := [("_law_word", 4)]) (N := ["_law_pot_here", "_law_many", "_law_barred", "_law_words", "_law_word", "_law_letters", "_law_found", "_law_place", "_law_first", "_law_k", "_law_turn_here", "_law_name"]) (sc := defScope d_law_names) (by decide +kernel)) (fun _ _ _ _ _ => (pg_name (i := 4) sc_law_names.nd rfl (Or.inl rfl))) (fun _ _ _ _ _ => (pts_one (pt_cmpR op_notIn_seq (pv 4) (pv 2) (by rfl)))) (fun _ _ _ _ _ => (pv 4))) (pa_cons (pv 1) pa_nil))))))
      pss_nil)
    (pss_cons (ps_asg (pe_tup (pa_cons pe_str (pa_cons (pe_lst pa_nil) pa_nil))) (pg_tup rfl (pgs_cons (pg_name (i := 5) sc_law_names.nd rfl (Or.inr rfl)) (pgs_cons (pg_name (i := 6) sc_law_names.nd rfl (Or.inl rfl)) pgs_nil))))
    (pss_cons (ps_par (i := 7) (j := 8) rfl sc_law_names.nd rfl rfl (by decide) rfl rfl (pa_cons (pe_callF (ok_law_take T) (hr.mono (by decide)) rfl (pa_cons (pv 0) (pa_cons pe_int pa_nil))) (pa_cons (pe_callF (ok_law_take T) (hr.mono (by decide)) rfl (pa_cons (pv 0) (pa_cons pe_int pa_nil))) pa_nil)) (by rfl))
    (pss_cons (ps_for PassesOwn.never rfl (pi_range1 rfl brange (pa_cons (pv 1) pa_nil)) (pg_name (i := 9) sc_law_names.nd rfl (Or.inl rfl))
      (pss_cons (ps_set (i := 11) sc_law_names.nd rfl (Or.inl rfl) (pe_op (op_add_str) (pe_join pe_str (pe_lc (own := [("_law_turn_here", 10)]) (g := gName 10) (tt := tYes) (te := tCall spOfS [] E0 (tCons (tVar 0) (tCons (tVar 5) tNil))) rfl sc_law_names.nd (pi_range1 rfl brange (pa_cons (pv 7) pa_nil)) (blkOk_by (own := [("_law_turn_here", 10)]) (N := ["_law_pot_here", "_law_many", "_law_barred", "_law_words", "_law_word", "_law_letters", "_law_found", "_law_place", "_law_first", "_law_k", "_law_turn_here", "_law_name"]) (sc := defScope d_law_names) (by decide +kernel)) (fun _ _ _ _ _ => (pg_name (i := 10) sc_law_names.nd rfl (Or.inl rfl))) (fun _ _ _ _ _ => pts_nil) (fun _ _ _ _ _ => (pe_callF (ok_law_ofS T) (hr.mono (by decide)) rfl (pa_cons (pv 0) (pa_cons (pv 5) pa_nil)))))) (pe_ix ix_str (pv 5) (pe_op op_mod (pe_callTy call_int1 (by rfl) bint (by decide +kernel) (pa_cons (pe_op op_add (pv 8) (pe_op op_mul pe_int (pv 9))) pa_nil)) pe_int) (fun _ _ => rfl))))
    (pss_cons (ps_set (i := 11) sc_law_names.nd rfl (Or.inl rfl) (pe_op (op_add_str) (pv 11) (pe_join pe_str (pe_lc (own := [("_law_turn_here", 10)]) (g := gName 10) (tt := tYes) (te := tCall spOfS [] E0 (tCons (tVar 0) (tCons (tVar 5) tNil))) rfl sc_law_names.nd (pi_range1 rfl brange (pa_cons (pe_callF (ok_law_take T) (hr.mono (by decide)) rfl (pa_cons (pv 0) (pa_cons (pe_op op_sub pe_int (pv 7)) pa_nil))) pa_nil)) (blkOk_by (own := [("_law_turn_here", 10)]) (N := ["_law_pot_here", "_law_many", "_law_barred", "_law_words", "_law_word", "_law_letters", "_law_found", "_law_place", "_law_first", "_law_k", "_law_turn_here", "_law_name"]) (sc := defScope d_law_names) (by decide +kernel)) (fun _ _ _ _ _ => (pg_name (i := 10) sc_law_names.nd rfl (Or.inl rfl))) (fun _ _ _ _ _ => pts_nil) (fun _ _ _ _ _ => (pe_callF (ok_law_ofS T) (hr.mono (by decide)) rfl (pa_cons (pv 0) (pa_cons (pv 5) pa_nil))))))))
    (pss_one (ps_expr (pe_bm PySem.F.plainAttrs_list PySem.F.slot_list_append PySem.F.type_list_append mt_append (pv 6) (pa_cons (pe_op (op_add_str) (pv 11) (pe_op (op_mulS) pe_str (pe_callTy call_int1 (by rfl) bint (by decide +kernel) (pa_cons (pe_cmpR op_in_seq (pv 11) (pv 2) (by rfl)) pa_nil)))) pa_nil)))))))
    (pss_one (ps_ret (pv 6)))))))), ?_⟩
  have hbig := sizeLine_big
  obtain ⟨p, lb, bs, m, b, rfl, hP, hlb, hlbp, hm, hb, hbs, hfl, hQ⟩ := h
  refine ⟨by show 14 ≤ sizeLine; decide, fun lw nlw => ?_⟩
  have u1 : Same H (upd H lw (.lst (menu.map V.str))) := same_upd nlw
  have hlw : upd H lw (.lst (menu.map V.str)) lw = _ := upd_same
  show (_ : Hp → Prop) (upd H lw (.lst (menu.map V.str)))
  generalize upd H lw (.lst (menu.map V.str)) = G1 at u1 hlw ⊢
  have hlwp : lw ≠ p := fun z => by
    obtain ⟨_, _, _, h, _⟩ := hP
    rw [z] at nlw
    rw [show H p = _ from h] at nlw
    cases nlw
  refine ⟨_, rfl, p, 2, b, rfl, hP.same u1, by decide, by decide, by omega, fun d G2 d0 d1 k2 hP2 => ?_⟩
  refine ⟨rfl, _, rfl, ?_⟩
  have hlw2 := k2 _ _ hlwp hlw
  have hlb2 := k2 _ _ hlbp (u1 _ _ hlb)
  have b2 : But p H G2 := fun c u hc e => k2 _ _ hc (u1 _ _ e)
  have b2n : ∀ a, G2 a = none → H a = none := fun a e => b2.gone hP2 e
  by_cases hd : d = 0
  · refine iY (by rw [hd]; exact decide_eq_true rfl) ?_
    refine ⟨_, rfl, _, rfl, lw, rfl, ⟨_, SqL.of hlw2⟩, fun D nD => ?_⟩
    have hDp : D ≠ p := fun z => by
      obtain ⟨_, _, _, h, _⟩ := hP2
      rw [z, show G2 p = _ from h] at nD
      cases nD
    refine lc_list (xs := menu.map V.str) (AccP (fun i => ((menu.take i).filter fun x => decide (x ∉ bs)).map V.str) D G2) (acc_start rfl) (fun i G _ q => SqL.of (q.same nD _ _ hlw2)) (fun i v G hi q => ?_) (fun G q => ?_)
    · rw [List.getElem?_map] at hi
      obtain ⟨x, hx, rfl⟩ := Option.map_eq_some_iff.mp hi
      refine ⟨rfl, _, rfl, _, rfl, lb, _, rfl, .inl (SqL.of (q.same nD _ _ hlb2)), rfl, flat_strs bs, ?_⟩
      have ein := inV_str x bs
      have etk : menu.take (i + 1) = menu.take i ++ [x] := by rw [List.take_add_one, hx]; rfl
      refine ⟨_, rfl, ?_⟩
      dsimp only
      rw [if_pos rfl, ein]
      by_cases hxb : x ∈ bs
      · rw [decide_eq_true hxb]
        refine iN rfl ?_
        refine acc_skip q (Same.refl _) ?_
        show ((menu.take (i + 1)).filter _).map V.str = ((menu.take i).filter _).map V.str
        rw [etk, List.filter_append, show ([x].filter fun x => decide (x ∉ bs)) = [] by simp [hxb], List.append_nil]
      · rw [decide_eq_false hxb]
        refine iY rfl ?_
        refine ⟨_, rfl, acc_step q (Same.refl _) ?_ ?_⟩
        · rw [List.length_map]
          have h1 := List.length_filter_le (fun x => decide (x ∉ bs)) (menu.take i)
          have h2 : (menu.take i).length ≤ 14 := by rw [List.length_take]; exact Nat.min_le_right _ _
          omega
        · show ((menu.take (i + 1)).filter _).map V.str = ((menu.take i).filter _).map V.str ++ [V.str x]
          rw [etk, List.filter_append, show ([x].filter fun x => decide (x ∉ bs)) = [x] by simp [hxb], List.map_append]
          rfl
    · have hD : G D = some (.lst ((menu.filter fun x => decide (x ∉ bs)).map V.str)) := q.1
      have sG := q.same nD
      have hl14 : (menu.filter fun x => decide (x ∉ bs)).length ≤ 14 := List.length_filter_le _ menu
      refine ⟨_, rfl, p, D, _, m, b + 1, rfl, hP2.same sG, hD, hDp, List.Pairwise.filter _ menu_nd, by omega, by omega, by omega, fun ys r H' e1 e2 e3 e4 e5 e6 e7 => ?_⟩
      refine hQ ys r H' e1 (fun y hy => ?_) (by omega) (fun c u hc e => e4 _ _ hc (sG _ _ (b2 _ _ hc e))) (e5.mono (by omega)) (b2n _ (sG.free e6)) e7
      have := e2 y hy
      rw [List.mem_filter] at this
      exact ⟨menu_ok y this.1, of_decide_eq_true this.2⟩
  · refine iN (decide_eq_false fun z => hd (V.int.inj z)) ?_
    refine ⟨Nat.zero_le _, fun lf nlf => ?_⟩
    refine ⟨by show 2 ≤ sizeLine; decide, fun t nt => ⟨t, _, rfl, SqT.of upd_same, rfl, _, _, rfl, _, _, rfl, rfl, ?_⟩⟩
    have u3 := same_upd (o := .lst []) nlf
    have u4 := same_upd (o := .tup [.str abc, .ref lf]) nt
    have hf4 : upd (upd G2 lf (.lst [])) t (.tup [.str abc, .ref lf]) lf = some (.lst []) := u4 _ _ upd_same
    have u24 := u3.trans u4
    have hlfp := hP2.ne nlf
    show (_ : Hp → Prop) (upd (upd G2 lf (.lst [])) t (.tup [.str abc, .ref lf]))
    generalize upd (upd G2 lf (.lst [])) t (.tup [.str abc, .ref lf]) = G4 at hf4 u24 ⊢
    refine ⟨_, rfl, p, 4, b + 1, rfl, hP2.same u24, by decide, by decide, by omega, fun pl G5 pl0 pl1 k5 hP5 => ?_⟩
    refine ⟨_, rfl, p, 26, b + 2, rfl, hP5, by decide, by decide, by omega, fun f G6 f0 f1 k6 hP6 => ?_⟩
    obtain ⟨pl, rfl⟩ := Int.eq_ofNat_of_zero_le pl0
    obtain ⟨f, rfl⟩ := Int.eq_ofNat_of_zero_le f0
    have b6 : But p H G6 := fun c u hc e => k6 _ _ hc (k5 _ _ hc (u24 _ _ (b2 _ _ hc e)))
    have hf6 := k6 _ _ hlfp (k5 _ _ hlfp hf4)
    have nlfH : H lf = none := b2n _ nlf
    refine ⟨_, _, rfl, ?_⟩
    refine ⟨_, rfl, _, rfl, by omega, by omega, ?_⟩
    rw [Int.toNat_natCast]
    refine for_range (n := m) (fun i σ G => ∃ (fs : List Str) (x9 x11 : Option V), σ = [some (.ref p), some (.int (m : Int)), some (.ref lb), some (.ref lw), none, some (.str abc), some (.ref lf), some (.int (pl : Int)), some (.int (f : Int)), x9, none, x11] ∧ But p H G ∧ Pot G p (b + 3 + 13 * i) ∧ G lf = some (.lst (fs.map V.str)) ∧ fs.length = i ∧ (∀ j y, fs[j]? = some y → NmAtK bs pl f j y)) ⟨[], none, none, rfl, b6, hP6, hf6, rfl, fun j y h => nomatch h⟩ ?_ ?_
    · rintro i σ G hi ⟨fs, x9, x11, rfl, bG, hPG, hlf, hfl, hfs⟩
      refine ⟨⟨_, rfl⟩, _, rfl, _, rfl, by omega, by omega, fun D nD => ?_⟩
      have hDp := hPG.ne nD
      refine lc_it (walk_range (n := pl)) (Drw D p G (b + 3 + 13 * i)) (drw_start hPG hDp) (fun _ _ _ _ => trivial) (fun j v G1 G2 hj q y => ?_) (fun G1 q => ?_)
      · obtain ⟨rfl, rfl⟩ := y
        refine ⟨rfl, ?_⟩
        dsimp only [tYes]
        rw [if_pos rfl]
        have hPj := q.choose_spec.2.2.2.2
        refine ⟨_, rfl, _, rfl, p, abc, _, rfl, hPj, by decide, by decide, by omega, fun e c G' hc k hP' => drw_step q hDp k hP' (List.mem_of_getElem? hc) (by omega)⟩
      · obtain ⟨cs, h1, h2, h3, h4, h5⟩ := q
        have hlf1 : G1 lf = some (.lst (fs.map V.str)) := h4 _ _ (ne_of_none hlf nD) hlfp hlf
        have nDH : H D = none := bG.gone hPG nD
        have bG1 : But p H G1 := fun c u hc e => h4 _ _ (ne_of_none e nDH) hc (bG _ _ hc e)
        refine ⟨_, D, _, rfl, rfl, .inl (SqL.of h1), by rw [sum_one, h2]; show pl + _ * 0 ≤ _; omega, ?_⟩
        rw [join_nil]
        have hmodlt : (f + 9 * i) % 26 < abc.cps.toList.length := Nat.lt_of_lt_of_le (Nat.mod_lt _ (by decide)) (by decide)
        have hlet : abc.cps.toList[(f + 9 * i) % 26]? = some (letK f i) := by
          unfold letK
          rw [List.getD_eq_getElem?_getD, List.getElem?_eq_getElem hmodlt]
          rfl
        have eix : ((f : Int) + 9 * (0 + (i : Int))) % 26 = (((f + 9 * i) % 26 : Nat) : Int) := by omega
        refine ⟨_, rfl, _, rfl, _, rfl, _, _, rfl, rfl, .inl ⟨by decide, by decide⟩, _, _, rfl, rfl, .inl ⟨_, rfl, ?_⟩⟩
        refine ⟨_, _, rfl, rfl, (by show (0 : Int) < 26; decide), ?_⟩
        refine ⟨abc, _, letK f i, rfl, rfl, by show 26 ≤ sizeLine; omega, (show atI abc.cps.toList (((f : Int) + 9 * (0 + (i : Int))) % 26) = _ by rw [eix]; exact atI_nat hlet), ?_⟩
        refine ⟨_, _, rfl, rfl, ?_, ?_⟩
        · rw [len_S]; show cs.length + 1 ≤ _; omega
        refine ⟨_, rfl, ⟨_, rfl⟩, _, rfl, _, rfl, _, _, rfl, rfl, p, (8 : Int) - (pl : Int), _, rfl, h5, by omega, by omega, by omega, fun d2 G3 d20 d21 k3 hP3 => ?_⟩
        obtain ⟨d2, rfl⟩ := Int.eq_ofNat_of_zero_le d20
        refine ⟨_, rfl, by omega, by omega, fun D2 nD2 => ?_⟩
        have hDp2 := hP3.ne nD2
        have hlf3 := k3 _ _ hlfp hlf1
        have bG3 : But p H G3 := bG1.trans k3
        have nD2H : H D2 = none := bG3.gone hP3 nD2
        refine lc_it (walk_range (n := d2)) (Drw D2 p G3 _) (drw_start hP3 hDp2) (fun _ _ _ _ => trivial) (fun j v G1' G2' hj q y => ?_) (fun G4 q => ?_)
        · obtain ⟨rfl, rfl⟩ := y
          refine ⟨rfl, ?_⟩
          dsimp only [tYes]
          rw [if_pos rfl]
          have hPj := q.choose_spec.2.2.2.2
          refine ⟨_, rfl, _, rfl, p, abc, _, rfl, hPj, by decide, by decide, by omega, fun e c G' hc k hP' => drw_step q hDp2 k hP' (List.mem_of_getElem? hc) (by omega)⟩
        obtain ⟨cs2, e1, e2, e3, e4, e5⟩ := q
        have hlf4 : G4 lf = some (.lst (fs.map V.str)) := e4 _ _ (ne_of_none hlf3 nD2) hlfp hlf3
        have bG4 : But p H G4 := fun c u hc e => e4 _ _ (ne_of_none e nD2H) hc (bG3 _ _ hc e)
        refine ⟨_, D2, _, rfl, rfl, .inl (SqL.of e1), by rw [sum_one, e2]; show d2 + _ * 0 ≤ _; omega, ?_⟩
        rw [join_nil]
        have hlen1 : ((⟨cs.toArray⟩ : Str) ++ (⟨#[letK f i]⟩ : Str)).length = pl + 1 := by
          rw [len_app, len_S, h2]; rfl
        refine ⟨_, _, rfl, rfl, by rw [hlen1, len_S]; omega, ?_⟩
        have hlen2 : ((⟨cs.toArray⟩ : Str) ++ (⟨#[letK f i]⟩ : Str) ++ (⟨cs2.toArray⟩ : Str)).length = pl + 1 + d2 := by
          rw [len_app, hlen1, len_S, e2]
        have htl2 : TL.tl ((⟨cs.toArray⟩ : Str) ++ (⟨#[letK f i]⟩ : Str) ++ (⟨cs2.toArray⟩ : Str)) = cs ++ [letK f i] ++ cs2 := by
          rw [TL.tl_append, TL.tl_append, tl_S, tl_S]
        generalize (⟨cs.toArray⟩ : Str) ++ (⟨#[letK f i]⟩ : Str) ++ (⟨cs2.toArray⟩ : Str) = nm at hlen2 htl2 ⊢
        have hin2 : ∀ c ∈ TL.tl nm, c ∈ abc.cps.toList := by
          rw [htl2]
          intro c hc
          rcases List.mem_append.mp hc with h | h
          · rcases List.mem_append.mp h with h | h
            · exact h3 c h
            · rw [List.mem_singleton.mp h]; exact List.mem_of_getElem? hlet
          · exact e3 c h
        have hat2 : (TL.tl nm)[pl]? = some (letK f i) := by
          rw [htl2, List.append_assoc, List.getElem?_append_right (by omega), h2, Nat.sub_self]; rfl
        refine ⟨_, rfl, .inl ⟨rfl, _, SqL.of hlf4⟩, _, rfl, _, rfl, _, rfl, lb, _, rfl, .inl (SqL.of (bG4 _ _ hlbp hlb)), rfl, flat_strs bs, .inr ⟨inV (.str nm) (bs.map V.str), rfl, "z", inV (.str nm) (bs.map V.str), rfl, rfl, ?_⟩⟩
        rw [inV_str]
        have hz : NmAtK bs pl f i (nm ++ (if decide (nm ∈ bs) = true then ("z" : Str) else Str.empty)) ∧ nm.length + (if decide (nm ∈ bs) = true then ("z" : Str) else Str.empty).length ≤ sizeLine := by
          by_cases hnb : nm ∈ bs
          · rw [if_pos (decide_eq_true hnb)]
            have h7 := (hbs nm hnb).2
            refine ⟨⟨nameS_of (by rw [len_app]; omega) (by rw [len_app]; show _ + 1 ≤ 8; omega) ?_, (hbs nm hnb).1, ?_⟩, by show _ + 1 ≤ _; omega⟩
            · rw [TL.tl_append]
              intro c hc
              rcases List.mem_append.mp hc with h | h
              · exact hin2 c h
              · have : c = 122 := List.mem_singleton.mp (show c ∈ [122] from h)
                rw [this]; decide
            · rw [TL.tl_append, List.getElem?_append_left]
              · exact hat2
              · exact (List.getElem?_eq_some_iff.mp hat2).1
          · rw [if_neg (by rw [decide_eq_false hnb]; exact Bool.false_ne_true)]
            have en : nm ++ Str.empty = nm := by
              refine TL.ext_tl ?_
              rw [TL.tl_append]
              exact List.append_nil _
            rw [en]
            exact ⟨⟨nameS_of (by omega) (by omega) hin2, hnb, hat2⟩, by show _ + 0 ≤ _; omega⟩
        obtain ⟨hz, hzl⟩ := hz
        generalize (if decide (nm ∈ bs) = true then ("z" : Str) else Str.empty) = zz at hz hzl ⊢
        refine ⟨_, _, rfl, rfl, hzl, ?_⟩
        refine ⟨lf, _, _, rfl, rfl, hlf4, by rw [List.length_map]; omega, ?_⟩
        refine ⟨fs ++ [nm ++ zz], _, _, rfl, fun c u hc e => (upd_ne (ne_of_none e nlfH)).trans (bG4 _ _ hc e), ?_, ?_, by rw [List.length_append, hfl]; rfl, fun j y hy => ?_⟩
        · obtain ⟨n0, n1, n2, g1, g2, g3, g4, g5⟩ := e5
          exact ⟨n0, n1, n2, (upd_ne (Ne.symm hlfp)).trans g1, g2, g3, g4, by omega⟩
        · rw [upd_same, List.map_append]; rfl
        · by_cases hj : j < fs.length
          · rw [List.getElem?_append_left hj] at hy
            exact hfs j y hy
          · rw [List.getElem?_append_right (by omega)] at hy
            have hj0 : j - fs.length = 0 := by
              have := (List.getElem?_eq_some_iff.mp hy).1
              simpa using this
            rw [hj0] at hy
            obtain rfl : nm ++ zz = y := Option.some.inj hy
            rw [show j = i by omega]
            exact hz
    · rintro σ G ⟨fs, x9, x11, rfl, bG, hPG, hlf, hfl, hfs⟩
      refine ⟨_, rfl, hQ fs lf G ?_ (fun y hy => ?_) hfl bG (hPG.mono (by omega)) nlfH hlf⟩
      · rw [List.Nodup, List.pairwise_iff_getElem]
        intro j k hj hk hjk e
        have a1 := (hfs j _ (List.getElem?_eq_getElem hj)).at_
        have a2 := (hfs k _ (List.getElem?_eq_getElem hk)).at_
        rw [e, a2] at a1
        have := letK_inj (f := f) (by omega) (by omega) (Option.some.inj a1)
        omega
      · obtain ⟨j, hj⟩ := List.getElem?_of_mem hy
        have := hfs j y hj
        exact ⟨this.ok, this.nb⟩
end
end KP

/-! the law's draws: keys. -/
namespace KP
open PySem PySem.Spec PyProof.Rows L2 G137 SlX
def spKys (K : Frag) : Sp := fun vs H Q _ => ∃ (p : Addr) (b : Nat), vs = [.ref p, .int 40] ∧ Pot H p b ∧ b + 300 < 100000 ∧
  ∀ (ks : List KeyR) (ts : List Addr) (r : Addr) (H' : Hp), KeysOk ks → manyL ks ≤ 40 → But p H H' → Pot H' p (b + 300) → H r = none → H' r = some (.lst (ts.map V.ref)) → KeyRows H' ts ks → Q (.ref r) H'
theorem But.tup {p : Addr} {b : Nat} {H H' : Hp} (k : But p H H') (hP : Pot H p b) : ∀ c xs, H c = some (.tup xs) → H' c = some (.tup xs) := fun c xs e => k _ _ (fun z => by
  obtain ⟨_, _, _, h, _⟩ := hP
  rw [z, show H p = _ from h] at e
  cases e) e
theorem ite_joinD {c : Bool} {A B : TS} {D : Ends} {σ : L2.St} {H : Hp} (Pre : L2.St → Hp → Prop) (hA : c = true → ∀ D' : Ends, (∀ σ' H', Pre σ' H' → D'.nx σ' H') → A D' σ H) (hB : c = false → ∀ D' : Ends, (∀ σ' H', Pre σ' H' → D'.nx σ' H') → B D' σ H)
    (h : ∀ σ' H', Pre σ' H' → D.nx σ' H') : if c = true then A D σ H else B D σ H := by
  cases c with
  | true => rw [if_pos rfl]; exact hA rfl D h
  | false => rw [if_neg Bool.false_ne_true]; exact hB rfl D h
theorem manyL_snoc (ks : List KeyR) (k : KeyR) : manyL (ks ++ [k]) = manyL ks * k.many := by
  unfold manyL
  rw [List.foldl_append]
  rfl
theorem int_b (b : Bool) : (if b = true then (1 : Int) else 0) = ((if b = true then 1 else 0 : Nat) : Int) := by cases b <;> rfl
theorem nat_b (b : Bool) : (if b = true then 1 else 0 : Nat) ≤ 1 := by cases b <;> decide
section
variable {P : Program} {w : World} {K : Frag} {mg : Str → Option Value} {base : Heap}
theorem sc_law_keys : FnScope ["_law_pot_here", "_law_most", "_law_found", "_law_many", "_law_name", "_law_size", "_law_is_may"] ["_law_pot_here", "_law_most"] (defScope d_law_keys) := ⟨rfl, rfl, rfl, by decide +kernel, rfl, by decide +kernel, by decide +kernel⟩
theorem ok_law_keys (T : Pr K mg) : FOk P w K mg base 4 "_law_keys" ["_law_pot_here", "_law_most"] (spKys K) := by
  obtain ⟨fd, F⟩ := T.f_law_keys
  have bint := T.fre "int" (by decide +kernel)
  refine FOk.of F (T.glo _ (by decide +kernel)) sc_law_keys (fun _ _ _ _ _ _ us hl => match us, hl with | [_, _], _ => rfl) (fun vs H Q E h => ?_) (fun cdv A outer s H vs Q E hr h => ?_)
  · obtain ⟨_, _, rfl, _⟩ := h; rfl
  refine ⟨_, PSs.nox (pss_cons (ps_par (i := 2) (j := 3) rfl sc_law_keys.nd rfl rfl (by decide) rfl rfl (pa_cons (pe_lst pa_nil) (pa_cons pe_int pa_nil)) (by rfl))
    (pss_cons (ps_for PassesOwn.never rfl (pi_list (pe_callF (ok_law_names T) (hr.mono (by decide)) rfl (pa_cons (pv 0) (pa_cons (pe_callF (ok_law_of T) (hr.mono (by decide)) rfl (pa_cons (pv 0) (pa_cons (pe_lst (pa_cons pe_int (pa_cons pe_int (pa_cons pe_int (pa_cons pe_int (pa_cons pe_int (pa_cons pe_int pa_nil))))))) pa_nil))) (pa_cons (pe_lst (pa_cons pe_str (pa_cons pe_str pa_nil))) pa_nil))))) (pg_name (i := 4) sc_law_keys.nd rfl (Or.inl rfl))
      (pss_cons (ps_par (i := 5) (j := 6) rfl sc_law_keys.nd rfl rfl (by decide) rfl rfl (pa_cons (pe_op op_add pe_int (pe_callF (ok_law_take T) (hr.mono (by decide)) rfl (pa_cons (pv 0) (pa_cons pe_int pa_nil)))) (pa_cons (pe_cmpR op_eq (pe_callF (ok_law_take T) (hr.mono (by decide)) rfl (pa_cons (pv 0) (pa_cons pe_int pa_nil))) pe_int (nomark _)) pa_nil)) (by rfl))
    (pss_cons (ps_if (pt_cmpR op_gt (pe_op op_mul (pv 3) (pe_op op_add (pv 5) (pe_callTy call_int1 (by rfl) bint (by decide +kernel) (pa_cons (pv 6) pa_nil)))) (pv 1) (nomark _))
      (pss_one (ps_asg (pe_tup (pa_cons pe_int (pa_cons pe_bl pa_nil))) (pg_tup rfl (pgs_cons (pg_name (i := 5) sc_law_keys.nd rfl (Or.inl rfl)) (pgs_cons (pg_name (i := 6) sc_law_keys.nd rfl (Or.inl rfl)) pgs_nil)))))
      pss_nil)
    (pss_one (ps_if (pt_cmpR op_le (pe_op op_mul (pv 3) (pe_op op_add (pv 5) (pe_callTy call_int1 (by rfl) bint (by decide +kernel) (pa_cons (pv 6) pa_nil)))) (pv 1) (nomark _))
      (pss_cons (ps_expr (pe_bm PySem.F.plainAttrs_list PySem.F.slot_list_append PySem.F.type_list_append mt_append (pv 2) (pa_cons (pe_tup (pa_cons (pv 4) (pa_cons (pv 5) (pa_cons (pv 6) pa_nil)))) pa_nil)))
    (pss_one (ps_set (i := 3) sc_law_keys.nd rfl (Or.inl rfl) (pe_op op_mul (pv 3) (pe_op op_add (pv 5) (pe_callTy call_int1 (by rfl) bint (by decide +kernel) (pa_cons (pv 6) pa_nil)))))))
      pss_nil)))))
    (pss_one (ps_ret (pv 2))))), ?_⟩
  have hbig := sizeLine_big
  obtain ⟨p, b, rfl, hP, hb, hQ⟩ := h
  refine ⟨Nat.zero_le _, fun l nl => ⟨_, _, rfl, ?_⟩⟩
  have u1 := same_upd (o := .lst []) nl
  have hl1 : upd H l (.lst []) l = some (.lst []) := upd_same
  have hlp := hP.ne nl
  have hP1 := hP.same u1
  generalize upd H l (.lst []) = G1 at u1 hl1 hP1 ⊢
  refine ⟨_, rfl, _, rfl, by show 6 ≤ sizeLine; decide, fun l1 nl1 => ?_⟩
  have u2 := same_upd (o := .lst ([1, 2, 2, 3, 3, 4].map V.int)) nl1
  have hl2 : upd G1 l1 (.lst ([1, 2, 2, 3, 3, 4].map V.int)) l1 = _ := upd_same
  have hl1p := hP1.ne nl1
  have hP2 := hP1.same u2
  show (_ : Hp → Prop) (upd G1 l1 (.lst ([1, 2, 2, 3, 3, 4].map V.int)))
  generalize upd G1 l1 (.lst ([1, 2, 2, 3, 3, 4].map V.int)) = G2 at u2 hl2 hP2 ⊢
  refine ⟨p, l1, _, b, rfl, hP2, SqL.of hl2, hl1p, by decide, by decide, by omega, fun i x G3 hx k3 hP3 => ?_⟩
  obtain ⟨m, rfl, hm1, hm4⟩ : ∃ m : Nat, x = .int (m : Int) ∧ 1 ≤ m ∧ m ≤ 4 := by
    have := List.mem_of_getElem? hx
    simp only [List.map, List.mem_cons, List.not_mem_nil, or_false] at this
    rcases this with h | h | h | h | h | h
    · exact ⟨1, h, by decide, by decide⟩
    · exact ⟨2, h, by decide, by decide⟩
    · exact ⟨2, h, by decide, by decide⟩
    · exact ⟨3, h, by decide, by decide⟩
    · exact ⟨3, h, by decide, by decide⟩
    · exact ⟨4, h, by decide, by decide⟩
  have b3 : But p H G3 := fun c u hc e => k3 _ _ hc (u2 _ _ (u1 _ _ e))
  have hl3 := k3 _ _ hlp (u2 _ _ hl1)
  refine ⟨by show 2 ≤ sizeLine; decide, fun l2 nl2 => ?_⟩
  have u4 := same_upd (o := .lst ((["it", "here"] : List Str).map V.str)) nl2
  have hl4 : upd G3 l2 (.lst ((["it", "here"] : List Str).map V.str)) l2 = _ := upd_same
  have hl2p := hP3.ne nl2
  have hP4 := hP3.same u4
  show (_ : Hp → Prop) (upd G3 l2 (.lst ((["it", "here"] : List Str).map V.str)))
  generalize upd G3 l2 (.lst ((["it", "here"] : List Str).map V.str)) = G4 at u4 hl4 hP4 ⊢
  refine ⟨p, l2, ["it", "here"], m, b + 1, rfl, hP4, hl4, hl2p, by omega, by omega, by decide +kernel, Nat.le_trans hm4 (by decide +kernel), fun ys r G5 hnd hys hyl k5 hP5 nr hr5 => ?_⟩
  have b5 : But p H G5 := fun c u hc e => k5 _ _ hc (u4 _ _ (b3 _ _ hc e))
  have hl5 := k5 _ _ hlp (u4 _ _ hl3)
  have hrp := hP4.ne nr
  have hrl : r ≠ l := Ne.symm (ne_of_none (u4 _ _ hl3) nr)
  refine ⟨r, rfl, ⟨_, SqL.of hr5⟩, ?_⟩
  refine for_list (xs := ys.map V.str) (fun i σ G => ∃ (ks : List KeyR) (ts : List Addr) (x4 x5 x6 : Option V), σ = [some (.ref p), some (.int 40), some (.ref l), some (.int (manyL ks : Nat)), x4, x5, x6] ∧ But p H G ∧ Pot G p (b + 201 + 2 * i) ∧ G l = some (.lst (ts.map V.ref)) ∧ G r = some (.lst (ys.map V.str)) ∧ KeyRows G ts ks ∧ (ks.map (·.name)).Sublist (ys.take i) ∧ (∀ j, manyL (ks.take j) ≤ 40) ∧ (∀ k ∈ ks, k.Ok) ∧ (i = 0 → ks = []) ∧ (1 ≤ i → ks ≠ []))
    ⟨[], [], none, none, none, rfl, b5, hP5.mono (by omega), hl5, hr5, .nil, List.nil_sublist _, (fun j => by rw [List.take_nil]; decide), (fun _ h => nomatch h), fun _ => rfl, fun h => absurd h (by decide)⟩ ?_ ?_ ?_
  · rintro i σ G hi ⟨ks, ts, x4, x5, x6, rfl, bG, hPG, hlG, hrG, _⟩
    exact SqL.of hrG
  · rintro i v σ G hv ⟨ks, ts, x4, x5, x6, rfl, bG, hPG, hlG, hrG, hKR, hsub, hmany, hok, hi0, hi1⟩
    rw [List.getElem?_map] at hv
    obtain ⟨x, hx, rfl⟩ := Option.map_eq_some_iff.mp hv
    have hi4 : i < 4 := by have := (List.getElem?_eq_some_iff.mp hx).1; omega
    have hxo := hys x (List.mem_of_getElem? hx)
    have hmk : manyL ks ≤ 40 := by have := hmany ks.length; rwa [List.take_length] at this
    refine ⟨_, rfl, p, 2, _, rfl, hPG, by decide, by decide, by omega, fun d1 G1' d10 d11 k1 hP1' => ?_⟩
    refine ⟨_, _, rfl, rfl, _, rfl, p, 2, _, rfl, hP1', by decide, by decide, by omega, fun d2 G2' d20 d21 k2 hP2' => ?_⟩
    obtain ⟨sz, hsz, hs23⟩ : ∃ sz : Nat, (2 : Int) + d1 = (sz : Int) ∧ (sz = 2 ∨ sz = 3) := by
      have : d1 = 0 ∨ d1 = 1 := by omega
      rcases this with rfl | rfl
      · exact ⟨2, rfl, .inl rfl⟩
      · exact ⟨3, rfl, .inr rfl⟩
    obtain ⟨my, hmy⟩ : ∃ my : Bool, decide (V.int d2 = V.int 0) = my := ⟨_, rfl⟩
    refine ⟨rfl, .int (sz : Int), .bl my, by rw [← hsz, ← hmy], ?_⟩
    have b2 : But p G G2' := fun c u hc e => k2 _ _ hc (k1 _ _ hc e)
    refine ⟨_, rfl, _, rfl, _, rfl, .inr ⟨_, rfl, _, _, rfl, rfl, _, _, rfl, rfl, .inl ⟨by omega, by omega⟩, _, rfl, _, _, rfl, rfl, _, rfl, ?_⟩⟩
    refine ite_joinD (fun σ G => ∃ (n : Nat) (k : Bool), (n = 2 ∨ n = 3) ∧ Same G2' G ∧ σ = [some (.ref p), some (.int 40), some (.ref l), some (.int (manyL ks : Nat)), some (.str x), some (.int (n : Int)), some (.bl k)]) (fun _ D' rr => ?_) (fun _ D' rr => rr _ _ ⟨sz, my, hs23, Same.refl _, rfl⟩) ?_
    · refine ⟨by show 2 ≤ sizeLine; decide, fun t nt => ⟨t, _, rfl, SqT.of upd_same, rfl, _, _, rfl, _, _, rfl, rfl, ?_⟩⟩
      exact rr _ _ ⟨2, false, .inl rfl, same_upd nt, rfl⟩
    · rintro σ G3' ⟨n, k, hn, s3, rfl⟩
      have bG3 : But p H G3' := fun c u hc e => s3 _ _ (b2 _ _ hc (bG _ _ hc e))
      have hP3' := hP2'.same s3
      have hl3' := s3 _ _ (b2 _ _ hlp hlG)
      have hr3' := s3 _ _ (b2 _ _ hrp hrG)
      have hK3' : KeyRows G3' ts ks := KeyRows.same s3 (KeyRows.mono (b2.tup hPG) hKR)
      have hn4 := nat_b k
      have ek := int_b k
      have hkm : (KeyR.mk x n k).many ≤ 4 := by show n + (if k = true then 1 else 0) ≤ 4; omega
      have hkm2 : manyL ks * (KeyR.mk x n k).many ≤ 160 := Nat.mul_le_mul hmk hkm
      have em : (manyL ks : Int) * ((n : Int) + (if k = true then (1 : Int) else 0)) = ((manyL ks * (KeyR.mk x n k).many : Nat) : Int) := by
        rw [ek]; push_cast; rfl
      refine ⟨_, rfl, _, rfl, _, rfl, .inr ⟨_, rfl, _, _, rfl, rfl, _, _, rfl, rfl, .inl ⟨by omega, by omega⟩, _, rfl, _, _, rfl, rfl, _, rfl, ?_⟩⟩
      by_cases hle : manyL ks * (KeyR.mk x n k).many ≤ 40
      · refine iY (decide_eq_true (by rw [em]; omega)) ?_
        refine ⟨_, rfl, .inl ⟨rfl, _, SqL.of hl3'⟩, _, rfl, _, rfl, _, rfl, by show 3 ≤ sizeLine; decide, fun t nt => ?_⟩
        have ul : ts.length ≤ 4 := by
          have h1 := hsub.length_le
          rw [List.length_map, List.length_take] at h1
          have h2 := hKR.length
          omega
        have u5 : Same G3' (upd G3' t (KeyR.mk x n k).tup) := same_upd nt
        have htu : upd G3' t (KeyR.mk x n k).tup t = some (KeyR.mk x n k).tup := upd_same
        show (_ : Hp → Prop) (upd G3' t (KeyR.mk x n k).tup)
        generalize upd G3' t (KeyR.mk x n k).tup = G4' at u5 htu ⊢
        refine ⟨l, _, _, rfl, rfl, u5 _ _ hl3', by rw [List.length_map]; omega, ?_⟩
        refine ⟨_, rfl, _, rfl, _, rfl, .inr ⟨_, rfl, _, _, rfl, rfl, _, _, rfl, rfl, .inl ⟨by omega, by omega⟩, ?_⟩⟩
        have htl : t ≠ l := Ne.symm (ne_of_none hl3' nt)
        have etk : ys.take (i + 1) = ys.take i ++ [x] := by rw [List.take_add_one, hx]; rfl
        refine ⟨ks ++ [KeyR.mk x n k], ts ++ [t], _, _, _, by rw [manyL_snoc, ← em]; rfl, fun c u hc e => (upd_ne (ne_of_none e nl)).trans (u5 _ _ (bG3 _ _ hc e)), ?_, ?_, (upd_ne hrl).trans (u5 _ _ hr3'), ?_, ?_, fun j => ?_, fun k' hk' => ?_, fun h => absurd h (by omega), fun _ => by simp⟩
        · obtain ⟨n0, n1, n2, g1, g2, g3, g4, g5⟩ := hP3'.same u5
          exact ⟨n0, n1, n2, (upd_ne (Ne.symm hlp)).trans g1, g2, g3, g4, by omega⟩
        · rw [upd_same, List.map_append]; rfl
        · refine KeyRows.mono (H := G4') (fun c xs e => (upd_ne (fun z => ?_)).trans e) (KeyRows.snoc (KeyRows.same u5 hK3') htu)
          rw [z, u5 _ _ hl3'] at e
          cases e
        · rw [List.map_append, etk]
          exact List.Sublist.append hsub (List.Sublist.refl _)
        · by_cases hj : j ≤ ks.length
          · rw [List.take_append_of_le_length hj]; exact hmany j
          · rw [List.take_of_length_le (by rw [List.length_append]; show ks.length + 1 ≤ j; omega), manyL_snoc]; exact hle
        · rcases List.mem_append.mp hk' with h | h
          · exact hok _ h
          · rw [List.mem_singleton.mp h]
            exact ⟨hxo.1, fun z => hxo.2 (by rw [show x = _ from z]; decide), fun z => hxo.2 (by rw [show x = _ from z]; decide), hn⟩
      · refine iN (decide_eq_false (by rw [em]; omega)) ?_
        refine ⟨ks, ts, _, _, _, rfl, bG3, hP3'.mono (by omega), hl3', hr3', hK3', hsub.trans (List.take_sublist_take_left (by omega)), hmany, hok, fun h => absurd h (by omega), fun _ => ?_⟩
        by_cases hz : i = 0
        · exfalso
          rw [hi0 hz] at hle
          apply hle
          have e1 : manyL [] = 1 := rfl
          rw [e1, Nat.one_mul]
          omega
        · exact hi1 (by omega)
  · rintro σ G ⟨ks, ts, x4, x5, x6, rfl, bG, hPG, hlG, hrG, hKR, hsub, hmany, hok, hi0, hi1⟩
    rw [List.length_map] at hsub hi1 hPG
    rw [List.take_length] at hsub
    have hl4' := hsub.length_le
    rw [List.length_map] at hl4'
    refine ⟨_, rfl, hQ ks ts l G ⟨hi1 (by omega), by omega, hok, hsub.nodup hnd, fun j => Nat.le_trans (hmany j) (by decide)⟩ ?_ bG (hPG.mono (by omega)) nl hlG hKR⟩
    have := hmany ks.length; rwa [List.take_length] at this
end
end KP

/-! the law's pages: their lines. -/
namespace KP
open PySem PySem.Spec PyProof.Rows L2 G137 SlX
theorem lstrip_tl (x : Str) : TL.tl (Txt.lstripChars x " ") = (TL.tl x).dropWhile (fun c => decide (c = 32)) := by
  unfold Txt.lstripChars
  rw [stripBy_eq]
  have hg : (fun c => (" " : Str).cps.contains c) = fun c => decide (c = 32) := by
    funext c
    have : (" " : Str).cps = #[32] := by decide +kernel
    rw [this]
    simp [Array.contains, eq_comm]
    rfl
  have hg' : (" " : Str).cps.contains = fun c => decide (c = 32) := hg
  rw [hg']
  have e1 : stripLo (fun c => decide (c = 32)) true x = ((TL.tl x).takeWhile fun c => decide (c = 32)).length := rfl
  have e2 : ∀ lo, stripHi (fun c => decide (c = 32)) false x lo = x.length := fun _ => rfl
  rw [e1, e2]
  show (x.cps.extract _ x.length).toList = _
  have e3 : ∀ (p : Nat → Bool) (l : List Nat), l.drop (l.takeWhile p).length = l.dropWhile p := by
    intro p l
    induction l with
    | nil => rfl
    | cons a r ih =>
      rw [List.takeWhile_cons, List.dropWhile_cons]
      split
      · simpa using ih
      · rfl
  rw [← e3, Array.toList_extract]
  show ((TL.tl x).extract _ x.length) = _
  rw [List.extract_eq_drop_take, List.take_of_length_le]
  rw [List.length_drop, TL.len_tl]
  exact Nat.le_refl _
/-- a word of a line -/
structure Wd (w : Str) : Prop where
  ne : TL.tl w ≠ []
  n32 : 32 ∉ TL.tl w
  n10 : 10 ∉ TL.tl w
instance (w : Str) : Decidable (Wd w) := decidable_of_iff (TL.tl w ≠ [] ∧ 32 ∉ TL.tl w ∧ 10 ∉ TL.tl w) ⟨fun ⟨a, b, c⟩ => ⟨a, b, c⟩, fun ⟨a, b, c⟩ => ⟨a, b, c⟩⟩
theorem wd_name {x : Str} (h : nameS x = true) : Wd x := by
  unfold nameS allIn at h
  rw [Bool.and_eq_true] at h
  obtain ⟨h1, h2⟩ := h
  have h1' := of_decide_eq_true h1
  have hc : ∀ c ∈ TL.tl x, c ∈ ("abcdefghijklmnopqrstuvwxyz" : Str).cps.toList := fun c hc => of_decide_eq_true (List.all_eq_true.mp h2 c hc)
  refine ⟨fun z => ?_, fun z => absurd (hc _ z) (by decide +kernel), fun z => absurd (hc _ z) (by decide +kernel)⟩
  have := TL.len_tl x
  rw [z] at this
  have : x.length = 0 := this
  omega
theorem joinL_no {S : List Nat} {c : Nat} (hS : c ∉ S) : ∀ {ps : List (List Nat)}, (∀ p ∈ ps, c ∉ p) → c ∉ TL.joinL S ps
  | [], _ => List.not_mem_nil
  | [p], h => h p (List.mem_singleton.mpr rfl)
  | p :: q :: r, h => by
    intro z
    rcases List.mem_append.mp (show c ∈ p ++ (S ++ TL.joinL S (q :: r)) from z) with z | z
    · exact h p (List.mem_cons_self ..) z
    · rcases List.mem_append.mp z with z | z
      · exact hS z
      · exact joinL_no hS (fun p' h' => h p' (List.mem_cons_of_mem _ h')) z
theorem joinL_head {S : List Nat} {w : List Nat} {ws : List (List Nat)} (h : w ≠ []) : (TL.joinL S (w :: ws)).head? = w.head? := by
  cases ws with
  | nil => rfl
  | cons q r =>
    show (w ++ (S ++ TL.joinL S (q :: r))).head? = _
    cases w with
    | nil => exact absurd rfl h
    | cons a r => rfl
theorem drop_blank : ∀ (n : Nat) {l : List Nat}, l.head? ≠ some 32 → (List.replicate n 32 ++ l).dropWhile (fun c => decide (c = 32)) = l
  | 0, l, h => by
    cases l with
    | nil => rfl
    | cons a r =>
      have ha : a ≠ 32 := fun z => h (by rw [z]; rfl)
      show (a :: r).dropWhile _ = _
      rw [List.dropWhile_cons, if_neg (by rw [decide_eq_false ha]; exact Bool.false_ne_true)]
  | n + 1, l, h => by
    rw [List.replicate_succ, List.cons_append, List.dropWhile_cons, if_pos (decide_eq_true rfl)]
    exact drop_blank n h
theorem tl_joinT (y : Str) (ws : List Str) : TL.tl (Txt.join y ws) = TL.joinL (TL.tl y) (ws.map TL.tl) := by rw [TL.join_eq, TL.tl_join]
theorem ln_ok {t : Str} {d : Nat} {ws : List Str} (hne : ws ≠ []) (hw : ∀ w ∈ ws, Wd w) (ht : TL.tl t = List.replicate (2 * d) 32 ++ TL.tl (Txt.join " " ws)) (hl : t.length + 2 ≤ sizeLine) : LnOk t d ws := by
  refine ⟨hl, Txt.join " " ws, ?_, ?_, ?_, fun z => (hw _ z).ne rfl⟩
  · refine TL.ext_tl ?_
    rw [lstrip_tl, ht]
    refine drop_blank _ ?_
    cases ws with
    | nil => exact absurd rfl hne
    | cons w r =>
      have h1 := hw w (List.mem_cons_self ..)
      rw [tl_joinT, List.map_cons, joinL_head h1.ne]
      intro z
      refine h1.n32 ?_
      cases e : TL.tl w with
      | nil => exact absurd e h1.ne
      | cons a r =>
        rw [e] at z
        rw [Option.some.inj z]
        exact List.mem_cons_self ..
  · rw [TL.len_tl t, ht, List.length_append, List.length_replicate, ← TL.len_tl]
    omega
  · exact TL.split_join (s := 32) (S := []) (by decide +kernel) (by decide +kernel) hne (fun p hp => (hw p hp).n32)
theorem ln_no10 {t : Str} {d : Nat} {ws : List Str} (hw : ∀ w ∈ ws, Wd w) (ht : TL.tl t = List.replicate (2 * d) 32 ++ TL.tl (Txt.join " " ws)) : 10 ∉ TL.tl t := by
  rw [ht]
  intro z
  rcases List.mem_append.mp z with z | z
  · exact absurd (List.eq_of_mem_replicate z) (by decide)
  · rw [tl_joinT] at z
    refine joinL_no (by decide +kernel) (fun p hp => ?_) z
    obtain ⟨w, h1, rfl⟩ := List.mem_map.mp hp
    exact (hw w h1).n10
/-! ### the page -/
def hdN (ks : List KeyR) : Str := (ks.head?.map fun k => k.name).getD ""
def laN (ks : List KeyR) : Str := (ks.getLast?.map fun k => k.name).getD ""
def dL (ks : List KeyR) : DeedL := ⟨"d", 1, false, if 1 < ks.length then some (hdN ks) else none⟩
def dS (ks : List KeyR) (n : Int) : List StD := [⟨"set", laN ks, "", some (.int 1)⟩, ⟨"say", "", "", some (.int n)⟩]
def dD (ks : List KeyR) (n : Int) : List DeedD := [⟨dL ks, dS ks n⟩]
def kLn (k : KeyR) : Str := Txt.join " " k.words
def hdT (ks : List KeyR) : Str := ("deed d 1" : Str) ++ (if decide (1 < ks.length) = true then (" when " : Str) ++ hdN ks else Str.empty)
def stT (ks : List KeyR) : Str := ("  set " : Str) ++ laN ks ++ (" 1" : Str)
def pgL (ks : List KeyR) (lt : Str) : List Str := ks.map kLn ++ [hdT ks, stT ks, ("  say " : Str) ++ lt]
def pgT (ks : List KeyR) (lt : Str) : Str := Txt.join "\n" (pgL ks lt)
theorem hd_tl (ks : List KeyR) : TL.tl (hdT ks) = TL.tl (Txt.join " " (dL ks).words) := by
  unfold hdT dL DeedL.words DeedL.rest
  by_cases h : 1 < ks.length
  · rw [if_pos (decide_eq_true h), if_pos h, TL.tl_append, TL.tl_append, tl_joinT]
    rfl
  · rw [if_neg (by rw [decide_eq_false h]; exact Bool.false_ne_true), if_neg h, TL.tl_append, tl_joinT]
    rfl
theorem st_tl (ks : List KeyR) : TL.tl (stT ks) = List.replicate (2 * 1) 32 ++ TL.tl (Txt.join " " ["set", laN ks, "1"]) := by
  unfold stT
  rw [TL.tl_append, TL.tl_append, tl_joinT]
  show TL.tl "  set " ++ _ ++ TL.tl " 1" = [32, 32] ++ (TL.tl "set" ++ ([32] ++ (_ ++ ([32] ++ TL.tl "1"))))
  rw [List.append_assoc]
  rfl
theorem sy_tl (lt : Str) : TL.tl (("  say " : Str) ++ lt) = List.replicate (2 * 1) 32 ++ TL.tl (Txt.join " " ["say", lt]) := by
  rw [TL.tl_append, tl_joinT]
  rfl
theorem joinL_len {S : List Nat} {b : Nat} : ∀ {ps : List (List Nat)}, (∀ p ∈ ps, p.length ≤ b) → (TL.joinL S ps).length ≤ ps.length * (b + S.length)
  | [], _ => Nat.zero_le _
  | [p], h => by
    have h1 := h p (List.mem_singleton.mpr rfl)
    show p.length ≤ 1 * (b + S.length)
    omega
  | p :: q :: r, h => by
    have h1 := h p (List.mem_cons_self ..)
    have h2 := joinL_len (S := S) (b := b) (ps := q :: r) fun p' h' => h p' (List.mem_cons_of_mem _ h')
    show (p ++ (S ++ TL.joinL S (q :: r))).length ≤ ((q :: r).length + 1) * (b + S.length)
    rw [List.length_append, List.length_append, Nat.succ_mul]
    omega
theorem name_le {x : Str} (h : nameS x = true) : (TL.tl x).length ≤ 8 := by rw [← TL.len_tl]; exact nameS_len h
theorem head_ok {ks : List KeyR} (h : KeysOk ks) : ∃ k r, ks = k :: r ∧ hdN ks = k.name := by
  cases ks with
  | nil => exact absurd rfl h.ne
  | cons k r => exact ⟨k, r, rfl, rfl⟩
theorem last_ok {ks : List KeyR} (h : KeysOk ks) : ∃ k r, ks = r ++ [k] ∧ laN ks = k.name := by
  refine ⟨ks.getLast h.ne, ks.dropLast, (List.dropLast_concat_getLast h.ne).symm, ?_⟩
  unfold laN
  rw [List.getLast?_eq_some_getLast h.ne]
  rfl
theorem hdN_ok {ks : List KeyR} (h : KeysOk ks) : hdN ks ∈ ks.map (·.name) ∧ nameS (hdN ks) = true := by
  obtain ⟨k, r, e, e2⟩ := head_ok h
  rw [e2]
  have hk : k ∈ ks := by rw [e]; exact List.mem_cons_self ..
  exact ⟨List.mem_map.mpr ⟨k, hk, rfl⟩, (h.ok k hk).nm⟩
theorem laN_ok {ks : List KeyR} (h : KeysOk ks) : laN ks ∈ ks.map (·.name) ∧ nameS (laN ks) = true ∧ laN ks ≠ "here" := by
  obtain ⟨k, r, e, e2⟩ := last_ok h
  rw [e2]
  have hk : k ∈ ks := by rw [e]; exact List.mem_append_right _ (List.mem_singleton.mpr rfl)
  exact ⟨List.mem_map.mpr ⟨k, hk, rfl⟩, (h.ok k hk).nm, (h.ok k hk).he⟩
theorem wd_key {k : KeyR} (h : k.Ok) : ∀ w ∈ k.words, Wd w := by
  intro w hw
  unfold KeyR.words at hw
  simp only [List.mem_cons, List.not_mem_nil, or_false] at hw
  rcases hw with rfl | rfl | rfl
  · cases k.may
    · exact (by decide +kernel : Wd "key")
    · exact (by decide +kernel : Wd "may")
  · exact wd_name h.nm
  · rcases h.sz with e | e <;> rw [e]
    · exact (by decide +kernel : Wd (sizeT 2))
    · exact (by decide +kernel : Wd (sizeT 3))
theorem wd_dL {ks : List KeyR} (h : KeysOk ks) : ∀ w ∈ (dL ks).words, Wd w := by
  intro w hw
  have h1 : Wd "deed" := by decide +kernel
  have h2 : Wd "d" := by decide +kernel
  have h3 : Wd (sizeD 1) := by decide +kernel
  have h4 : Wd "when" := by decide +kernel
  have h5 := wd_name (hdN_ok h).2
  unfold DeedL.words DeedL.rest dL at hw
  by_cases hl : 1 < ks.length
  · rw [if_pos hl] at hw
    have hw' : w ∈ (["deed", "d", sizeD 1, "when", hdN ks] : List Str) := hw
    simp only [List.mem_cons, List.not_mem_nil, or_false] at hw'
    rcases hw' with rfl | rfl | rfl | rfl | rfl
    · exact h1
    · exact h2
    · exact h3
    · exact h4
    · exact h5
  · rw [if_neg hl] at hw
    have hw' : w ∈ (["deed", "d", sizeD 1] : List Str) := hw
    simp only [List.mem_cons, List.not_mem_nil, or_false] at hw'
    rcases hw' with rfl | rfl | rfl
    · exact h1
    · exact h2
    · exact h3
theorem wd_st {ks : List KeyR} (h : KeysOk ks) : ∀ w ∈ (["set", laN ks, "1"] : List Str), Wd w := by
  intro w hw
  simp only [List.mem_cons, List.not_mem_nil, or_false] at hw
  rcases hw with rfl | rfl | rfl
  · exact (by decide +kernel : Wd "set")
  · exact wd_name (laN_ok h).2.1
  · exact (by decide +kernel : Wd "1")
def LtOk (lt : Str) (n : Int) : Prop := (lt = "0" ∧ n = 0) ∨ (lt = "1" ∧ n = 1)
theorem wd_sy {lt : Str} {n : Int} (h : LtOk lt n) : ∀ w ∈ (["say", lt] : List Str), Wd w := by
  intro w hw
  simp only [List.mem_cons, List.not_mem_nil, or_false] at hw
  rcases hw with rfl | rfl
  · exact (by decide +kernel : Wd "say")
  · rcases h with ⟨rfl, _⟩ | ⟨rfl, _⟩
    · exact (by decide +kernel : Wd "0")
    · exact (by decide +kernel : Wd "1")
theorem kLn_len {k : KeyR} (h : k.Ok) : (kLn k).length ≤ 30 := by
  rw [TL.len_tl]
  unfold kLn
  rw [tl_joinT]
  refine Nat.le_trans (joinL_len (b := 8) fun p hp => ?_) (by show 3 * (8 + 1) ≤ 30; decide)
  obtain ⟨w, hw, rfl⟩ := List.mem_map.mp hp
  unfold KeyR.words at hw
  simp only [List.mem_cons, List.not_mem_nil, or_false] at hw
  rcases hw with rfl | rfl | rfl
  · cases k.may
    · exact (by decide +kernel : (TL.tl "key").length ≤ 8)
    · exact (by decide +kernel : (TL.tl "may").length ≤ 8)
  · exact name_le h.nm
  · rcases h.sz with e | e <;> rw [e] <;> decide +kernel
theorem hdT_len {ks : List KeyR} (h : KeysOk ks) : (hdT ks).length ≤ 30 := by
  unfold hdT
  have h8 := nameS_len (hdN_ok h).2
  rw [len_app]
  split
  · rw [len_app]; show 8 + (6 + _) ≤ 30; omega
  · show 8 + 0 ≤ 30; decide
theorem stT_len {ks : List KeyR} (h : KeysOk ks) : (stT ks).length ≤ 30 := by
  unfold stT
  have h8 := nameS_len (laN_ok h).2.1
  rw [len_app, len_app]; show 6 + _ + 2 ≤ 30; omega
theorem sy_len {lt : Str} {n : Int} (h : LtOk lt n) : (("  say " : Str) ++ lt).length ≤ 30 := by
  rw [len_app]
  rcases h with ⟨rfl, _⟩ | ⟨rfl, _⟩ <;> show 6 + 1 ≤ 30 <;> decide
theorem pgL_len {ks : List KeyR} {lt : Str} : (pgL ks lt).length = ks.length + 3 := by
  unfold pgL
  rw [List.length_append, List.length_map]; rfl
theorem pgL_fit {ks : List KeyR} (h : KeysOk ks) {lt : Str} {n : Int} (hl : LtOk lt n) : ∀ t ∈ pgL ks lt, t.length ≤ 30 := by
  intro t ht
  rcases List.mem_append.mp ht with ht | ht
  · obtain ⟨k, hk, rfl⟩ := List.mem_map.mp ht
    exact kLn_len (h.ok k hk)
  · simp only [List.mem_cons, List.not_mem_nil, or_false] at ht
    rcases ht with rfl | rfl | rfl
    · exact hdT_len h
    · exact stT_len h
    · exact sy_len hl
theorem pgT_len {ks : List KeyR} (h : KeysOk ks) {lt : Str} {n : Int} (hl : LtOk lt n) : (pgT ks lt).length ≤ 300 := by
  rw [TL.len_tl]
  unfold pgT
  rw [tl_joinT]
  refine Nat.le_trans (joinL_len (b := 30) fun p hp => ?_) ?_
  · obtain ⟨t, ht, rfl⟩ := List.mem_map.mp hp
    rw [← TL.len_tl]
    exact pgL_fit h hl t ht
  · rw [List.length_map, pgL_len]
    have := h.four
    show (ks.length + 3) * 31 ≤ 300
    omega
theorem pg_split {ks : List KeyR} (h : KeysOk ks) {lt : Str} {n : Int} (hl : LtOk lt n) : Txt.split (pgT ks lt) "\n" = pgL ks lt := by
  refine TL.split_join (s := 10) (S := []) (by decide +kernel) (by decide +kernel) (fun z => ?_) (fun t ht => ?_)
  · have := pgL_len (ks := ks) (lt := lt)
    rw [z] at this
    cases this
  · rcases List.mem_append.mp ht with ht | ht
    · obtain ⟨k, hk, rfl⟩ := List.mem_map.mp ht
      exact ln_no10 (d := 0) (wd_key (h.ok k hk)) rfl
    · simp only [List.mem_cons, List.not_mem_nil, or_false] at ht
      rcases ht with rfl | rfl | rfl
      · exact ln_no10 (d := 0) (wd_dL h) (hd_tl ks)
      · exact ln_no10 (wd_st h) (st_tl ks)
      · exact ln_no10 (wd_sy hl) (sy_tl lt)
theorem part_n {lt : Str} {n : Int} (h : LtOk lt n) : PartOk lt (.int n) := by
  rcases h with ⟨rfl, rfl⟩ | ⟨rfl, rfl⟩
  · exact .inl ⟨by decide +kernel, by decide +kernel, 0, by decide +kernel, rfl⟩
  · exact .inl ⟨by decide +kernel, by decide +kernel, 1, by decide +kernel, rfl⟩
theorem page_ls {ks : List KeyR} (h : KeysOk ks) {lt : Str} {n : Int} (hl : LtOk lt n) : BookLs (Txt.split (pgT ks lt) "\n") ks (dD ks n) := by
  have hbig := sizeLine_big
  rw [pg_split h hl]
  have fit := pgL_fit h hl
  have g0 : ∀ j, (pgL ks lt)[ks.length + j]? = ([hdT ks, stT ks, ("  say " : Str) ++ lt] : List Str)[j]? := fun j => by
    unfold pgL
    rw [List.getElem?_append_right (by rw [List.length_map]; omega), List.length_map, Nat.add_sub_cancel_left]
  have hdL : LnOk (hdT ks) 0 (dL ks).words := ln_ok (fun z => nomatch z) (wd_dL h) (hd_tl ks) (by have := hdT_len h; omega)
  refine ⟨⟨fun j k hk => ⟨kLn k, ?_, ?_⟩, hdT ks, "deed", _, g0 0, hdL, by decide, by decide⟩, ⟨⟨hdT ks, g0 0, hdL⟩, fun j sd hj => ?_, ?_⟩⟩
  · unfold pgL
    rw [List.getElem?_append_left (by rw [List.length_map]; exact (List.getElem?_eq_some_iff.mp hk).1), List.getElem?_map, hk]
    rfl
  · have hk' := h.ok k (List.mem_of_getElem? hk)
    exact ln_ok (fun z => nomatch z) (wd_key hk') rfl (by have := kLn_len hk'; omega)
  · have g1 := g0 (1 + j)
    rw [← Nat.add_assoc] at g1
    match j, hj with
    | 0, hj =>
      obtain rfl := Option.some.inj hj
      exact ⟨_, ["set", laN ks, "1"], g1, ln_ok (by simp) (wd_st h) (st_tl ks) (by have := stT_len h; omega), .key (.inl rfl) (laN_ok h).2.1 (part_n (.inr ⟨rfl, rfl⟩)) (by show 1 ≤ sizeLine; omega)⟩
    | 1, hj =>
      obtain rfl := Option.some.inj hj
      exact ⟨_, ["say", lt], g1, ln_ok (by simp) (wd_sy hl) (sy_tl lt) (by have := sy_len hl; omega), .say (part_n hl) (by rcases hl with ⟨rfl, _⟩ | ⟨rfl, _⟩ <;> show 1 ≤ sizeLine <;> omega)⟩
    | j + 2, hj => nomatch hj
  · show ks.length + 1 + 2 = (pgL ks lt).length
    rw [pgL_len]
theorem page_ok {ks : List KeyR} (h : KeysOk ks) {n : Int} : PageOk ks (dD ks n) := by
  have hla := laN_ok h
  have hhd := hdN_ok h
  have hd1 : ∀ {P : DeedD → Prop}, P ⟨dL ks, dS ks n⟩ → ∀ d ∈ dD ks n, P d := fun hp d hd => by rw [List.mem_singleton.mp hd]; exact hp
  have hwk : wk (dD ks n) (laN ks) = none := by
    unfold wk dD
    have : (dL ks).wh ≠ laN ks := by
      unfold DeedL.wh dL
      by_cases hl : 1 < ks.length
      · rw [if_pos hl]
        show hdN ks ≠ laN ks
        obtain ⟨k, r, e1, e2⟩ := head_ok h
        obtain ⟨k', r', e3, e4⟩ := last_ok h
        rw [e2, e4]
        cases r' with
        | nil => rw [e3] at hl; exact absurd hl (Nat.lt_irrefl 1)
        | cons a r' =>
          have ha : a = k := by rw [e3] at e1; exact (List.cons.inj e1).1
          have nd := h.nd
          rw [e3, ha, List.cons_append, List.map_cons, List.nodup_cons] at nd
          intro z
          apply nd.1
          rw [z]
          exact List.mem_map.mpr ⟨k', List.mem_append_right _ (List.mem_singleton.mpr rfl), rfl⟩
      · rw [if_neg hl]
        show ("" : Str) ≠ laN ks
        intro z
        exact (wd_name hla.2.1).ne (by rw [← z]; rfl)
    simp [this]
  refine ⟨h, ⟨(fun z => nomatch z), by show 1 ≤ 5; decide, hd1 ⟨(by decide +kernel : nameS "d" = true), .inl rfl, fun k hk => ?_⟩, hd1 (by show dS ks n ≠ []; unfold dS; simp), hd1 (by show 2 ≤ 8; decide), by show ([("d" : Str)] : List Str).Nodup; decide, by show 1 ≤ 8; decide, by show 2 ≤ 24; decide⟩, hd1 ?_, hd1 fun sd hsd => ?_, fun j d hj sd hsd => ?_⟩
  · have hk' : (if 1 < ks.length then some (hdN ks) else none) = some k := hk
    split at hk'
    · rw [← Option.some.inj hk']; exact hhd.2
    · cases hk'
  · unfold DeedL.wh dL
    by_cases hl : 1 < ks.length
    · rw [if_pos hl]; exact .inr hhd.1
    · rw [if_neg hl]; exact .inl rfl
  · have hsd' : sd ∈ dS ks n := hsd
    unfold dS at hsd'
    simp only [List.mem_cons, List.not_mem_nil, or_false] at hsd'
    rcases hsd' with rfl | rfl
    · exact ⟨(by decide +kernel : ("set" : Str) ∈ flatW), fun v hv => by cases hv; exact .inl ⟨_, rfl⟩, fun z => absurd z (by decide +kernel : ¬(("set" : Str) = "ask" ∨ ("set" : Str) = "try")), fun x hx => absurd hx List.not_mem_nil, fun _ => ⟨hla.1, hla.2.2, hla.2.1⟩⟩
    · exact ⟨by show ("say" : Str) ∈ flatW; decide +kernel, fun v hv => by cases hv; exact .inl ⟨_, rfl⟩, fun z => absurd z (by decide +kernel : ¬(("say" : Str) = "ask" ∨ ("say" : Str) = "try")), fun x hx => absurd hx List.not_mem_nil, fun z => absurd z (by decide +kernel : ¬(("say" : Str) = "set" ∨ ("say" : Str) = "add"))⟩
  · have hd : d = ⟨dL ks, dS ks n⟩ := List.mem_singleton.mp (List.mem_of_getElem? hj)
    rw [hd] at hsd
    have hsd' : sd ∈ dS ks n := hsd
    unfold dS at hsd'
    simp only [List.mem_cons, List.not_mem_nil, or_false] at hsd'
    rcases hsd' with rfl | rfl
    · exact ⟨fun z => absurd z (by decide +kernel : ¬(("set" : Str) = "ask" ∨ ("set" : Str) = "try")), fun _ => ⟨hla.1, hla.2.2, .inl hwk⟩⟩
    · exact ⟨fun z => absurd z (by decide +kernel : ¬(("say" : Str) = "ask" ∨ ("say" : Str) = "try")), fun z => absurd z (by decide +kernel : ¬(("say" : Str) = "set" ∨ ("say" : Str) = "add"))⟩
end KP

/-! the law's pages: made. -/
namespace KP
open PySem PySem.Spec PyProof.Rows L2 G137 SlX
def spPg (K : Frag) : Sp := fun vs H Q _ => ∃ (l : Addr) (lt : Str) (n : Int) (ts : List Addr) (ks : List KeyR), vs = [.ref l, .str lt] ∧ H l = some (.lst (ts.map V.ref)) ∧ KeyRows H ts ks ∧ KeysOk ks ∧ LtOk lt n ∧ ∀ H', Same H H' → Q (.str (pgT ks lt)) H'
def rJoin (K : Frag) : V → List V → Hp → VK → Prop := fun x xs H Q => ∃ a p, ∃ ys : List Str, x = .str a ∧ xs = [.ref p] ∧ (SqL K H p (ys.map V.str) ∨ SqT K H p (ys.map V.str)) ∧ (ys.map (·.length)).sum + ys.length * a.length ≤ 16777216 ∧ Q (.str (Txt.join a ys)) H
def rStrI : List V → Hp → VK → Prop := fun xs H Q => ∃ i : Int, xs = [.int i] ∧ i.natAbs.log2 < 1920 ∧ Q (.str (toString i)) H
section
variable {P : Program} {w : World} {K : Frag} {mg : Str → Option Value} {base : Heap}
theorem sc_law_page : FnScope ["_law_keys_here", "_law_last", "_law_name", "_law_size", "_law_is_may", "_law_lines", "_law_head"] ["_law_keys_here", "_law_last"] (defScope d_law_page) := ⟨rfl, rfl, rfl, by decide +kernel, rfl, by decide +kernel, by decide +kernel⟩
theorem ok_law_page (T : Pr K mg) : FOk P w K mg base 1 "_law_page" ["_law_keys_here", "_law_last"] (spPg K) := by
  obtain ⟨fd, F⟩ := T.f_law_page
  have bstr := T.fre "str" (by decide +kernel)
  have bint := T.fre "int" (by decide +kernel)
  have blen := T.fre "len" (by decide +kernel)
  refine FOk.of F (T.glo _ (by decide +kernel)) sc_law_page (fun _ _ _ _ _ _ us hl => match us, hl with | [_, _], _ => rfl) (fun vs H Q E h => ?_) (fun cdv A outer s H vs Q E hr h => ?_)
  · obtain ⟨_, _, _, _, _, rfl, _⟩ := h; rfl
  refine ⟨_, PSs.nox (pss_cons (ps_setLc (i := 5) (own := [("_law_name", 2), ("_law_size", 3), ("_law_is_may", 4)]) (g := gTup K 3 (gCons (gName 2) (gCons (gName 3) (gCons (gName 4) gNil)))) (tt := tYes) (te := tM1 (rJoin K) (tC (.str " ")) (tLst (tCons (tIf (tB (tVar 4)) (tC (.str "may")) (tC (.str "key"))) (tCons (tVar 2) (tCons (tCB rStrI (tCons (tVar 3) tNil)) tNil))))) rfl sc_law_page.nd rfl rfl (sw_true rfl rfl rfl (by decide +kernel)) (pi_list (pv 0)) (blkOk_by (own := [("_law_name", 2), ("_law_size", 3), ("_law_is_may", 4)]) (N := ["_law_keys_here", "_law_last", "_law_name", "_law_size", "_law_is_may", "_law_lines", "_law_head"]) (sc := defScope d_law_page) (by decide +kernel)) (fun _ _ _ _ _ => (pg_tup rfl (pgs_cons (pg_name (i := 2) sc_law_page.nd rfl (Or.inl rfl)) (pgs_cons (pg_name (i := 3) sc_law_page.nd rfl (Or.inl rfl)) (pgs_cons (pg_name (i := 4) sc_law_page.nd rfl (Or.inl rfl)) pgs_nil))))) (fun _ _ _ _ _ => pts_nil) (fun _ _ _ _ _ => (pe_join pe_str (pe_lst (pa_cons (pe_ifExp (pt_val (pv 4)) pe_str pe_str) (pa_cons (pv 2) (pa_cons (pe_callTy call_str_int (by rfl) bstr (by decide +kernel) (pa_cons (pv 3) pa_nil)) pa_nil)))))))
    (pss_cons (ps_set (i := 6) sc_law_page.nd rfl (Or.inl rfl) (pe_op (op_add_str) pe_str (pe_op (op_mulS) (pe_op (op_add_str) pe_str (pe_ix ix_tup (pe_ix ix_list (pv 0) pe_int (fun _ _ => rfl)) pe_int (fun _ _ => rfl))) (pe_callTy call_int1 (by rfl) bint (by decide +kernel) (pa_cons (pe_cmpR op_gt (pe_callB call_len_seq (by rfl) blen PySem.boot_len (pa_cons (pv 0) pa_nil)) pe_int (nomark _)) pa_nil)))))
    (pss_one (ps_ret (pe_join pe_str (pe_op (op_cat) (pv 5) (pe_lst (pa_cons (pv 6) (pa_cons (pe_op (op_add_str) (pe_op (op_add_str) pe_str (pe_ix ix_tup (pe_ix ix_list (pv 0) (pe_un un_neg pe_int) (fun _ _ => rfl)) pe_int (fun _ _ => rfl))) pe_str) (pa_cons (pe_op (op_add_str) pe_str (pv 1)) pa_nil)))))))))), ?_⟩
  have hbig := sizeLine_big
  obtain ⟨l, lt, n, ts, ks, rfl, hl, hK, hk, hlt, hQ⟩ := h
  refine ⟨_, rfl, l, rfl, ⟨_, SqL.of hl⟩, fun D nD => ?_⟩
  refine lc_list (xs := ts.map V.ref) (AccP (fun i => ((ks.take i).map kLn).map V.str) D H) (acc_start rfl) (fun i G _ q => SqL.of (q.same nD _ _ hl)) (fun i v G hi q => ?_) (fun G q => ?_)
  · rw [List.getElem?_map] at hi
    obtain ⟨t, ht, rfl⟩ := Option.map_eq_some_iff.mp hi
    obtain ⟨k, hkk, htk⟩ := Paired.get? hK ht
    have hko := hk.ok k (List.mem_of_getElem? hkk)
    refine ⟨t, _, rfl, SqT.of (q.same nD _ _ htk), rfl, _, _, rfl, _, _, rfl, _, _, rfl, rfl, rfl, ?_⟩
    dsimp only [tYes]
    rw [if_pos rfl]
    have hsz : k.size ≤ 3 := by rcases hko.sz with e | e <;> omega
    have est : (Str.ofString (toString (k.size : Int)) : Str) = sizeT k.size := by rcases hko.sz with e | e <;> rw [e] <;> decide +kernel
    have hlg : ((k.size : Int).natAbs).log2 < 1920 := by
      rw [Int.natAbs_natCast]
      rcases hko.sz with e | e <;> rw [e] <;> decide +kernel
    have htk1 : (ks.take (i + 1)).map kLn = (ks.take i).map kLn ++ [kLn k] := by rw [List.take_add_one, hkk, List.map_append]; rfl
    have h4 := hk.four
    refine ⟨⟨_, rfl⟩, _, rfl, k.may, rfl, ?_⟩
    by_cases hm : k.may = true
    case' pos => refine iY hm ?_; have ew : ([("may" : Str), k.name, Str.ofString (toString (k.size : Int))] : List Str) = k.words := by unfold KeyR.words; rw [est, if_pos hm]
    case' neg => refine iN (by simpa using hm) ?_; have ew : ([("key" : Str), k.name, Str.ofString (toString (k.size : Int))] : List Str) = k.words := by unfold KeyR.words; rw [est, if_neg hm]
    all_goals
      refine ⟨_, rfl, _, rfl, _, rfl, hlg, by show 3 ≤ sizeLine; decide, fun p np => ?_⟩
      refine ⟨_, p, k.words, rfl, rfl, .inl (SqL.of (by rw [← ew]; exact upd_same)), ?_, ?_⟩
      · have hn8 := nameS_len hko.nm
        rw [← ew]
        rw [est]
        show (3 + (k.name.length + ((sizeT k.size).length + 0))) + 3 * 1 ≤ _
        have : (sizeT k.size).length = 1 := by rcases hko.sz with e | e <;> rw [e] <;> decide +kernel
        omega
      · refine acc_step q (same_upd np) ?_ ?_
        · rw [List.length_map, List.length_map, List.length_take]; omega
        · show ((ks.take (i + 1)).map kLn).map V.str = ((ks.take i).map kLn).map V.str ++ [V.str (kLn k)]
          rw [htk1, List.map_append]; rfl
  · have hlen : ts.length = ks.length := Paired.length hK
    have hD : G D = some (.lst ((ks.map kLn).map V.str)) := by
      have := q.1
      rw [this, List.length_map, hlen]
      show some (HO.lst (((ks.take ks.length).map kLn).map V.str)) = _
      rw [List.take_length]
    have sG := q.same nD
    have hl2 := sG _ _ hl
    have hK2 := hK.same sG
    obtain ⟨k0, r0, ek, eh⟩ := head_ok hk
    obtain ⟨k9, r9, ek9, eh9⟩ := last_ok hk
    have h4 := hk.four
    have h0 : 0 < ts.length := by rw [hlen, ek]; exact Nat.succ_pos _
    obtain ⟨t0, et0⟩ : ∃ t0, ts[0]? = some t0 := ⟨ts[0], List.getElem?_eq_getElem h0⟩
    obtain ⟨k0', ek0, ht0⟩ := Paired.get? hK2 et0
    have : k0' = k0 := by rw [ek] at ek0; exact (Option.some.inj ek0).symm
    subst this
    obtain ⟨t9, et9⟩ : ∃ t9, ts[ts.length - 1]? = some t9 := ⟨ts[ts.length - 1], List.getElem?_eq_getElem (by omega)⟩
    obtain ⟨k9', ek9', ht9⟩ := Paired.get? hK2 et9
    have : k9' = k9 := by
      rw [hlen, ek9, List.length_append] at ek9'
      rw [List.getElem?_append_right (by show r9.length ≤ r9.length + 1 - 1; omega)] at ek9'
      have e0 : r9.length + [k9].length - 1 - r9.length = 0 := by show r9.length + 1 - 1 - r9.length = 0; omega
      rw [e0] at ek9'
      exact (Option.some.inj ek9').symm
    subst this
    have hk0 := nameS_len (hdN_ok hk).2
    have hk9 := nameS_len (laN_ok hk).2.1
    rw [eh] at hk0
    rw [eh9] at hk9
    have ed : decide ((1 : Int) < ((ts.map V.ref).length : Int)) = decide (1 < ks.length) := by
      rw [List.length_map, hlen]
      by_cases h : 1 < ks.length
      · rw [decide_eq_true h, decide_eq_true (by omega)]
      · rw [decide_eq_false h, decide_eq_false (by omega)]
    refine ⟨_, rfl, l, _, 0, .ref t0, rfl, rfl, SqL.of hl2, atI_nat (j := 0) (by rw [List.getElem?_map, et0]; rfl), t0, _, 0, .str k0'.name, rfl, rfl, SqT.of ht0, atI_nat (j := 0) rfl, _, _, rfl, rfl, ?_, ?_⟩
    · show 6 + _ ≤ _; omega
    refine ⟨_, rfl, l, _, rfl, .inl (SqL.of hl2), _, _, rfl, rfl, .inr ⟨_, rfl, _, decide (1 < ks.length), rfl, by rw [ed], _, _, rfl, rfl, ?_, ?_⟩⟩
    · by_cases h : decide (1 < ks.length) = true
      · rw [if_pos h, len_app]; show 8 + (6 + _) ≤ _; omega
      · rw [if_neg h]; show 8 + 0 ≤ _; omega
    have ehd : ("deed d 1" : Str) ++ (if decide (1 < ks.length) = true then (" when " : Str) ++ k0'.name else Str.empty) = hdT ks := by unfold hdT; rw [eh]
    rw [ehd]
    have hts : ts.map V.ref = (ts.map V.ref).take (ts.length - 1) ++ [V.ref t9] := by
      have e1 : (ts.map V.ref)[ts.length - 1]? = some (V.ref t9) := by rw [List.getElem?_map, et9]; rfl
      have e2 : ts.map V.ref = (ts.map V.ref).take (ts.length - 1 + 1) := by rw [List.take_of_length_le]; rw [List.length_map]; omega
      rw [List.take_add_one, e1] at e2
      exact e2
    have h9 : atI (ts.map V.ref) (-1) = some (.ref t9) := by rw [hts]; exact atI_last _ _
    have hlt1 : lt.length ≤ 1 := by rcases hlt with ⟨rfl, _⟩ | ⟨rfl, _⟩ <;> decide +kernel
    refine ⟨⟨_, rfl⟩, _, rfl, _, rfl, _, rfl, 1, rfl, l, _, _, .ref t9, rfl, rfl, SqL.of hl2, h9, t9, _, 0, .str k9'.name, rfl, rfl, SqT.of ht9, atI_nat (j := 0) rfl, _, _, rfl, rfl, ?_, _, _, rfl, rfl, ?_, _, rfl, _, _, rfl, rfl, ?_, by show 3 ≤ sizeLine; decide, fun p np => ?_⟩
    · show 6 + _ ≤ _; omega
    · rw [len_app]; show 6 + _ + 2 ≤ _; omega
    · show 6 + _ ≤ _; omega
    have est : ("  set " : Str) ++ k9'.name ++ (" 1" : Str) = stT ks := by unfold stT; rw [eh9]
    have u1 := same_upd (o := .lst ([hdT ks, stT ks, ("  say " : Str) ++ lt].map V.str)) np
    have fit := pgL_fit hk hlt
    refine ⟨D, p, _, _, rfl, rfl, (show upd G p (.lst ([hdT ks, ("  set " : Str) ++ k9'.name ++ (" 1" : Str), ("  say " : Str) ++ lt].map V.str)) D = _ from by rw [est]; exact u1 _ _ hD), upd_same, ?_, fun r nr => ?_⟩
    · rw [List.length_map, List.length_map]; show ks.length + 3 ≤ _; omega
    refine ⟨_, r, pgL ks lt, rfl, rfl, .inl (SqL.of ?_), ?_, ?_⟩
    · rw [upd_same]
      show some (HO.lst ((ks.map kLn).map V.str ++ ([hdT ks, ("  set " : Str) ++ k9'.name ++ (" 1" : Str), ("  say " : Str) ++ lt] : List Str).map V.str)) = _
      rw [est, ← List.map_append]; rfl
    · have hsum : ∀ ls : List Str, (∀ t ∈ ls, t.length ≤ 30) → (ls.map (·.length)).sum ≤ ls.length * 30 := by
        intro ls h
        induction ls with
        | nil => exact Nat.le_refl _
        | cons a r ih =>
          have h1 := h a (List.mem_cons_self ..)
          have h2 := ih fun t ht => h t (List.mem_cons_of_mem _ ht)
          rw [List.map_cons, List.sum_cons, List.length_cons]
          omega
      have h1 := hsum _ fit
      have h2 := pgL_len (ks := ks) (lt := lt)
      show _ + (pgL ks lt).length * 1 ≤ _
      omega
    · exact hQ _ (sG.trans ((same_upd np).trans (same_upd nr)))
end
end KP

/-! the law: worths, let. -/
namespace KP
open PySem PySem.Spec PyProof.Rows L2 G137 SlX
def WOk : List KeyR → List Int → Prop := Paired fun k x => k.lo ≤ x ∧ x < (k.size : Int)
def spWths (K : Frag) : Sp := fun vs H Q _ => ∃ (p l : Addr) (ts : List Addr) (ks : List KeyR) (b : Nat), vs = [.ref p, .ref l] ∧ Pot H p b ∧ H l = some (.lst (ts.map V.ref)) ∧ KeyRows H ts ks ∧ KeysOk ks ∧ b + 10 < 100000 ∧
  ∀ (ws : List Int) (r : Addr) (H' : Hp), WOk ks ws → But p H H' → Pot H' p (b + 4) → H r = none → H' r = some (.lst (ws.map V.int)) → Q (.ref r) H'
def rInt1 : List V → Hp → VK → Prop := fun xs H Q => (∃ i, xs = [.int i] ∧ Q (.int i) H) ∨ ∃ k, xs = [.bl k] ∧ Q (.int (if k = true then 1 else 0)) H
theorem dunF {K : Frag} {mg : Str → Option Value} (T : Pr K mg) {x m : Str} (hx : (x, m) ∈ gMeth) : ∀ f, Meth K (cA K x) m f → PySem.W.fnIn K f = true := fun f h => by
  have h1 := T.meth x m hx
  have h2 := T.fni x m hx
  have e : f = He.ma K (He.ga K x) m := by
    have := h.at_.symm.trans h1.at_
    injection this with this
    injection this with this
    injection this
  rw [e]
  exact h2
section
variable {P : Program} {w : World} {K : Frag} {mg : Str → Option Value} {base : Heap}
theorem sc_law_worths : FnScope ["_law_pot_here", "_law_keys_here", "_law_name", "_law_size", "_law_is_may"] ["_law_pot_here", "_law_keys_here"] (defScope d_law_worths) := ⟨rfl, rfl, rfl, by decide +kernel, rfl, by decide +kernel, by decide +kernel⟩
theorem ok_law_worths (T : Pr K mg) : FOk P w K mg base 2 "_law_worths" ["_law_pot_here", "_law_keys_here"] (spWths K) := by
  obtain ⟨fd, F⟩ := T.f_law_worths
  have bint := T.fre "int" (by decide +kernel)
  refine FOk.of F (T.glo _ (by decide +kernel)) sc_law_worths (fun _ _ _ _ _ _ us hl => match us, hl with | [_, _], _ => rfl) (fun vs H Q E h => ?_) (fun cdv A outer s H vs Q E hr h => ?_)
  · obtain ⟨_, _, _, _, _, rfl, _⟩ := h; rfl
  refine ⟨_, PSs.nox (pss_one (ps_ret (pe_lc (own := [("_law_name", 2), ("_law_size", 3), ("_law_is_may", 4)]) (g := gTup K 3 (gCons (gName 2) (gCons (gName 3) (gCons (gName 4) gNil)))) (tt := tYes) (te := tOp (rI0 fun i j => .int (i - j)) (tCall spTake [] E0 (tCons (tVar 0) (tCons (tOp (rI0 fun i j => .int (i + j)) (tVar 3) (tCB rInt1 (tCons (tVar 4) tNil))) tNil))) (tCB rInt1 (tCons (tVar 4) tNil))) rfl sc_law_worths.nd (pi_list (pv 1)) (blkOk_by (own := [("_law_name", 2), ("_law_size", 3), ("_law_is_may", 4)]) (N := ["_law_pot_here", "_law_keys_here", "_law_name", "_law_size", "_law_is_may"]) (sc := defScope d_law_worths) (by decide +kernel)) (fun _ _ _ _ _ => (pg_tup rfl (pgs_cons (pg_name (i := 2) sc_law_worths.nd rfl (Or.inl rfl)) (pgs_cons (pg_name (i := 3) sc_law_worths.nd rfl (Or.inl rfl)) (pgs_cons (pg_name (i := 4) sc_law_worths.nd rfl (Or.inl rfl)) pgs_nil))))) (fun _ _ _ _ _ => pts_nil) (fun _ _ _ _ _ => (pe_op op_sub (pe_callF (ok_law_take T) (hr.mono (by decide)) rfl (pa_cons (pv 0) (pa_cons (pe_op op_add (pv 3) (pe_callTy call_int1 (by rfl) bint (by decide +kernel) (pa_cons (pv 4) pa_nil))) pa_nil))) (pe_callTy call_int1 (by rfl) bint (by decide +kernel) (pa_cons (pv 4) pa_nil))))))), ?_⟩
  have hbig := sizeLine_big
  obtain ⟨p, l, ts, ks, b, rfl, hP, hl, hK, hk, hb, hQ⟩ := h
  have hlp : l ≠ p := fun z => by
    obtain ⟨_, _, _, h, _⟩ := hP
    rw [z, show H p = _ from h] at hl
    have h1 := Option.some.inj hl
    injection h1 with h1
    cases ts with
    | nil => cases h1
    | cons t r => cases h1
  refine ⟨_, rfl, l, rfl, ⟨_, SqL.of hl⟩, fun D nD => ?_⟩
  have hDp := hP.ne nD
  have h4 := hk.four
  have hlen : ts.length = ks.length := Paired.length hK
  refine lc_list (xs := ts.map V.ref) (fun i G => ∃ ws : List Int, G D = some (.lst (ws.map V.int)) ∧ WOk (ks.take i) ws ∧ (∀ a o, a ≠ D → a ≠ p → H a = some o → G a = some o) ∧ Pot G p (b + i)) ⟨[], upd_same, .nil, fun a o ha hap e => (upd_ne ha).trans e, ?_⟩ (fun i G _ q => ?_) (fun i v G hi q => ?_) (fun G q => ?_)
  · obtain ⟨n0, n1, n2, g1, g2⟩ := hP
    exact ⟨n0, n1, n2, (upd_ne (Ne.symm hDp)).trans g1, g2⟩
  · obtain ⟨ws, q1, q2, q3, q4⟩ := q
    exact SqL.of (q3 _ _ (ne_of_none hl nD) hlp hl)
  · obtain ⟨ws, q1, q2, q3, q4⟩ := q
    rw [List.getElem?_map] at hi
    obtain ⟨t, ht, rfl⟩ := Option.map_eq_some_iff.mp hi
    obtain ⟨k, hkk, htk⟩ := Paired.get? hK ht
    have hko := hk.ok k (List.mem_of_getElem? hkk)
    have hi4 : i < ks.length := (List.getElem?_eq_some_iff.mp hkk).1
    have htp : t ≠ p := fun z => by
      obtain ⟨_, _, _, h, _⟩ := hP
      rw [z, show H p = _ from h] at htk
      cases htk
    have htk2 := q3 _ _ (ne_of_none htk nD) htp htk
    have em := int_b k.may
    have hm1 := nat_b k.may
    have hsz : 2 ≤ k.size ∧ k.size ≤ 3 := by rcases hko.sz with e | e <;> omega
    refine ⟨t, _, rfl, SqT.of htk2, rfl, _, _, rfl, _, _, rfl, _, _, rfl, rfl, rfl, ?_⟩
    dsimp only [tYes]
    rw [if_pos rfl]
    refine ⟨_, rfl, _, rfl, _, rfl, .inr ⟨_, rfl, _, _, rfl, rfl, p, (k.size : Int) + (if k.may = true then 1 else 0), _, rfl, q4, by omega, by omega, by omega, fun d G2 d0 d1 k2 hP2 => ?_⟩⟩
    refine ⟨_, rfl, .inr ⟨_, rfl, _, _, rfl, rfl, ?_⟩⟩
    have hwl : ws.length = i := by
      have : _ = _ := Paired.length q2
      rw [List.length_take] at this
      omega
    refine ⟨_, k2 _ _ hDp q1, by rw [List.length_map]; omega, ws ++ [d - (if k.may = true then 1 else 0)], by rw [upd_same, List.map_append]; rfl, ?_, fun a o ha hap e => (upd_ne ha).trans (k2 _ _ hap (q3 a o ha hap e)), ?_⟩
    · rw [List.take_add_one, hkk]
      refine Paired.snoc ⟨?_, by omega⟩ q2
      unfold KeyR.lo
      by_cases hm : k.may = true
      · rw [if_pos hm, if_pos hm]; omega
      · rw [if_neg hm, if_neg hm]; omega
    · obtain ⟨n0, n1, n2, g1, g2⟩ := hP2
      exact ⟨n0, n1, n2, (upd_ne (Ne.symm hDp)).trans g1, g2⟩
  · obtain ⟨ws, q1, q2, q3, q4⟩ := q
    rw [List.length_map, hlen] at q2 q4
    rw [List.take_length] at q2
    exact hQ ws D G q2 (fun a o hap e => q3 a o (ne_of_none e nD) hap e) (q4.mono (by omega)) nD q1
theorem sc_law_let : FnScope ["_law_held", "_law_name", "_law_thing"] ["_law_held", "_law_name", "_law_thing"] (defScope d_law_let) := ⟨rfl, rfl, rfl, by decide +kernel, rfl, by decide +kernel, by decide +kernel⟩
theorem ok_law_let (T : Pr K mg) (R : Er P w K mg base) : FOkX P w K mg base 6 "_law_let" ["_law_held", "_law_name", "_law_thing"] (spSet K) := by
  obtain ⟨fd, F⟩ := T.f_law_let
  refine FOkX.of F (T.glo _ (by decide +kernel)) sc_law_let (fun _ _ _ _ _ _ us hl => match us, hl with | [_, _, _], _ => rfl) (fun vs H Q E h => ?_) (fun cdv A outer s H vs Q E hr h => ?_)
  · obtain ⟨_, _, _, _, _, _, _, _, _, rfl, _⟩ := h; rfl
  refine ⟨_, (pss_one (ps_putOwn (MOkX.dun (ok_Store_set T R) (dunF T (by decide +kernel))) (T.isi "Store" (by decide +kernel)).ns (hr.mono (by decide)) (passes_call (takes_of rfl rfl rfl rfl) fun _ _ _ _ h => h) (pv 0) (pv 1) (pv 2) rfl)), ?_⟩
  obtain ⟨a, b, kr, wa, ks, ws, v, x, d, rfl, hS, h⟩ := h
  have hS' := hS
  obtain ⟨⟨dx, hs1, hs2⟩, hb, hl⟩ := hS
  exact ⟨_, rfl, _, rfl, _, rfl, a, dx, _, rfl, hs1, a, b, kr, wa, ks, ws, v, x, d, rfl, hS', h⟩
end
end KP

/-! list.count over plain values; the length of the slots known to a wish. -/
namespace G137
open PySem PySem.Spec PyProof.Rows L2
def rCntF (K : PySem.W.Frag) : V → List V → Hp → VK → Prop := fun x xs H Q => ∃ (a : Addr) (ys : List V) (y : V), x = V.ref a ∧ xs = [y] ∧ SqL K H a ys ∧ flatV y = true ∧ ys.all flatV = true ∧ Q (.int (ys.countP fun z => eqV z y : Nat)) H
theorem countU {y : V} : ∀ {ys : List V} {us : List Value}, Vals ys us → ys.all flatV = true → us.countP (eqU y) = ys.countP fun z => eqV z y
  | _, _, .nil, _ => rfl
  | _, _, .cons r t, h => by
    rw [List.all_cons, Bool.and_eq_true] at h
    rw [List.countP_cons, List.countP_cons, countU t h.2, eqU_of r h.1]
theorem mt_countF {X : Cx} : MtR X "list.count" (rCntF X.K) := by
  intro pins s σ H x xs v us Q I rx rxs h
  obtain ⟨a, ys, y, rfl, rfl, hs, fy, fys, q⟩ := h
  cases rx
  cases rxs with
  | cons ry rt =>
    rename_i uy ut
    cases rt
    obtain ⟨its, rv, ⟨⟨cls, dd, data, sl⟩, n, ho, hc, hdn, hd⟩, hlen⟩ := I.list hs
    simp only at hc hd
    subst hc hd
    refine call_meets PySem.F.slot_list_count ⟨_, ho, rfl⟩ PySem.F.entry_list_count (PySem.F.args_list_count_2 _ _) (SeqAt.list_countAt a its.toArray n dd sl uy (eqU y)) ⟨ho, fun u' hu' => mem_eqAt ry fy rv fys u' (by simpa using hu'), ?_⟩
    have ec : its.toArray.toList.countP (eqU y) = ys.countP fun z => eqV z y := countU rv fys
    rw [ec]
    exact ⟨.int (ys.countP fun z => eqV z y : Nat), H, I.tok _, ⟨_, rfl⟩, q⟩
/-- a wish may lean on the number of slots -/
theorem takes_len {X : Cx} {W : WX} (t : Takes X W) : Takes X (fun cls d σ H => σ.length = X.N.length → W cls d σ H) := fun u s' ⟨a, B, sI, pins, σ, H, cls, d, e, I, nb, up, sky, na, os, ag, w⟩ =>
  t u s' ⟨a, B, sI, pins, σ, H, cls, d, e, I, nb, up, sky, na, os, ag, w I.len⟩
end G137
/-! the law: what a call told, heard. -/
namespace KP
open PySem PySem.Spec PyProof.Rows L2 G137 SlX
def gHrd : List Str := ["BadStore", "NoKey", "Gone", "BadWorth", "Lasting"]
def THeard (K : Frag) : (XK → Hp → VK → Prop) → Hp → VK → Prop := fun tl H Q => ∀ H0, Same H H0 →
  tl (fun cls d H' => ∃ x ∈ gHrd, ∃ dd v, cls = .ref (cA K x) ∧ d = some dd ∧ H' dd = some (.xd [("value", v)]) ∧ ∀ H'' t, Same H' H'' → H' t = none → H'' t = some (.tup [.str x, v]) → Q (.ref t) H'') H0
    (fun v H' => ∀ t, H' t = none → Q (.ref t) (upd H' t (.tup [.str "fine", v])))
theorem sc_law_heard : FnScope ["_law_call", "_law_caught", "_law_back", "error", "_law_marks", "_law_words"] ["_law_call"] (defScope d_law_heard) := ⟨rfl, rfl, rfl, by decide +kernel, rfl, by decide +kernel, by decide +kernel⟩
def hrdM (x : Str) : List Bool := [x == "BadStore", x == "NoKey", x == "Gone"] ++ [x == "BadWorth", x == "Lasting"]
theorem hrd_at : ∀ x ∈ gHrd, ∃ j : Nat, (Txt.split "BadStore NoKey Gone BadWorth Lasting" " ")[j]? = some x ∧ (hrdM x)[j]? = some true ∧ (∀ m : Nat, m < j → (hrdM x)[m]? = some false) ∧ (((hrdM x).map V.bl).countP fun z => eqV z (.bl true)) = 1 := by
  have e : Txt.split "BadStore NoKey Gone BadWorth Lasting" " " = gHrd := by decide +kernel
  rw [e]
  intro x hx
  unfold gHrd at hx
  simp only [List.mem_cons, List.not_mem_nil, or_false] at hx
  rcases hx with rfl | rfl | rfl | rfl | rfl
  · exact ⟨0, rfl, by decide +kernel, by decide +kernel, by decide +kernel⟩
  · exact ⟨1, rfl, by decide +kernel, by decide +kernel, by decide +kernel⟩
  · exact ⟨2, rfl, by decide +kernel, by decide +kernel, by decide +kernel⟩
  · exact ⟨3, rfl, by decide +kernel, by decide +kernel, by decide +kernel⟩
  · exact ⟨4, rfl, by decide +kernel, by decide +kernel, by decide +kernel⟩
theorem pe_wk {X : Cx} {e : Expr} {te : TE} (he : PE X e te) : PE X e (fun σ H Q => ∃ Q' : VK, te σ H Q' ∧ ∀ v H', Q' v H' → Q v H') :=
  ⟨fun pins s σ H Q I ⟨Q', h, k⟩ => wpAny_mono (he.run pins s σ H Q' I h) (fun u s' ⟨x, H', I', r, q⟩ => ⟨x, H', I', r, k _ _ q⟩) (fun _ _ x => x)⟩
theorem heard_gives {X : Cx} (T : Pr X.K X.mg) (R : Er X.prog X.w X.K X.mg X.base) {g : Addr} {cdg : Value} {q : Str} :
    LamX.GivesTo X ["_law_call", "_law_caught", "_law_back", "error", "_law_marks", "_law_words"] "_law_heard" (defScope d_law_heard) g cdg (defBody d_law_heard) "_law_call" q (THeard X.K) := by
  intro f c' s H Q tl act hc h
  have bisinstance := T.fre "isinstance" (by decide +kernel)
  refine ⟨_, (pss_cons (ps_asg (pe_tup (pa_cons pe_non (pa_cons pe_non pa_nil))) (pg_tup rfl (pgs_cons (pg_name (i := 1) sc_law_heard.nd rfl (Or.inl rfl)) (pgs_cons (pg_name (i := 2) sc_law_heard.nd rfl (Or.inl rfl)) pgs_nil))))
    (pss_cons (ps_try_keep (X := (cxOf C8.CX0 X.prog X.w X.K X.mg X.base ["_law_call", "_law_caught", "_law_back", "error", "_law_marks", "_law_words"] "_law_heard" (defScope d_law_heard) g cdg X.A X.stack s H C8.E0).nox)
      (tb := fun W D σ H => ∃ (Ech : XK) (Qr : VK), (∀ cls d σ' H', Ech cls d H' → σ'.length = 6 → W cls d σ' H') ∧ σ[0]? = some (some (.ref f)) ∧ H c' = some (LamX.CodeO c' q) ∧ tl Ech H Qr ∧ ∀ v H', Qr v H' → D.nx (σ.set 2 (some v)) H')
      rfl rfl sc_law_heard.nd takes0 (fun W pn xe tk _ => ?_)
      (HdsK.cons (i := 3) rfl rfl ⟨rfl, by decide, .inl (T.glo "OnlyError" (by decide +kernel))⟩ (fun a oe cls d pn _ _ => pss_one (ps_set (i := 1) sc_law_heard.nd rfl (Or.inl rfl) (pv 3))) .nil))
    (pss_cons (ps_if (pt_cmpR op_isN (pv 1) pe_non (nomark _))
      (pss_one (ps_ret (pe_tup (pa_cons pe_str (pa_cons (pv 2) pa_nil)))))
      pss_nil)
    (pss_cons (ps_set (i := 4) sc_law_heard.nd rfl (Or.inl rfl) (pe_lst (pa_cons (pe_callB call_isX (by rfl) bisinstance boot_isinstance (pa_cons (pv 1) (pa_cons (pe_glob (v := .ref (cA X.K "BadStore")) rfl (T.glo "BadStore" (by decide +kernel)) rfl) pa_nil))) (pa_cons (pe_callB call_isX (by rfl) bisinstance boot_isinstance (pa_cons (pv 1) (pa_cons (pe_glob (v := .ref (cA X.K "NoKey")) rfl (T.glo "NoKey" (by decide +kernel)) rfl) pa_nil))) (pa_cons (pe_callB call_isX (by rfl) bisinstance boot_isinstance (pa_cons (pv 1) (pa_cons (pe_glob (v := .ref (cA X.K "Gone")) rfl (T.glo "Gone" (by decide +kernel)) rfl) pa_nil))) pa_nil)))))
    (pss_cons (ps_set (i := 4) sc_law_heard.nd rfl (Or.inl rfl) (pe_op (op_cat) (pv 4) (pe_lst (pa_cons (pe_callB call_isX (by rfl) bisinstance boot_isinstance (pa_cons (pv 1) (pa_cons (pe_glob (v := .ref (cA X.K "BadWorth")) rfl (T.glo "BadWorth" (by decide +kernel)) rfl) pa_nil))) (pa_cons (pe_callB call_isX (by rfl) bisinstance boot_isinstance (pa_cons (pv 1) (pa_cons (pe_glob (v := .ref (cA X.K "Lasting")) rfl (T.glo "Lasting" (by decide +kernel)) rfl) pa_nil))) pa_nil)))))
    (pss_cons (ps_set (i := 5) sc_law_heard.nd rfl (Or.inl rfl) (pe_split pe_str pe_str))
    (pss_cons (ps_if (pt_cmpR op_ne (pe_bm PySem.F.plainAttrs_list PySem.F.slot_list_count PySem.F.type_list_count mt_countF (pv 4) (pa_cons pe_bl pa_nil)) pe_int (nomark _))
      (pss_one G137.ps_never)
      pss_nil)
    (pss_one (ps_ret (pe_tup (pa_cons (pe_ix ix_list (pv 5) (pe_bm PySem.F.plainAttrs_list PySem.F.slot_list_index PySem.F.type_list_index mt_index (pv 4) (pa_cons pe_bl pa_nil)) (fun _ _ => rfl)) (pa_cons (pe_exv (pv 1)) pa_nil)))))))))))), ?_⟩
  · refine ⟨fun pins s' σ H' D I h' => ?_⟩
    obtain ⟨Ech, Qr, hW, h1, h2, h3, h4⟩ := h'
    exact (pss_one (ps_set (i := 2) sc_law_heard.nd rfl (Or.inl rfl) (pe_wk (act (fun cls d σ' H' => σ'.length = 6 → W cls d σ' H') pn xe Ech _ _ (takes_len tk) (fun cls d σ' H' e l => hW cls d σ' H' e l))))).run pins s' σ H' D I ⟨Qr, ⟨h1, h2, h3⟩, h4⟩
  have hbig := sizeLine_big
  refine ⟨by show 2 ≤ sizeLine; decide, fun t nt => ⟨t, _, rfl, SqT.of upd_same, rfl, _, _, rfl, _, _, rfl, rfl, ?_⟩⟩
  have u0 := same_upd (o := .tup [V.non, V.non]) nt
  have h := h _ u0
  have hc := u0 _ _ hc
  refine ⟨_, _, fun cls d σ' H' e hl => ?_, rfl, hc, h, fun v H' hq => ?_⟩
  · obtain ⟨x, hx, dd, v, rfl, rfl, hdd, hQ⟩ := e
    have hxe : x ∈ gExc := by
      have : ∀ y ∈ gHrd, y ∈ gExc := by decide +kernel
      exact this x hx
    match σ', hl with
    | [a0, a1, a2, a3, a4, a5], _ =>
      refine ⟨true, R.exm x hxe, fun _ a na => ⟨_, rfl, fun na' => ?_⟩, fun z => nomatch z⟩
      refine ⟨_, rfl, rfl, _, rfl, iN rfl ?_⟩
      have u1 : Same H' (upd H' a (ExK (.ref (cA X.K x)) (some dd) a)) := same_upd na
      have ha1 : upd H' a (ExK (.ref (cA X.K x)) (some dd) a) a = _ := upd_same
      show (_ : Hp → Prop) (upd H' a (ExK (.ref (cA X.K x)) (some dd) a))
      generalize upd H' a (ExK (.ref (cA X.K x)) (some dd) a) = G1 at u1 ha1 ⊢
      have hd1 := u1 _ _ hdd
      refine ⟨_, rfl, a, _, dd, _, .ref (cA X.K "BadStore"), .ref (cA X.K "BadStore"), (x == "BadStore"), rfl, R.k x hxe, ha1, hd1, fun u r => r, R.kit x hxe _ (by decide +kernel), _, rfl, a, _, dd, _, .ref (cA X.K "NoKey"), .ref (cA X.K "NoKey"), (x == "NoKey"), rfl, R.k x hxe, ha1, hd1, fun u r => r, R.kit x hxe _ (by decide +kernel), _, rfl, a, _, dd, _, .ref (cA X.K "Gone"), .ref (cA X.K "Gone"), (x == "Gone"), rfl, R.k x hxe, ha1, hd1, fun u r => r, R.kit x hxe _ (by decide +kernel), by show 3 ≤ sizeLine; decide, fun l1 n1 => ?_⟩
      have u2 : Same G1 (upd G1 l1 (.lst ([x == "BadStore", x == "NoKey", x == "Gone"].map V.bl))) := same_upd n1
      have hl1 : upd G1 l1 (.lst ([x == "BadStore", x == "NoKey", x == "Gone"].map V.bl)) l1 = _ := upd_same
      show (_ : Hp → Prop) (upd G1 l1 (.lst ([x == "BadStore", x == "NoKey", x == "Gone"].map V.bl)))
      generalize upd G1 l1 (.lst ([x == "BadStore", x == "NoKey", x == "Gone"].map V.bl)) = G2 at u2 hl1 ⊢
      have ha2 := u2 _ _ ha1
      have hd2 := u2 _ _ hd1
      refine ⟨_, rfl, _, rfl, a, _, dd, _, .ref (cA X.K "BadWorth"), .ref (cA X.K "BadWorth"), (x == "BadWorth"), rfl, R.k x hxe, ha2, hd2, fun u r => r, R.kit x hxe _ (by decide +kernel), _, rfl, a, _, dd, _, .ref (cA X.K "Lasting"), .ref (cA X.K "Lasting"), (x == "Lasting"), rfl, R.k x hxe, ha2, hd2, fun u r => r, R.kit x hxe _ (by decide +kernel), by show 2 ≤ sizeLine; decide, fun l2 n2 => ?_⟩
      have u3 : Same G2 (upd G2 l2 (.lst ([x == "BadWorth", x == "Lasting"].map V.bl))) := same_upd n2
      refine ⟨l1, l2, _, _, rfl, rfl, u3 _ _ hl1, upd_same, by show 3 + 2 ≤ sizeLine; omega, fun l3 n3 => ?_⟩
      have u4 : Same (upd G2 l2 (.lst ([x == "BadWorth", x == "Lasting"].map V.bl))) (upd (upd G2 l2 (.lst ([x == "BadWorth", x == "Lasting"].map V.bl))) l3 (.lst ((hrdM x).map V.bl))) := same_upd n3
      have hl3 : upd (upd G2 l2 (.lst ([x == "BadWorth", x == "Lasting"].map V.bl))) l3 (.lst ((hrdM x).map V.bl)) l3 = _ := upd_same
      have u14 := u1.trans (u2.trans (u3.trans u4))
      have ha4 := u4 _ _ (u3 _ _ ha2)
      have hd4 := u4 _ _ (u3 _ _ hd2)
      show (_ : Hp → Prop) (upd (upd G2 l2 (.lst ([x == "BadWorth", x == "Lasting"].map V.bl))) l3 (.lst ((hrdM x).map V.bl)))
      generalize upd (upd G2 l2 (.lst ([x == "BadWorth", x == "Lasting"].map V.bl))) l3 (.lst ((hrdM x).map V.bl)) = G4 at u14 hl3 ha4 hd4 ⊢
      refine ⟨⟨_, rfl⟩, _, _, rfl, rfl, by decide +kernel, ?_, ?_⟩
      · show 36 + 2 ≤ sizeLine; omega
      intro l5 n5
      obtain ⟨j, hj1, hj2, hj3, hj4⟩ := hrd_at x hx
      have u5 := same_upd (o := .lst ((Txt.split "BadStore NoKey Gone BadWorth Lasting" " ").map V.str)) n5
      have hl5 : upd G4 l5 (.lst ((Txt.split "BadStore NoKey Gone BadWorth Lasting" " ").map V.str)) l5 = _ := upd_same
      generalize upd G4 l5 (.lst ((Txt.split "BadStore NoKey Gone BadWorth Lasting" " ").map V.str)) = G5 at u5 hl5 ⊢
      have hm5 := u5 _ _ hl3
      have hfl : ((hrdM x).map V.bl).all flatV = true := by
        rw [List.all_map]
        exact List.all_eq_true.mpr fun _ _ => rfl
      refine ⟨_, rfl, .inl ⟨rfl, _, SqL.of hm5⟩, l3, _, .bl true, rfl, rfl, SqL.of hm5, rfl, hfl, rfl, _, rfl, ?_⟩
      refine iN (by rw [hj4]; rfl) ?_
      refine ⟨_, rfl, _, rfl, .inl ⟨rfl, _, SqL.of hm5⟩, l3, _, .bl true, j, .bl true, rfl, rfl, SqL.of hm5, rfl, hfl, by rw [List.getElem?_map, hj2]; rfl, rfl, fun m z hm hz => ?_, ?_⟩
      · rw [List.getElem?_map, hj3 m hm] at hz
        cases hz
        rfl
      refine ⟨l5, _, _, .str x, rfl, rfl, SqL.of hl5, atI_nat (j := j) (by rw [List.getElem?_map, hj1]; rfl), ?_⟩
      refine ⟨_, rfl, a, _, dd, _, v, rfl, R.k x hxe, (R.m x hxe).c.vn, u5 _ _ ha4, u5 _ _ hd4, rfl, ?_⟩
      refine ⟨by show 2 ≤ sizeLine; decide, fun t9 n9 => ?_⟩
      exact hQ _ t9 (u14.trans (u5.trans (same_upd n9))) ((u14.trans u5).free n9) upd_same
  · refine ⟨_, rfl, rfl, _, rfl, iY rfl ?_⟩
    exact ⟨_, rfl, by show 2 ≤ sizeLine; decide, fun t nt => hq t nt⟩
end KP

/-! defs that are called where no guard stands, their code object known. -/
namespace G137
open PySem PySem.Spec PyProof.Rows L2
theorem fnG_ofC {CX : CXT} {P : Program} {w : World} {K : PySem.W.Frag} {mg : Str → Option Value} {base : Heap} {k : Nat} {x : Str} {params : Arguments} {body : List Stmt} {scope : Scope} {dvs : List V} {kws : List (Str × V)} {fd : FuncData}
    {N ps : List Str} {sp : Sp} (F : FunD K x x params body scope dvs kws (He.ga K x) fd) (S : FnScope N ps scope)
    (len : ∀ vs H Q E, sp vs H Q E → vs.length = ps.length)
    (hbody : ∀ (A : Around) (outer : List Env) (s : Shared) (H : Hp) (vs : List V) (Q : VK) (E : XK), A.guards = some [] → Room k (A.deeper (envOfC x scope s.heap.objs.size (He.ga K x) (.ref (He.cT K (x, none)).1))) → sp vs H Q E →
      ∃ t, PSs (cxOf CX P w K mg base N x scope (He.ga K x) (.ref (He.cT K (x, none)).1) A outer s H E) body t ∧ t { nx := fun _ H' => Q .non H', rt := Q } (start N vs) H) :
    FnG P w K mg base CX (k + 1) (He.ga K x) fd ps sp := by
  obtain ⟨oc, od, dV, kV, doc, pm, an, cdv, ct, osl, rfl, lk, hcd, d1, d2⟩ := F.ex
  obtain ⟨c, rfl⟩ := He.codeIn_ref hcd
  have ec : (He.cT K (x, none)).1 = c := He.codeOf_eq (p := (x, none)) (show K.lookup (He.fAd K (x, none)) = _ from lk) rfl
  rw [ec] at hbody
  refine ⟨len, fun A outer s H args us vs Q E hgd hr e0 hb r hsp => ?_⟩
  have hl := len _ _ _ _ hsp
  have KX : K.In s.heap := e0.mod.kin.keeps fun b o e => (e0.bs b o e).1
  have lim : s.heap.NoLimit := e0.mod.nolimit.keeps fun b o e => (e0.bs b o e).1
  have hkind : ∀ y ∈ ps.zip us, scope.names.lookup y.1 = some .local ∨ (scope.names.lookup y.1 = some .cell ∧ ((cellsFrom (s.heap.objs.size + 1) scope.names []).lookup y.1).isSome = true) := fun ⟨n, v⟩ hy =>
    (S.par n (List.of_mem_zip hy).1).elim .inl fun q => .inr ⟨q, PySem.W.cellsFrom_some _ _ _ (.inl q)⟩
  refine codeAny_call_function hr.depth (KX _ _ lk) rfl S.co S.gen rfl (PySem.W.codeRec_of KX hcd) (hb _ _ _ _ ?_)
  refine wpAny_newFunctionEnv_cells S.kind hkind fun env he s1 z => ?_
  subst he
  obtain ⟨t, ht, hq⟩ := hbody A outer s H vs Q E hgd (hr.deeper _) hsp
  have I : Inv (cxOf CX P w K mg base N x scope (He.ga K x) (.ref c) A outer s H E) [] (start N vs) H s1 := inv_start S hr.hd e0 hl r z
  refine ⟨lim.keeps z.toInCall.keep, codeAny_func (wpAny_mono (ht.run [] s1 (start N vs) H _ I hq) (fun fl s' hs => ?_) fun e s' hs => hs)⟩
  match fl, hs with
  | .ret u, ⟨v, σ', H', J, rv, q⟩ => exact ⟨v, H', J.os, J.bare, J.base, J.hok, rv, q⟩
  | .next, ⟨σ', H', J, q⟩ => exact ⟨V.non, H', J.os, J.bare, J.base, J.hok, rfl, q⟩
  | .brk, ⟨_, _, _, q⟩ => exact False.elim q
  | .cont, ⟨_, _, _, q⟩ => exact False.elim q
/-- a global def, called where no guard stands -/
structure FOkG (P : Program) (w : World) (K : PySem.W.Frag) (mg : Str → Option Value) (base : Heap) (k : Nat) (x : Str) (ps : List Str) (sp : Sp) : Prop where
  ex : ∃ (f : Addr) (fd : FuncData), FnG P w K mg base CX0 k f fd ps sp ∧ Binds K fd ps [] ∧ mg x = some (.ref f) ∧ PySem.W.keepIn K (.ref f) = true
section
variable {P : Program} {w : World} {K : PySem.W.Frag} {mg : Str → Option Value} {base : Heap} {k : Nat} {x : Str} {st : Stmt} {fd : FuncData} {N ps : List Str} {sp : Sp}
theorem FOkG.of (F : FunD K x x (defArgs st) (defBody st) (defScope st) [] [] (He.ga K x) fd) (hm : mg x = some (.ref (He.ga K x))) (S : FnScope N ps (defScope st))
    (hb : ∀ (kV doc pm : Value) (an : Option Addr) (cdv ct : Value) (us : List Value), us.length = ps.length → bindArgs (PySem.W.fnOf x x (defArgs st) (defBody st) (defScope st) .none kV doc pm an cdv ct) ⟨us, []⟩ = pure (ps.zip us))
    (len : ∀ vs H Q E, sp vs H Q E → vs.length = ps.length)
    (body : ∀ (A : Around) (outer : List Env) (s : Shared) (H : Hp) (vs : List V) (Q : VK) (E : XK), A.guards = some [] → Room k (A.deeper (envOfC x (defScope st) s.heap.objs.size (He.ga K x) (.ref (He.cT K (x, none)).1))) → sp vs H Q E →
      ∃ t, PSs (cxOf CX0 P w K mg base N x (defScope st) (He.ga K x) (.ref (He.cT K (x, none)).1) A outer s H E) (defBody st) t ∧ t { nx := fun _ H' => Q .non H', rt := Q } (start N vs) H) : FOkG P w K mg base (k + 1) x ps sp :=
  ⟨He.ga K x, fd, fnG_ofC F S len body, F.bindsN hb, hm, F.kp⟩
end
section
variable {X : Cx} {k : Nat} {x : Str} {ps : List Str} {sp : Sp} {p pos : Pos} {e : Expr} {es : List Expr} {t : TA}
theorem pe_callGF (h : FOkG X.prog X.w X.K X.mg X.base k x ps sp) (hgd : X.A.guards = some []) (hr : Room k X.A) (hg : Gl X x) (ha : PA X (e :: es) t) (hdb : (x == ("__debug__" : Str)) = false := by decide)
    (he : starEach (e :: es) X.env = (false, eval e X.env) :: starEach es X.env := by rfl) (hpl : (backTo pos (starEach es X.env)).any (·.1) = false := by rfl) : PE X (.Call (.Name x p) (e :: es) [] pos) (tCall sp [] E0 t) := by
  obtain ⟨f, fd, F, b, hm, kp⟩ := h.ex
  exact pe_callG F hgd hr hg hm kp b .nil pass0 ha hdb he hpl
end
end G137
/-! the law: lambdas handed to heard. -/
namespace KP
open PySem PySem.Spec PyProof.Rows L2 G137 SlX
def lamFns : List He.Defn := [("_law_turn", none), ("_law_refused_right", none)]
def lamQ (x : Str) : Str := (envOfC x (defScope d_law_turn) 0 0 .none).qual ++ "<lambda>"
def lamT (K : Frag) : List (Addr × Str) := [((He.cT K ("_law_turn", none)).2, lamQ "_law_turn"), ((He.cT K ("_law_refused_right", none)).2, lamQ "_law_refused_right")]
/-- the tables of the lambdas' code objects; sys.modules -/
structure Gd (K : Frag) (mg : Str → Option Value) (base : Heap) : Prop where
  tb : ∀ p ∈ lamFns, LamX.TabB base mg (He.cT K p).1 (He.cT K p).2
  ne : (He.cT K ("_law_turn", none)).2 ≠ (He.cT K ("_law_refused_right", none)).2
  sys : ∃ o, K.lookup sysModules = some o
theorem lamU {K : Frag} {mg : Str → Option Value} {base : Heap} (G : Gd K mg base) : ∀ p ∈ lamT K, ∀ r ∈ lamT K, p.1 = r.1 → p.2 = r.2 := by
  intro p hp r hr e
  unfold lamT at hp hr
  simp only [List.mem_cons, List.not_mem_nil, or_false] at hp hr
  rcases hp with rfl | rfl <;> rcases hr with rfl | rfl
  · rfl
  · exact absurd e G.ne
  · exact absurd e.symm G.ne
  · rfl
/-- _law_heard(lambda: body) -/
theorem pe_heard {X : Cx} {x : Str} (T : Pr X.K X.mg) (R : Er X.prog X.w X.K X.mg X.base) (G : Gd X.K X.mg X.base) (hx : (x, none) ∈ lamFns) (hxT : ((He.cT X.K (x, none)).2, X.env.qual ++ "<lambda>") ∈ lamT X.K) (hcode : X.env.code = .ref (He.cT X.K (x, none)).1) (hg : Gl X "_law_heard")
    {k : Nat} {params : Arguments} {body : Expr} {scope : Scope} {t : XK → TE} {p lpos pos : Pos} (hr : Room (k + 2) X.A) (L : LamX.LamS X.env.scope scope) (hdef : defaultsOf params X.env = ([], []))
    (hbind : ∀ (q : Str) (cl : List (Str × Addr)) (pm cv ctv : Value), bindArgs (PySem.W.kla_fn "<lambda>" q params body scope cl pm cv ctv) ⟨[], []⟩ = pure [])
    (hbody : ∀ (A : Around) (outer : List Env) (s : Shared) (H : Hp) (E : XK) (f c' : Addr), Room k (A.deeper (LamX.lamEnv X scope s.heap.objs.size f c')) → PE (LamX.lamCx X A outer s H E scope f c') body (t E)) :
    PE X (.Call (.Name "_law_heard" p) [.Lambda params body scope lpos] [] pos) (LamX.tLam (lamT X.K) (THeard X.K) t) := by
  obtain ⟨fd, F⟩ := T.f_law_heard
  have hb := F.bindsN (ps := ["_law_call"]) (fun _ _ _ _ _ _ us hl => match us, hl with | [_], _ => rfl)
  have hk := F.kp
  obtain ⟨oc, od, dV, kV, doc, pm, an, cdv, ct, osl, rfl, lk, hcd, d1, d2⟩ := F.ex
  exact LamX.pe_lamcall hg (T.glo "_law_heard" (by decide +kernel)) hk lk hcd hb sc_law_heard rfl (Or.inl rfl) (heard_gives T R) (G.tb _ hx) hcode hxT (fun r hr' e => (lamU G r hr' _ hxT e)) hr L hdef hbind hbody
section
variable {P : Program} {w : World} {K : Frag} {mg : Str → Option Value} {base : Heap}
theorem sc_law_refused_right : FnScope ["_law_own", "_law_keys_here", "_law_now", "_law_first", "_law_rest", "_law_odd", "_law_thing"] ["_law_own", "_law_keys_here", "_law_now"] (defScope d_law_refused_right) := ⟨rfl, rfl, rfl, by decide +kernel, rfl, by decide +kernel, by decide +kernel⟩
end
end KP

/-! Data with dicts by their keys, and its repr. -/
namespace G137
open PySem PySem.Spec PyProof.Rows L2
def keyD : Key → PyData
  | .inl i => .int i
  | .inr x => .str x
theorem pairs_flat {P : Program} {w : World} : ∀ {es : List DictEntry} {vs : List (Key × Value)} {kvs : List (Key × V)}, PySem.Pairs (mixKind P w) es vs → KV kvs vs → Paired FlatR (kvs.map fun kv => keyD kv.1) (es.map (·.key)) ∧ Vals (kvs.map (·.2)) (es.map (·.val))
  | _, _, _, .nil, .nil => ⟨.nil, .nil⟩
  | _, _, _, .cons (e := en) (kv := kv) hk hv hp, .cons (a := q) r1 r2 => by
    obtain ⟨i1, i2⟩ := pairs_flat hp r2
    refine ⟨.cons ?_ i1, .cons (show RelV q.2 en.val by rw [hv]; exact r1.2) i2⟩
    show FlatR (keyD q.1) en.key
    rw [show q.1 = kv.1 from r1.1]
    rcases keyIs_shape hk with ⟨i, t, e1, e2⟩ | ⟨x, t, e1, e2⟩
    · rw [e1, e2]; exact ⟨t, rfl⟩
    · rw [e1, e2]; exact ⟨t, rfl⟩
theorem dk_at {P : Program} {w : World} {H : Hp} {h : Heap} {a : Addr} {kvs : List (Key × V)} (hok : HOk P w H h) (e : H a = some (.dK kvs)) :
    ∃ o es n, h.get? a = some o ∧ o.cls = .type "dict" ∧ o.data = .dict es n ∧ Paired FlatR (kvs.map fun kv => keyD kv.1) (es.toList.map (·.key)) ∧ Vals (kvs.map (·.2)) (es.toList.map (·.val)) := by
  obtain ⟨_, _, vs, kv, o, es, ep, h1, h2, h3, _, hp, _⟩ := hok a _ e
  obtain ⟨i1, i2⟩ := pairs_flat hp kv
  exact ⟨o, es, ep, h1, h2.1, h3, i1, i2⟩
mutual
/-- v is the data d, all its objects tracked -/
inductive DT (H : Hp) : V → PyData → Prop
  | non : DT H .non .none
  | bl (b : Bool) : DT H (.bl b) (.bool b)
  | int (i : Int) : DT H (.int i) (.int i)
  | str (x : Str) : DT H (.str x) (.str x)
  | lst {a : Addr} {xs : List V} {ds : List PyData} : H a = some (.lst xs) → DTs H xs ds → DT H (.ref a) (.list ds)
  | tup {a : Addr} {xs : List V} {ds : List PyData} : H a = some (.tup xs) → DTs H xs ds → DT H (.ref a) (.tuple ds)
  | dk {a : Addr} {kvs : List (Key × V)} {ds : List PyData} : H a = some (.dK kvs) → DTs H (kvs.map (·.2)) ds → DT H (.ref a) (.dict ((kvs.map fun kv => keyD kv.1).zip ds))
inductive DTs (H : Hp) : List V → List PyData → Prop
  | nil : DTs H [] []
  | cons {v : V} {vs : List V} {d : PyData} {ds : List PyData} : DT H v d → DTs H vs ds → DTs H (v :: vs) (d :: ds)
end
mutual
theorem DT.mono {H H' : Hp} (e : ∀ b o, H b = some o → H' b = some o) : ∀ {v : V} {d : PyData}, DT H v d → DT H' v d
  | _, _, .non => .non
  | _, _, .bl b => .bl b
  | _, _, .int i => .int i
  | _, _, .str x => .str x
  | _, _, .lst h r => .lst (e _ _ h) (DTs.mono e r)
  | _, _, .tup h r => .tup (e _ _ h) (DTs.mono e r)
  | _, _, .dk h r => .dk (e _ _ h) (DTs.mono e r)
theorem DTs.mono {H H' : Hp} (e : ∀ b o, H b = some o → H' b = some o) : ∀ {v : List V} {d : List PyData}, DTs H v d → DTs H' v d
  | _, _, .nil => .nil
  | _, _, .cons h r => .cons (DT.mono e h) (DTs.mono e r)
end
theorem DTs.length {H : Hp} : ∀ {xs : List V} {ds : List PyData}, DTs H xs ds → xs.length = ds.length
  | _, _, .nil => rfl
  | _, _, .cons _ r => congrArg Nat.succ (DTs.length r)
mutual
theorem DT.reads {P : Program} {w : World} {H : Hp} {h : Heap} (ok : HOk P w H h) : ∀ {v : V} {d : PyData} {u : Value}, DT H v d → RelV v u → ∃ as, Reads h u d as ∧ ∀ b ∈ as, H b ≠ none
  | _, _, _, .non, r => by cases r; exact ⟨_, .none, fun b hb => nomatch hb⟩
  | _, _, _, .bl b, r => by cases r; exact ⟨_, .bool b, fun b hb => nomatch hb⟩
  | _, _, _, .int i, r => by obtain ⟨t, rfl⟩ := r; exact ⟨_, .int i t, fun b hb => nomatch hb⟩
  | _, _, _, .str x, r => by obtain ⟨t, rfl⟩ := r; exact ⟨_, .str x t, fun b hb => nomatch hb⟩
  | _, _, _, .lst (a := a) e q, r => by
    cases r
    obtain ⟨_, its, n, rv, ho⟩ := ok _ _ e
    obtain ⟨as, r1, r2⟩ := DTs.reads ok q rv
    refine ⟨_, .list ho rfl rfl (by simpa using r1), fun b hb => ?_⟩
    rcases List.mem_cons.mp hb with z | z
    · rw [z, e]; exact fun z => nomatch z
    · exact r2 b z
  | _, _, _, .tup (a := a) e q, r => by
    cases r
    obtain ⟨_, its, rv, tp⟩ := ok _ _ e
    obtain ⟨as, r1, r2⟩ := DTs.reads ok q rv
    exact isTup_reads tp r1 r2
  | _, _, _, .dk (a := a) e q, r => by
    cases r
    obtain ⟨o, es, n, ho, hc, hd, hk, hv⟩ := dk_at ok e
    obtain ⟨as, r1, r2⟩ := DTs.reads ok q hv
    have l1 := q.length
    have l2 : _ = _ := Paired.length hk
    have l3 : _ = _ := Paired.length hv
    simp only [List.length_map] at l1 l2 l3
    have l4 : (List.map (fun kv : Key × V => keyD kv.1) _).length = _ := (List.length_map _).trans l1
    refine ⟨_, .dict (as := []) ho hc hd (by rw [zip_fst l4]; exact flat_reads hk) (by rw [zip_snd l4]; exact r1), fun b hb => ?_⟩
    rcases List.mem_append.mp hb with z | z
    · rcases List.mem_cons.mp z with z | z
      · rw [z, e]; exact fun z => nomatch z
      · exact nomatch z
    · exact r2 b z
theorem DTs.reads {P : Program} {w : World} {H : Hp} {h : Heap} (ok : HOk P w H h) : ∀ {v : List V} {d : List PyData} {u : List Value}, DTs H v d → Vals v u → ∃ as, ReadsAll h u d as ∧ ∀ b ∈ as, H b ≠ none
  | _, _, _, .nil, r => by cases r; exact ⟨_, .nil, fun b hb => nomatch hb⟩
  | _, _, _, .cons q t, r => by
    cases r with
    | cons r1 r2 =>
      obtain ⟨as, h1, h2⟩ := DT.reads ok q r1
      obtain ⟨bs, h3, h4⟩ := DTs.reads ok t r2
      refine ⟨_, .cons h1 h3, fun b hb => ?_⟩
      rcases List.mem_append.mp hb with z | z
      · exact h2 b z
      · exact h4 b z
end

/-- repr(v), v data -/
def rReprT : List V → Hp → VK → Prop := fun xs H Q => ∃ v d, xs = [v] ∧ DT H v d ∧ d.showable = true ∧ d.depth ≤ 60 ∧ d.shown.length ≤ sizeLine ∧ Q (.str d.shown) H
theorem call_reprT {X : Cx} {osys : Obj} (hgd : X.A.guards = some []) (hu : X.A.units + 64 < cLine) (hsys : X.K.lookup sysModules = some osys) : CallR X (.builtin "repr") rReprT := by
  intro pins s σ H xs us Q I r h
  obtain ⟨v, d, rfl, hd, hs, hdp, hl, q⟩ := h
  obtain ⟨u, rfl, ru⟩ := vals1 r
  have hn : H sysModules = none := (I.bs sysModules osys (I.ok.mod.kin _ _ hsys)).2
  have fin : ∀ {h' : Heap} {tk tt : Nat}, (∀ b o, s.heap.get? b = some o → h'.get? b = some o) → EP X pins σ Q (.str d.shown tt) { s with heap := h', toks := tk } := fun {h' tk tt} k => ⟨.str d.shown, H, I.kept k, ⟨_, rfl⟩, q⟩
  have same : ∀ b o, s.heap.get? b = some o → s.heap.get? b = some o := fun _ _ e => e
  cases hd with
  | non => cases ru; exact PySem.P.repr_of_none (fin same)
  | bl b => cases ru; exact PySem.P.repr_of_bool (by cases b <;> exact fin same)
  | int i => obtain ⟨t, rfl⟩ := ru; exact PySem.P.repr_of_int (of_decide_eq_true hs) (fin same)
  | str x => obtain ⟨t, rfl⟩ := ru; exact PySem.P.repr_of_str (fin same) hl
  | lst e qq =>
    obtain ⟨as, r1, r2⟩ := DT.reads I.hok (.lst e qq) ru
    cases ru
    exact repr_of_reads' r1 hs (fun _ hb => r2 _ hb hn) hgd (by omega) same (fun h' u tk k => fin k) hl
  | tup e qq =>
    obtain ⟨as, r1, r2⟩ := DT.reads I.hok (.tup e qq) ru
    cases ru
    exact repr_of_reads' r1 hs (fun _ hb => r2 _ hb hn) hgd (by omega) same (fun h' u tk k => fin k) hl
  | dk e qq =>
    obtain ⟨as, r1, r2⟩ := DT.reads I.hok (.dk e qq) ru
    cases ru
    exact repr_of_reads' r1 hs (fun _ hb => r2 _ hb hn) hgd (by omega) same (fun h' u tk k => fin k) hl
end G137
/-! keywords: of a method, of a class. -/
namespace G137
open PySem PySem.Spec PyProof.Rows L2
section
variable {K : PySem.W.Frag} {x qual : Str} {params : Arguments} {body : List Stmt} {scope : Scope} {f : Addr} {fd : FuncData} {ps ks : List Str}
/-- a def without defaults: n values and the keywords ks -/
theorem FunD.kbindsN {n : Nat} {g : {α : Type} → List α → List α → List α} (F : FunD K x qual params body scope [] [] f fd) (hrel : ∀ {vs zs : List V} {us ws : List Value}, Vals vs us → Vals zs ws → Vals (g vs zs) (g us ws))
    (h : ∀ (kV doc pm : Value) (an : Option Addr) (cdv ct : Value) (us ws : List Value), us.length = n → ws.length = ks.length → bindArgs (PySem.W.fnOf x qual params body scope .none kV doc pm an cdv ct) ⟨us, ks.zip ws⟩ = pure (ps.zip (g us ws))) : KBn K fd ps n ks g g := by
  obtain ⟨oc, od, dV, kV, doc, pm, an, cdv, ct, osl, rfl, lk, hcd, hD, hK⟩ := F.ex
  rcases hD with ⟨_, rfl⟩ | ⟨e, _⟩
  · refine ⟨fun s us ws _ l1 l2 => ?_, hrel⟩
    intro M A Q E q
    rw [h kV doc pm an cdv ct us ws l1 l2]
    exact wpAny_pure q
  · exact absurd rfl e
end
section
variable {X : Cx} {CX : CXT} {k : Nat} {f C : Addr} {fd : FuncData} {ps ks : List Str} {sp : Sp} {E : XK} {m : Str} {pos apos : Pos} {o : Expr} {kws : List Keyword} {ta : TE} {tk : TA} {g : List Value → List Value → List Value} {gV : List V → List V → List V}
def tMethK (C : Addr) (m : Str) (n : Nat) (sp : Sp) (gV : List V → List V → List V) (E : XK) (ta : TE) (tk : TA) : TE := fun σ H Q => ta σ H fun x H1 => ∃ a dx fs, x = .ref a ∧ H1 a = some (.ins C dx fs) ∧ fs.lookup m = none ∧ tk σ H1 fun zs H2 => zs.length = n ∧ sp (gV [x] zs) H2 Q E
/-- o.m(k = v, ..) -/
theorem pe_methK0 {pl : Sem Bool} (he : PE X o ta) (c : Cls X.K C) (hm : Meth X.K C m f) (F : FnOk X.prog X.w X.K X.mg X.base CX k f fd ps sp) (hr : Room k X.A) (hb : KBn X.K fd ps 1 ks g gV) (hx : Passes CX X E) (hkw : PK X kws tk)
    (hall : (backToKw pos (keywordEach kws X.env)).all (·.1.isSome) = true := by rfl) (hks : (backToKw pos (keywordEach kws X.env)).filterMap (·.1) = ks := by rfl)
    (hpl : ((backTo pos (starEach [] X.env)).any (·.1) || (backToKw pos (keywordEach kws X.env)).any (·.1.isNone)) = false := by rfl)
    (ht : eval (.Call (.Attribute o m apos) [] kws pos) X.env = (do
      let ov ← eval o X.env
      standAt apos.atName
      let (f, first) ← holding [ov] (getMethod ov m pl)
      callWith pos f first (backTo pos (starEach [] X.env)) (backToKw pos (keywordEach kws X.env))) := by rfl) :
    PE X (.Call (.Attribute o m apos) [] kws pos) (tMethK C m ks.length sp gV E ta tk) := by
  refine ⟨fun pins s σ H Q I h => PySem.W.methodCall_KW (pl := pl) (thn (he.run pins s σ H _ I h) fun u s1 ⟨x, H1, I1, rx, a, dx, fs, ex, ea, l, q⟩ => ?_) ht⟩
  subst ex
  obtain rfl : u = Value.ref a := rx
  refine getmeth_ok I1 ea c hm l (PySem.W.callWith_KW0 (first := [.ref a]) (h₀ := X.base) I.ok.mod.kin hm.kp hall (thn (hkw.run pos pins s1 σ H1 _ I1 q) fun ws s2 ⟨zs, H2, I2, rz, hl, q2⟩ => ⟨I2.kIn, ?_⟩) hpl)
  rw [hks]
  have r2 : Vals (gV [V.ref a] zs) (g [Value.ref a] ws) := hb.rel (vs := [V.ref a]) (us := [Value.ref a]) (.cons rfl .nil) rz
  refine wpAny_call (codeAny_mono (F.run X.A X.stack s2 H2 ⟨[.ref a], ks.zip ws⟩ (g [.ref a] ws) (gV [.ref a] zs) Q E hr I2.env0 (hb.to s2 [.ref a] ws I2.kIn rfl (rz.length.symm.trans hl)) r2 q2) fun r s' hq => ?_)
  match r, hq with
  | .error e, hq => exact hx pins σ H2 s2 e s' I2 hq
  | .ok (.ret u), hq => exact I2.after hq
  | .ok .next, hq => exact False.elim hq
  | .ok .brk, hq => exact False.elim hq
  | .ok .cont, hq => exact False.elim hq
end
end G137
/-! the law: reprs of names and of what is no name. -/
namespace KP
open PySem PySem.Spec PyProof.Rows L2 G137 SlX
def sC : List Nat := abc.cps.toList ++ [32, 65]
theorem sC_char : ∀ c ∈ sC, Builtin.Str.reprChar 39 c = [c] := by decide +kernel
theorem fold_simple : ∀ (l : List Nat) (acc : Array Nat), (∀ c ∈ l, c ∈ sC) → (l.foldl (fun out c => out ++ (Builtin.Str.reprChar 39 c).toArray) acc).toList = acc.toList ++ l
  | [], acc, _ => by simp
  | c :: r, acc, h => by
    rw [List.foldl_cons, fold_simple r _ fun d hd => h d (List.mem_cons_of_mem _ hd), sC_char c (h c (List.mem_cons_self ..))]
    simp
theorem quote_simple {x : Str} (h : ∀ c ∈ TL.tl x, c ∈ sC) : reprQuote x = 39 := by
  unfold reprQuote
  have n39 : x.cps.contains 39 = false := by
    rw [← Bool.not_eq_true]
    intro z
    have : 39 ∈ TL.tl x := by
      have z' := Array.contains_iff.mp z
      exact Array.mem_toList_iff.mpr z'
    exact absurd (h _ this) (by decide +kernel)
  rw [n39]
  rfl
theorem repr_simple {x : Str} (h : ∀ c ∈ TL.tl x, c ∈ sC) : TL.tl (reprText x) = 39 :: (TL.tl x ++ [39]) := by
  unfold reprText
  rw [quote_simple h]
  show (Array.push _ 39).toList = _
  rw [Array.toList_push, ← Array.foldl_toList, fold_simple _ _ h]
  rfl
theorem repr_inj {x y : Str} (hx : ∀ c ∈ TL.tl x, c ∈ sC) (hy : ∀ c ∈ TL.tl y, c ∈ sC) (e : reprText x = reprText y) : x = y := by
  have := congrArg TL.tl e
  rw [repr_simple hx, repr_simple hy] at this
  exact TL.ext_tl (List.append_cancel_right (List.cons.inj this).2)
theorem name_sC {x : Str} (h : nameS x = true) : ∀ c ∈ TL.tl x, c ∈ sC := by
  unfold nameS allIn at h
  rw [Bool.and_eq_true] at h
  intro c hc
  exact List.mem_append_left _ (of_decide_eq_true (List.all_eq_true.mp h.2 c hc))
theorem repr_len {x : Str} (hx : ∀ c ∈ TL.tl x, c ∈ sC) : (reprText x).length = x.length + 2 := by
  rw [TL.len_tl, repr_simple hx, TL.len_tl x]
  simp
theorem repr_ne {x z : Str} (hx : ∀ c ∈ TL.tl x, c ∈ sC) (hz : (TL.tl z).head? ≠ some 39) : reprText x ≠ z := fun e => hz (by rw [← e, repr_simple hx]; rfl)
end KP

/-! the law: what is due. -/
namespace KP
open PySem PySem.Spec PyProof.Rows L2 G137 SlX
def dueR (ks : List KeyR) (ws : List Int) (deed : Str) (v x : V) : Str × V × List Int := match keyIx ks v with
  | none => ("NoKey", v, ws)
  | some i =>
    if deed = "read" then (if ws.getD i 0 = -1 then ("Gone", v, ws) else ("fine", .int (ws.getD i 0), ws))
    else if deed = "drop" then (if (ks.getD i ⟨"", 0, false⟩).may = true then (if ws.getD i 0 = -1 then ("Gone", v, ws) else ("fine", .non, ws.set i (-1))) else ("Lasting", v, ws))
    else match setB (ks.getD i ⟨"", 0, false⟩) x with
      | some z => ("fine", .non, ws.set i z)
      | none => ("BadWorth", x, ws)
/-- a value that may be taken for a name -/
structure NmOk (H : Hp) (ks : List KeyR) (v : V) (d : PyData) : Prop where
  dt : DT H v d
  sh : d.showable = true
  dp : d.depth ≤ 50
  ln : d.shown.length ≤ 500
  eq : ∀ k ∈ ks, decide (reprText k.name = d.shown) = decide (v = .str k.name)
def spDue (K : Frag) : Sp := fun vs H Q _ => ∃ (lk ln : Addr) (deed : Str) (v x : V) (ts : List Addr) (ks : List KeyR) (ws : List Int) (d : PyData), vs = [.ref lk, .ref ln, .str deed, v, x] ∧ H lk = some (.lst (ts.map V.ref)) ∧ KeyRows H ts ks ∧ KeysOk ks ∧ H ln = some (.lst (ws.map V.int)) ∧ ws.length = ks.length ∧ deed ∈ (["set", "drop", "read"] : List Str) ∧ NmOk H ks v d ∧ Pl H x ∧
  ∀ (r t l : Addr) (H' : Hp), Same H H' → H r = none → H' r = some (.tup [.ref t, .ref l]) → H' t = some (.tup [.str (dueR ks ws deed v x).1, (dueR ks ws deed v x).2.1]) → H' l = some (.lst ((dueR ks ws deed v x).2.2.map V.int)) → (l = ln ∨ H l = none) → Q (.ref r) H'
theorem setB_int (k : KeyR) (z : Int) : setB k (.int z) = if 0 ≤ z ∧ z < (k.size : Int) then some z else none := rfl
theorem setB_no {k : KeyR} {x : V} (h : isIntV x = false) : setB k x = none := by
  cases x with
  | int z => cases h
  | _ => rfl
theorem cut_set {ws : List Int} {i : Nat} {z : Int} (h : i < ws.length) : cutV (ws.map V.int) none (some (i : Int)) ++ [V.int z] ++ cutV (ws.map V.int) (some ((i : Int) + 1)) none = (ws.set i z).map V.int := by
  rw [cutV_to, show ((i : Int) + 1) = ((i + 1 : Nat) : Int) from rfl, cutV_from, List.set_eq_take_append_cons_drop, if_pos h, List.map_append, List.map_cons, List.map_take, List.map_drop, List.append_assoc]
  rfl
theorem keyIx_iff {ks : List KeyR} (hk : KeysOk ks) {i : Nat} {k : KeyR} (h : ks[i]? = some k) (v : V) : v = .str k.name ↔ keyIx ks v = some i := by
  have at_ : ∀ {i j : Nat} {a b : KeyR}, ks[i]? = some a → ks[j]? = some b → a.name = b.name → i = j := by
    intro i j a b ha hb e
    have hi := (List.getElem?_eq_some_iff.mp ha)
    have hj := (List.getElem?_eq_some_iff.mp hb)
    obtain ⟨hi1, hi2⟩ := hi
    obtain ⟨hj1, hj2⟩ := hj
    have nd := hk.nd
    rw [List.Nodup, List.pairwise_iff_getElem] at nd
    rcases Nat.lt_trichotomy i j with hlt | he | hlt
    · refine absurd ?_ (nd i j (by rw [List.length_map]; exact hi1) (by rw [List.length_map]; exact hj1) hlt)
      rw [List.getElem_map, List.getElem_map, hi2, hj2]; exact e
    · exact he
    · refine absurd ?_ (nd j i (by rw [List.length_map]; exact hj1) (by rw [List.length_map]; exact hi1) hlt)
      rw [List.getElem_map, List.getElem_map, hi2, hj2]; exact e.symm
  constructor
  · rintro rfl
    cases q : keyIx ks (.str k.name) with
    | some j =>
      obtain ⟨k', h1, h2⟩ := keyIx_some q
      rw [at_ h1 h (V.str.inj h2).symm]
    | none =>
      have q' : (ks.findIdx? fun k' => decide (k'.name = k.name)) = none := q
      have := List.findIdx?_eq_none_iff.mp q' k (List.mem_of_getElem? h)
      simp at this
  · intro q
    obtain ⟨k', h1, h2⟩ := keyIx_some q
    rw [h] at h1
    rw [h2, Option.some.inj h1]
def plcs (o : Option Nat) (i : Nat) : List Nat := match o with
  | some j => if j < i then [j] else []
  | none => []
theorem plcs_hit (i : Nat) : plcs (some i) (i + 1) = plcs (some i) i ++ [i] := by
  show (if i < i + 1 then [i] else []) = (if i < i then [i] else []) ++ [i]
  rw [if_pos (Nat.lt_succ_self i), if_neg (Nat.lt_irrefl i)]
  rfl
theorem plcs_miss {o : Option Nat} {i : Nat} (h : o ≠ some i) : plcs o (i + 1) = plcs o i := by
  unfold plcs
  cases o with
  | none => rfl
  | some j =>
    have hj : j ≠ i := fun z => h (by rw [z])
    show (if j < i + 1 then [j] else []) = if j < i then [j] else []
    by_cases hlt : j < i
    · rw [if_pos hlt, if_pos (by omega)]
    · rw [if_neg hlt, if_neg (by omega)]
theorem plcs_len (o : Option Nat) (i : Nat) : (plcs o i).length ≤ 1 := by
  unfold plcs
  cases o with
  | none => exact Nat.zero_le _
  | some j => show (if j < i then [j] else []).length ≤ 1; split; exact Nat.le_refl _; exact Nat.zero_le _
section
variable {P : Program} {w : World} {K : Frag} {mg : Str → Option Value} {base : Heap}
theorem sc_law_due : FnScope ["_law_keys_here", "_law_now", "_law_deed", "_law_name", "_law_thing", "_law_at", "_law_entry", "_law_places", "_law_is_gone", "_law_size", "_law_is_may"] ["_law_keys_here", "_law_now", "_law_deed", "_law_name", "_law_thing"] (defScope d_law_due) := ⟨rfl, rfl, rfl, by decide +kernel, rfl, by decide +kernel, by decide +kernel⟩
theorem ok_law_due (T : Pr K mg) (R : Er P w K mg base) (G : Gd K mg base) : FOkG P w K mg base 1 "_law_due" ["_law_keys_here", "_law_now", "_law_deed", "_law_name", "_law_thing"] (spDue K) := by
  obtain ⟨fd, F⟩ := T.f_law_due
  have brepr := T.fre "repr" (by decide +kernel)
  have benumerate := T.fre "enumerate" (by decide +kernel)
  have bisinstance := T.fre "isinstance" (by decide +kernel)
  have bint := T.fre "int" (by decide +kernel)
  have bbool := T.fre "bool" (by decide +kernel)
  obtain ⟨osys, hsys⟩ := G.sys
  refine FOkG.of F (T.glo _ (by decide +kernel)) sc_law_due (fun _ _ _ _ _ _ us hl => match us, hl with | [_, _, _, _, _], _ => rfl) (fun vs H Q E h => ?_) (fun A outer s H vs Q E hgd hr h => ?_)
  · obtain ⟨_, _, _, _, _, _, _, _, _, rfl, _⟩ := h; rfl
  have hgA : (A.deeper (envOfC "_law_due" (defScope d_law_due) s.heap.objs.size (He.ga K "_law_due") (.ref (He.cT K ("_law_due", none)).1))).guards = some [] := deeper_guards hgd
  have hu : (A.deeper (envOfC "_law_due" (defScope d_law_due) s.heap.objs.size (He.ga K "_law_due") (.ref (He.cT K ("_law_due", none)).1))).units + 65 < cLine := by have := hr.un; omega
  have hu1 : (A.deeper (envOfC "_law_due" (defScope d_law_due) s.heap.objs.size (He.ga K "_law_due") (.ref (He.cT K ("_law_due", none)).1))).units + 1 < cLine := by omega
  have hu64 : (A.deeper (envOfC "_law_due" (defScope d_law_due) s.heap.objs.size (He.ga K "_law_due") (.ref (He.cT K ("_law_due", none)).1))).units + 64 < cLine := by omega
  refine ⟨_, PSs.nox (pss_cons (ps_setLc (i := 7) (own := [("_law_at", 5), ("_law_entry", 6)]) (g := gTup K 2 (gCons (gName 5) (gCons (gName 6) gNil))) (tt := tTest (tOp rEq (tCB rReprT (tCons (tOp (rIxT K) (tVar 6) (tC (.int 0))) tNil)) (tCB rReprT (tCons (tVar 3) tNil)))) (te := tVar 5) rfl sc_law_due.nd rfl rfl (sw_true rfl rfl rfl (by decide +kernel)) (pi_enum (by rfl) benumerate (pa_cons (pv 0) pa_nil)) (blkOk_by (own := [("_law_at", 5), ("_law_entry", 6)]) (N := ["_law_keys_here", "_law_now", "_law_deed", "_law_name", "_law_thing", "_law_at", "_law_entry", "_law_places", "_law_is_gone", "_law_size", "_law_is_may"]) (sc := defScope d_law_due) (by decide +kernel)) (fun _ _ _ _ _ => (pg_tup rfl (pgs_cons (pg_name (i := 5) sc_law_due.nd rfl (Or.inl rfl)) (pgs_cons (pg_name (i := 6) sc_law_due.nd rfl (Or.inl rfl)) pgs_nil)))) (fun _ _ _ _ _ => (pts_one (pt_cmpR op_eq (pe_callB (call_reprT hgA hu64 hsys) (by rfl) brepr (by decide +kernel) (pa_cons (pe_ix ix_tup (pv 6) pe_int (fun _ _ => rfl)) pa_nil)) (pe_callB (call_reprT hgA hu64 hsys) (by rfl) brepr (by decide +kernel) (pa_cons (pv 3) pa_nil)) (nomark _)))) (fun _ _ _ _ _ => (pv 5)))
    (pss_cons (ps_if (pt_cmpR ((op_eqD hu64)) (pv 7) (pe_lst pa_nil) (nomark _))
      (pss_one (ps_ret (pe_tup (pa_cons (pe_tup (pa_cons pe_str (pa_cons (pv 3) pa_nil))) (pa_cons (pv 1) pa_nil)))))
      pss_nil)
    (pss_cons (ps_par (i := 5) (j := 8) rfl sc_law_due.nd rfl rfl (by decide) rfl rfl (pa_cons (pe_ix ix_list (pv 7) pe_int (fun _ _ => rfl)) (pa_cons (pe_cmpR op_eq (pe_ix ix_list (pv 1) (pe_ix ix_list (pv 7) pe_int (fun _ _ => rfl)) (fun _ _ => rfl)) (pe_un un_neg pe_int) (nomark _)) pa_nil)) (by rfl))
    (pss_cons (ps_par (i := 9) (j := 10) rfl sc_law_due.nd rfl rfl (by decide) rfl rfl (pa_cons (pe_ix ix_tup (pe_ix ix_list (pv 0) (pv 5) (fun _ _ => rfl)) pe_int (fun _ _ => rfl)) (pa_cons (pe_ix ix_tup (pe_ix ix_list (pv 0) (pv 5) (fun _ _ => rfl)) pe_int (fun _ _ => rfl)) pa_nil)) (by rfl))
    (pss_cons (ps_if (pt_cmpR op_eq (pv 2) pe_str (nomark _))
      (pss_one (ps_ret (pe_tup (pa_cons (pe_ifExp (pt_val (pv 8)) (pe_tup (pa_cons pe_str (pa_cons (pv 3) pa_nil))) (pe_tup (pa_cons pe_str (pa_cons (pe_ix ix_list (pv 1) (pv 5) (fun _ _ => rfl)) pa_nil)))) (pa_cons (pv 1) pa_nil)))))
      pss_nil)
    (pss_cons (ps_if (pt_cmpR op_eq (pv 2) pe_str (nomark _))
      (pss_cons (ps_if (PW.pt (pw_or (pt_not (pt_val (pv 10))) (pw_or1 (pt_val (pv 8)))))
      (pss_one (ps_ret (pe_tup (pa_cons (pe_tup (pa_cons (pe_ifExp (pt_val (pv 10)) pe_str pe_str) (pa_cons (pv 3) pa_nil))) (pa_cons (pv 1) pa_nil)))))
      pss_nil)
    (pss_one (ps_ret (pe_tup (pa_cons (pe_tup (pa_cons pe_str (pa_cons pe_non pa_nil))) (pa_cons (pe_op (op_cat) (pe_op (op_cat) (pe_slice sl_list (pv 1) po_none (po_some (pv 5))) (pe_lst (pa_cons (pe_un un_neg pe_int) pa_nil))) (pe_slice sl_list (pv 1) (po_some (pe_op op_add (pv 5) pe_int)) po_none)) pa_nil))))))
      pss_nil)
    (pss_cons (ps_if (PW.pt (pw_or (pt_val (pe_callB call_isT (by rfl) bisinstance boot_isinstance (pa_cons (pv 4) (pa_cons (pe_bltn (u := .type "bool") (v := .ty "bool") rfl bbool (by decide +kernel) rfl) pa_nil)))) (pw_or (pt_not (pt_val (pe_callB call_isT (by rfl) bisinstance boot_isinstance (pa_cons (pv 4) (pa_cons (pe_bltn (u := .type "int") (v := .ty "int") rfl bint (by decide +kernel) rfl) pa_nil))))) (pw_or1 (pt_not (pt_chain op_le op_lt pe_int (pv 4) (pv 9)))))))
      (pss_one (ps_ret (pe_tup (pa_cons (pe_tup (pa_cons pe_str (pa_cons (pv 4) pa_nil))) (pa_cons (pv 1) pa_nil)))))
      pss_nil)
    (pss_one (ps_ret (pe_tup (pa_cons (pe_tup (pa_cons pe_str (pa_cons pe_non pa_nil))) (pa_cons (pe_op (op_cat) (pe_op (op_cat) (pe_slice sl_list (pv 1) po_none (po_some (pv 5))) (pe_lst (pa_cons (pv 4) pa_nil))) (pe_slice sl_list (pv 1) (po_some (pe_op op_add (pv 5) pe_int)) po_none)) pa_nil)))))))))))), ?_⟩
  have hbig := sizeLine_big
  obtain ⟨lk, ln, deed, v, x, ts, ks, ws, d, rfl, hlk, hK, hk, hln, hwl, hdeed, hv, hx, hQ⟩ := h
  have hlen : ts.length = ks.length := Paired.length hK
  have h4 := hk.four
  refine ⟨_, rfl, lk, _, rfl, SqL.of hlk, fun D nD => ?_⟩
  refine lc_it (walk_enum (xs := ts.map V.ref)) (AccP (fun i => (plcs (keyIx ks v) i).map fun j => V.int (j : Nat)) D H) (acc_start (by show (plcs _ 0).map _ = []; unfold plcs; cases keyIx ks v <;> rfl)) (fun i G _ q => SqL.of (q.same nD _ _ hlk)) (fun i y G G' hi q yy => ?_) (fun G q => ?_)
  · obtain ⟨t1, x1, y1, rfl, nt1, rfl, e1, e2⟩ := yy
    obtain rfl : V.int (i : Nat) = x1 := Option.some.inj e1
    dsimp only at e2
    rw [List.getElem?_map] at e2
    obtain ⟨t, ht, rfl⟩ := Option.map_eq_some_iff.mp e2
    obtain ⟨k, hkk, htk⟩ := Paired.get? hK ht
    have hko := hk.ok k (List.mem_of_getElem? hkk)
    have hn8 := nameS_len hko.nm
    have u1 := same_upd (o := .tup [.int (i : Nat), .ref t]) nt1
    have s1 := (q.same nD).trans u1
    refine ⟨t1, _, rfl, SqT.of upd_same, rfl, _, _, rfl, _, _, rfl, rfl, rfl, ?_⟩
    refine ⟨_, rfl, t, _, 0, .str k.name, rfl, rfl, SqT.of (s1 _ _ htk), atI_nat (j := 0) rfl, .str k.name, .str k.name, rfl, .str _, rfl, by simp [PyData.depth], ?_, ?_⟩
    · rw [PyData.shown_str, repr_len (name_sC hko.nm)]; omega
    refine ⟨_, rfl, v, d, rfl, DT.mono s1 hv.dt, hv.sh, Nat.le_trans hv.dp (by decide), Nat.le_trans hv.ln (by omega), rfl, _, rfl, ?_⟩
    have eb : decide (V.str (PyData.shown (.str k.name)) = V.str d.shown) = decide (v = .str k.name) := by
      rw [← hv.eq k (List.mem_of_getElem? hkk), PyData.shown_str]
      by_cases hz : reprText k.name = d.shown
      · rw [decide_eq_true hz, hz]; exact decide_eq_true rfl
      · rw [decide_eq_false hz]; exact decide_eq_false fun z => hz (V.str.inj z)
    rw [eb]
    by_cases hvk : v = .str k.name
    · refine iY (decide_eq_true hvk) ?_
      have hix := (keyIx_iff hk hkk v).mp hvk
      refine ⟨_, rfl, acc_step q u1 ?_ ?_⟩
      · rw [List.length_map]
        have := plcs_len (keyIx ks v) i
        omega
      · show (plcs _ (i + 1)).map _ = (plcs _ i).map _ ++ [V.int (i : Nat)]
        rw [hix, plcs_hit, List.map_append]; rfl
    · refine iN (decide_eq_false hvk) ?_
      refine acc_skip q u1 ?_
      show (plcs _ (i + 1)).map _ = (plcs _ i).map _
      rw [plcs_miss fun z => hvk ((keyIx_iff hk hkk v).mpr z)]
  · have hD : G D = some (.lst ((plcs (keyIx ks v) ks.length).map fun j => V.int (j : Nat))) := by
      have := q.1
      rw [List.length_map, hlen] at this
      exact this
    have sG := q.same nD
    have hln2 := sG _ _ hln
    cases hix : keyIx ks v with
    | none =>
      rw [hix] at hD
      have hD : G D = some (.lst []) := hD
      refine ⟨_, rfl, Nat.zero_le _, fun e ne => ?_⟩
      have u1 := same_upd (o := .lst []) ne
      refine ⟨.list [], .list [], .lst (SqL.of (u1 _ _ hD)) .nil, .lst (SqL.of upd_same) .nil, by decide +kernel, by decide +kernel, _, rfl, ?_⟩
      refine iY (by decide +kernel) ?_
      refine ⟨_, rfl, by show 2 ≤ sizeLine; decide, fun t nt => ?_⟩
      have u2 := same_upd (o := .tup [.str "NoKey", v]) nt
      refine ⟨_, rfl, by show 2 ≤ sizeLine; decide, fun r nr => ?_⟩
      have u3 := same_upd (o := .tup [.ref t, .ref ln]) nr
      have sA := sG.trans (u1.trans u2)
      have er : dueR ks ws deed v x = (("NoKey" : Str), v, ws) := by unfold dueR; rw [hix]
      refine hQ r t ln _ (sA.trans u3) (sA.free nr) upd_same ?_ ?_ (.inl rfl)
      · rw [er]; exact u3 _ _ upd_same
      · rw [er]; exact (sA.trans u3) _ _ hln
    | some i =>
      rw [hix] at hD
      obtain ⟨k, hki, hvk⟩ := keyIx_some hix
      have hil : i < ks.length := (List.getElem?_eq_some_iff.mp hki).1
      obtain ⟨wi, hwi⟩ : ∃ wi, ws[i]? = some wi := ⟨ws[i], List.getElem?_eq_getElem (by omega)⟩
      have hpl : plcs (some i) ks.length = [i] := by
        show (if i < ks.length then [i] else []) = [i]
        rw [if_pos hil]
      rw [hpl] at hD
      have hD : G D = some (.lst [.int (i : Nat)]) := hD
      have egk : ks.getD i ⟨"", 0, false⟩ = k := by rw [List.getD_eq_getElem?_getD, hki]; rfl
      have egw : ws.getD i 0 = wi := by rw [List.getD_eq_getElem?_getD, hwi]; rfl
      have hwi' : (ws.map V.int)[i]? = some (.int wi) := by rw [List.getElem?_map, hwi]; rfl
      obtain ⟨ti, eti⟩ : ∃ ti, ts[i]? = some ti := ⟨ts[i], List.getElem?_eq_getElem (by omega)⟩
      obtain ⟨k', hk', hti⟩ := Paired.get? hK eti
      have : k' = k := Option.some.inj (hk'.symm.trans hki)
      subst this
      have hti' : (ts.map V.ref)[i]? = some (.ref ti) := by rw [List.getElem?_map, eti]; rfl
      refine ⟨_, rfl, Nat.zero_le _, fun e ne => ?_⟩
      have u1 := same_upd (o := .lst []) ne
      refine ⟨.list [.int (i : Nat)], .list [], .lst (SqL.of (u1 _ _ hD)) (.cons (.int _) .nil), .lst (SqL.of upd_same) .nil, shaped_list (n := 0) (fun d hd => by rw [List.mem_singleton.mp hd]; exact ⟨by simp [PyData.canLay0], by simp [PyData.depth]⟩) (by decide), by decide +kernel, _, rfl, ?_⟩
      refine iN (by simp [PyData.eqv, PyData.eqvAll]) ?_
      have s1 := sG.trans u1
      have hD1 := u1 _ _ hD
      generalize upd G e (.lst []) = G1 at u1 s1 hD1 ⊢
      refine ⟨_, rfl, D, _, 0, .int (i : Nat), rfl, rfl, SqL.of hD1, atI_nat (j := 0) rfl, ?_⟩
      refine ⟨_, rfl, _, rfl, D, _, 0, .int (i : Nat), rfl, rfl, SqL.of hD1, atI_nat (j := 0) rfl, ln, _, _, .int wi, rfl, rfl, SqL.of (s1 _ _ hln), atI_nat hwi', 1, rfl, rfl, _, _, rfl, ?_⟩
      refine ⟨_, rfl, _, rfl, lk, _, _, .ref ti, rfl, rfl, SqL.of (s1 _ _ hlk), atI_nat hti', ti, _, 1, .int (k'.size : Int), rfl, rfl, SqT.of (s1 _ _ hti), atI_nat (j := 1) rfl, ?_⟩
      refine ⟨_, rfl, _, rfl, lk, _, _, .ref ti, rfl, rfl, SqL.of (s1 _ _ hlk), atI_nat hti', ti, _, 2, .bl k'.may, rfl, rfl, SqT.of (s1 _ _ hti), atI_nat (j := 2) rfl, _, _, rfl, ?_⟩
      have fin : ∀ (G : Hp) (wd : Str) (val : V) (ws' : List Int) (l t r : Addr), Same H G → dueR ks ws deed v x = (wd, val, ws') → G t = some (.tup [.str wd, val]) → G l = some (.lst (ws'.map V.int)) → (l = ln ∨ H l = none) → G r = none → Q (.ref r) (upd G r (.tup [.ref t, .ref l])) := by
        intro G wd val ws' l t r sG er ht hl hll nr
        have u := same_upd (o := .tup [.ref t, .ref l]) nr
        exact hQ r t l _ (sG.trans u) (sG.free nr) upd_same (by rw [er]; exact u _ _ ht) (by rw [er]; exact u _ _ hl) hll
      have hln1 := s1 _ _ hln
      have hwl' : i < ws.length := by omega
      have hsz : ∀ z : Int, ((ws.set i z).map V.int).length ≤ 4 := fun z => by rw [List.length_map, List.length_set]; omega
      have er : dueR ks ws deed v x = if deed = "read" then (if wi = -1 then (("Gone" : Str), v, ws) else ("fine", .int wi, ws)) else if deed = "drop" then (if k'.may = true then (if wi = -1 then (("Gone" : Str), v, ws) else ("fine", .non, ws.set i (-1))) else ("Lasting", v, ws)) else match setB k' x with
          | some z => (("fine" : Str), .non, ws.set i z)
          | none => ("BadWorth", x, ws) := by
        unfold dueR
        rw [hix]
        dsimp only
        rw [egk, egw]
      refine ⟨_, rfl, rfl, _, rfl, ?_⟩
      by_cases hread : deed = "read"
      · rw [if_pos hread] at er
        refine iY (decide_eq_true (by rw [hread])) ?_
        refine ⟨_, rfl, _, rfl, ?_⟩
        by_cases hg : wi = -1
        · rw [if_pos hg] at er
          refine iY (decide_eq_true (by rw [hg])) ?_
          refine ⟨_, rfl, by show 2 ≤ sizeLine; decide, fun t nt => ⟨_, rfl, by show 2 ≤ sizeLine; decide, fun r nr => ?_⟩⟩
          have u := same_upd (o := .tup [.str "Gone", v]) nt
          exact fin _ _ _ _ ln t r (s1.trans u) er upd_same (u _ _ hln1) (.inl rfl) nr
        · rw [if_neg hg] at er
          refine iN (decide_eq_false fun z => hg (V.int.inj z)) ?_
          refine ⟨_, rfl, _, rfl, ln, _, _, .int wi, rfl, rfl, SqL.of hln1, atI_nat hwi', by show 2 ≤ sizeLine; decide, fun t nt => ⟨_, rfl, by show 2 ≤ sizeLine; decide, fun r nr => ?_⟩⟩
          have u := same_upd (o := .tup [.str "fine", .int wi]) nt
          exact fin _ _ _ _ ln t r (s1.trans u) er upd_same (u _ _ hln1) (.inl rfl) nr
      rw [if_neg hread] at er
      refine iN (decide_eq_false fun z => hread (V.str.inj z)) ?_
      refine ⟨_, rfl, rfl, _, rfl, ?_⟩
      by_cases hdrop : deed = "drop"
      · rw [if_pos hdrop] at er
        refine iY (decide_eq_true (by rw [hdrop])) ?_
        refine ⟨_, rfl, _, rfl, ?_⟩
        by_cases hm : k'.may = true
        · rw [if_pos hm] at er
          refine iN (by rw [hm]; rfl) ?_
          refine ⟨_, rfl, _, rfl, ?_⟩
          by_cases hg : wi = -1
          · rw [if_pos hg] at er
            refine iY (decide_eq_true (by rw [hg])) ?_
            refine ⟨_, rfl, _, rfl, ?_⟩
            refine iY hm ?_
            refine ⟨_, rfl, by show 2 ≤ sizeLine; decide, fun t nt => ⟨_, rfl, by show 2 ≤ sizeLine; decide, fun r nr => ?_⟩⟩
            have u := same_upd (o := .tup [.str "Gone", v]) nt
            exact fin _ _ _ _ ln t r (s1.trans u) er upd_same (u _ _ hln1) (.inl rfl) nr
          · rw [if_neg hg] at er
            refine iN (decide_eq_false fun z => hg (V.int.inj z)) ?_
            refine ⟨by show 2 ≤ sizeLine; decide, fun t nt => ?_⟩
            have u2 := same_upd (o := .tup [.str "fine", .non]) nt
            refine ⟨_, rfl, _, rfl, _, rfl, ln, _, rfl, SqL.of (u2 _ _ hln1), fun q1 n1 => ?_⟩
            have u3 := same_upd (o := .lst (cutV (ws.map V.int) none (some (i : Int)))) n1
            refine ⟨1, rfl, by show 1 ≤ sizeLine; decide, fun q2 n2 => ?_⟩
            have u4 := same_upd (o := .lst [.int (-1)]) n2
            have hc := congrArg List.length (cut_set (z := -1) hwl')
            rw [List.length_append, List.length_append] at hc
            have h5 := hsz (-1)
            refine ⟨q1, q2, _, _, rfl, rfl, u4 _ _ upd_same, upd_same, by show _ + 1 ≤ _; have : [V.int (-1)].length = 1 := rfl; omega, fun q3 n3 => ?_⟩
            have u5 := same_upd (o := .lst (cutV (ws.map V.int) none (some (i : Int)) ++ [.int (-1)])) n3
            have s5 := u2.trans (u3.trans (u4.trans u5))
            refine ⟨_, rfl, _, rfl, _, _, rfl, rfl, _, rfl, ln, _, rfl, SqL.of (s5 _ _ hln1), fun q4 n4 => ?_⟩
            have u6 := same_upd (o := .lst (cutV (ws.map V.int) (some ((i : Int) + 1)) none)) n4
            refine ⟨q3, q4, _, _, rfl, rfl, u6 _ _ upd_same, upd_same, by rw [← List.length_append, cut_set hwl']; omega, fun l nl => ?_⟩
            rw [cut_set hwl']
            have u7 := same_upd (o := .lst ((ws.set i (-1)).map V.int)) nl
            have s7 := s5.trans (u6.trans u7)
            refine ⟨by show 2 ≤ sizeLine; decide, fun r nr => ?_⟩
            exact fin _ _ _ _ l t r (s1.trans s7) er ((u3.trans (u4.trans (u5.trans (u6.trans u7)))) _ _ upd_same) upd_same (.inr ((s1.trans (s5.trans u6)).free nl)) nr
        · rw [if_neg hm] at er
          refine iY (by rw [Bool.not_eq_true] at hm; rw [hm]; rfl) ?_
          refine ⟨_, rfl, _, rfl, ?_⟩
          refine iN (by simpa using hm) ?_
          refine ⟨_, rfl, by show 2 ≤ sizeLine; decide, fun t nt => ⟨_, rfl, by show 2 ≤ sizeLine; decide, fun r nr => ?_⟩⟩
          have u := same_upd (o := .tup [.str "Lasting", v]) nt
          exact fin _ _ _ _ ln t r (s1.trans u) er upd_same (u _ _ hln1) (.inl rfl) nr
      · rw [if_neg hdrop] at er
        refine iN (decide_eq_false fun z => hdrop (V.str.inj z)) ?_
        obtain ⟨Ty, hT⟩ := hx
        have hT1 := tyS_same s1 hT
        have hii := isInt_ty hT
        refine ⟨_, rfl, x, Ty, "bool", rfl, hT1, by decide, _, rfl, ?_⟩
        have bad : setB k' x = none → ∀ G, Same G1 G → ∀ t, G t = none → ∀ r, upd G t (.tup [.str "BadWorth", x]) r = none → Q (.ref r) (upd (upd G t (.tup [.str "BadWorth", x])) r (.tup [.ref t, .ref ln])) := by
          intro hs G sGG t nt r nr
          rw [hs] at er
          have u := same_upd (o := .tup [.str "BadWorth", x]) nt
          exact fin _ _ _ _ ln t r (s1.trans (sGG.trans u)) er upd_same (u _ _ (sGG _ _ hln1)) (.inl rfl) nr
        cases e1 : isB Ty "bool" with
        | true =>
          refine iY rfl ?_
          have hs : setB k' x = none := setB_no (by rw [← hii, e1]; cases isB Ty "int" <;> rfl)
          exact ⟨_, rfl, by show 2 ≤ sizeLine; decide, fun t nt => ⟨_, rfl, by show 2 ≤ sizeLine; decide, fun r nr => bad hs _ (Same.refl _) t nt r nr⟩⟩
        | false =>
          refine iN rfl ?_
          refine ⟨_, rfl, x, Ty, "int", rfl, hT1, by decide, _, rfl, ?_⟩
          cases e2 : isB Ty "int" with
          | false =>
            refine iY rfl ?_
            have hs : setB k' x = none := setB_no (by rw [← hii, e1, e2]; rfl)
            exact ⟨_, rfl, by show 2 ≤ sizeLine; decide, fun t nt => ⟨_, rfl, by show 2 ≤ sizeLine; decide, fun r nr => bad hs _ (Same.refl _) t nt r nr⟩⟩
          | true =>
            refine iN rfl ?_
            rw [e1, e2] at hii
            cases x with
            | int z =>
              refine ⟨_, rfl, _, _, rfl, rfl, _, rfl, ?_⟩
              by_cases h0 : (0 : Int) ≤ z
              · refine iY (decide_eq_true h0) ?_
                refine ⟨_, rfl, _, _, rfl, rfl, _, rfl, ?_⟩
                by_cases h1 : z < (k'.size : Int)
                · refine iN (by rw [decide_eq_true h1]; rfl) ?_
                  have hs : setB k' (.int z) = some z := by rw [setB_int, if_pos ⟨h0, h1⟩]
                  rw [hs] at er
                  refine ⟨by show 2 ≤ sizeLine; decide, fun t nt => ?_⟩
                  have u2 := same_upd (o := .tup [.str "fine", .non]) nt
                  refine ⟨_, rfl, _, rfl, _, rfl, ln, _, rfl, SqL.of (u2 _ _ hln1), fun q1 n1 => ?_⟩
                  have u3 := same_upd (o := .lst (cutV (ws.map V.int) none (some (i : Int)))) n1
                  refine ⟨_, rfl, by show 1 ≤ sizeLine; decide, fun q2 n2 => ?_⟩
                  have u4 := same_upd (o := .lst [.int z]) n2
                  have hc := congrArg List.length (cut_set (z := z) hwl')
                  rw [List.length_append, List.length_append] at hc
                  have h5 := hsz z
                  refine ⟨q1, q2, _, _, rfl, rfl, u4 _ _ upd_same, upd_same, by show _ + 1 ≤ _; have : [V.int z].length = 1 := rfl; omega, fun q3 n3 => ?_⟩
                  have u5 := same_upd (o := .lst (cutV (ws.map V.int) none (some (i : Int)) ++ [.int z])) n3
                  have s5 := u2.trans (u3.trans (u4.trans u5))
                  refine ⟨_, rfl, _, rfl, _, _, rfl, rfl, _, rfl, ln, _, rfl, SqL.of (s5 _ _ hln1), fun q4 n4 => ?_⟩
                  have u6 := same_upd (o := .lst (cutV (ws.map V.int) (some ((i : Int) + 1)) none)) n4
                  refine ⟨q3, q4, _, _, rfl, rfl, u6 _ _ upd_same, upd_same, by rw [← List.length_append, cut_set hwl']; omega, fun l nl => ?_⟩
                  rw [cut_set hwl']
                  have u7 := same_upd (o := .lst ((ws.set i z).map V.int)) nl
                  have s7 := s5.trans (u6.trans u7)
                  refine ⟨by show 2 ≤ sizeLine; decide, fun r nr => ?_⟩
                  exact fin _ _ _ _ l t r (s1.trans s7) er ((u3.trans (u4.trans (u5.trans (u6.trans u7)))) _ _ upd_same) upd_same (.inr ((s1.trans (s5.trans u6)).free nl)) nr
                · refine iY (by rw [decide_eq_false h1]; rfl) ?_
                  have hs : setB k' (.int z) = none := by rw [setB_int, if_neg fun h => h1 h.2]
                  exact ⟨_, rfl, by show 2 ≤ sizeLine; decide, fun t nt => ⟨_, rfl, by show 2 ≤ sizeLine; decide, fun r nr => bad hs _ (Same.refl _) t nt r nr⟩⟩
              · refine iN (decide_eq_false h0) ?_
                refine ⟨_, rfl, ?_⟩
                refine iY rfl ?_
                have hs : setB k' (.int z) = none := by rw [setB_int, if_neg fun h => h0 h.1]
                exact ⟨_, rfl, by show 2 ≤ sizeLine; decide, fun t nt => ⟨_, rfl, by show 2 ≤ sizeLine; decide, fun r nr => bad hs _ (Same.refl _) t nt r nr⟩⟩
            | _ => cases hii
end
end KP

/-! the law: names drawn, things drawn. -/
namespace KP
open PySem PySem.Spec PyProof.Rows L2 G137 SlX
theorem eq_no {ks : List KeyR} {y : V} {d : PyData} (hk : KeysOk ks) (h1 : (TL.tl d.shown).head? ≠ some 39) (h2 : ∀ x, y ≠ .str x) : ∀ k ∈ ks, decide (reprText k.name = d.shown) = decide (y = .str k.name) := fun k hkk => by
  rw [decide_eq_false (repr_ne (name_sC (hk.ok k hkk).nm) h1), decide_eq_false (h2 _)]
theorem eq_str {ks : List KeyR} {x : Str} (hk : KeysOk ks) (hx : ∀ c ∈ TL.tl x, c ∈ sC) : ∀ k ∈ ks, decide (reprText k.name = (PyData.str x).shown) = decide (V.str x = .str k.name) := fun k hkk => by
  rw [PyData.shown_str]
  by_cases h : x = k.name
  · rw [h, decide_eq_true rfl, decide_eq_true rfl]
  · rw [decide_eq_false fun z => h (repr_inj (name_sC (hk.ok k hkk).nm) hx z).symm, decide_eq_false fun z => h (V.str.inj z)]
theorem nm_str {H : Hp} {ks : List KeyR} {x : Str} (hk : KeysOk ks) (hx : ∀ c ∈ TL.tl x, c ∈ sC) (hl : x.length ≤ 20) : NmOk H ks (.str x) (.str x) ∧ Pl H (.str x) :=
  ⟨⟨.str x, rfl, by simp [PyData.depth], by rw [PyData.shown_str, repr_len hx]; omega, eq_str hk hx⟩, _, rfl⟩
/-- what may be drawn for a name -/
def nmL (ks : List KeyR) (q2 q3 q4 : Addr) : List V := (List.replicate 4 (ks.map fun k => V.str k.name)).flatten ++ [.non, .int 0, .bl true, .str "", .str "A", .ref q2, .ref q3, .ref q4, .str (hdN ks ++ (" " : Str))]
theorem nm_pick {H : Hp} {ks : List KeyR} {q2 q3 q4 : Addr} {y : V} (hk : KeysOk ks) (h2 : H q2 = some (.tup [.str (hdN ks)])) (h3 : H q3 = some (.lst [.str (hdN ks)])) (h4 : H q4 = some (.dK [(Sum.inr (hdN ks), .int 0)])) (hy : y ∈ nmL ks q2 q3 q4) : ∃ d, NmOk H ks y d ∧ Pl H y := by
  have hn := (hdN_ok hk).2
  have hs := name_sC hn
  have h8 := nameS_len hn
  have hrl := repr_len hs
  rcases List.mem_append.mp hy with hy | hy
  · obtain ⟨l, hl, hy⟩ := List.mem_flatten.mp hy
    rw [(List.mem_replicate.mp hl).2] at hy
    obtain ⟨k, hkk, rfl⟩ := List.mem_map.mp hy
    have hn := (hk.ok k hkk).nm
    have := nameS_len hn
    exact ⟨_, nm_str hk (name_sC hn) (by omega)⟩
  · simp only [List.mem_cons, List.not_mem_nil, or_false] at hy
    rcases hy with rfl | rfl | rfl | rfl | rfl | rfl | rfl | rfl | rfl
    · exact ⟨.none, ⟨.non, rfl, by decide, by decide +kernel, eq_no hk (by decide +kernel) fun x z => nomatch z⟩, _, rfl⟩
    · exact ⟨.int 0, ⟨.int 0, by decide +kernel, by decide, by decide +kernel, eq_no hk (by decide +kernel) fun x z => nomatch z⟩, _, rfl⟩
    · exact ⟨.bool true, ⟨.bl true, rfl, by decide, by decide +kernel, eq_no hk (by decide +kernel) fun x z => nomatch z⟩, _, rfl⟩
    · exact ⟨_, nm_str hk (by decide +kernel) (by decide +kernel)⟩
    · exact ⟨_, nm_str hk (by decide +kernel) (by decide +kernel)⟩
    · refine ⟨.tuple [.str (hdN ks)], ⟨.tup h2 (.cons (.str _) .nil), rfl, by simp [PyData.depth, PyData.depthAll], ?_, eq_no hk ?_ fun x z => nomatch z⟩, "tuple", by show tyO (H q2) = _; rw [h2]; rfl⟩
      · rw [PyData.shown_tuple, len_app, len_app]
        show 1 + (Str.join ", " [reprText (hdN ks)]).length + 2 ≤ 500
        show 1 + (reprText (hdN ks)).length + 2 ≤ 500
        omega
      · rw [PyData.shown_tuple, TL.tl_append, TL.tl_append]
        show some 40 ≠ some 39
        decide
    · refine ⟨.list [.str (hdN ks)], ⟨.lst h3 (.cons (.str _) .nil), rfl, by simp [PyData.depth, PyData.depthAll], ?_, eq_no hk ?_ fun x z => nomatch z⟩, "list", by show tyO (H q3) = _; rw [h3]; rfl⟩
      · rw [PyData.shown_list, len_app, len_app]
        show 1 + (reprText (hdN ks)).length + 1 ≤ 500
        omega
      · rw [PyData.shown_list, TL.tl_append, TL.tl_append]
        show some 91 ≠ some 39
        decide
    · refine ⟨.dict [(.str (hdN ks), .int 0)], ⟨.dk (ds := [.int 0]) h4 (.cons (.int 0) .nil), by simp [PyData.showable, PyData.showableKv], by simp [PyData.depth, PyData.depthKv], ?_, eq_no hk ?_ fun x z => nomatch z⟩, "dict", by show tyO (H q4) = _; rw [h4]; rfl⟩
      · rw [PyData.shown_dict, len_app, len_app]
        show 1 + ((reprText (hdN ks) ++ (": " : Str)) ++ PyData.shown (.int 0)).length + 1 ≤ 500
        rw [len_app, len_app]
        show 1 + ((reprText (hdN ks)).length + 2 + (PyData.shown (.int 0)).length) + 1 ≤ 500
        have : (PyData.shown (.int 0)).length = 1 := by decide +kernel
        omega
      · rw [PyData.shown_dict, TL.tl_append, TL.tl_append]
        show some 123 ≠ some 39
        decide
    · refine ⟨_, nm_str hk (fun c hc => ?_) (by rw [len_app]; show _ + 1 ≤ 20; omega)⟩
      rw [TL.tl_append] at hc
      rcases List.mem_append.mp hc with z | z
      · exact hs c z
      · rw [List.mem_singleton.mp (show c ∈ [32] from z)]; decide +kernel
/-- a thing that may be set -/
structure ThOk (K : Frag) (H : Hp) (x : V) (d : PyData) : Prop where
  dt : DT H x d
  sh : d.showable = true
  dp : d.depth ≤ 50
  ln : d.shown.length ≤ 500
  pl : Pl H x
  dpp : Dp K H x d
  shd : SeqAt.shaped d = true
def thL (q1 q2 : Addr) : List V := ([0, 1, 1, 2, 2, 3, -1, -2].map V.int) ++ [.bl true, .non, .str "1", .ref q1, .ref q2, .int (10 ^ 20)]
theorem th_int {K : Frag} {H : Hp} (z : Int) (h1 : (PyData.int z).showable = true) (h2 : (PyData.int z).shown.length ≤ 500) (h3 : SeqAt.shaped (.int z) = true) : ThOk K H (.int z) (.int z) :=
  ⟨.int z, h1, by simp [PyData.depth], h2, ⟨_, rfl⟩, .int z, h3⟩
theorem th_pick {K : Frag} {H : Hp} {q1 q2 : Addr} {y : V} (h1 : H q1 = some (.tup [.int 0])) (h2 : H q2 = some (.lst [.int 1])) (hy : y ∈ thL q1 q2) : ∃ d, ThOk K H y d := by
  rcases List.mem_append.mp hy with hy | hy
  · obtain ⟨z, hz, rfl⟩ := List.mem_map.mp hy
    have key : ∀ z ∈ ([0, 1, 1, 2, 2, 3, -1, -2] : List Int), (PyData.int z).showable = true ∧ (PyData.int z).shown.length ≤ 500 ∧ SeqAt.shaped (.int z) = true := by decide +kernel
    obtain ⟨a, b, c⟩ := key z hz
    exact ⟨_, th_int z a b c⟩
  · simp only [List.mem_cons, List.not_mem_nil, or_false] at hy
    rcases hy with rfl | rfl | rfl | rfl | rfl | rfl
    · exact ⟨.bool true, .bl true, rfl, by decide, by decide +kernel, ⟨_, rfl⟩, .bl true, by decide +kernel⟩
    · exact ⟨.none, .non, rfl, by decide, by decide +kernel, ⟨_, rfl⟩, .non, by decide +kernel⟩
    · exact ⟨.str "1", .str _, rfl, by decide +kernel, by decide +kernel, ⟨_, rfl⟩, .str _, by decide +kernel⟩
    · exact ⟨.tuple [.int 0], .tup h1 (.cons (.int 0) .nil), by decide +kernel, by decide +kernel, by decide +kernel, ⟨"tuple", by show tyO (H q1) = _; rw [h1]; rfl⟩, .tup (SqT.of h1) (.cons (.int 0) .nil), by decide +kernel⟩
    · exact ⟨.list [.int 1], .lst h2 (.cons (.int 1) .nil), by decide +kernel, by decide +kernel, by decide +kernel, ⟨"list", by show tyO (H q2) = _; rw [h2]; rfl⟩, .lst (SqL.of h2) (.cons (.int 1) .nil), by decide +kernel⟩
    · exact ⟨_, th_int _ (by decide +kernel) (by decide +kernel) (by decide +kernel)⟩
end KP

/-! the law: what stays in a turn. -/
namespace KP
open PySem PySem.Spec PyProof.Rows L2 G137 SlX
/-- all stays that is neither a list nor a table -/
def KpN (H H' : Hp) : Prop := ∀ b o, (∀ xs, o ≠ .lst xs) → (∀ ps, o ≠ .tbl ps) → H b = some o → H' b = some o
theorem KpN.of {H H' : Hp} (s : Same H H') : KpN H H' := fun b o _ _ e => s b o e
theorem KpN.trans {H H1 H2 : Hp} (x : KpN H H1) (y : KpN H1 H2) : KpN H H2 := fun b o h1 h2 e => y b o h1 h2 (x b o h1 h2 e)
theorem KpN.but {H H' : Hp} {p : Addr} {n : Nat} (k : But p H H') (hP : Pot H p n) : KpN H H' := fun b o h1 _ e => k b o (fun z => by
  obtain ⟨n0, n1, n2, h, _⟩ := hP
  rw [z, show H p = _ from h] at e
  exact h1 _ (Option.some.inj e).symm) e
theorem KpN.ext {H H' : Hp} (k : LamX.ExtN H H') : KpN H H' := fun b o _ h2 e => k b o e h2
theorem KeyRows.kp {H H' : Hp} (k : KpN H H') {ts : List Addr} {ks : List KeyR} (h : KeyRows H ts ks) : KeyRows H' ts ks := KeyRows.mono (fun c xs e => k c _ (fun _ z => by cases z) (fun _ z => by cases z) e) h
theorem BkRows.kp {K : Frag} {H H' : Hp} {b kr : Addr} {ks : List KeyR} (k : KpN H H') (h : BkRows K H b ks kr) : BkRows K H' b ks kr := by
  obtain ⟨dx, t, g, pd, kn, s, pl, w, rows, h1, h2, h3⟩ := h
  exact ⟨dx, t, g, pd, kn, s, pl, w, rows, k _ _ (fun _ z => by cases z) (fun _ z => by cases z) h1, k _ _ (fun _ z => by cases z) (fun _ z => by cases z) h2, h3.kp k⟩
theorem BkPl.kp {K : Frag} {H H' : Hp} {b : Addr} {ks : List KeyR} (k : KpN H H') (h : BkPl K H b ks) : BkPl K H' b ks := by
  obtain ⟨dx, t, kr, g, pd, kn, s, pl, w, h1, h2⟩ := h
  exact ⟨dx, t, kr, g, pd, kn, s, pl, w, k _ _ (fun _ z => by cases z) (fun _ z => by cases z) h1, k _ _ (fun _ z => by cases z) (fun _ z => by cases z) h2⟩
theorem BkOk.kp {K : Frag} {H H' : Hp} {b kr : Addr} {ks : List KeyR} (k : KpN H H') (h : BkOk K H b ks kr) : BkOk K H' b ks kr := ⟨h.r.kp k, h.p.kp k, h.four⟩
theorem StK.kp {K : Frag} {H H' : Hp} {a b kr w : Addr} {ks : List KeyR} {ws : List Int} (k : KpN H H') (h : StK K H a b kr w ks ws) : StK K H' a b kr w ks ws := by
  obtain ⟨⟨dx, h1, h2⟩, h3, h4⟩ := h
  exact ⟨⟨dx, k _ _ (fun _ z => by cases z) (fun _ z => by cases z) h1, k _ _ (fun _ z => by cases z) (fun _ z => by cases z) h2⟩, h3.kp k, h4⟩
theorem tabs_kp {K : Frag} {H H' : Hp} (h : LamX.Tabs (lamT K) H) (k : ∀ b o, ((∃ ps, o = .tbl ps) ∨ ∃ c q, o = LamX.CodeO c q) → H b = some o → H' b = some o) : LamX.Tabs (lamT K) H' := fun p hp => by
  obtain ⟨ps, h1, h2, h3⟩ := h p hp
  refine ⟨ps, k _ _ (.inl ⟨_, rfl⟩) h1, h2, fun pos cv hc => ?_⟩
  obtain ⟨c, e1, e2⟩ := h3 pos cv hc
  exact ⟨c, e1, k _ _ (.inr ⟨_, _, rfl⟩) e2⟩
/-- tables stay where all but an instance or a list stays -/
theorem tabs_but {K : Frag} {H H' : Hp} {a : Addr} {o : HO} (h : LamX.Tabs (lamT K) H) (k : But a H H') (ha : H a = some o) (ho : ∀ ps, o ≠ .tbl ps) (hc : ∀ c q, o ≠ LamX.CodeO c q) : LamX.Tabs (lamT K) H' := tabs_kp h fun b u hu e => k b u (fun z => by
  rw [z, ha] at e
  rcases hu with ⟨ps, rfl⟩ | ⟨c, q, rfl⟩
  · exact ho _ (Option.some.inj e)
  · exact hc _ _ (Option.some.inj e)) e
theorem set_wok {ks : List KeyR} {ws : List Int} (h : WOk ks ws) {i : Nat} {k : KeyR} {z : Int} (hk : ks[i]? = some k) (h1 : k.lo ≤ z) (h2 : z < (k.size : Int)) : WOk ks (ws.set i z) := by
  have key : ∀ {ks : List KeyR} {ws : List Int}, WOk ks ws → ∀ {i : Nat}, ks[i]? = some k → WOk ks (ws.set i z) := by
    intro ks ws h
    induction h with
    | nil => intro i hk; cases hk
    | cons hr ht ih =>
      intro i hk
      cases i with
      | zero =>
        obtain rfl := Option.some.inj hk
        exact .cons ⟨h1, h2⟩ ht
      | succ i => exact .cons hr (ih hk)
  exact key h hk
theorem due_wok {ks : List KeyR} {ws : List Int} {deed : Str} {v x : V} (hk : KeysOk ks) (h : WOk ks ws) : WOk ks (dueR ks ws deed v x).2.2 := by
  unfold dueR
  cases hix : keyIx ks v with
  | none => exact h
  | some i =>
    obtain ⟨k, hki, _⟩ := keyIx_some hix
    have egk : ks.getD i ⟨"", 0, false⟩ = k := by rw [List.getD_eq_getElem?_getD, hki]; rfl
    have hs := (hk.ok k (List.mem_of_getElem? hki)).sz
    dsimp only
    rw [egk]
    split
    · split <;> exact h
    · split
      · split
        · rename_i hm
          split
          · exact h
          · exact set_wok h hki (by unfold KeyR.lo; rw [if_pos hm]; exact Int.le_refl _) (by rcases hs with e | e <;> rw [e] <;> decide)
        · exact h
      · split
        · rename_i z hz
          cases x with
          | int y =>
            rw [setB_int] at hz
            split at hz
            · rename_i hb
              obtain rfl := Option.some.inj hz
              exact set_wok h hki (by unfold KeyR.lo; split <;> omega) hb.2
            · cases hz
          | _ => cases hz
        · exact h
def DatO (o : HO) : Prop := (∃ xs, o = .lst xs) ∨ (∃ xs, o = .tup xs) ∨ ∃ kvs, o = .dK kvs
mutual
theorem dt_kp {H H' : Hp} (e : ∀ b o, DatO o → H b = some o → H' b = some o) : ∀ {v : V} {d : PyData}, DT H v d → DT H' v d
  | _, _, .non => .non
  | _, _, .bl b => .bl b
  | _, _, .int i => .int i
  | _, _, .str x => .str x
  | _, _, .lst h r => .lst (e _ _ (.inl ⟨_, rfl⟩) h) (dts_kp e r)
  | _, _, .tup h r => .tup (e _ _ (.inr (.inl ⟨_, rfl⟩)) h) (dts_kp e r)
  | _, _, .dk h r => .dk (e _ _ (.inr (.inr ⟨_, rfl⟩)) h) (dts_kp e r)
theorem dts_kp {H H' : Hp} (e : ∀ b o, DatO o → H b = some o → H' b = some o) : ∀ {v : List V} {d : List PyData}, DTs H v d → DTs H' v d
  | _, _, .nil => .nil
  | _, _, .cons h r => .cons (dt_kp e h) (dts_kp e r)
end
/-- a value that can be told -/
structure ValOk (H : Hp) (v : V) (d : PyData) : Prop where
  dt : DT H v d
  sh : d.showable = true
  dp : d.depth ≤ 50
  ln : d.shown.length ≤ 500
theorem due_val {H : Hp} {ks : List KeyR} {ws : List Int} {deed : Str} {v x : V} {dn dx : PyData} {K : Frag} (hk : KeysOk ks) (hW : WOk ks ws) (hv : NmOk H ks v dn) (hx : ThOk K H x dx) : ∃ d, ValOk H (dueR ks ws deed v x).2.1 d := by
  have rv : ∃ d, ValOk H v d := ⟨dn, hv.dt, hv.sh, hv.dp, hv.ln⟩
  have rx : ∃ d, ValOk H x d := ⟨dx, hx.dt, hx.sh, hx.dp, hx.ln⟩
  have rn : ∃ d, ValOk H .non d := ⟨.none, .non, rfl, by decide, by decide +kernel⟩
  unfold dueR
  cases hix : keyIx ks v with
  | none => exact rv
  | some i =>
    obtain ⟨k, hki, _⟩ := keyIx_some hix
    have ri : ∃ d, ValOk H (.int (ws.getD i 0)) d := by
      have hb : -1 ≤ ws.getD i 0 ∧ ws.getD i 0 ≤ 3 := by
        rw [List.getD_eq_getElem?_getD]
        cases hw : ws[i]? with
        | none => exact ⟨by decide, by decide⟩
        | some z =>
          have hl : ks.length = ws.length := Paired.length hW
          obtain ⟨z', hz', h1, h2⟩ := Paired.get? hW hki
          rw [hw] at hz'
          obtain rfl := Option.some.inj hz'
          have hs := (hk.ok k (List.mem_of_getElem? hki)).sz
          unfold KeyR.lo at h1
          show -1 ≤ z ∧ z ≤ 3
          constructor
          · split at h1 <;> omega
          · rcases hs with e | e <;> rw [e] at h2 <;> omega
      generalize ws.getD i 0 = z at hb
      have key : ∀ z : Int, z = -1 ∨ z = 0 ∨ z = 1 ∨ z = 2 ∨ z = 3 → (PyData.int z).showable = true ∧ (PyData.int z).shown.length ≤ 500 := by
        rintro z (rfl | rfl | rfl | rfl | rfl) <;> decide +kernel
      obtain ⟨a, b⟩ := key z (by omega)
      exact ⟨.int z, .int z, a, by simp [PyData.depth], b⟩
    dsimp only
    split
    · split
      · exact rv
      · exact ri
    · split
      · split
        · split
          · exact rv
          · exact rn
        · exact rv
      · split
        · exact rn
        · exact rx
end KP

/-! the law: a turn. -/
namespace KP
open PySem PySem.Spec PyProof.Rows L2 G137 SlX
/-- all but p, a and the tables stay -/
def ButT (p a : Addr) (H H' : Hp) : Prop := ∀ b o, b ≠ p → b ≠ a → (∀ ps, o ≠ .tbl ps) → H b = some o → H' b = some o
def spTurn (K : Frag) : Sp := fun vs H Q _ => ∃ (p lk a ln bk kr w : Addr) (ts : List Addr) (ks : List KeyR) (ws : List Int) (b : Nat), vs = [.ref p, .ref lk, .ref a, .ref ln] ∧ Pot H p b ∧ b + 10 < 100000 ∧ H lk = some (.lst (ts.map V.ref)) ∧ KeyRows H ts ks ∧ KeysOk ks ∧ StK K H a bk kr w ks ws ∧ H ln = some (.lst (ws.map V.int)) ∧ ln ≠ p ∧ WOk ks ws ∧ LamX.Tabs (lamT K) H ∧
  ∀ (l w' : Addr) (ws' : List Int) (H' : Hp), H' l = some (.lst (ws'.map V.int)) → StK K H' a bk kr w' ks ws' → WOk ks ws' → ButT p a H H' → Pot H' p (b + 5) → LamX.Tabs (lamT K) H' → (l = ln ∨ H l = none) → Q (.ref l) H'
theorem same_upd2 {H : Hp} {a : Addr} {o o' : HO} (n : H a = none) : Same H (upd (upd H a o) a o') := fun b u e => by
  have hb := ne_of_none e n
  rw [upd_ne hb, upd_ne hb]
  exact e
theorem due_word (ks : List KeyR) (ws : List Int) (deed : Str) (v x : V) : (dueR ks ws deed v x).1 ∈ (["NoKey", "Gone", "fine", "Lasting", "BadWorth"] : List Str) := by
  unfold dueR
  cases keyIx ks v with
  | none => show ("NoKey" : Str) ∈ _; decide +kernel
  | some i =>
    dsimp only
    split
    · split
      · show ("Gone" : Str) ∈ _; decide +kernel
      · show ("fine" : Str) ∈ _; decide +kernel
    · split
      · split
        · split
          · show ("Gone" : Str) ∈ _; decide +kernel
          · show ("fine" : Str) ∈ _; decide +kernel
        · show ("Lasting" : Str) ∈ _; decide +kernel
      · split
        · show ("fine" : Str) ∈ _; decide +kernel
        · show ("BadWorth" : Str) ∈ _; decide +kernel
section
variable {ks : List KeyR} {ws : List Int} {v x : V} {i : Nat} {k : KeyR}
theorem due_none {deed : Str} (h : keyIx ks v = none) : dueR ks ws deed v x = (("NoKey" : Str), v, ws) := by unfold dueR; rw [h]
theorem gd (hk : ks[i]? = some k) : ks.getD i ⟨"", 0, false⟩ = k := by rw [List.getD_eq_getElem?_getD, hk]; rfl
theorem gw {z : Int} (hw : ws[i]? = some z) : ws.getD i 0 = z := by rw [List.getD_eq_getElem?_getD, hw]; rfl
theorem due_set {z : Int} (h : keyIx ks v = some i) (hk : ks[i]? = some k) (hz : setB k x = some z) : dueR ks ws "set" v x = (("fine" : Str), .non, ws.set i z) := by
  unfold dueR
  rw [h]
  dsimp only
  rw [if_neg (by decide), if_neg (by decide), gd hk, hz]
theorem due_bad (h : keyIx ks v = some i) (hk : ks[i]? = some k) (hz : setB k x = none) : dueR ks ws "set" v x = (("BadWorth" : Str), x, ws) := by
  unfold dueR
  rw [h]
  dsimp only
  rw [if_neg (by decide), if_neg (by decide), gd hk, hz]
theorem due_dropF {z : Int} (h : keyIx ks v = some i) (hk : ks[i]? = some k) (hm : k.may = true) (hw : ws[i]? = some z) (hz : z ≠ -1) : dueR ks ws "drop" v x = (("fine" : Str), .non, ws.set i (-1)) := by
  unfold dueR
  rw [h]
  dsimp only
  rw [if_neg (by decide), if_pos rfl, gd hk, if_pos hm, gw hw, if_neg hz]
theorem due_dropL (h : keyIx ks v = some i) (hk : ks[i]? = some k) (hm : k.may = false) : dueR ks ws "drop" v x = (("Lasting" : Str), v, ws) := by
  unfold dueR
  rw [h]
  dsimp only
  rw [if_neg (by decide), if_pos rfl, gd hk, if_neg (by rw [hm]; exact Bool.false_ne_true)]
theorem due_dropG (h : keyIx ks v = some i) (hk : ks[i]? = some k) (hm : k.may = true) (hw : ws[i]? = some (-1)) : dueR ks ws "drop" v x = (("Gone" : Str), v, ws) := by
  unfold dueR
  rw [h]
  dsimp only
  rw [if_neg (by decide), if_pos rfl, gd hk, if_pos hm, gw hw, if_pos rfl]
theorem due_readF {z : Int} (h : keyIx ks v = some i) (hw : ws[i]? = some z) (hz : z ≠ -1) : dueR ks ws "read" v x = (("fine" : Str), .int z, ws) := by
  unfold dueR
  rw [h]
  dsimp only
  rw [if_pos rfl, gw hw, if_neg hz]
theorem due_readG (h : keyIx ks v = some i) (hw : ws[i]? = some (-1)) : dueR ks ws "read" v x = (("Gone" : Str), v, ws) := by
  unfold dueR
  rw [h]
  dsimp only
  rw [if_pos rfl, gw hw, if_pos rfl]
end
theorem word_repr : ∀ z ∈ (["NoKey", "Gone", "fine", "Lasting", "BadWorth", "BadStore"] : List Str), (reprText z).length ≤ 20 := by decide +kernel
/-- a pair of a word and a value, as data -/
theorem pair_ok {H : Hp} {t : Addr} {wd : Str} {v : V} {d : PyData} (ht : H t = some (.tup [.str wd, v])) (hw : (reprText wd).length ≤ 20) (h : ValOk H v d) : DT H (.ref t) (.tuple [.str wd, d]) ∧ (PyData.tuple [.str wd, d]).showable = true ∧ (PyData.tuple [.str wd, d]).depth ≤ 60 ∧ (PyData.tuple [.str wd, d]).shown.length ≤ sizeLine := by
  have hbig := sizeLine_big
  have h1 := h.dp
  have h2 := h.ln
  refine ⟨.tup ht (.cons (.str _) (.cons h.dt .nil)), by simp [PyData.showable, PyData.showableAll, h.sh], by simp [PyData.depth, PyData.depthAll]; omega, ?_⟩
  rw [PyData.shown_tuple, len_app, len_app]
  show 1 + (reprText wd ++ (", " : Str) ++ d.shown).length + 1 ≤ _
  rw [len_app, len_app]
  show 1 + ((reprText wd).length + 2 + d.shown.length) + 1 ≤ _
  omega
section
variable {P : Program} {w : World} {K : Frag} {mg : Str → Option Value} {base : Heap}
theorem pe_dropK {X : Cx} (T : Pr X.K X.mg) (R : Er X.prog X.w X.K X.mg X.base) {o e : Expr} {ta te : TE} {E : XK} {apos pos kpos : Pos} {pl : Sem Bool} (he : PE X o ta) (hv : PE X e te) (hr : Room 5 X.A) (hx : Passes (L2.CX X.prog X.w) X E)
    (ht : eval (.Call (.Attribute o "drop" apos) [] [⟨some "key", e, kpos⟩] pos) X.env = (do
      let ov ← eval o X.env
      standAt apos.atName
      let (f, first) ← holding [ov] (getMethod ov "drop" pl)
      callWith pos f first (backTo pos (starEach [] X.env)) (backToKw pos (keywordEach [⟨some "key", e, kpos⟩] X.env))) := by rfl) :
    PE X (.Call (.Attribute o "drop" apos) [] [⟨some "key", e, kpos⟩] pos) (tMethK (cA X.K "Store") "drop" 1 (spDrop X.K) (fun vs zs => vs ++ zs) E ta (tCons te tNil)) := by
  obtain ⟨fd, F⟩ := T.f_Store_drop
  have hb : KBn X.K fd ["self", "key"] 1 ["key"] (fun us ws => us ++ ws) (fun vs zs => vs ++ zs) := FunD.kbindsN (g := fun us ws => us ++ ws) F (fun r1 r2 => r1.append r2) (fun _ _ _ _ _ _ us ws h1 h2 => match us, ws, h1, h2 with | [_], [_], _, _ => rfl)
  exact pe_methK0 (ks := ["key"]) he (T.cls "Store" (by decide +kernel)) (T.meth "Store" "drop" (by decide +kernel)) (fn_drop T R F) hr hb hx (pk_cons hv pk_nil) rfl rfl rfl ht
theorem sc_law_turn : FnScope ["_law_pot_here", "_law_keys_here", "_law_held", "_law_now", "_law_entry", "_law_names_here", "_law_name", "_law_thing", "_law_deed", "_law_due_here", "_law_later", "_law_told"] ["_law_pot_here", "_law_keys_here", "_law_held", "_law_now"] (defScope d_law_turn) := ⟨rfl, rfl, rfl, by decide +kernel, rfl, by decide +kernel, by decide +kernel⟩
theorem ok_law_turn (T : Pr K mg) (R : Er P w K mg base) (G : Gd K mg base) : FOkG P w K mg base 10 "_law_turn" ["_law_pot_here", "_law_keys_here", "_law_held", "_law_now"] (spTurn K) := by
  obtain ⟨fd, F⟩ := T.f_law_turn
  have brepr := T.fre "repr" (by decide +kernel)
  obtain ⟨osys, hsys⟩ := G.sys
  refine FOkG.of F (T.glo _ (by decide +kernel)) sc_law_turn (fun _ _ _ _ _ _ us hl => match us, hl with | [_, _, _, _], _ => rfl) (fun vs H Q E h => ?_) (fun A outer s H vs Q E hgd hr h => ?_)
  · obtain ⟨_, _, _, _, _, _, _, _, _, _, _, rfl, _⟩ := h; rfl
  have hgA : (A.deeper (envOfC "_law_turn" (defScope d_law_turn) s.heap.objs.size (He.ga K "_law_turn") (.ref (He.cT K ("_law_turn", none)).1))).guards = some [] := deeper_guards hgd
  have hu : (A.deeper (envOfC "_law_turn" (defScope d_law_turn) s.heap.objs.size (He.ga K "_law_turn") (.ref (He.cT K ("_law_turn", none)).1))).units + 65 < cLine := by have := hr.un; omega
  have hu1 : (A.deeper (envOfC "_law_turn" (defScope d_law_turn) s.heap.objs.size (He.ga K "_law_turn") (.ref (He.cT K ("_law_turn", none)).1))).units + 1 < cLine := by omega
  have hu64 : (A.deeper (envOfC "_law_turn" (defScope d_law_turn) s.heap.objs.size (He.ga K "_law_turn") (.ref (He.cT K ("_law_turn", none)).1))).units + 64 < cLine := by omega
  refine ⟨_, PSs.nox (pss_cons (ps_setLc (i := 5) (own := [("_law_entry", 4)]) (g := gName 4) (tt := tYes) (te := tOp (rIxT K) (tVar 4) (tC (.int 0))) rfl sc_law_turn.nd rfl rfl (sw_true rfl rfl rfl (by decide +kernel)) (pi_list (pv 1)) (blkOk_by (own := [("_law_entry", 4)]) (N := ["_law_pot_here", "_law_keys_here", "_law_held", "_law_now", "_law_entry", "_law_names_here", "_law_name", "_law_thing", "_law_deed", "_law_due_here", "_law_later", "_law_told"]) (sc := defScope d_law_turn) (by decide +kernel)) (fun _ _ _ _ _ => (pg_name (i := 4) sc_law_turn.nd rfl (Or.inl rfl))) (fun _ _ _ _ _ => pts_nil) (fun _ _ _ _ _ => (pe_ix ix_tup (pv 4) pe_int (fun _ _ => rfl))))
    (pss_cons (ps_set (i := 6) sc_law_turn.nd rfl (Or.inr rfl) (pe_callF (ok_law_of T) (hr.mono (by decide)) rfl (pa_cons (pv 0) (pa_cons (pe_op (op_cat) (pe_op (op_rep) (pv 5) pe_int) (pe_lst (pa_cons pe_non (pa_cons pe_int (pa_cons pe_bl (pa_cons pe_str (pa_cons pe_str (pa_cons (pe_tup (pa_cons (pe_ix ix_list (pv 5) pe_int (fun _ _ => rfl)) pa_nil)) (pa_cons (pe_lst (pa_cons (pe_ix ix_list (pv 5) pe_int (fun _ _ => rfl)) pa_nil)) (pa_cons (pe_disp (pps_cons (pe_ix ix_list (pv 5) pe_int (fun _ _ => rfl)) pe_int pps_nil) rfl rfl (by simp) (by decide)) (pa_cons (pe_op (op_add_str) (pe_ix ix_list (pv 5) pe_int (fun _ _ => rfl)) pe_str) pa_nil))))))))))) pa_nil))))
    (pss_cons (ps_set (i := 7) sc_law_turn.nd rfl (Or.inr rfl) (pe_callF (ok_law_of T) (hr.mono (by decide)) rfl (pa_cons (pv 0) (pa_cons (pe_lst (pa_cons pe_int (pa_cons pe_int (pa_cons pe_int (pa_cons pe_int (pa_cons pe_int (pa_cons pe_int (pa_cons (pe_un un_neg pe_int) (pa_cons (pe_un un_neg pe_int) (pa_cons pe_bl (pa_cons pe_non (pa_cons pe_str (pa_cons (pe_tup (pa_cons pe_int pa_nil)) (pa_cons (pe_lst (pa_cons pe_int pa_nil)) (pa_cons (pe_op (op_pow) pe_int pe_int) pa_nil))))))))))))))) pa_nil))))
    (pss_cons (ps_set (i := 8) sc_law_turn.nd rfl (Or.inl rfl) (pe_callF (ok_law_of T) (hr.mono (by decide)) rfl (pa_cons (pv 0) (pa_cons (pe_lst (pa_cons pe_str (pa_cons pe_str (pa_cons pe_str (pa_cons pe_str pa_nil))))) pa_nil))))
    (pss_cons (ps_asg (pe_callGF (ok_law_due T R G) hgA (hr.mono (by decide)) rfl (pa_cons (pv 1) (pa_cons (pv 3) (pa_cons (pv 8) (pa_cons (pv 6) (pa_cons (pv 7) pa_nil)))))) (pg_tup rfl (pgs_cons (pg_name (i := 9) sc_law_turn.nd rfl (Or.inl rfl)) (pgs_cons (pg_name (i := 10) sc_law_turn.nd rfl (Or.inl rfl)) pgs_nil))))
    (pss_cons (ps_if (pt_cmpR op_eq (pv 8) pe_str (nomark _))
      (pss_one (ps_set (i := 11) sc_law_turn.nd rfl (Or.inl rfl) (by refine pe_heard (x := "_law_turn") (k := 7) (t := (fun E => tCall (spSet K) [] E (tCons (tVar 2) (tCons (tVar 6) (tCons (tVar 7) tNil))))) T R G ?a ?b ?c ?d ?e ?f ?g ?h ?i; (case a => decide +kernel); (case b => exact (List.mem_cons_self ..)); (case c => rfl); (case d => rfl); (case e => exact (hr.mono (by decide))); (case f => exact LamX.lamS_by (by kernel_rfl)); (case g => rfl); (case h => exact fun _ _ _ _ _ => rfl); (case i => exact (fun A outer s H E f c hr => (pe_callX (ok_law_let T R) (hr.mono (by decide)) (passes_call (takes_of rfl rfl rfl rfl) fun _ _ _ _ h => h) rfl (pa_cons (pv 2) (pa_cons (pv 6) (pa_cons (pv 7) pa_nil)))))))))
      (pss_one (ps_if (pt_cmpR op_eq (pv 8) pe_str (nomark _))
      (pss_one (ps_set (i := 11) sc_law_turn.nd rfl (Or.inl rfl) (by refine pe_heard (x := "_law_turn") (k := 7) (t := (fun E => tMethK (cA K "Store") "drop" 1 (spDrop K) (fun vs zs => vs ++ zs) E (tVar 2) (tCons (tVar 6) tNil))) T R G ?a ?b ?c ?d ?e ?f ?g ?h ?i; (case a => decide +kernel); (case b => exact (List.mem_cons_self ..)); (case c => rfl); (case d => rfl); (case e => exact (hr.mono (by decide))); (case f => exact LamX.lamS_by (by kernel_rfl)); (case g => rfl); (case h => exact fun _ _ _ _ _ => rfl); (case i => exact (fun A outer s H E f c hr => (pe_dropK T R (pv 2) (pv 6) (hr.mono (by decide)) (passes_call (takes_of rfl rfl rfl rfl) fun _ _ _ _ h => h)))))))
      (pss_one (ps_set (i := 11) sc_law_turn.nd rfl (Or.inl rfl) (by refine pe_heard (x := "_law_turn") (k := 7) (t := (fun E => tSubOwn (cA K "Store") (spGet K) E (tVar 2) (tVar 6))) T R G ?a ?b ?c ?d ?e ?f ?g ?h ?i; (case a => decide +kernel); (case b => exact (List.mem_cons_self ..)); (case c => rfl); (case d => rfl); (case e => exact (hr.mono (by decide))); (case f => exact LamX.lamS_by (by kernel_rfl)); (case g => rfl); (case h => exact fun _ _ _ _ _ => rfl); (case i => exact (fun A outer s H E f c hr => (pe_subOwn (MOkX.dun (ok_Store_get T R) (dunF T (by decide +kernel))) (hr.mono (by decide)) (passes_call (takes_of rfl rfl rfl rfl) fun _ _ _ _ h => h) (pv 2) (pv 6))))))))))
    (pss_one (ps_ret (pe_ifExp (pt_cmpR op_eq (pe_callB (call_reprT hgA hu64 hsys) (by rfl) brepr (by decide +kernel) (pa_cons (pv 11) pa_nil)) (pe_callB (call_reprT hgA hu64 hsys) (by rfl) brepr (by decide +kernel) (pa_cons (pv 9) pa_nil)) (nomark _)) (pv 10) pe_non))))))))), ?_⟩
  have hbig := sizeLine_big
  obtain ⟨p, lk, a, ln, bk, kr, wa, ts, ks, ws, b, rfl, hP, hb, hlk, hK, hk, hS, hln, hlnp, hW, hT, hQ⟩ := h
  have hlen : ts.length = ks.length := Paired.length hK
  have h4 := hk.four
  obtain ⟨k0, r0, ek, eh⟩ := head_ok hk
  have hlkp : lk ≠ p := fun z => by
    obtain ⟨_, _, _, h, _⟩ := hP
    rw [z, show H p = _ from h] at hlk
    have h1 := Option.some.inj hlk
    injection h1 with h1
    cases ts with
    | nil => cases h1
    | cons t r => cases h1
  refine ⟨_, rfl, lk, rfl, ⟨_, SqL.of hlk⟩, fun D nD => ?_⟩
  refine lc_list (xs := ts.map V.ref) (AccP (fun i => (ks.take i).map fun k => V.str k.name) D H) (acc_start rfl) (fun i G _ q => SqL.of (q.same nD _ _ hlk)) (fun i v G hi q => ?_) (fun G1 q => ?_)
  · rw [List.getElem?_map] at hi
    obtain ⟨t, ht, rfl⟩ := Option.map_eq_some_iff.mp hi
    obtain ⟨k, hkk, htk⟩ := Paired.get? hK ht
    refine ⟨rfl, ?_⟩
    dsimp only [tYes]
    rw [if_pos rfl]
    refine ⟨_, rfl, t, _, 0, .str k.name, rfl, rfl, SqT.of (q.same nD _ _ htk), atI_nat (j := 0) rfl, acc_step q (Same.refl _) ?_ ?_⟩
    · rw [List.length_map, List.length_take]; omega
    · show (ks.take (i + 1)).map _ = (ks.take i).map _ ++ [V.str k.name]
      rw [List.take_add_one, hkk, List.map_append]; rfl
  have hD : G1 D = some (.lst (ks.map fun k => V.str k.name)) := by
    have := q.1
    rw [List.length_map, hlen] at this
    rw [this]
    show some (HO.lst ((ks.take ks.length).map _)) = _
    rw [List.take_length]
  have s1 := q.same nD
  have hP1 := hP.same s1
  have h0 : (ks.map fun k => V.str k.name)[0]? = some (.str (hdN ks)) := by rw [eh, ek]; rfl
  have h8 := nameS_len (hdN_ok hk).2
  refine ⟨_, rfl, _, rfl, D, 4, _, rfl, rfl, hD, by decide, by decide, ?_, fun q1 n1 => ?_⟩
  · rw [List.length_map]; show ks.length * 4 ≤ _; omega
  have u1 := same_upd (o := .lst (List.replicate 4 (ks.map fun k => V.str k.name)).flatten) n1
  have hq1 : upd G1 q1 (.lst (List.replicate 4 (ks.map fun k => V.str k.name)).flatten) q1 = _ := upd_same
  have hD2 := u1 _ _ hD
  have s2 := s1.trans u1
  show (_ : Hp → Prop) (upd G1 q1 (.lst (List.replicate 4 (ks.map fun k => V.str k.name)).flatten))
  generalize upd G1 q1 (.lst (List.replicate 4 (ks.map fun k => V.str k.name)).flatten) = G2 at hq1 hD2 s2 ⊢
  refine ⟨_, rfl, D, _, 0, _, rfl, rfl, SqL.of hD2, atI_nat (j := 0) h0, by show 1 ≤ sizeLine; decide, fun q2 n2 => ?_⟩
  have u3 := same_upd (o := .tup [.str (hdN ks)]) n2
  have hq2 : upd G2 q2 (.tup [.str (hdN ks)]) q2 = _ := upd_same
  have hq1 := u3 _ _ hq1
  have hD3 := u3 _ _ hD2
  have s3 := s2.trans u3
  generalize upd G2 q2 (.tup [.str (hdN ks)]) = G3 at hq1 hq2 hD3 s3 ⊢
  refine ⟨_, rfl, D, _, 0, _, rfl, rfl, SqL.of hD3, atI_nat (j := 0) h0, by show 1 ≤ sizeLine; decide, fun q3 n3 => ?_⟩
  have u4 := same_upd (o := .lst [.str (hdN ks)]) n3
  have hq3 : upd G3 q3 (.lst [.str (hdN ks)]) q3 = _ := upd_same
  have hq1 := u4 _ _ hq1
  have hq2 := u4 _ _ hq2
  have hD4 := u4 _ _ hD3
  have s4 := s3.trans u4
  generalize upd G3 q3 (.lst [.str (hdN ks)]) = G4 at hq1 hq2 hq3 hD4 s4 ⊢
  intro q4 n4
  have u5 := same_upd (o := .dK []) n4
  refine ⟨_, rfl, D, _, 0, _, rfl, rfl, SqL.of (u5 _ _ hD4), atI_nat (j := 0) h0, upd_same, [(Sum.inr (hdN ks), .int 0)], rfl, by show 1 ≤ 15; decide, ?_⟩
  have u6 := same_upd2 (o := .dK []) (o' := .dK (mergeK [] [(Sum.inr (hdN ks), .int 0)])) n4
  have hq4 : upd (upd G4 q4 (.dK [])) q4 (.dK (mergeK [] [(Sum.inr (hdN ks), .int 0)])) q4 = some (.dK [(Sum.inr (hdN ks), .int 0)]) := upd_same
  have hq1 := u6 _ _ hq1
  have hq2 := u6 _ _ hq2
  have hq3 := u6 _ _ hq3
  have hD5 := u6 _ _ hD4
  have s5 := s4.trans u6
  generalize upd (upd G4 q4 (.dK [])) q4 (.dK (mergeK [] [(Sum.inr (hdN ks), .int 0)])) = G5 at hq1 hq2 hq3 hq4 hD5 s5 ⊢
  refine ⟨_, rfl, D, _, 0, _, rfl, rfl, SqL.of hD5, atI_nat (j := 0) h0, _, _, rfl, rfl, by show _ + 1 ≤ _; omega, by show 9 ≤ sizeLine; decide, fun q5 n5 => ?_⟩
  have u7 := same_upd (o := .lst [.non, .int 0, .bl true, .str "", .str "A", .ref q2, .ref q3, .ref q4, .str (hdN ks ++ (" " : Str))]) n5
  refine ⟨q1, q5, _, _, rfl, rfl, u7 _ _ hq1, upd_same, ?_, fun q6 n6 => ?_⟩
  · rw [List.length_flatten, List.map_replicate, List.sum_replicate_nat, List.length_map]; show 4 * ks.length + 9 ≤ _; omega
  have u8 := same_upd (o := .lst (nmL ks q2 q3 q4)) n6
  have s6 := s5.trans (u7.trans u8)
  have hP6 := hP.same s6
  have hq2 := u8 _ _ (u7 _ _ hq2)
  have hq3 := u8 _ _ (u7 _ _ hq3)
  have hq4 := u8 _ _ (u7 _ _ hq4)
  have hq6p : q6 ≠ p := (hP.same (s5.trans u7)).ne n6
  refine ⟨p, q6, nmL ks q2 q3 q4, b, rfl, hP6, SqL.of upd_same, hq6p, ?_, ?_, by omega, fun j y G7 hj k7 hP7 => ?_⟩
  · unfold nmL; rw [List.length_append]; show 0 < _ + 9; omega
  · unfold nmL; rw [List.length_append, List.length_flatten, List.map_replicate, List.sum_replicate_nat, List.length_map]; show 4 * ks.length + 9 < _; omega
  have nep : ∀ {c : Addr} {o : HO}, (∀ a b c, o ≠ .lst [.int a, .int b, .int c]) → ∀ {G : Hp} {n : Nat}, Pot G p n → G c = some o → c ≠ p := by
    intro c o ho G n hp e z
    obtain ⟨n0, n1, n2, h, _⟩ := hp
    rw [z, show G p = _ from h] at e
    exact ho _ _ _ (Option.some.inj e).symm
  have hq2 := k7 _ _ (nep (fun _ _ _ z => by cases z) hP6 hq2) hq2
  have hq3 := k7 _ _ (nep (fun _ _ _ z => by cases z) hP6 hq3) hq3
  have hq4 := k7 _ _ (nep (fun _ _ _ z => by cases z) hP6 hq4) hq4
  have b7 : But p H G7 := fun c u hc e => k7 _ _ hc (s6 _ _ e)
  refine ⟨_, rfl, 1, rfl, 2, rfl, by show 1 ≤ sizeLine; decide, fun r1 m1 => ?_⟩
  have v1 := same_upd (o := .tup [.int 0]) m1
  have hr1 : upd G7 r1 (.tup [.int 0]) r1 = _ := upd_same
  have hP8 := hP7.same v1
  generalize upd G7 r1 (.tup [.int 0]) = G8 at v1 hr1 hP8 ⊢
  refine ⟨by show 1 ≤ sizeLine; decide, fun r2 m2 => ?_⟩
  have v2 := same_upd (o := .lst [.int 1]) m2
  have hr2 : upd G8 r2 (.lst [.int 1]) r2 = _ := upd_same
  have hr1 := v2 _ _ hr1
  have hP9 := hP8.same v2
  generalize upd G8 r2 (.lst [.int 1]) = G9 at v2 hr1 hr2 hP9 ⊢
  refine ⟨_, _, rfl, rfl, ⟨by decide, by decide⟩, by show 14 ≤ sizeLine; decide, fun r3 m3 => ?_⟩
  have v3 : Same G9 (upd G9 r3 (.lst (thL r1 r2))) := same_upd m3
  have hr3 : upd G9 r3 (.lst (thL r1 r2)) r3 = _ := upd_same
  have hr1 := v3 _ _ hr1
  have hr2 := v3 _ _ hr2
  have hPa := hP9.same v3
  have hr3p : r3 ≠ p := hP9.ne m3
  have v13 := v1.trans (v2.trans v3)
  show (_ : Hp → Prop) (upd G9 r3 (.lst (thL r1 r2)))
  generalize upd G9 r3 (.lst (thL r1 r2)) = Ga at v3 v13 hr1 hr2 hr3 hPa ⊢
  refine ⟨p, r3, thL r1 r2, b + 1, rfl, hPa, SqL.of hr3, hr3p, by show 0 < 14; decide, by show 14 < 1000000; decide, by omega, fun j2 x Gb hj2 kb hPb => ?_⟩
  have hr1 := kb _ _ (nep (fun _ _ _ z => by cases z) hPa hr1) hr1
  have hr2 := kb _ _ (nep (fun _ _ _ z => by cases z) hPa hr2) hr2
  have bb : But p G7 Gb := fun c u hc e => kb _ _ hc (v13 _ _ e)
  refine ⟨_, rfl, by show 4 ≤ sizeLine; decide, fun r4 m4 => ?_⟩
  have v4 : Same Gb (upd Gb r4 (.lst ((["set", "set", "drop", "read"] : List Str).map V.str))) := same_upd m4
  have hr4 : upd Gb r4 (.lst ((["set", "set", "drop", "read"] : List Str).map V.str)) r4 = _ := upd_same
  have hPc := hPb.same v4
  have hr4p : r4 ≠ p := hPb.ne m4
  show (_ : Hp → Prop) (upd Gb r4 (.lst ((["set", "set", "drop", "read"] : List Str).map V.str)))
  generalize upd Gb r4 (.lst ((["set", "set", "drop", "read"] : List Str).map V.str)) = Gc at v4 hr4 hPc ⊢
  refine ⟨p, r4, _, b + 2, rfl, hPc, SqL.of hr4, hr4p, by show 0 < 4; decide, by show 4 < 1000000; decide, by omega, fun j3 ye Gd' hj3 kd hPd => ?_⟩
  obtain ⟨deed, hdeed, rfl⟩ : ∃ deed : Str, deed ∈ (["set", "drop", "read"] : List Str) ∧ ye = .str deed := by
    obtain ⟨z, hz, rfl⟩ := List.mem_map.mp (List.mem_of_getElem? hj3)
    have : ∀ z ∈ (["set", "set", "drop", "read"] : List Str), z ∈ (["set", "drop", "read"] : List Str) := by decide +kernel
    exact ⟨z, this z hz, rfl⟩
  have be7 : But p G7 Gd' := fun c u hc e => kd _ _ hc (v4 _ _ (bb _ _ hc e))
  have be : But p H Gd' := b7.trans be7
  have kpe : KpN H Gd' := ((KpN.of s6).trans (KpN.but k7 hP6)).trans (((KpN.of v13).trans (KpN.but kb hPa)).trans ((KpN.of v4).trans (KpN.but kd hPc)))
  have hq2 := be7 _ _ (nep (fun _ _ _ z => by cases z) hP7 hq2) hq2
  have hq3 := be7 _ _ (nep (fun _ _ _ z => by cases z) hP7 hq3) hq3
  have hq4 := be7 _ _ (nep (fun _ _ _ z => by cases z) hP7 hq4) hq4
  have hr1 := kd _ _ (nep (fun _ _ _ z => by cases z) hPc (v4 _ _ hr1)) (v4 _ _ hr1)
  have hr2 := kd _ _ (nep (fun _ _ _ z => by cases z) hPc (v4 _ _ hr2)) (v4 _ _ hr2)
  obtain ⟨dn, hnm, hpn⟩ := nm_pick hk hq2 hq3 hq4 (List.mem_of_getElem? hj)
  obtain ⟨dx, hth⟩ := th_pick (K := K) hr1 hr2 (List.mem_of_getElem? hj2)
  have hTe : LamX.Tabs (lamT K) Gd' := by
    obtain ⟨n0, n1, n2, h, _⟩ := hP
    exact tabs_but hT be h (fun _ z => by cases z) (fun _ _ z => by unfold LamX.CodeO at z; cases z)
  have hlke := be _ _ hlkp hlk
  have hlne := be _ _ hlnp hln
  have hKe := hK.kp kpe
  have hSe := hS.kp kpe
  have hwl := hS.l
  refine ⟨_, rfl, _, rfl, _, rfl, _, rfl, _, rfl, lk, ln, deed, y, x, ts, ks, ws, dn, rfl, hlke, hKe, hk, hlne, hwl, hdeed, hnm, hth.pl, fun r t l Gf sf nr hr ht hl hll => ?_⟩
  refine ⟨r, _, rfl, SqT.of hr, rfl, _, _, rfl, _, _, rfl, rfl, ?_⟩
  have hPf := hPd.same sf
  have hSf := hSe.kp (KpN.of sf)
  have hTf : LamX.Tabs (lamT K) Gf := hTe.ext sf
  obtain ⟨dv, hdv⟩ := due_val (deed := deed) hk hW hnm hth
  have hwR := due_wok (deed := deed) (v := y) (x := x) hk hW
  have hll2 : l = ln ∨ H l = none := by
    rcases hll with h | h
    · exact .inl h
    · exact .inr (be.gone hPd h)
  have hap : a ≠ p := by
    obtain ⟨⟨dxx, h1, h2⟩, _, _⟩ := hSf
    exact nep (fun _ _ _ z => by cases z) hPf h1
  have hwd := word_repr _ (List.mem_append_left [("BadStore" : Str)] (due_word ks ws deed y x))
  generalize hR : dueR ks ws deed y x = R at ht hl hdv hwR hwd
  refine ⟨_, rfl, rfl, _, rfl, ?_⟩
  refine ite_joinD (fun σ G => ∃ (tt w' : Addr), σ = [some (.ref p), some (.ref lk), some (.ref a), some (.ref ln), none, some (.ref D), some y, some x, some (.str deed), some (.ref t), some (.ref l), some (.ref tt)] ∧ G tt = some (.tup [.str R.1, R.2.1]) ∧ StK K G a bk kr w' ks R.2.2 ∧ (∀ c o, c ≠ a → (∀ ps, o ≠ .tbl ps) → Gf c = some o → G c = some o) ∧ LamX.Tabs (lamT K) G ∧ Pot G p (b + 3)) (fun hc D' rr => ?_) (fun hc D' rr => ?_) ?_
  · have hds : deed = "set" := V.str.inj (of_decide_eq_true hc)
    rw [hds] at hR
    refine ⟨hTf, fun H1 ex1 tb1 H0 s0 => ?_⟩
    have kp0 : KpN Gf H0 := (KpN.ext ex1).trans (KpN.of s0)
    have hS0 := hSf.kp kp0
    have k0 : ∀ c o, (∀ ps, o ≠ .tbl ps) → Gf c = some o → H0 c = some o := fun c o h e => s0 _ _ (ex1 c o e h)
    have t0 : LamX.Tabs (lamT K) H0 := tb1.ext s0
    have hr1' := k0 _ _ (fun _ z => by cases z) (sf _ _ hr1)
    have hr2' := k0 _ _ (fun _ z => by cases z) (sf _ _ hr2)
    have hq2' := k0 _ _ (fun _ z => by cases z) (sf _ _ hq2)
    have hq3' := k0 _ _ (fun _ z => by cases z) (sf _ _ hq3)
    have hq4' := k0 _ _ (fun _ z => by cases z) (sf _ _ hq4)
    obtain ⟨_, _, hpn'⟩ := nm_pick hk hq2' hq3' hq4' (List.mem_of_getElem? hj)
    obtain ⟨dx', hth'⟩ := th_pick (K := K) hr1' hr2' (List.mem_of_getElem? hj2)
    have ha0 : ∃ dxx, H0 a = some (.ins (cA K "Store") dxx (fsS bk kr (.ref wa))) := by
      obtain ⟨⟨dxx, h1, _⟩, _, _⟩ := hS0
      exact ⟨dxx, h1⟩
    obtain ⟨dxx, ha0⟩ := ha0
    have potK : ∀ {G : Hp}, (∀ c o, c ≠ a → (∀ ps, o ≠ .tbl ps) → Gf c = some o → G c = some o) → Pot G p (b + 3) := fun {G} kk => by
      obtain ⟨n0, n1, n2, h, hh⟩ := hPf
      exact ⟨n0, n1, n2, kk _ _ (Ne.symm hap) (fun _ z => by cases z) h, hh⟩
    have errF : ∀ (wd : Str) (val : V), R = (wd, val, ws) → ∀ {H' H'' : Hp} {tt : Addr}, Same H0 H' → Same H' H'' → H'' tt = some (.tup [.str wd, val]) → D'.nx [some (.ref p), some (.ref lk), some (.ref a), some (.ref ln), none, some (.ref D), some y, some x, some (.str deed), some (.ref t), some (.ref l), some (.ref tt)] H'' := fun wd val eR {H' H'' tt} sa sb htt =>
      have kk : ∀ c o, c ≠ a → (∀ ps, o ≠ .tbl ps) → Gf c = some o → H'' c = some o := fun c o _ h e => sb _ _ (sa _ _ (k0 c o h e))
      rr _ _ ⟨tt, wa, rfl, by rw [eR]; exact htt, by rw [eR]; exact hS0.kp (KpN.of (sa.trans sb)), kk, t0.ext (sa.trans sb), potK kk⟩
    have okF : ∀ (val : V) (ws' : List Int) (w' : Addr), R = (("fine" : Str), val, ws') → ws'.length = ks.length → ∀ {H' : Hp} {tt : Addr}, But a H0 H' → StoreAt K H' a bk kr w' ws' → H' tt = none → D'.nx [some (.ref p), some (.ref lk), some (.ref a), some (.ref ln), none, some (.ref D), some y, some x, some (.str deed), some (.ref t), some (.ref l), some (.ref tt)] (upd H' tt (.tup [.str "fine", val])) := fun val ws' w' eR hl' {H' tt} bu st ntt =>
      have u := same_upd (o := .tup [.str "fine", val]) ntt
      have kk : ∀ c o, c ≠ a → (∀ ps, o ≠ .tbl ps) → Gf c = some o → upd H' tt (.tup [.str "fine", val]) c = some o := fun c o hca h e => u _ _ (bu _ _ hca (k0 c o h e))
      rr _ _ ⟨tt, w', rfl, by rw [eR]; exact upd_same, by rw [eR]; exact StK.kp (KpN.of u) ⟨st, hS0.b.but (w := wa) bu ha0 (by show 3 ≠ 8; decide), hl'⟩, kk, (tabs_but t0 bu ha0 (fun _ z => by cases z) (fun _ _ z => by unfold LamX.CodeO at z; cases z)).ext u, potK kk⟩
    refine ⟨_, rfl, _, rfl, _, rfl, a, bk, kr, wa, ks, ws, y, x, dx', rfl, hS0, hpn', hth'.pl, hth'.dpp, hth'.shd, fun i k z e1 e2 e3 H' w' bu st tt ntt => ?_, fun i k e1 e2 e3 H' d2 s2 hd2 => ?_, fun e1 H' d2 s2 hd2 => ?_⟩
    · exact okF .non _ w' (hR.symm.trans (due_set e1 e2 e3)) (by rw [List.length_set]; exact hwl) bu st ntt
    · exact ⟨"BadWorth", by decide +kernel, d2, x, rfl, rfl, hd2, fun H'' tt s3 nt htt => errF _ _ (hR.symm.trans (due_bad e1 e2 e3)) s2 s3 htt⟩
    · exact ⟨"NoKey", by decide +kernel, d2, y, rfl, rfl, hd2, fun H'' tt s3 nt htt => errF _ _ (hR.symm.trans (due_none e1)) s2 s3 htt⟩
  · have hds : deed ≠ "set" := fun z => of_decide_eq_false hc (by rw [z])
    refine ⟨_, rfl, rfl, _, rfl, ?_⟩
    by_cases hdd : deed = "drop"
    · refine iY (decide_eq_true (by rw [hdd])) ?_
      rw [hdd] at hR
      refine ⟨hTf, fun H1 ex1 tb1 H0 s0 => ?_⟩
      have kp0 : KpN Gf H0 := (KpN.ext ex1).trans (KpN.of s0)
      have hS0 := hSf.kp kp0
      have k0 : ∀ c o, (∀ ps, o ≠ .tbl ps) → Gf c = some o → H0 c = some o := fun c o h e => s0 _ _ (ex1 c o e h)
      have t0 : LamX.Tabs (lamT K) H0 := tb1.ext s0
      have hr1' := k0 _ _ (fun _ z => by cases z) (sf _ _ hr1)
      have hr2' := k0 _ _ (fun _ z => by cases z) (sf _ _ hr2)
      have hq2' := k0 _ _ (fun _ z => by cases z) (sf _ _ hq2)
      have hq3' := k0 _ _ (fun _ z => by cases z) (sf _ _ hq3)
      have hq4' := k0 _ _ (fun _ z => by cases z) (sf _ _ hq4)
      obtain ⟨_, _, hpn'⟩ := nm_pick hk hq2' hq3' hq4' (List.mem_of_getElem? hj)
      obtain ⟨dx', hth'⟩ := th_pick (K := K) hr1' hr2' (List.mem_of_getElem? hj2)
      have ha0 : ∃ dxx, H0 a = some (.ins (cA K "Store") dxx (fsS bk kr (.ref wa))) := by
        obtain ⟨⟨dxx, h1, _⟩, _, _⟩ := hS0
        exact ⟨dxx, h1⟩
      obtain ⟨dxx, ha0⟩ := ha0
      have potK : ∀ {G : Hp}, (∀ c o, c ≠ a → (∀ ps, o ≠ .tbl ps) → Gf c = some o → G c = some o) → Pot G p (b + 3) := fun {G} kk => by
        obtain ⟨n0, n1, n2, h, hh⟩ := hPf
        exact ⟨n0, n1, n2, kk _ _ (Ne.symm hap) (fun _ z => by cases z) h, hh⟩
      have errF : ∀ (wd : Str) (val : V), R = (wd, val, ws) → ∀ {H' H'' : Hp} {tt : Addr}, Same H0 H' → Same H' H'' → H'' tt = some (.tup [.str wd, val]) → D'.nx [some (.ref p), some (.ref lk), some (.ref a), some (.ref ln), none, some (.ref D), some y, some x, some (.str deed), some (.ref t), some (.ref l), some (.ref tt)] H'' := fun wd val eR {H' H'' tt} sa sb htt =>
        have kk : ∀ c o, c ≠ a → (∀ ps, o ≠ .tbl ps) → Gf c = some o → H'' c = some o := fun c o _ h e => sb _ _ (sa _ _ (k0 c o h e))
        rr _ _ ⟨tt, wa, rfl, by rw [eR]; exact htt, by rw [eR]; exact hS0.kp (KpN.of (sa.trans sb)), kk, t0.ext (sa.trans sb), potK kk⟩
      have okF : ∀ (val : V) (ws' : List Int) (w' : Addr), R = (("fine" : Str), val, ws') → ws'.length = ks.length → ∀ {H' : Hp} {tt : Addr}, But a H0 H' → StoreAt K H' a bk kr w' ws' → H' tt = none → D'.nx [some (.ref p), some (.ref lk), some (.ref a), some (.ref ln), none, some (.ref D), some y, some x, some (.str deed), some (.ref t), some (.ref l), some (.ref tt)] (upd H' tt (.tup [.str "fine", val])) := fun val ws' w' eR hl' {H' tt} bu st ntt =>
        have u := same_upd (o := .tup [.str "fine", val]) ntt
        have kk : ∀ c o, c ≠ a → (∀ ps, o ≠ .tbl ps) → Gf c = some o → upd H' tt (.tup [.str "fine", val]) c = some o := fun c o hca h e => u _ _ (bu _ _ hca (k0 c o h e))
        rr _ _ ⟨tt, w', rfl, by rw [eR]; exact upd_same, by rw [eR]; exact StK.kp (KpN.of u) ⟨st, hS0.b.but (w := wa) bu ha0 (by show 3 ≠ 8; decide), hl'⟩, kk, (tabs_but t0 bu ha0 (fun _ z => by cases z) (fun _ _ z => by unfold LamX.CodeO at z; cases z)).ext u, potK kk⟩
      refine ⟨_, rfl, a, dxx, _, rfl, ha0, rfl, _, rfl, rfl, a, bk, kr, wa, ks, ws, y, rfl, hS0, hpn', fun i k z e1 e2 e3 e4 e5 H' w' bu st tt ntt => ?_, fun i k e1 e2 e3 H' d2 s2 hd2 => ?_, fun i k e1 e2 e3 e4 H' d2 s2 hd2 => ?_, fun e1 H' d2 s2 hd2 => ?_⟩
      · exact okF .non _ w' (hR.symm.trans (due_dropF e1 e2 e3 e4 e5)) (by rw [List.length_set]; exact hwl) bu st ntt
      · exact ⟨"Lasting", by decide +kernel, d2, y, rfl, rfl, hd2, fun H'' tt s3 nt htt => errF _ _ (hR.symm.trans (due_dropL e1 e2 e3)) s2 s3 htt⟩
      · exact ⟨"Gone", by decide +kernel, d2, y, rfl, rfl, hd2, fun H'' tt s3 nt htt => errF _ _ (hR.symm.trans (due_dropG e1 e2 e3 e4)) s2 s3 htt⟩
      · exact ⟨"NoKey", by decide +kernel, d2, y, rfl, rfl, hd2, fun H'' tt s3 nt htt => errF _ _ (hR.symm.trans (due_none e1)) s2 s3 htt⟩
    · refine iN (decide_eq_false fun z => hdd (V.str.inj z)) ?_
      have hdr : deed = "read" := by
        simp only [List.mem_cons, List.not_mem_nil, or_false] at hdeed
        rcases hdeed with z | z | z
        · exact absurd z hds
        · exact absurd z hdd
        · exact z
      rw [hdr] at hR
      refine ⟨hTf, fun H1 ex1 tb1 H0 s0 => ?_⟩
      have kp0 : KpN Gf H0 := (KpN.ext ex1).trans (KpN.of s0)
      have hS0 := hSf.kp kp0
      have k0 : ∀ c o, (∀ ps, o ≠ .tbl ps) → Gf c = some o → H0 c = some o := fun c o h e => s0 _ _ (ex1 c o e h)
      have t0 : LamX.Tabs (lamT K) H0 := tb1.ext s0
      have hr1' := k0 _ _ (fun _ z => by cases z) (sf _ _ hr1)
      have hr2' := k0 _ _ (fun _ z => by cases z) (sf _ _ hr2)
      have hq2' := k0 _ _ (fun _ z => by cases z) (sf _ _ hq2)
      have hq3' := k0 _ _ (fun _ z => by cases z) (sf _ _ hq3)
      have hq4' := k0 _ _ (fun _ z => by cases z) (sf _ _ hq4)
      obtain ⟨_, _, hpn'⟩ := nm_pick hk hq2' hq3' hq4' (List.mem_of_getElem? hj)
      obtain ⟨dx', hth'⟩ := th_pick (K := K) hr1' hr2' (List.mem_of_getElem? hj2)
      have ha0 : ∃ dxx, H0 a = some (.ins (cA K "Store") dxx (fsS bk kr (.ref wa))) := by
        obtain ⟨⟨dxx, h1, _⟩, _, _⟩ := hS0
        exact ⟨dxx, h1⟩
      obtain ⟨dxx, ha0⟩ := ha0
      have potK : ∀ {G : Hp}, (∀ c o, c ≠ a → (∀ ps, o ≠ .tbl ps) → Gf c = some o → G c = some o) → Pot G p (b + 3) := fun {G} kk => by
        obtain ⟨n0, n1, n2, h, hh⟩ := hPf
        exact ⟨n0, n1, n2, kk _ _ (Ne.symm hap) (fun _ z => by cases z) h, hh⟩
      have errF : ∀ (wd : Str) (val : V), R = (wd, val, ws) → ∀ {H' H'' : Hp} {tt : Addr}, Same H0 H' → Same H' H'' → H'' tt = some (.tup [.str wd, val]) → D'.nx [some (.ref p), some (.ref lk), some (.ref a), some (.ref ln), none, some (.ref D), some y, some x, some (.str deed), some (.ref t), some (.ref l), some (.ref tt)] H'' := fun wd val eR {H' H'' tt} sa sb htt =>
        have kk : ∀ c o, c ≠ a → (∀ ps, o ≠ .tbl ps) → Gf c = some o → H'' c = some o := fun c o _ h e => sb _ _ (sa _ _ (k0 c o h e))
        rr _ _ ⟨tt, wa, rfl, by rw [eR]; exact htt, by rw [eR]; exact hS0.kp (KpN.of (sa.trans sb)), kk, t0.ext (sa.trans sb), potK kk⟩
      have okF : ∀ (val : V) (ws' : List Int) (w' : Addr), R = (("fine" : Str), val, ws') → ws'.length = ks.length → ∀ {H' : Hp} {tt : Addr}, But a H0 H' → StoreAt K H' a bk kr w' ws' → H' tt = none → D'.nx [some (.ref p), some (.ref lk), some (.ref a), some (.ref ln), none, some (.ref D), some y, some x, some (.str deed), some (.ref t), some (.ref l), some (.ref tt)] (upd H' tt (.tup [.str "fine", val])) := fun val ws' w' eR hl' {H' tt} bu st ntt =>
        have u := same_upd (o := .tup [.str "fine", val]) ntt
        have kk : ∀ c o, c ≠ a → (∀ ps, o ≠ .tbl ps) → Gf c = some o → upd H' tt (.tup [.str "fine", val]) c = some o := fun c o hca h e => u _ _ (bu _ _ hca (k0 c o h e))
        rr _ _ ⟨tt, w', rfl, by rw [eR]; exact upd_same, by rw [eR]; exact StK.kp (KpN.of u) ⟨st, hS0.b.but (w := wa) bu ha0 (by show 3 ≠ 8; decide), hl'⟩, kk, (tabs_but t0 bu ha0 (fun _ z => by cases z) (fun _ _ z => by unfold LamX.CodeO at z; cases z)).ext u, potK kk⟩
      refine ⟨_, rfl, _, rfl, a, dxx, _, rfl, ha0, a, bk, kr, wa, ks, ws, y, rfl, hS0, hpn', fun i z e1 e2 e3 H' s2 tt ntt => ?_, fun i e1 e2 H' d2 s2 hd2 => ?_, fun e1 H' d2 s2 hd2 => ?_⟩
      · exact okF (.int z) ws wa (hR.symm.trans (due_readF e1 e2 e3)) hwl (But.of s2) (hS0.s.same s2) ntt
      · exact ⟨"Gone", by decide +kernel, d2, y, rfl, rfl, hd2, fun H'' tt s3 nt htt => errF _ _ (hR.symm.trans (due_readG e1 e2)) s2 s3 htt⟩
      · exact ⟨"NoKey", by decide +kernel, d2, y, rfl, rfl, hd2, fun H'' tt s3 nt htt => errF _ _ (hR.symm.trans (due_none e1)) s2 s3 htt⟩
  · rintro σ G ⟨tt, w', rfl, htt, hSt, kG, hTG, hPG⟩
    have kD : ∀ c o, DatO o → Gd' c = some o → G c = some o := by
      intro c o ho e
      obtain ⟨⟨dxx, ha1, _⟩, _, _⟩ := hSf
      refine kG c o (fun z => ?_) (fun ps z => ?_) (sf _ _ e)
      · have e2 := sf _ _ e
        rw [z, ha1] at e2
        have e3 := Option.some.inj e2
        rcases ho with ⟨_, rfl⟩ | ⟨_, rfl⟩ | ⟨_, rfl⟩ <;> cases e3
      · rcases ho with ⟨_, rfl⟩ | ⟨_, rfl⟩ | ⟨_, rfl⟩ <;> cases z
    have kF : ∀ c o, DatO o → Gf c = some o → G c = some o := by
      intro c o ho e
      obtain ⟨⟨dxx, ha1, _⟩, _, _⟩ := hSf
      refine kG c o (fun z => ?_) (fun ps z => ?_) e
      · rw [z, ha1] at e
        have e3 := Option.some.inj e
        rcases ho with ⟨_, rfl⟩ | ⟨_, rfl⟩ | ⟨_, rfl⟩ <;> cases e3
      · rcases ho with ⟨_, rfl⟩ | ⟨_, rfl⟩ | ⟨_, rfl⟩ <;> cases z
    have hvG : ValOk G R.2.1 dv := ⟨dt_kp kD hdv.dt, hdv.sh, hdv.dp, hdv.ln⟩
    obtain ⟨p1, p2, p3, p4⟩ := pair_ok htt hwd hvG
    obtain ⟨o1, o2, o3, o4⟩ := pair_ok (kF _ _ (.inr (.inl ⟨_, rfl⟩)) ht) hwd hvG
    refine ⟨_, rfl, _, _, rfl, p1, p2, p3, p4, _, rfl, _, _, rfl, o1, o2, o3, o4, rfl, _, rfl, ?_⟩
    refine iY (decide_eq_true rfl) ?_
    refine ⟨_, rfl, hQ l w' R.2.2 G (kF _ _ (.inl ⟨_, rfl⟩) hl) hSt hwR (fun c o h1 h2 h3 e => kG c o h2 h3 (sf _ _ (be _ _ h1 e))) (hPG.mono (by omega)) hTG hll2⟩
end
end KP

/-! worths as data. -/
namespace KP
open PySem PySem.Spec PyProof.Rows L2 G137 SlX
theorem wok_in {ks : List KeyR} (hk : ∀ k ∈ ks, k.Ok) {ws : List Int} (h : WOk ks ws) : ∀ z ∈ ws, z = -1 ∨ z = 0 ∨ z = 1 ∨ z = 2 := by
  induction h with
  | nil => intro z hz; cases hz
  | cons hr ht ih =>
    intro z hz
    rcases List.mem_cons.mp hz with rfl | hz
    · have hs := (hk _ (List.mem_cons_self ..)).sz
      obtain ⟨h1, h2⟩ := hr
      unfold KeyR.lo at h1
      have : -1 ≤ z := by split at h1 <;> omega
      rcases hs with e | e <;> rw [e] at h2 <;> omega
    · exact ih (fun k hk' => hk k (List.mem_cons_of_mem _ hk')) z hz
theorem ints_dts {H : Hp} : ∀ ws : List Int, DTs H (ws.map V.int) (ws.map PyData.int)
  | [] => .nil
  | z :: r => .cons (.int z) (ints_dts r)
theorem ints_show : ∀ {ws : List Int}, (∀ z ∈ ws, z = -1 ∨ z = 0 ∨ z = 1 ∨ z = 2) → PyData.showableAll (ws.map PyData.int) = true
  | [], _ => rfl
  | z :: r, h => by
    rw [List.map_cons]
    have h1 : (PyData.int z).showable = true := by rcases h z (List.mem_cons_self ..) with e | e | e | e <;> rw [e] <;> decide +kernel
    simp only [PyData.showableAll, h1, ints_show fun y hy => h y (List.mem_cons_of_mem _ hy), Bool.and_self]
theorem ints_depth : ∀ ws : List Int, PyData.depthAll (ws.map PyData.int) = 0
  | [] => by simp [PyData.depthAll]
  | z :: r => by rw [List.map_cons]; simp [PyData.depthAll, PyData.depth, ints_depth r]
theorem ints_shownL {ws : List Int} (h : ∀ z ∈ ws, z = -1 ∨ z = 0 ∨ z = 1 ∨ z = 2) : ∀ t ∈ PyData.shownAll (ws.map PyData.int), t.length ≤ 2 := by
  intro t ht
  rw [shownAll_eq_map, List.map_map] at ht
  obtain ⟨z, hz, rfl⟩ := List.mem_map.mp ht
  show (PyData.shown (.int z)).length ≤ 2
  rcases h z hz with e | e | e | e <;> rw [e] <;> decide +kernel
theorem ws_val {ks : List KeyR} {ws : List Int} {H : Hp} {t : Addr} (hk : KeysOk ks) (h : WOk ks ws) (ht : H t = some (.tup (ws.map V.int))) : ValOk H (.ref t) (.tuple (ws.map PyData.int)) := by
  have hin := wok_in hk.ok h
  have hl : ks.length = ws.length := Paired.length h
  have h4 := hk.four
  refine ⟨.tup ht (ints_dts ws), by simp only [PyData.showable]; exact ints_show hin, by simp only [PyData.depth, ints_depth]; decide, ?_⟩
  rw [PyData.shown_tuple, len_app, len_app]
  have h1 : (Str.join ", " (PyData.shownAll (ws.map PyData.int))).length ≤ 4 * (2 + 2) := by
    rw [TL.len_tl, TL.tl_join]
    refine Nat.le_trans (joinL_len (b := 2) fun p hp => ?_) ?_
    · obtain ⟨x, hx, rfl⟩ := List.mem_map.mp hp
      rw [← TL.len_tl]
      exact ints_shownL hin x hx
    · rw [List.length_map, shownAll_eq_map, List.length_map, List.length_map]
      show ws.length * (2 + 2) ≤ _
      omega
  show 1 + _ + _ ≤ 500
  split
  · show 1 + _ + 2 ≤ 500; omega
  · show 1 + _ + 1 ≤ 500; omega
end KP

/-! the law: is told. -/
namespace KP
open PySem PySem.Spec PyProof.Rows L2 G137 SlX
def spTold (K : Frag) : Sp := fun vs H Q _ => ∃ (lk a ln bk kr w : Addr) (ts : List Addr) (ks : List KeyR) (ws : List Int), vs = [.ref lk, .ref a, .ref ln] ∧ H lk = some (.lst (ts.map V.ref)) ∧ KeyRows H ts ks ∧ KeysOk ks ∧ StK K H a bk kr w ks ws ∧ H ln = some (.lst (ws.map V.int)) ∧ WOk ks ws ∧ ∀ H', Same H H' → Q (.bl true) H'
def thrN (ks : List KeyR) (ws : List Int) (i : Nat) : List Str := (((ks.zip ws).take i).filter fun q => decide (q.2 ≠ -1)).map fun q => q.1.name
theorem thrN_len (ks : List KeyR) (ws : List Int) (i : Nat) : (thrN ks ws i).length ≤ ks.length := by
  unfold thrN
  rw [List.length_map]
  refine Nat.le_trans (List.length_filter_le _ _) ?_
  rw [List.length_take, List.length_zip]
  omega
theorem thrN_step {ks : List KeyR} {ws : List Int} {i : Nat} {k : KeyR} {z : Int} (hk : ks[i]? = some k) (hz : ws[i]? = some z) : thrN ks ws (i + 1) = thrN ks ws i ++ (if z = -1 then [] else [k.name]) := by
  unfold thrN
  have e : (ks.zip ws)[i]? = some (k, z) := by rw [List.getElem?_zip_eq_some]; exact ⟨hk, hz⟩
  rw [List.take_add_one, e, List.filter_append, List.map_append]
  congr 1
  by_cases h : z = -1
  · rw [if_pos h]; simp [h]
  · rw [if_neg h]; simp [h]
theorem there_mem {ks : List KeyR} {ws : List Int} (hk : KeysOk ks) (hl : ws.length = ks.length) {i : Nat} {k : KeyR} (h : ks[i]? = some k) : thereB ks ws (.str k.name) = decide (k.name ∈ thrN ks ws ks.length) := by
  have hix := (keyIx_iff hk h (.str k.name)).mp rfl
  have hil := (List.getElem?_eq_some_iff.mp h).1
  obtain ⟨z, hz⟩ : ∃ z, ws[i]? = some z := ⟨ws[i], List.getElem?_eq_getElem (by omega)⟩
  have e : thereB ks ws (.str k.name) = decide (z ≠ -1) := by
    unfold thereB
    rw [hix]
    show decide (ws.getD i (-1) ≠ -1) = _
    rw [List.getD_eq_getElem?_getD, hz]; rfl
  rw [e]
  have iff_ : z ≠ -1 ↔ k.name ∈ thrN ks ws ks.length := by
    unfold thrN
    rw [List.take_of_length_le (by rw [List.length_zip]; omega)]
    constructor
    · intro hn
      refine List.mem_map.mpr ⟨(k, z), List.mem_filter.mpr ⟨List.mem_of_getElem? (i := i) (by rw [List.getElem?_zip_eq_some]; exact ⟨h, hz⟩), decide_eq_true hn⟩, rfl⟩
    · intro hm
      obtain ⟨q, hq, hn⟩ := List.mem_map.mp hm
      obtain ⟨h1, h2⟩ := List.mem_filter.mp hq
      obtain ⟨j, hj⟩ := List.getElem?_of_mem h1
      rw [List.getElem?_zip_eq_some] at hj
      have hjx := (keyIx_iff hk hj.1 (.str k.name)).mp (by rw [hn])
      have : j = i := Option.some.inj (hjx.symm.trans hix)
      rw [this, hz] at hj
      have := Option.some.inj hj.2
      rw [this]
      exact of_decide_eq_true h2
  by_cases hn : z ≠ -1
  · rw [decide_eq_true hn, decide_eq_true (iff_.mp hn)]
  · rw [decide_eq_false hn, decide_eq_false fun w => hn (iff_.mpr w)]
theorem bls_dp {K : Frag} {H : Hp} : ∀ bs : List Bool, DpAll K H (bs.map V.bl) (bs.map PyData.bool)
  | [] => .nil
  | x :: xs => .cons (.bl x) (bls_dp xs)
theorem bls_shaped (bs : List Bool) : SeqAt.shaped (.list (bs.map PyData.bool)) = true := shaped_list (n := 0) (fun d hd => by
  obtain ⟨z, _, rfl⟩ := List.mem_map.mp hd
  exact ⟨by simp [PyData.canLay0], by simp [PyData.depth]⟩) (by decide)
theorem keyIx_no {ks : List KeyR} (hk : KeysOk ks) {v : V} (h : ∀ k ∈ ks, v ≠ .str k.name) : keyIx ks v = none := by
  cases q : keyIx ks v with
  | none => rfl
  | some i =>
    obtain ⟨k, h1, h2⟩ := keyIx_some q
    exact absurd h2 (h k (List.mem_of_getElem? h1))
theorem there_no {ks : List KeyR} (hk : KeysOk ks) {ws : List Int} {v : V} (h : ∀ k ∈ ks, v ≠ .str k.name) : thereB ks ws v = false := by
  unfold thereB
  rw [keyIx_no hk h]
def odL (n : Str) (z1 z2 z3 : Addr) : List V := [.non, .int 0, .int (-1), .str "", .str "A", .str (n ++ (" " : Str)), .ref z1, .ref z2, .ref z3]
theorem od_no {ks : List KeyR} (hk : KeysOk ks) {n : Str} {z1 z2 z3 : Addr} {v : V} (hv : v ∈ odL n z1 z2 z3) : ∀ k ∈ ks, v ≠ .str k.name := by
  intro k hkk
  have hn := wd_name (hk.ok k hkk).nm
  have hs := (hk.ok k hkk).nm
  unfold odL at hv
  simp only [List.mem_cons, List.not_mem_nil, or_false] at hv
  rcases hv with rfl | rfl | rfl | rfl | rfl | rfl | rfl | rfl | rfl
  · exact fun z => nomatch z
  · exact fun z => nomatch z
  · exact fun z => nomatch z
  · exact fun z => hn.ne (by rw [← V.str.inj z]; rfl)
  · intro z
    rw [← V.str.inj z] at hs
    exact absurd hs (by decide +kernel)
  · intro z
    refine hn.n32 ?_
    rw [← V.str.inj z, TL.tl_append]
    exact List.mem_append_right _ (show (32 : Nat) ∈ [32] from List.mem_singleton.mpr rfl)
  · exact fun z => nomatch z
  · exact fun z => nomatch z
  · exact fun z => nomatch z
theorem thrN_full : ∀ {ks : List KeyR} {ws : List Int}, ws.length = ks.length → (thrN ks ws ks.length).length = thereN ws := by
  intro ks ws h
  unfold thrN thereN
  rw [List.length_map, List.take_of_length_le (by rw [List.length_zip]; omega)]
  induction ks generalizing ws with
  | nil =>
    cases ws with
    | nil => rfl
    | cons z r => cases h
  | cons k r ih =>
    cases ws with
    | nil => cases h
    | cons z q =>
      have := ih (ws := q) (Nat.succ.inj h)
      by_cases hz : z = -1
      · simp [hz] at this ⊢
        exact this
      · simp [hz] at this ⊢
        exact this
section
variable {P : Program} {w : World} {K : Frag} {mg : Str → Option Value} {base : Heap}
theorem sc_law_is_told : FnScope ["_law_keys_here", "_law_held", "_law_now", "_law_entry", "_law_worth", "_law_there", "_law_odd", "_law_thing"] ["_law_keys_here", "_law_held", "_law_now"] (defScope d_law_is_told) := ⟨rfl, rfl, rfl, by decide +kernel, rfl, by decide +kernel, by decide +kernel⟩
theorem ok_law_is_told (T : Pr K mg) (R : Er P w K mg base) (G : Gd K mg base) : FOkG P w K mg base 7 "_law_is_told" ["_law_keys_here", "_law_held", "_law_now"] (spTold K) := by
  obtain ⟨fd, F⟩ := T.f_law_is_told
  have bzip := T.fre "zip" (by decide +kernel)
  have blen := T.fre "len" (by decide +kernel)
  have brepr := T.fre "repr" (by decide +kernel)
  have btuple := T.fre "tuple" (by decide +kernel)
  have bany := T.fre "any" (by decide +kernel)
  obtain ⟨osys, hsys⟩ := G.sys
  refine FOkG.of F (T.glo _ (by decide +kernel)) sc_law_is_told (fun _ _ _ _ _ _ us hl => match us, hl with | [_, _, _], _ => rfl) (fun vs H Q E h => ?_) (fun A outer s H vs Q E hgd hr h => ?_)
  · obtain ⟨_, _, _, _, _, _, _, _, _, rfl, _⟩ := h; rfl
  have hgA : (A.deeper (envOfC "_law_is_told" (defScope d_law_is_told) s.heap.objs.size (He.ga K "_law_is_told") (.ref (He.cT K ("_law_is_told", none)).1))).guards = some [] := deeper_guards hgd
  have hu : (A.deeper (envOfC "_law_is_told" (defScope d_law_is_told) s.heap.objs.size (He.ga K "_law_is_told") (.ref (He.cT K ("_law_is_told", none)).1))).units + 65 < cLine := by have := hr.un; omega
  have hu1 : (A.deeper (envOfC "_law_is_told" (defScope d_law_is_told) s.heap.objs.size (He.ga K "_law_is_told") (.ref (He.cT K ("_law_is_told", none)).1))).units + 1 < cLine := by omega
  have hu64 : (A.deeper (envOfC "_law_is_told" (defScope d_law_is_told) s.heap.objs.size (He.ga K "_law_is_told") (.ref (He.cT K ("_law_is_told", none)).1))).units + 64 < cLine := by omega
  refine ⟨_, PSs.nox (pss_cons (ps_set (i := 5) sc_law_is_told.nd rfl (Or.inr rfl) (pe_lc (own := [("_law_entry", 3), ("_law_worth", 4)]) (g := gTup K 2 (gCons (gName 3) (gCons (gName 4) gNil))) (tt := tTest (tOp rNe (tVar 4) (tUn (rU fun i => .int (-i)) (tC (.int 1))))) (te := tOp (rIxT K) (tVar 3) (tC (.int 0))) rfl sc_law_is_told.nd (pi_zip (by rfl) bzip (pa_cons (pv 0) (pa_cons (pv 2) pa_nil))) (blkOk_by (own := [("_law_entry", 3), ("_law_worth", 4)]) (N := ["_law_keys_here", "_law_held", "_law_now", "_law_entry", "_law_worth", "_law_there", "_law_odd", "_law_thing"]) (sc := defScope d_law_is_told) (by decide +kernel)) (fun _ _ _ _ _ => (pg_tup rfl (pgs_cons (pg_name (i := 3) sc_law_is_told.nd rfl (Or.inl rfl)) (pgs_cons (pg_name (i := 4) sc_law_is_told.nd rfl (Or.inl rfl)) pgs_nil)))) (fun _ _ _ _ _ => (pts_one (pt_cmpR op_ne (pv 4) (pe_un un_neg pe_int) (nomark _)))) (fun _ _ _ _ _ => (pe_ix ix_tup (pv 3) pe_int (fun _ _ => rfl)))))
    (pss_cons (ps_if (PW.pt (pw_or (pt_cmpR op_ne (pe_callB (call_reprT hgA hu64 hsys) (by rfl) brepr (by decide +kernel) (pa_cons (pe_propF (pv 1) (ok_p_Store_worths T) (hr.mono (by decide))) pa_nil)) (pe_callB (call_reprT hgA hu64 hsys) (by rfl) brepr (by decide +kernel) (pa_cons (pe_callTy call_tuple_of (by rfl) btuple (by decide +kernel) (pa_cons (pv 2) pa_nil)) pa_nil)) (nomark _)) (pw_or1 (pt_cmpR op_ne (pe_callB (call_lenOwn (MOk.dun (ok_Store_len T) (dunF T (by decide +kernel))) (hr.mono (by decide)) pass0) (by rfl) blen PySem.boot_len (pa_cons (pv 1) pa_nil)) (pe_callB call_len_seq (by rfl) blen PySem.boot_len (pa_cons (pv 5) pa_nil)) (nomark _)))))
      (pss_one (ps_ret pe_bl))
      pss_nil)
    (pss_cons (ps_if (pt_cmpR ((op_neD hu64)) (pe_lc (own := [("_law_entry", 3)]) (g := gName 3) (tt := tYes) (te := tOp (rInOwn (cA K "Store") (spIn K) E0 false) (tOp (rIxT K) (tVar 3) (tC (.int 0))) (tVar 1)) rfl sc_law_is_told.nd (pi_list (pv 0)) (blkOk_by (own := [("_law_entry", 3)]) (N := ["_law_keys_here", "_law_held", "_law_now", "_law_entry", "_law_worth", "_law_there", "_law_odd", "_law_thing"]) (sc := defScope d_law_is_told) (by decide +kernel)) (fun _ _ _ _ _ => (pg_name (i := 3) sc_law_is_told.nd rfl (Or.inl rfl))) (fun _ _ _ _ _ => pts_nil) (fun _ _ _ _ _ => (pe_cmpR ((op_inOwn (MOk.dun (ok_Store_in T R) (dunF T (by decide +kernel))) (hr.mono (by decide)) pass0)) (pe_ix ix_tup (pv 3) pe_int (fun _ _ => rfl)) (pv 1) (by rfl)))) (pe_lc (own := [("_law_entry", 3)]) (g := gName 3) (tt := tYes) (te := tOp (rIn K false) (tOp (rIxT K) (tVar 3) (tC (.int 0))) (tVar 5)) rfl sc_law_is_told.nd (pi_list (pv 0)) (blkOk_by (own := [("_law_entry", 3)]) (N := ["_law_keys_here", "_law_held", "_law_now", "_law_entry", "_law_worth", "_law_there", "_law_odd", "_law_thing"]) (sc := defScope d_law_is_told) (by decide +kernel)) (fun _ _ _ _ _ => (pg_name (i := 3) sc_law_is_told.nd rfl (Or.inl rfl))) (fun _ _ _ _ _ => pts_nil) (fun _ _ _ _ _ => (pe_cmpR op_in_seq (pe_ix ix_tup (pv 3) pe_int (fun _ _ => rfl)) (pv 5) (by rfl)))) (nomark _))
      (pss_one (ps_ret pe_bl))
      pss_nil)
    (pss_cons (ps_set (i := 6) sc_law_is_told.nd rfl (Or.inl rfl) (pe_lst (pa_cons pe_non (pa_cons pe_int (pa_cons (pe_un un_neg pe_int) (pa_cons pe_str (pa_cons pe_str (pa_cons (pe_op (op_add_str) (pe_ix ix_tup (pe_ix ix_list (pv 0) pe_int (fun _ _ => rfl)) pe_int (fun _ _ => rfl)) pe_str) (pa_cons (pe_tup (pa_cons (pe_ix ix_tup (pe_ix ix_list (pv 0) pe_int (fun _ _ => rfl)) pe_int (fun _ _ => rfl)) pa_nil)) (pa_cons (pe_lst (pa_cons (pe_ix ix_tup (pe_ix ix_list (pv 0) pe_int (fun _ _ => rfl)) pe_int (fun _ _ => rfl)) pa_nil)) (pa_cons pe_dnewK pa_nil)))))))))))
    (pss_one (ps_ret (pe_not (pe_callB (cr_any rfl) (by rfl) bany (by decide +kernel) (pa_cons (pe_lc (own := [("_law_thing", 7)]) (g := gName 7) (tt := tYes) (te := tOp (rInOwn (cA K "Store") (spIn K) E0 false) (tVar 7) (tVar 1)) rfl sc_law_is_told.nd (pi_list (pv 6)) (blkOk_by (own := [("_law_thing", 7)]) (N := ["_law_keys_here", "_law_held", "_law_now", "_law_entry", "_law_worth", "_law_there", "_law_odd", "_law_thing"]) (sc := defScope d_law_is_told) (by decide +kernel)) (fun _ _ _ _ _ => (pg_name (i := 7) sc_law_is_told.nd rfl (Or.inl rfl))) (fun _ _ _ _ _ => pts_nil) (fun _ _ _ _ _ => (pe_cmpR ((op_inOwn (MOk.dun (ok_Store_in T R) (dunF T (by decide +kernel))) (hr.mono (by decide)) pass0)) (pv 7) (pv 1) (by rfl)))) pa_nil))))))))), ?_⟩
  have hbig := sizeLine_big
  obtain ⟨lk, a, ln, bk, kr, wa, ts, ks, ws, rfl, hlk, hK, hk, hS, hln, hW, hQ⟩ := h
  have hlen : ts.length = ks.length := Paired.length hK
  have h4 := hk.four
  have hwl := hS.l
  refine ⟨_, rfl, _, rfl, lk, ln, _, _, rfl, SqL.of hlk, SqL.of hln, fun D nD => ?_⟩
  refine lc_it (walk_zip (xs := ts.map V.ref) (ys := ws.map V.int) (n := ks.length) (by rw [List.length_map, List.length_map]; omega)) (AccP (fun i => (thrN ks ws i).map V.str) D H) (acc_start rfl) (fun i G _ q => ⟨SqL.of (q.same nD _ _ hlk), SqL.of (q.same nD _ _ hln)⟩) (fun i y G G' hi q yl => ?_) (fun G1 q => ?_)
  · obtain ⟨t1, x1, y1, rfl, nt1, rfl, e1, e2⟩ := yl
    dsimp only at e1 e2
    rw [List.getElem?_map] at e1 e2
    obtain ⟨t, ht, rfl⟩ := Option.map_eq_some_iff.mp e1
    obtain ⟨z, hz, rfl⟩ := Option.map_eq_some_iff.mp e2
    obtain ⟨k, hkk, htk⟩ := Paired.get? hK ht
    have u1 := same_upd (o := .tup [.ref t, .int z]) nt1
    have s1 := (q.same nD).trans u1
    refine ⟨t1, _, rfl, SqT.of upd_same, rfl, _, _, rfl, _, _, rfl, rfl, rfl, ?_⟩
    refine ⟨_, rfl, 1, rfl, rfl, _, rfl, ?_⟩
    by_cases hzz : z = -1
    · refine iN (by rw [hzz]; rfl) ?_
      refine acc_skip q u1 ?_
      show (thrN ks ws (i + 1)).map V.str = (thrN ks ws i).map V.str
      rw [thrN_step hkk hz, if_pos hzz, List.append_nil]
    · refine iY (by
        have : decide (V.int z = V.int (-1)) = false := decide_eq_false fun h => hzz (V.int.inj h)
        first | exact (by rw [this]; rfl) | simpa using hzz) ?_
      refine ⟨_, rfl, t, _, 0, .str k.name, rfl, rfl, SqT.of (s1 _ _ htk), atI_nat (j := 0) rfl, acc_step q u1 ?_ ?_⟩
      · rw [List.length_map]
        have := thrN_len ks ws i
        omega
      · show (thrN ks ws (i + 1)).map V.str = (thrN ks ws i).map V.str ++ [V.str k.name]
        rw [thrN_step hkk hz, if_neg hzz, List.map_append]; rfl
  have hD : G1 D = some (.lst ((thrN ks ws ks.length).map V.str)) := q.1
  have s1 := q.same nD
  have hS' := hS
  obtain ⟨⟨dx, ha, hw⟩, hb, _⟩ := hS'
  have ha1 := s1 _ _ ha
  have cS := T.cls "Store" (by decide +kernel)
  refine ⟨_, rfl, a, dx, _, rfl, ha1, a, dx, bk, kr, .ref wa, rfl, ha1, ?_⟩
  obtain ⟨d1, d2, d3, d4⟩ := ws_val hk hW (s1 _ _ hw)
  refine ⟨.ref wa, _, rfl, d1, d2, Nat.le_trans d3 (by decide), Nat.le_trans d4 (by omega), ?_⟩
  refine ⟨_, rfl, ln, _, rfl, .inl ⟨SqL.of (s1 _ _ hln), fun t1 n1 => ?_⟩⟩
  have u1 := same_upd (o := .tup (ws.map V.int)) n1
  obtain ⟨g1, g2, g3, g4⟩ := ws_val (t := t1) hk hW (upd_same (H := G1) (o := .tup (ws.map V.int)))
  refine ⟨.ref t1, _, rfl, g1, g2, Nat.le_trans g3 (by decide), Nat.le_trans g4 (by omega), rfl, _, rfl, ?_⟩
  refine iN (by simp) ?_
  have s2 := s1.trans u1
  have hD2 := u1 _ _ hD
  generalize upd G1 t1 (.tup (ws.map V.int)) = G2 at s2 hD2 ⊢
  have ha2 := s2 _ _ ha
  have hS2 := hS.kp (KpN.of s2)
  have hthr := thrN_full hwl
  have hthl := thrN_len ks ws ks.length
  refine ⟨_, rfl, a, dx, _, rfl, ha2, a, bk, kr, wa, ws, rfl, hS2.s, by omega, fun G3 s3 => ⟨thereN ws, rfl, ?_, ?_⟩⟩
  · have h1 : thereN ws ≤ 4 := by omega
    exact Nat.lt_of_le_of_lt h1 (by decide)
  have hD3 := s3 _ _ hD2
  have s23 := s2.trans s3
  refine ⟨_, rfl, D, _, rfl, .inl (SqL.of hD3), rfl, _, rfl, ?_⟩
  refine iN (by rw [List.length_map, hthr]; simp) ?_
  have hS3 := hS.kp (KpN.of s23)
  have ha3 := s23 _ _ ha
  have hlk3 := s23 _ _ hlk
  have hK3 := hK.kp (KpN.of s23)
  refine ⟨_, rfl, lk, rfl, ⟨_, SqL.of hlk3⟩, fun D1 nD1 => ?_⟩
  refine lc_list (xs := ts.map V.ref) (AccP (fun i => (ks.take i).map fun k => V.bl (decide (k.name ∈ thrN ks ws ks.length))) D1 G3) (acc_start rfl) (fun i G _ q => SqL.of (q.same nD1 _ _ hlk3)) (fun i v G hi q => ?_) (fun G4 q4 => ?_)
  · rw [List.getElem?_map] at hi
    obtain ⟨t, ht, rfl⟩ := Option.map_eq_some_iff.mp hi
    obtain ⟨k, hkk, htk⟩ := Paired.get? hK3 ht
    have sq := q.same nD1
    refine ⟨rfl, ?_⟩
    dsimp only [tYes]
    rw [if_pos rfl]
    refine ⟨_, rfl, t, _, 0, .str k.name, rfl, rfl, SqT.of (sq _ _ htk), atI_nat (j := 0) rfl, _, rfl, a, dx, _, rfl, sq _ _ ha3, a, bk, kr, wa, ks, ws, .str k.name, rfl, hS3.kp (KpN.of sq), ⟨_, rfl⟩, fun H' s' => ⟨_, rfl, ?_⟩⟩
    refine acc_step q s' ?_ ?_
    · rw [List.length_map, List.length_take]; omega
    · show (ks.take (i + 1)).map _ = (ks.take i).map _ ++ [V.bl (thereB ks ws (.str k.name))]
      rw [there_mem hk hwl hkk, List.take_add_one, hkk, List.map_append]; rfl
  have s34 := q4.same nD1
  have s24 := s23.trans s34
  have hlk4 := s24 _ _ hlk
  have hK4 := hK.kp (KpN.of s24)
  have hD4 := s34 _ _ hD3
  refine ⟨_, rfl, lk, rfl, ⟨_, SqL.of hlk4⟩, fun D2 nD2 => ?_⟩
  refine lc_list (xs := ts.map V.ref) (AccP (fun i => (ks.take i).map fun k => V.bl (decide (k.name ∈ thrN ks ws ks.length))) D2 G4) (acc_start rfl) (fun i G _ q => SqL.of (q.same nD2 _ _ hlk4)) (fun i v G hi q => ?_) (fun G5 q5 => ?_)
  · rw [List.getElem?_map] at hi
    obtain ⟨t, ht, rfl⟩ := Option.map_eq_some_iff.mp hi
    obtain ⟨k, hkk, htk⟩ := Paired.get? hK4 ht
    have sq := q.same nD2
    refine ⟨rfl, ?_⟩
    dsimp only [tYes]
    rw [if_pos rfl]
    refine ⟨_, rfl, t, _, 0, .str k.name, rfl, rfl, SqT.of (sq _ _ htk), atI_nat (j := 0) rfl, _, rfl, D, _, rfl, .inl (SqL.of (sq _ _ hD4)), rfl, flat_strs _, ?_⟩
    refine acc_step q (Same.refl _) ?_ ?_
    · rw [List.length_map, List.length_take]; omega
    · show (ks.take (i + 1)).map _ = (ks.take i).map _ ++ [V.bl (inV (.str k.name) ((thrN ks ws ks.length).map V.str))]
      rw [inV_str, List.take_add_one, hkk, List.map_append]; rfl
  have s45 := q5.same nD2
  have s25 := s24.trans s45
  have bm : ∀ (G : Hp) (Dq : Addr), G Dq = some (.lst ((ks.take (ts.map V.ref).length).map fun k => V.bl (decide (k.name ∈ thrN ks ws ks.length)))) → G Dq = some (.lst ((ks.map fun k => decide (k.name ∈ thrN ks ws ks.length)).map V.bl)) := fun G Dq e => by
    rw [e, List.length_map, hlen, List.take_length, List.map_map]; rfl
  have hB1 := s45 _ _ (bm _ _ q4.1)
  have hB2 := bm _ _ q5.1
  refine ⟨.list ((ks.map fun k => decide (k.name ∈ thrN ks ws ks.length)).map PyData.bool), .list ((ks.map fun k => decide (k.name ∈ thrN ks ws ks.length)).map PyData.bool), .lst (SqL.of hB1) (bls_dp _), .lst (SqL.of hB2) (bls_dp _), bls_shaped _, bls_shaped _, _, rfl, ?_⟩
  refine iN (by rw [SeqAt.eqv_refl _ (SeqAt.canLay_of_shaped (bls_shaped _))]; rfl) ?_
  obtain ⟨k0, r0, ek, eh⟩ := head_ok hk
  have h0t : 0 < ts.length := by rw [hlen, ek]; exact Nat.succ_pos _
  obtain ⟨t0, et0⟩ : ∃ t0, ts[0]? = some t0 := ⟨ts[0], List.getElem?_eq_getElem h0t⟩
  have hK5 := hK.kp (KpN.of s25)
  obtain ⟨k0', ek0, ht0⟩ := Paired.get? hK5 et0
  have : k0' = k0 := by rw [ek] at ek0; exact (Option.some.inj ek0).symm
  subst this
  have et0' : (ts.map V.ref)[0]? = some (.ref t0) := by rw [List.getElem?_map, et0]; rfl
  have h8 := nameS_len (hdN_ok hk).2
  rw [eh] at h8
  have hlk5 := s25 _ _ hlk
  refine ⟨1, rfl, _, rfl, lk, _, 0, .ref t0, rfl, rfl, SqL.of hlk5, atI_nat (j := 0) et0', t0, _, 0, .str k0'.name, rfl, rfl, SqT.of ht0, atI_nat (j := 0) rfl, _, _, rfl, rfl, by show _ + 1 ≤ _; omega, ?_⟩
  refine ⟨_, rfl, lk, _, 0, .ref t0, rfl, rfl, SqL.of hlk5, atI_nat (j := 0) et0', t0, _, 0, .str k0'.name, rfl, rfl, SqT.of ht0, atI_nat (j := 0) rfl, by show 1 ≤ sizeLine; decide, fun z1 m1 => ?_⟩
  have w1 := same_upd (o := .tup [.str k0'.name]) m1
  refine ⟨_, rfl, lk, _, 0, .ref t0, rfl, rfl, SqL.of (w1 _ _ hlk5), atI_nat (j := 0) et0', t0, _, 0, .str k0'.name, rfl, rfl, SqT.of (w1 _ _ ht0), atI_nat (j := 0) rfl, by show 1 ≤ sizeLine; decide, fun z2 m2 => ?_⟩
  have w2 := same_upd (o := .lst [.str k0'.name]) m2
  intro z3 m3
  have w3 := same_upd (o := .dK []) m3
  refine ⟨by show 9 ≤ sizeLine; decide, fun z4 m4 => ?_⟩
  have w4 : Same (upd (upd (upd G5 z1 (.tup [.str k0'.name])) z2 (.lst [.str k0'.name])) z3 (.dK [])) (upd (upd (upd (upd G5 z1 (.tup [.str k0'.name])) z2 (.lst [.str k0'.name])) z3 (.dK [])) z4 (.lst (odL k0'.name z1 z2 z3))) := same_upd m4
  have s6 := s25.trans (w1.trans (w2.trans (w3.trans w4)))
  have hz1 := (w2.trans (w3.trans w4)) z1 _ upd_same
  have hz2 := (w3.trans w4) z2 _ upd_same
  have hz3 := w4 z3 _ upd_same
  have hz4 : upd (upd (upd (upd G5 z1 (.tup [.str k0'.name])) z2 (.lst [.str k0'.name])) z3 (.dK [])) z4 (.lst (odL k0'.name z1 z2 z3)) z4 = _ := upd_same
  show (_ : Hp → Prop) (upd (upd (upd (upd G5 z1 (.tup [.str k0'.name])) z2 (.lst [.str k0'.name])) z3 (.dK [])) z4 (.lst (odL k0'.name z1 z2 z3)))
  generalize upd (upd (upd (upd G5 z1 (.tup [.str k0'.name])) z2 (.lst [.str k0'.name])) z3 (.dK [])) z4 (.lst (odL k0'.name z1 z2 z3)) = G9 at s6 hz1 hz2 hz3 hz4 ⊢
  refine ⟨_, rfl, z4, rfl, ⟨_, SqL.of hz4⟩, fun D6 nD6 => ?_⟩
  have hS6 := hS.kp (KpN.of s6)
  have ha6 := s6 _ _ ha
  refine lc_list (xs := odL k0'.name z1 z2 z3) (AccP (fun i => (List.replicate i false).map V.bl) D6 G9) (acc_start rfl) (fun i G _ q => SqL.of (q.same nD6 _ _ hz4)) (fun i v G hi q => ?_) (fun Ga qa => ?_)
  · have sq := q.same nD6
    have hv := List.mem_of_getElem? hi
    have hpl : Pl G v := by
      have hv' := hv
      unfold odL at hv'
      simp only [List.mem_cons, List.not_mem_nil, or_false] at hv'
      rcases hv' with rfl | rfl | rfl | rfl | rfl | rfl | rfl | rfl | rfl
      · exact ⟨_, rfl⟩
      · exact ⟨_, rfl⟩
      · exact ⟨_, rfl⟩
      · exact ⟨_, rfl⟩
      · exact ⟨_, rfl⟩
      · exact ⟨_, rfl⟩
      · exact ⟨"tuple", by show tyO (G z1) = _; rw [sq _ _ hz1]; rfl⟩
      · exact ⟨"list", by show tyO (G z2) = _; rw [sq _ _ hz2]; rfl⟩
      · exact ⟨"dict", by show tyO (G z3) = _; rw [sq _ _ hz3]; rfl⟩
    have hi9 : i < 9 := (List.getElem?_eq_some_iff.mp hi).1
    refine ⟨rfl, ?_⟩
    dsimp only [tYes]
    rw [if_pos rfl]
    refine ⟨_, rfl, _, rfl, a, dx, _, rfl, sq _ _ ha6, a, bk, kr, wa, ks, ws, v, rfl, hS6.kp (KpN.of sq), hpl, fun H' s' => ⟨_, rfl, ?_⟩⟩
    refine acc_step q s' ?_ ?_
    · rw [List.length_map, List.length_replicate]; omega
    · show (List.replicate (i + 1) false).map V.bl = (List.replicate i false).map V.bl ++ [V.bl (thereB ks ws v)]
      rw [there_no hk (od_no hk hv), List.replicate_succ', List.map_append]; rfl
  have sa := qa.same nD6
  refine ⟨D6, List.replicate 9 false, rfl, SqL.of qa.1, ?_⟩
  exact ⟨_, rfl, hQ _ (s6.trans sa)⟩
end
end KP

/-! values that tell no store. -/
namespace KP
open PySem PySem.Spec PyProof.Rows L2 G137 SlX
theorem st_no {H : Hp} {ks : List KeyR} {v : V} (h : tupOf H v = none) : storeB H ks v = false := by
  unfold storeB
  rw [h]
theorem tupOf_at {H : Hp} {t : Addr} {xs : List V} (h : H t = some (.tup xs)) : tupOf H (.ref t) = some xs := by
  show tupO (H t) = _
  rw [h]; rfl
theorem st_len {H : Hp} {ks : List KeyR} {t : Addr} {xs : List V} (h : H t = some (.tup xs)) (hl : xs.length ≠ ks.length) : storeB H ks (.ref t) = false := by
  unfold storeB
  rw [tupOf_at h]
  show (decide (xs.length = ks.length) && _) = false
  rw [decide_eq_false hl]; rfl
theorem st_hd {H : Hp} {ks r0 : List KeyR} {k0 : KeyR} {t : Addr} {x : V} {r : List V} (h : H t = some (.tup (x :: r))) (hk : ks = k0 :: r0) (hx : worthB k0 x = false) : storeB H ks (.ref t) = false := by
  unfold storeB
  rw [tupOf_at h, hk]
  show (decide ((x :: r).length = (k0 :: r0).length) && (worthB k0 x && _)) = false
  rw [hx, Bool.false_and, Bool.and_false]
theorem st_ok {H : Hp} {ks : List KeyR} {ws : List Int} {t : Addr} (h : H t = some (.tup (ws.map V.int))) (hW : WOk ks ws) : storeB H ks (.ref t) = true := by
  unfold storeB
  rw [tupOf_at h]
  have hl : ks.length = ws.length := Paired.length hW
  show (decide ((ws.map V.int).length = ks.length) && (ks.zip (ws.map V.int)).all fun p => worthB p.1 p.2) = true
  rw [decide_eq_true (by rw [List.length_map]; exact hl.symm), Bool.true_and]
  clear h hl
  have e : ∀ (k : KeyR) (z : Int), k.lo ≤ z → z < (k.size : Int) → worthB k (.int z) = true := fun k z h1 h2 => by
    show (decide (k.lo ≤ z) && decide (z ≤ (k.size : Int) - 1)) = true
    rw [decide_eq_true h1, decide_eq_true (by omega)]; rfl
  induction hW with
  | nil => rfl
  | cons hr ht ih =>
    rw [List.map_cons, List.zip_cons_cons, List.all_cons, ih, Bool.and_true]
    exact e _ _ hr.1 hr.2
/-- flat data: short, and shown -/
structure Fl (d : PyData) (b : Nat) : Prop where
  sh : d.showable = true
  dp : d.depth ≤ 10
  ln : d.shown.length ≤ b
theorem Fl.non : Fl .none 4 := ⟨rfl, by decide, by decide +kernel⟩
theorem Fl.int : ∀ z : Int, z = -2 ∨ z = -1 ∨ z = 0 ∨ z = 1 ∨ z = 2 ∨ z = 3 → Fl (.int z) 4 := by
  rintro z (rfl | rfl | rfl | rfl | rfl | rfl) <;> exact ⟨by decide +kernel, by simp [PyData.depth], by decide +kernel⟩
theorem Fl.tru : Fl (.bool true) 4 := ⟨by decide +kernel, by simp [PyData.depth], by decide +kernel⟩
theorem Fl.zero : Fl (.str "0") 4 := ⟨by decide +kernel, by simp [PyData.depth], by decide +kernel⟩
theorem fls_show {b : Nat} : ∀ {ds : List PyData}, (∀ d ∈ ds, Fl d b) → PyData.showableAll ds = true
  | [], _ => rfl
  | d :: r, h => by
    simp only [PyData.showableAll, (h d (List.mem_cons_self ..)).sh, fls_show fun y hy => h y (List.mem_cons_of_mem _ hy), Bool.and_self]
theorem fls_depth {b : Nat} : ∀ {ds : List PyData}, (∀ d ∈ ds, Fl d b) → PyData.depthAll ds ≤ 10
  | [], _ => by simp [PyData.depthAll]
  | d :: r, h => by
    have h1 := (h d (List.mem_cons_self ..)).dp
    have h2 := fls_depth fun y hy => h y (List.mem_cons_of_mem _ hy)
    simp only [PyData.depthAll]
    omega
theorem fls_join {b : Nat} {ds : List PyData} (h : ∀ d ∈ ds, Fl d b) : (Str.join ", " (PyData.shownAll ds)).length ≤ ds.length * (b + 2) := by
  rw [TL.len_tl, TL.tl_join]
  refine Nat.le_trans (joinL_len (b := b) fun p hp => ?_) ?_
  · obtain ⟨x, hx, rfl⟩ := List.mem_map.mp hp
    rw [← TL.len_tl]
    rw [shownAll_eq_map] at hx
    obtain ⟨d, hd, rfl⟩ := List.mem_map.mp hx
    exact (h d hd).ln
  · rw [List.length_map, shownAll_eq_map, List.length_map]
    exact Nat.le_refl _
theorem fls_tup {b : Nat} {ds : List PyData} (h : ∀ d ∈ ds, Fl d b) : (PyData.tuple ds).showable = true ∧ (PyData.tuple ds).depth ≤ 11 ∧ (PyData.tuple ds).shown.length ≤ ds.length * (b + 2) + 3 := by
  refine ⟨by simp only [PyData.showable]; exact fls_show h, by have := fls_depth h; simp only [PyData.depth]; omega, ?_⟩
  have h1 := fls_join h
  rw [PyData.shown_tuple, len_app, len_app]
  show 1 + _ + _ ≤ _
  split
  · show 1 + _ + 2 ≤ _; omega
  · show 1 + _ + 1 ≤ _; omega
theorem fls_lst {b : Nat} {ds : List PyData} (h : ∀ d ∈ ds, Fl d b) : (PyData.list ds).showable = true ∧ (PyData.list ds).depth ≤ 11 ∧ (PyData.list ds).shown.length ≤ ds.length * (b + 2) + 3 := by
  refine ⟨by simp only [PyData.showable]; exact fls_show h, by have := fls_depth h; simp only [PyData.depth]; omega, ?_⟩
  have h1 := fls_join h
  rw [PyData.shown_list, len_app, len_app]
  show 1 + _ + 1 ≤ _
  omega
theorem fls_ints {ws : List Int} (h : ∀ z ∈ ws, z = -1 ∨ z = 0 ∨ z = 1 ∨ z = 2) : ∀ d ∈ ws.map PyData.int, Fl d 4 := fun d hd => by
  obtain ⟨z, hz, rfl⟩ := List.mem_map.mp hd
  exact Fl.int z (by rcases h z hz with e | e | e | e <;> omega)
/-- a value that tells no store, and can be told -/
def OdV (H : Hp) (ks : List KeyR) (v : V) : Prop := Pl1 H v ∧ storeB H ks v = false ∧ ∃ d, ValOk H v d
theorem pl_ints {H : Hp} (ws : List Int) : ∀ x ∈ ws.map V.int, Pl H x := fun x hx => by
  obtain ⟨z, _, rfl⟩ := List.mem_map.mp hx
  exact ⟨_, rfl⟩
theorem pl1_tup {H : Hp} {t : Addr} {xs : List V} (h : H t = some (.tup xs)) (hx : ∀ x ∈ xs, Pl H x) : Pl1 H (.ref t) := ⟨⟨"tuple", by show tyO (H t) = _; rw [h]; rfl⟩, fun ys e => by
  rw [tupOf_at h] at e
  cases e
  exact hx⟩
theorem pl1_no {H : Hp} {v : V} (h : Pl H v) (e : tupOf H v = none) : Pl1 H v := ⟨h, fun xs z => by rw [e] at z; cases z⟩
/-- a flat value and its data -/
def FlV (H : Hp) (x : V) (d : PyData) : Prop := DT H x d ∧ Fl d 4 ∧ Pl H x
theorem od_hd {H : Hp} {ks r0 : List KeyR} {k0 : KeyR} {t : Addr} {x : V} {d : PyData} {wr : List Int} (h : H t = some (.tup (x :: wr.map V.int))) (hk : ks = k0 :: r0) (hx : worthB k0 x = false) (hf : FlV H x d) (hw : ∀ z ∈ wr, z = -1 ∨ z = 0 ∨ z = 1 ∨ z = 2) (h4 : wr.length ≤ 4) : OdV H ks (.ref t) := by
  refine ⟨pl1_tup h fun y hy => ?_, st_hd h hk hx, .tuple (d :: wr.map .int), ?_⟩
  · rcases List.mem_cons.mp hy with rfl | hy
    · exact hf.2.2
    · exact pl_ints wr y hy
  · obtain ⟨a1, a2, a3⟩ := fls_tup (b := 4) (ds := d :: wr.map .int) fun e he => by
      rcases List.mem_cons.mp he with rfl | he
      · exact hf.2.1
      · exact fls_ints hw e he
    rw [List.length_cons, List.length_map] at a3
    exact ⟨.tup h (.cons hf.1 (ints_dts wr)), a1, by omega, by omega⟩
theorem od_len {H : Hp} {ks : List KeyR} {t : Addr} {ws : List Int} (h : H t = some (.tup (ws.map V.int))) (hl : ws.length ≠ ks.length) (hw : ∀ z ∈ ws, z = -1 ∨ z = 0 ∨ z = 1 ∨ z = 2) (h5 : ws.length ≤ 5) : OdV H ks (.ref t) := by
  refine ⟨pl1_tup h (pl_ints ws), st_len h (by rw [List.length_map]; exact hl), .tuple (ws.map .int), ?_⟩
  obtain ⟨a1, a2, a3⟩ := fls_tup (fls_ints hw)
  rw [List.length_map] at a3
  exact ⟨.tup h (ints_dts ws), a1, by omega, by omega⟩
theorem od_lst {H : Hp} {ks : List KeyR} {t : Addr} {ws : List Int} (h : H t = some (.lst (ws.map V.int))) (hw : ∀ z ∈ ws, z = -1 ∨ z = 0 ∨ z = 1 ∨ z = 2) (h5 : ws.length ≤ 5) : OdV H ks (.ref t) := by
  have e : tupOf H (.ref t) = none := by show tupO (H t) = _; rw [h]; rfl
  refine ⟨pl1_no ⟨"list", by show tyO (H t) = _; rw [h]; rfl⟩ e, st_no e, .list (ws.map .int), ?_⟩
  obtain ⟨a1, a2, a3⟩ := fls_lst (fls_ints hw)
  rw [List.length_map] at a3
  exact ⟨.lst h (ints_dts ws), a1, by omega, by omega⟩
theorem od_in {H : Hp} {ks r0 : List KeyR} {k0 : KeyR} {t u : Addr} {ws : List Int} (h : H t = some (.tup [.ref u])) (hu : H u = some (.tup (ws.map V.int))) (hk : ks = k0 :: r0) (hw : ∀ z ∈ ws, z = -1 ∨ z = 0 ∨ z = 1 ∨ z = 2) (h5 : ws.length ≤ 5) : OdV H ks (.ref t) := by
  refine ⟨pl1_tup h fun y hy => ?_, st_hd h hk rfl, .tuple [.tuple (ws.map .int)], ?_⟩
  · obtain rfl := List.mem_singleton.mp hy
    exact ⟨"tuple", by show tyO (H u) = _; rw [hu]; rfl⟩
  · obtain ⟨a1, a2, a3⟩ := fls_tup (fls_ints hw)
    rw [List.length_map] at a3
    refine ⟨.tup h (.cons (.tup hu (ints_dts ws)) .nil), by simp only [PyData.showable, PyData.showableAll] at a1 ⊢; rw [a1]; rfl, by simp only [PyData.depth, PyData.depthAll] at a2 ⊢; omega, ?_⟩
    rw [PyData.shown_tuple, len_app, len_app]
    show 1 + (PyData.tuple (ws.map .int)).shown.length + 2 ≤ _
    omega
theorem od_non {H : Hp} {ks : List KeyR} : OdV H ks .non := ⟨pl1_no ⟨_, rfl⟩ rfl, rfl, .none, .non, rfl, by decide, by decide +kernel⟩
theorem od_int {H : Hp} {ks : List KeyR} : OdV H ks (.int 0) := ⟨pl1_no ⟨_, rfl⟩ rfl, rfl, .int 0, .int 0, by decide +kernel, by simp [PyData.depth], by decide +kernel⟩
theorem od_str {H : Hp} {ks : List KeyR} : OdV H ks (.str "") := ⟨pl1_no ⟨_, rfl⟩ rfl, rfl, .str "", .str "", by decide +kernel, by simp [PyData.depth], by decide +kernel⟩
theorem od_dic {H : Hp} {ks : List KeyR} {t : Addr} (h : H t = some (.dK [])) : OdV H ks (.ref t) := by
  have e : tupOf H (.ref t) = none := by show tupO (H t) = _; rw [h]; rfl
  exact ⟨pl1_no ⟨"dict", by show tyO (H t) = _; rw [h]; rfl⟩ e, st_no e, .dict [], .dk h .nil, by decide +kernel, by simp [PyData.depth, PyData.depthKv], by decide +kernel⟩
theorem pl_kp {H H' : Hp} (e : ∀ b o, DatO o → H b = some o → H' b = some o) {v : V} (h : Pl H v) : Pl H' v := by
  obtain ⟨T, hT⟩ := h
  refine ⟨T, ?_⟩
  cases v with
  | ref a => rcases tyO_some hT with ⟨rfl, xs, q⟩ | ⟨rfl, xs, q⟩ | ⟨rfl, xs, q⟩ <;> (show tyO (H' a) = _; rw [e a _ (by first | exact .inl ⟨_, rfl⟩ | exact .inr (.inl ⟨_, rfl⟩) | exact .inr (.inr ⟨_, rfl⟩)) q]; rfl)
  | _ => exact hT
theorem tupOf_kp {H H' : Hp} (e : ∀ b o, DatO o → H b = some o → H' b = some o) {v : V} (h : Pl H v) : tupOf H' v = tupOf H v := by
  obtain ⟨T, hT⟩ := h
  cases v with
  | ref a => rcases tyO_some hT with ⟨rfl, xs, q⟩ | ⟨rfl, xs, q⟩ | ⟨rfl, xs, q⟩ <;> (show tupO (H' a) = tupO (H a); rw [q, e a _ (by first | exact .inl ⟨_, rfl⟩ | exact .inr (.inl ⟨_, rfl⟩) | exact .inr (.inr ⟨_, rfl⟩)) q])
  | _ => rfl
theorem OdV.kp {H H' : Hp} {ks : List KeyR} {v : V} (e : ∀ b o, DatO o → H b = some o → H' b = some o) (h : OdV H ks v) : OdV H' ks v := by
  obtain ⟨⟨h1, h2⟩, h3, d, h4⟩ := h
  have et := tupOf_kp e h1
  refine ⟨⟨pl_kp e h1, fun xs z x hx => pl_kp e (h2 xs (et ▸ z) x hx)⟩, ?_, d, dt_kp e h4.dt, h4.sh, h4.dp, h4.ln⟩
  have : storeB H' ks v = storeB H ks v := by unfold storeB; rw [et]
  rw [this]; exact h3
theorem dat_same {H H' : Hp} (s : Same H H') : ∀ b o, DatO o → H b = some o → H' b = some o := fun b o _ e => s b o e
theorem dat_ext {H H' : Hp} (s : LamX.ExtN H H') : ∀ b o, DatO o → H b = some o → H' b = some o := fun b o h e => s b o e fun ps z => by
  rcases h with ⟨_, rfl⟩ | ⟨_, rfl⟩ | ⟨_, rfl⟩ <;> cases z
end KP
/-! keys turned round: what stays, what differs. -/
namespace KP
open PySem PySem.Spec PyProof.Rows L2 G137 SlX
def KeyR.flip (k : KeyR) : KeyR := ⟨k.name, k.size, !k.may⟩
theorem many2 {k : KeyR} (h : k.Ok) : 2 ≤ k.many := by
  unfold KeyR.many
  rcases h.sz with e | e <;> omega
def prodK : List KeyR → Nat
  | [] => 1
  | k :: r => k.many * prodK r
theorem foldl_prod : ∀ (ks : List KeyR) (n : Nat), ks.foldl (fun a k => a * k.many) n = n * prodK ks
  | [], n => (Nat.mul_one n).symm
  | k :: r, n => by
    rw [List.foldl_cons, foldl_prod r, prodK, Nat.mul_assoc]
theorem manyL_prod (ks : List KeyR) : manyL ks = prodK ks := by
  have h : manyL ks = 1 * prodK ks := foldl_prod ks 1
  rw [h, Nat.one_mul]
theorem prod_pos : ∀ {ks : List KeyR}, (∀ k ∈ ks, k.Ok) → 1 ≤ prodK ks
  | [], _ => Nat.le_refl _
  | k :: r, h => by
    have h1 := many2 (h k (List.mem_cons_self ..))
    have h2 := prod_pos fun x hx => h x (List.mem_cons_of_mem _ hx)
    exact Nat.mul_le_mul (show 1 ≤ k.many by omega) h2
theorem prod_take : ∀ {ks : List KeyR} (j : Nat), (∀ k ∈ ks, k.Ok) → prodK (ks.take j) ≤ prodK ks
  | [], j, _ => by rw [List.take_nil]; exact Nat.le_refl _
  | k :: r, 0, h => prod_pos h
  | k :: r, j + 1, h => by
    rw [List.take_succ_cons]
    exact Nat.mul_le_mul (Nat.le_refl _) (prod_take j fun x hx => h x (List.mem_cons_of_mem _ hx))
theorem prod_snoc : ∀ (ks : List KeyR) (k : KeyR), prodK (ks ++ [k]) = prodK ks * k.many
  | [], k => by show k.many * 1 = 1 * k.many; rw [Nat.mul_one, Nat.one_mul]
  | x :: r, k => by
    show x.many * prodK (r ++ [k]) = x.many * prodK r * k.many
    rw [prod_snoc r k, Nat.mul_assoc]
theorem flip_ok {k : KeyR} (h : k.Ok) : k.flip.Ok := ⟨h.nm, h.it, h.he, h.sz⟩
theorem keys_flip {k : KeyR} {r : List KeyR} (h : KeysOk (k :: r)) (hm : manyL (k :: r) ≤ 40) : KeysOk (k.flip :: r) := by
  have hok : ∀ x ∈ k.flip :: r, x.Ok := fun x hx => by
    rcases List.mem_cons.mp hx with rfl | hx
    · exact flip_ok (h.ok k (List.mem_cons_self ..))
    · exact h.ok x (List.mem_cons_of_mem _ hx)
  refine ⟨(fun z => nomatch z), h.four, hok, h.nd, fun j => ?_⟩
  rw [manyL_prod]
  refine Nat.le_trans (prod_take j hok) ?_
  rw [manyL_prod] at hm
  have h1 : k.many * prodK r ≤ 40 := hm
  show k.flip.many * prodK r ≤ 60
  have h2 : 2 * k.flip.many ≤ 3 * k.many := by
    have := (h.ok k (List.mem_cons_self ..)).sz
    unfold KeyR.flip KeyR.many
    dsimp only
    cases k.may
    · show 2 * (k.size + 1) ≤ 3 * (k.size + 0); omega
    · show 2 * (k.size + 0) ≤ 3 * (k.size + 1); omega
  have h3 := Nat.mul_le_mul_right (prodK r) h2
  rw [Nat.mul_assoc, Nat.mul_assoc] at h3
  omega
theorem keys_turn {k : KeyR} {r : List KeyR} (h : KeysOk (k :: r)) (hm : manyL (k :: r) ≤ 40) (hr : r ≠ []) : KeysOk (r ++ [k]) := by
  have hok : ∀ x ∈ r ++ [k], x.Ok := fun x hx => by
    rcases List.mem_append.mp hx with hx | hx
    · exact h.ok x (List.mem_cons_of_mem _ hx)
    · rw [List.mem_singleton.mp hx]; exact h.ok k (List.mem_cons_self ..)
  refine ⟨fun z => ?_, ?_, hok, ?_, fun j => ?_⟩
  · rw [List.append_eq_nil_iff] at z; exact hr z.1
  · have := h.four
    rw [List.length_append]
    exact this
  · have := h.nd
    rw [List.map_cons, List.nodup_cons] at this
    rw [List.map_append, List.nodup_append]
    refine ⟨this.2, List.nodup_cons.mpr ⟨fun z => (nomatch z), List.nodup_nil⟩, fun a ha b hb e => ?_⟩
    have hb' : b = k.name := List.mem_singleton.mp hb
    rw [e, hb'] at ha
    exact this.1 ha
  · rw [manyL_prod]
    refine Nat.le_trans (prod_take j hok) ?_
    rw [prod_snoc]
    rw [manyL_prod] at hm
    have h1 : k.many * prodK r ≤ 40 := hm
    rw [Nat.mul_comm]
    omega
theorem eqv_flip (k : KeyR) (r r' : List KeyR) : PyData.eqv (rowsD (k :: r)) (rowsD (k.flip :: r')) = false := by
  unfold rowsD
  rw [List.map_cons, List.map_cons]
  unfold KeyR.dat KeyR.flip
  simp only [PyData.eqv, PyData.eqvAll]
  cases k.may <;> simp
theorem eqv_turn {k k' : KeyR} (h : k.name ≠ k'.name) (r r' : List KeyR) : PyData.eqv (rowsD (k :: r)) (rowsD (k' :: r')) = false := by
  unfold rowsD
  rw [List.map_cons, List.map_cons]
  unfold KeyR.dat
  simp [PyData.eqv, PyData.eqvAll, h]
theorem wok_snoc {ks : List KeyR} {ws : List Int} {k : KeyR} {x : Int} (h : WOk ks ws) (hx : k.lo ≤ x ∧ x < (k.size : Int)) : WOk (ks ++ [k]) (ws ++ [x]) := by
  refine Paired.snoc ⟨?_, ?_⟩ h
  · exact hx.1
  · exact hx.2
theorem lo_zero {k : KeyR} (h : k.Ok) : k.lo ≤ 0 ∧ (0 : Int) < (k.size : Int) := by
  unfold KeyR.lo
  constructor
  · split <;> decide
  · rcases h.sz with e | e <;> rw [e] <;> decide
end KP
/-! books and stores, made. -/
namespace KP
open PySem PySem.Spec PyProof.Rows L2 G137 SlX
theorem new_same {H : Hp} {x dx : Addr} {o1 o2 : HO} (hx : H x = none) (hd : H dx = none) : Same H (upd (upd H dx o1) x o2) := fun c u e => by
  rw [upd_ne (ne_of_none e hx), upd_ne (ne_of_none e hd)]
  exact e
section
variable {K : Frag} {ks : List KeyR} {H : Hp} {x dx : Addr} {Q : VK} {E : XK}
theorem mk_book {lt : Str} {n : Int} (hx : H x = none) (hd : H dx = none) (hk : KeysOk ks) (hl : LtOk lt n) (h : ∀ (kr : Addr) (H' : Hp), Same H H' → BkOk K H' x ks kr → BkTxt K H' x (pgT ks lt) → Q .non H') :
    spBkI K [.ref x, .str (pgT ks lt)] (upd (upd H dx (.own x)) x (.ins (cA K "Book") dx [])) Q E := by
  refine ⟨x, dx, pgT ks lt, ks, dD ks n, rfl, upd_same, by have := pgT_len hk hl; have := sizeLine_big; omega, page_ok hk, page_ls hk hl, fun H' b hB => ?_⟩
  obtain ⟨kr, hr⟩ := hB.rows
  exact h kr H' (made_same hx hd b) ⟨hr, hB.pl, hk.four⟩ hB.txt
theorem mk_store {b kr w : Addr} {ws : List Int} (hx : H x = none) (hd : H dx = none) (hB : BkOk K H b ks kr) (hw : H w = some (.tup (ws.map V.int))) (hW : WOk ks ws) (h : ∀ H' : Hp, Same H H' → StK K H' x b kr w ks ws → Q .non H') :
    spStI0 K [.ref x, .ref b, .ref w] (upd (upd H dx (.own x)) x (.ins (cA K "Store") dx [])) Q E := by
  have s0 : Same H (upd (upd H dx (.own x)) x (.ins (cA K "Store") dx [])) := new_same hx hd
  have hw0 := s0 _ _ hw
  have hl : ks.length = ws.length := Paired.length hW
  refine ⟨x, dx, b, ks, kr, .ref w, rfl, upd_same, hB.same s0, pl1_tup hw0 (pl_ints ws), fun _ H' bu hx' => ?_, fun z => ?_⟩
  · have s1 := made_same hx hd bu
    exact h H' s1 ⟨⟨dx, hx', s1 _ _ hw⟩, hB.same s1, hl.symm⟩
  · rw [st_ok hw0 hW] at z
    cases z
theorem mk_bad {b kr : Addr} {v : V} (hx : H x = none) (hd : H dx = none) (hB : BkOk K H b ks kr) (hv : OdV H ks v) (h : ErrAt K E H "BadStore" v) : spStI0 K [.ref x, .ref b, v] (upd (upd H dx (.own x)) x (.ins (cA K "Store") dx [])) Q E := by
  have s0 : Same H (upd (upd H dx (.own x)) x (.ins (cA K "Store") dx [])) := new_same hx hd
  obtain ⟨h1, h2, _⟩ := hv.kp (dat_same s0)
  refine ⟨x, dx, b, ks, kr, v, rfl, upd_same, hB.same s0, h1, fun z => ?_, fun _ => h.same s0⟩
  rw [h2] at z
  cases z
end
end KP
/-! the law: values that tell no store are refused. -/
namespace KP
open PySem PySem.Spec PyProof.Rows L2 G137 SlX
def spRef (K : Frag) : Sp := fun vs H Q _ => ∃ (bk lk ln kr : Addr) (ts : List Addr) (ks : List KeyR) (ws : List Int), vs = [.ref bk, .ref lk, .ref ln] ∧ BkOk K H bk ks kr ∧ H lk = some (.lst (ts.map V.ref)) ∧ KeyRows H ts ks ∧ KeysOk ks ∧ H ln = some (.lst (ws.map V.int)) ∧ WOk ks ws ∧ LamX.Tabs (lamT K) H ∧
  ∀ H', LamX.ExtN H H' → LamX.Tabs (lamT K) H' → Q (.bl true) H'
theorem ods_snoc {H H' : Hp} {ks : List KeyR} {vs : List V} {v : V} (h : ∀ v ∈ vs, OdV H ks v) (s : Same H H') (hv : OdV H' ks v) : ∀ u ∈ vs ++ [v], OdV H' ks u := fun u hu => by
  rcases List.mem_append.mp hu with hu | hu
  · exact (h u hu).kp (dat_same s)
  · obtain rfl := List.mem_singleton.mp hu
    exact hv
theorem ods_same {H H' : Hp} {ks : List KeyR} {vs : List V} (h : ∀ v ∈ vs, OdV H ks v) (s : Same H H') : ∀ u ∈ vs, OdV H' ks u := fun u hu => (h u hu).kp (dat_same s)
section
variable {P : Program} {w : World} {K : Frag} {mg : Str → Option Value} {base : Heap}
theorem sc_refR : FnScope ["_law_own", "_law_keys_here", "_law_now", "_law_first", "_law_rest", "_law_odd", "_law_thing"] ["_law_own", "_law_keys_here", "_law_now"] (defScope d_law_refused_right) := ⟨rfl, rfl, rfl, by decide +kernel, rfl, by decide +kernel, by decide +kernel⟩
theorem ok_refR (T : Pr K mg) (R : Er P w K mg base) (G : Gd K mg base) : FOkG P w K mg base 10 "_law_refused_right" ["_law_own", "_law_keys_here", "_law_now"] (spRef K) := by
  obtain ⟨fd, F⟩ := T.f_law_refused_right
  have blist := T.fre "list" (by decide +kernel)
  have btuple := T.fre "tuple" (by decide +kernel)
  have bint := T.fre "int" (by decide +kernel)
  have ball := T.fre "all" (by decide +kernel)
  have brepr := T.fre "repr" (by decide +kernel)
  obtain ⟨osys, hsys⟩ := G.sys
  refine FOkG.of F (T.glo _ (by decide +kernel)) sc_refR (fun _ _ _ _ _ _ us hl => match us, hl with | [_, _, _], _ => rfl) (fun vs H Q E h => ?_) (fun A outer s H vs Q E hgd hr h => ?_)
  · obtain ⟨_, _, _, _, _, _, _, rfl, _⟩ := h; rfl
  have hgA : (A.deeper (envOfC "_law_refused_right" (defScope d_law_refused_right) s.heap.objs.size (He.ga K "_law_refused_right") (.ref (He.cT K ("_law_refused_right", none)).1))).guards = some [] := deeper_guards hgd
  have hu : (A.deeper (envOfC "_law_refused_right" (defScope d_law_refused_right) s.heap.objs.size (He.ga K "_law_refused_right") (.ref (He.cT K ("_law_refused_right", none)).1))).units + 65 < cLine := by have := hr.un; omega
  have hu1 : (A.deeper (envOfC "_law_refused_right" (defScope d_law_refused_right) s.heap.objs.size (He.ga K "_law_refused_right") (.ref (He.cT K ("_law_refused_right", none)).1))).units + 1 < cLine := by omega
  have hu64 : (A.deeper (envOfC "_law_refused_right" (defScope d_law_refused_right) s.heap.objs.size (He.ga K "_law_refused_right") (.ref (He.cT K ("_law_refused_right", none)).1))).units + 64 < cLine := by omega
  refine ⟨_, PSs.nox (pss_cons (ps_par (i := 3) (j := 4) rfl sc_refR.nd rfl rfl (by decide) rfl rfl (pa_cons (pe_ix ix_list (pv 1) pe_int (fun _ _ => rfl)) (pa_cons (pe_slice sl_list (pv 2) (po_some pe_int) po_none) pa_nil)) (by rfl))
    (pss_cons (ps_set (i := 5) sc_refR.nd rfl (Or.inl rfl) (pe_lst (pa_cons pe_non (pa_cons pe_int (pa_cons pe_str (pa_cons (pe_callTy call_list_of (by rfl) blist (by decide +kernel) (pa_cons (pv 2) pa_nil)) (pa_cons (pe_callTy call_tuple_of (by rfl) btuple (by decide +kernel) (pa_cons (pe_op (op_cat) (pv 2) (pe_lst (pa_cons pe_int pa_nil))) pa_nil)) (pa_cons (pe_callTy call_tuple_of (by rfl) btuple (by decide +kernel) (pa_cons (pe_slice sl_list (pv 2) (po_some pe_int) po_none) pa_nil)) (pa_cons pe_dnewK (pa_cons (pe_callTy call_tuple_of (by rfl) btuple (by decide +kernel) (pa_cons (pe_op (op_cat) (pe_lst (pa_cons (pe_ix ix_tup (pv 3) pe_int (fun _ _ => rfl)) pa_nil)) (pv 4)) pa_nil)) (pa_cons (pe_callTy call_tuple_of (by rfl) btuple (by decide +kernel) (pa_cons (pe_op (op_cat) (pe_lst (pa_cons (pe_un un_neg pe_int) pa_nil)) (pv 4)) pa_nil)) pa_nil)))))))))))
    (pss_cons (ps_set (i := 5) sc_refR.nd rfl (Or.inl rfl) (pe_op (op_cat) (pv 5) (pe_lst (pa_cons (pe_callTy call_tuple_of (by rfl) btuple (by decide +kernel) (pa_cons (pe_op (op_cat) (pe_lst (pa_cons pe_bl pa_nil)) (pv 4)) pa_nil)) (pa_cons (pe_callTy call_tuple_of (by rfl) btuple (by decide +kernel) (pa_cons (pe_op (op_cat) (pe_lst (pa_cons pe_non pa_nil)) (pv 4)) pa_nil)) (pa_cons (pe_tup (pa_cons (pe_callTy call_tuple_of (by rfl) btuple (by decide +kernel) (pa_cons (pv 2) pa_nil)) pa_nil)) (pa_cons (pe_callTy call_tuple_of (by rfl) btuple (by decide +kernel) (pa_cons (pe_op (op_cat) (pe_lst (pa_cons pe_str pa_nil)) (pv 4)) pa_nil)) pa_nil)))))))
    (pss_cons (ps_set (i := 5) sc_refR.nd rfl (Or.inl rfl) (pe_op (op_cat) (pv 5) (pe_op (op_rep) (pe_lst (pa_cons (pe_callTy call_tuple_of (by rfl) btuple (by decide +kernel) (pa_cons (pe_op (op_cat) (pe_lst (pa_cons (pe_un un_neg pe_int) pa_nil)) (pv 4)) pa_nil)) pa_nil)) (pe_callTy call_int1 (by rfl) bint (by decide +kernel) (pa_cons (pe_not (pe_ix ix_tup (pv 3) pe_int (fun _ _ => rfl))) pa_nil)))))
    (pss_one (ps_ret (pe_callB (cr_all rfl) (by rfl) ball (by decide +kernel) (pa_cons (pe_lc (own := [("_law_thing", 6)]) (g := gName 6) (tt := tYes) (te := tOp rEq (tCB rReprT (tCons (LamX.tLam (lamT K) (THeard K) (fun E => tMake (cA K "Store") (spStI0 K) [] E (tCons (tVar 0) (tCons (tVar 6) tNil)))) tNil)) (tCB rReprT (tCons (tTup (tCons (tC (.str "BadStore")) (tCons (tVar 6) tNil))) tNil))) rfl sc_refR.nd (pi_list (pv 5)) (blkOk_by (own := [("_law_thing", 6)]) (N := ["_law_own", "_law_keys_here", "_law_now", "_law_first", "_law_rest", "_law_odd", "_law_thing"]) (sc := defScope d_law_refused_right) (by decide +kernel)) (fun _ _ _ _ _ => (pg_name (i := 6) sc_refR.nd rfl (Or.inr rfl))) (fun _ _ _ _ _ => pts_nil) (fun _ _ _ _ _ => (pe_cmpR op_eq (pe_callB (call_reprT hgA hu64 hsys) (by rfl) brepr (by decide +kernel) (pa_cons (by refine pe_heard (x := "_law_refused_right") (k := 7) (t := (fun E => tMake (cA K "Store") (spStI0 K) [] E (tCons (tVar 0) (tCons (tVar 6) tNil)))) T R G ?a ?b ?c ?d ?e ?f ?g ?h ?i; (case a => decide +kernel); (case b => exact (List.mem_cons_of_mem _ (List.mem_cons_self ..))); (case c => rfl); (case d => rfl); (case e => exact (hr.mono (by decide))); (case f => exact LamX.lamS_by (by kernel_rfl)); (case g => rfl); (case h => exact fun _ _ _ _ _ => rfl); (case i => exact (fun A outer s H E f c hr => (pe_makeX (ok_Store T R) (hr.mono (by decide)) (passes_call (takes_of rfl rfl rfl rfl) fun _ _ _ _ h => h) rfl (pa_cons (pv 0) (pa_cons (pv 6) pa_nil)))))) pa_nil)) (pe_callB (call_reprT hgA hu64 hsys) (by rfl) brepr (by decide +kernel) (pa_cons (pe_tup (pa_cons pe_str (pa_cons (pv 6) pa_nil))) pa_nil)) (nomark _)))) pa_nil)))))))), ?_⟩
  have hbig := sizeLine_big
  obtain ⟨bk, lk, ln, kr, ts, ks, ws, rfl, hB, hlk, hK, hk, hln, hW, hT, hQ⟩ := h
  have hlen : ts.length = ks.length := Paired.length hK
  have h4 := hk.four
  have hwl : ks.length = ws.length := Paired.length hW
  obtain ⟨k0, r0, ek, eh⟩ := head_ok hk
  have h0t : 0 < ts.length := by rw [hlen, ek]; exact Nat.succ_pos _
  obtain ⟨t0, et0⟩ : ∃ t0, ts[0]? = some t0 := ⟨ts[0], List.getElem?_eq_getElem h0t⟩
  obtain ⟨k0', ek0, ht0⟩ := Paired.get? hK et0
  have : k0' = k0 := by rw [ek] at ek0; exact (Option.some.inj ek0).symm
  subst this
  have hko := hk.ok k0' (by rw [ek]; exact List.mem_cons_self ..)
  have et0' : (ts.map V.ref)[0]? = some (.ref t0) := by rw [List.getElem?_map, et0]; rfl
  obtain ⟨w0, wr, ew⟩ : ∃ w0 wr, ws = w0 :: wr := by
    cases ws with
    | nil => rw [ek] at hwl; cases hwl
    | cons a r => exact ⟨a, r, rfl⟩
  have hin := wok_in hk.ok hW
  have hinr : ∀ z ∈ wr, z = -1 ∨ z = 0 ∨ z = 1 ∨ z = 2 := fun z hz => hin z (by rw [ew]; exact List.mem_cons_of_mem _ hz)
  have hwl5 : ws.length ≤ 4 := by omega
  have hwr : wr.length + 1 = ws.length := by rw [ew]; rfl
  have ecut : cutV (ws.map V.int) (some 1) none = wr.map V.int := by
    rw [show (1 : Int) = ((1 : Nat) : Int) from rfl, cutV_from, ew]; rfl
  have hwrm : (wr.map V.int).length ≤ 4 := by rw [List.length_map]; omega
  have cutN : ∀ {p : Addr} {G : Hp}, upd G p (.lst (cutV (ws.map V.int) (some 1) none)) = upd G p (.lst (wr.map V.int)) := fun {p G} => by rw [ecut]
  refine ⟨_, rfl, lk, _, 0, .ref t0, rfl, rfl, SqL.of hlk, atI_nat (j := 0) et0', _, rfl, 1, rfl, ln, _, rfl, SqL.of hln, fun q0 n0 => ?_⟩
  rw [cutN]
  have s0 := same_upd (o := .lst (wr.map V.int)) n0
  have hrst : upd H q0 (.lst (wr.map V.int)) q0 = _ := upd_same
  have hln := s0 _ _ hln
  have ht0 := s0 _ _ ht0
  have hT0 := hT.ext s0
  have hB0 := hB.same s0
  refine ⟨_, _, rfl, ?_⟩
  have A0 : ∀ v ∈ ([.non, .int 0, .str ""] : List V), OdV (upd H q0 (.lst (wr.map V.int))) ks v := fun v hv => by
    simp only [List.mem_cons, List.not_mem_nil, or_false] at hv
    rcases hv with rfl | rfl | rfl
    · exact od_non
    · exact od_int
    · exact od_str
  generalize upd H q0 (.lst (wr.map V.int)) = B at s0 hrst hln ht0 hT0 hB0 A0 ⊢
  have s1 : Same B B := Same.refl B
  have one : ∀ x : V, [x].length + (wr.map V.int).length ≤ sizeLine := fun x => by show 1 + _ ≤ _; omega
  refine ⟨_, rfl, ln, _, rfl, .inl (SqL.of (s1 _ _ hln)), fun l1 m1 => ?_⟩
  have v1 := same_upd (o := .lst (ws.map V.int)) m1
  have A1 := ods_snoc A0 v1 (od_lst (upd_same (H := B) (o := .lst (ws.map V.int))) hin (by omega))
  have s2 := s1.trans v1
  generalize upd B l1 (.lst (ws.map V.int)) = G1 at s2 A1 ⊢
  refine ⟨_, rfl, by show 1 ≤ sizeLine; decide, fun a1 b1 => ?_⟩
  have v2 := same_upd (o := .lst [.int 0]) b1
  refine ⟨ln, a1, _, _, rfl, rfl, v2 _ _ (s2 _ _ hln), upd_same, by rw [List.length_map]; show _ + 1 ≤ _; omega, fun a2 b2 => ?_⟩
  have e50 : ws.map V.int ++ [V.int 0] = (ws ++ [0]).map V.int := by rw [List.map_append]; rfl
  rw [e50]
  have v3 := v2.trans (same_upd (o := .lst ((ws ++ [0]).map V.int)) b2)
  refine ⟨a2, _, rfl, .inl ⟨SqL.of upd_same, fun l2 m2 => ?_⟩⟩
  have v4 := v3.trans (same_upd (o := .tup ((ws ++ [0]).map V.int)) m2)
  have A2 := ods_snoc A1 v4 (od_len (upd_same (o := .tup ((ws ++ [0]).map V.int))) (by rw [List.length_append]; show _ + 1 ≠ _; omega) (fun z hz => by
    rcases List.mem_append.mp hz with hz | hz
    · exact hin z hz
    · exact .inr (.inl (List.mem_singleton.mp hz))) (by rw [List.length_append]; show _ + 1 ≤ _; omega))
  have s3 := s2.trans v4
  clear A1 v2 v3
  generalize upd (upd (upd G1 a1 (.lst [.int 0])) a2 (.lst ((ws ++ [0]).map V.int))) l2 (.tup ((ws ++ [0]).map V.int)) = G2 at s3 A2 ⊢
  refine ⟨_, rfl, 1, rfl, ln, _, rfl, SqL.of (s3 _ _ hln), fun a3 b3 => ?_⟩
  rw [cutN]
  have v5 := same_upd (o := .lst (wr.map V.int)) b3
  refine ⟨a3, _, rfl, .inl ⟨SqL.of upd_same, fun l3 m3 => ?_⟩⟩
  have v6 := v5.trans (same_upd (o := .tup (wr.map V.int)) m3)
  have A3 := ods_snoc A2 v6 (od_len (upd_same (o := .tup (wr.map V.int))) (by omega) hinr (by omega))
  have s4 := s3.trans v6
  clear A2 v5
  generalize upd (upd G2 a3 (.lst (wr.map V.int))) l3 (.tup (wr.map V.int)) = G3 at s4 A3 ⊢
  intro l4 m4
  have v7 := same_upd (o := .dK []) m4
  have A4 := ods_snoc A3 v7 (od_dic (upd_same (o := .dK [])))
  have s5 := s4.trans v7
  clear A3
  generalize upd G3 l4 (.dK []) = G4 at s5 A4 ⊢
  refine ⟨_, rfl, t0, _, 1, .int k0'.size, rfl, rfl, SqT.of (s5 _ _ ht0), atI_nat (j := 1) rfl, by show 1 ≤ sizeLine; decide, fun x5 y5 => ?_⟩
  have p5 := same_upd (o := .lst [.int k0'.size]) y5
  refine ⟨_, rfl, x5, q0, _, _, rfl, rfl, upd_same, p5 _ _ (s5 _ _ hrst), one _, fun z5 c5 => ?_⟩
  have p5' := p5.trans (same_upd (o := .lst (.int k0'.size :: wr.map V.int)) c5)
  refine ⟨z5, _, rfl, .inl ⟨SqL.of upd_same, fun l5 m5 => ?_⟩⟩
  have v5' := p5'.trans (same_upd (o := .tup (.int k0'.size :: wr.map V.int)) m5)
  have A5 := ods_snoc A4 v5' (od_hd (upd_same (o := .tup (.int k0'.size :: wr.map V.int))) ek (by show (decide _ && decide ((k0'.size : Int) ≤ (k0'.size : Int) - 1)) = false; rw [decide_eq_false (by omega : ¬ (k0'.size : Int) ≤ (k0'.size : Int) - 1), Bool.and_false]) ⟨.int _, Fl.int _ (by rcases hko.sz with e | e <;> rw [e] <;> decide), ⟨_, rfl⟩⟩ hinr (by omega))
  have s6 := s5.trans v5'
  clear A4 p5 p5'
  show (_ : Hp → Prop) (upd (upd (upd G4 x5 (.lst [.int k0'.size])) z5 (.lst (.int k0'.size :: wr.map V.int))) l5 (.tup (.int k0'.size :: wr.map V.int)))
  generalize upd (upd (upd G4 x5 (.lst [.int k0'.size])) z5 (.lst (.int k0'.size :: wr.map V.int))) l5 (.tup (.int k0'.size :: wr.map V.int)) = G5 at s6 A5  ⊢
  refine ⟨2, rfl, by show 1 ≤ sizeLine; decide, fun x6 y6 => ?_⟩
  have p6 := same_upd (o := .lst [.int (-2)]) y6
  refine ⟨_, rfl, x6, q0, _, _, rfl, rfl, upd_same, p6 _ _ (s6 _ _ hrst), one _, fun z6 c6 => ?_⟩
  have p6' := p6.trans (same_upd (o := .lst (.int (-2) :: wr.map V.int)) c6)
  refine ⟨z6, _, rfl, .inl ⟨SqL.of upd_same, fun l6 m6 => ?_⟩⟩
  have v6' := p6'.trans (same_upd (o := .tup (.int (-2) :: wr.map V.int)) m6)
  have A6 := ods_snoc A5 v6' (od_hd (upd_same (o := .tup (.int (-2) :: wr.map V.int))) ek (by show (decide (k0'.lo ≤ -2) && _) = false; rw [decide_eq_false (by unfold KeyR.lo; split <;> decide), Bool.false_and]) ⟨.int _, Fl.int _ (.inl rfl), ⟨_, rfl⟩⟩ hinr (by omega))
  have s7 := s6.trans v6'
  clear A5 p6 p6'
  show (_ : Hp → Prop) (upd (upd (upd G5 x6 (.lst [.int (-2)])) z6 (.lst (.int (-2) :: wr.map V.int))) l6 (.tup (.int (-2) :: wr.map V.int)))
  generalize upd (upd (upd G5 x6 (.lst [.int (-2)])) z6 (.lst (.int (-2) :: wr.map V.int))) l6 (.tup (.int (-2) :: wr.map V.int)) = G6 at s7 A6  ⊢
  refine ⟨by show 9 ≤ sizeLine; decide, fun L1 N1 => ?_⟩
  have w1 : Same G6 (upd G6 L1 (.lst ([.non, .int 0, .str "", .ref l1, .ref l2, .ref l3, .ref l4, .ref l5, .ref l6] : List V))) := same_upd N1
  have A7 : ∀ u ∈ ([.non, .int 0, .str "", .ref l1, .ref l2, .ref l3, .ref l4, .ref l5, .ref l6] : List V), OdV (upd G6 L1 (.lst ([.non, .int 0, .str "", .ref l1, .ref l2, .ref l3, .ref l4, .ref l5, .ref l6] : List V))) ks u := ods_same (vs := ([.non, .int 0, .str "", .ref l1, .ref l2, .ref l3, .ref l4, .ref l5, .ref l6] : List V)) A6 w1
  have hL1 : upd G6 L1 (.lst ([.non, .int 0, .str "", .ref l1, .ref l2, .ref l3, .ref l4, .ref l5, .ref l6] : List V)) L1 = _ := upd_same
  have s8 := s7.trans w1
  clear A6
  show (_ : Hp → Prop) (upd G6 L1 (.lst ([.non, .int 0, .str "", .ref l1, .ref l2, .ref l3, .ref l4, .ref l5, .ref l6] : List V)))
  generalize upd G6 L1 (.lst ([.non, .int 0, .str "", .ref l1, .ref l2, .ref l3, .ref l4, .ref l5, .ref l6] : List V)) = G7 at s8 A7 hL1 ⊢
  refine ⟨_, rfl, ?_⟩
  refine ⟨by show 1 ≤ sizeLine; decide, fun x8 y8 => ?_⟩
  have p8 := same_upd (o := .lst [.bl true]) y8
  refine ⟨_, rfl, x8, q0, _, _, rfl, rfl, upd_same, p8 _ _ (s8 _ _ hrst), one _, fun z8 c8 => ?_⟩
  have p8' := p8.trans (same_upd (o := .lst (.bl true :: wr.map V.int)) c8)
  refine ⟨z8, _, rfl, .inl ⟨SqL.of upd_same, fun l8 m8 => ?_⟩⟩
  have v8' := p8'.trans (same_upd (o := .tup (.bl true :: wr.map V.int)) m8)
  have A8 := ods_snoc A7 v8' (od_hd (upd_same (o := .tup (.bl true :: wr.map V.int))) ek rfl ⟨.bl true, Fl.tru, ⟨_, rfl⟩⟩ hinr (by omega))
  have s9 := s8.trans v8'
  have hL1 := v8' _ _ hL1
  clear A7 p8 p8'
  show (_ : Hp → Prop) (upd (upd (upd G7 x8 (.lst [.bl true])) z8 (.lst (.bl true :: wr.map V.int))) l8 (.tup (.bl true :: wr.map V.int)))
  generalize upd (upd (upd G7 x8 (.lst [.bl true])) z8 (.lst (.bl true :: wr.map V.int))) l8 (.tup (.bl true :: wr.map V.int)) = G8 at s9 A8 hL1 ⊢
  refine ⟨by show 1 ≤ sizeLine; decide, fun x9 y9 => ?_⟩
  have p9 := same_upd (o := .lst [.non]) y9
  refine ⟨_, rfl, x9, q0, _, _, rfl, rfl, upd_same, p9 _ _ (s9 _ _ hrst), one _, fun z9 c9 => ?_⟩
  have p9' := p9.trans (same_upd (o := .lst (.non :: wr.map V.int)) c9)
  refine ⟨z9, _, rfl, .inl ⟨SqL.of upd_same, fun l9 m9 => ?_⟩⟩
  have v9' := p9'.trans (same_upd (o := .tup (.non :: wr.map V.int)) m9)
  have A9 := ods_snoc A8 v9' (od_hd (upd_same (o := .tup (.non :: wr.map V.int))) ek rfl ⟨.non, Fl.non, ⟨_, rfl⟩⟩ hinr (by omega))
  have s10 := s9.trans v9'
  have hL1 := v9' _ _ hL1
  clear A8 p9 p9'
  show (_ : Hp → Prop) (upd (upd (upd G8 x9 (.lst [.non])) z9 (.lst (.non :: wr.map V.int))) l9 (.tup (.non :: wr.map V.int)))
  generalize upd (upd (upd G8 x9 (.lst [.non])) z9 (.lst (.non :: wr.map V.int))) l9 (.tup (.non :: wr.map V.int)) = G9 at s10 A9 hL1 ⊢
  refine ⟨_, rfl, ln, _, rfl, .inl ⟨SqL.of (s10 _ _ hln), fun u1 k1 => ?_⟩⟩
  have j1 := same_upd (o := .tup (ws.map V.int)) k1
  refine ⟨by show 1 ≤ sizeLine; decide, fun l10 m10 => ?_⟩
  have j2 := same_upd (o := .tup [.ref u1]) m10
  have A10 := ods_snoc A9 (j1.trans j2) (od_in upd_same (j2 _ _ upd_same) ek hin (by omega))
  have s11 := s10.trans (j1.trans j2)
  have hL1 := (j1.trans j2) _ _ hL1
  clear A9
  show (_ : Hp → Prop) (upd (upd G9 u1 (.tup (ws.map V.int))) l10 (.tup [.ref u1]))
  generalize upd (upd G9 u1 (.tup (ws.map V.int))) l10 (.tup [.ref u1]) = G10 at s11 A10 hL1 ⊢
  refine ⟨by show 1 ≤ sizeLine; decide, fun x11 y11 => ?_⟩
  have p11 := same_upd (o := .lst [.str "0"]) y11
  refine ⟨_, rfl, x11, q0, _, _, rfl, rfl, upd_same, p11 _ _ (s11 _ _ hrst), one _, fun z11 c11 => ?_⟩
  have p11' := p11.trans (same_upd (o := .lst (.str "0" :: wr.map V.int)) c11)
  refine ⟨z11, _, rfl, .inl ⟨SqL.of upd_same, fun l11 m11 => ?_⟩⟩
  have v11' := p11'.trans (same_upd (o := .tup (.str "0" :: wr.map V.int)) m11)
  have A11 := ods_snoc A10 v11' (od_hd (upd_same (o := .tup (.str "0" :: wr.map V.int))) ek rfl ⟨.str _, Fl.zero, ⟨_, rfl⟩⟩ hinr (by omega))
  have s12 := s11.trans v11'
  have hL1 := v11' _ _ hL1
  clear A10 p11 p11'
  show (_ : Hp → Prop) (upd (upd (upd G10 x11 (.lst [.str "0"])) z11 (.lst (.str "0" :: wr.map V.int))) l11 (.tup (.str "0" :: wr.map V.int)))
  generalize upd (upd (upd G10 x11 (.lst [.str "0"])) z11 (.lst (.str "0" :: wr.map V.int))) l11 (.tup (.str "0" :: wr.map V.int)) = G11 at s12 A11 hL1 ⊢
  refine ⟨by show 4 ≤ sizeLine; decide, fun L2 N2 => ?_⟩
  have w2 := same_upd (o := .lst [.ref l8, .ref l9, .ref l10, .ref l11]) N2
  refine ⟨L1, L2, _, _, rfl, rfl, w2 _ _ hL1, upd_same, by show 9 + 4 ≤ sizeLine; decide, fun L3 N3 => ?_⟩
  have w3 := w2.trans (same_upd (o := .lst ([.non, .int 0, .str "", .ref l1, .ref l2, .ref l3, .ref l4, .ref l5, .ref l6, .ref l8, .ref l9, .ref l10, .ref l11] : List V)) N3)
  have hL3 : upd (upd G11 L2 (.lst [.ref l8, .ref l9, .ref l10, .ref l11])) L3 (.lst ([.non, .int 0, .str "", .ref l1, .ref l2, .ref l3, .ref l4, .ref l5, .ref l6, .ref l8, .ref l9, .ref l10, .ref l11] : List V)) L3 = _ := upd_same
  have A12 : ∀ u ∈ ([.non, .int 0, .str "", .ref l1, .ref l2, .ref l3, .ref l4, .ref l5, .ref l6, .ref l8, .ref l9, .ref l10, .ref l11] : List V), OdV (upd (upd G11 L2 (.lst [.ref l8, .ref l9, .ref l10, .ref l11])) L3 (.lst ([.non, .int 0, .str "", .ref l1, .ref l2, .ref l3, .ref l4, .ref l5, .ref l6, .ref l8, .ref l9, .ref l10, .ref l11] : List V))) ks u := ods_same (vs := ([.non, .int 0, .str "", .ref l1, .ref l2, .ref l3, .ref l4, .ref l5, .ref l6, .ref l8, .ref l9, .ref l10, .ref l11] : List V)) A11 w3
  have s13 := s12.trans w3
  clear A11 hL1
  show (_ : Hp → Prop) (upd (upd G11 L2 (.lst [.ref l8, .ref l9, .ref l10, .ref l11])) L3 (.lst ([.non, .int 0, .str "", .ref l1, .ref l2, .ref l3, .ref l4, .ref l5, .ref l6, .ref l8, .ref l9, .ref l10, .ref l11] : List V)))
  generalize upd (upd G11 L2 (.lst [.ref l8, .ref l9, .ref l10, .ref l11])) L3 (.lst ([.non, .int 0, .str "", .ref l1, .ref l2, .ref l3, .ref l4, .ref l5, .ref l6, .ref l8, .ref l9, .ref l10, .ref l11] : List V)) = G12 at s13 A12 hL3 ⊢
  refine ⟨_, rfl, ?_⟩
  refine ⟨1, rfl, by show 1 ≤ sizeLine; decide, fun x13 y13 => ?_⟩
  have p13 := same_upd (o := .lst [.int (-1)]) y13
  refine ⟨_, rfl, x13, q0, _, _, rfl, rfl, upd_same, p13 _ _ (s13 _ _ hrst), one _, fun z13 c13 => ?_⟩
  have p13' := p13.trans (same_upd (o := .lst (.int (-1) :: wr.map V.int)) c13)
  refine ⟨z13, _, rfl, .inl ⟨SqL.of upd_same, fun l13 m13 => ?_⟩⟩
  have v13' := p13'.trans (same_upd (o := .tup (.int (-1) :: wr.map V.int)) m13)
  have A13 := ods_same A12 v13'
  have hl13 : upd (upd (upd G12 x13 (.lst [.int (-1)])) z13 (.lst (.int (-1) :: wr.map V.int))) l13 (.tup (.int (-1) :: wr.map V.int)) l13 = _ := upd_same
  have s14 := s13.trans v13'
  have hL3 := v13' _ _ hL3
  clear A12 p13 p13'
  show (_ : Hp → Prop) (upd (upd (upd G12 x13 (.lst [.int (-1)])) z13 (.lst (.int (-1) :: wr.map V.int))) l13 (.tup (.int (-1) :: wr.map V.int)))
  generalize upd (upd (upd G12 x13 (.lst [.int (-1)])) z13 (.lst (.int (-1) :: wr.map V.int))) l13 (.tup (.int (-1) :: wr.map V.int)) = G13 at s14 A13 hL3 hl13 ⊢
  refine ⟨by show 1 ≤ sizeLine; decide, fun L4 N4 => ?_⟩
  have w4 := same_upd (o := .lst [.ref l13]) N4
  refine ⟨_, rfl, t0, _, 2, .bl k0'.may, rfl, rfl, SqT.of (w4 _ _ (s14 _ _ ht0)), atI_nat (j := 2) rfl, _, rfl, .inr ⟨_, rfl, ?_⟩⟩
  have ei : (if (!k0'.may) = true then (1 : Int) else 0) = if k0'.may = true then 0 else 1 := by cases k0'.may <;> rfl
  refine ⟨L4, _, _, rfl, rfl, upd_same, by rw [ei]; split <;> decide, by rw [ei]; split <;> decide, (by rw [ei]; split; (show 1 * 0 ≤ sizeLine; decide); (show 1 * 1 ≤ sizeLine; decide)), fun L5 N5 => ?_⟩
  rw [ei]
  have ef : (List.replicate (if k0'.may = true then (0 : Int) else 1).toNat [V.ref l13]).flatten = if k0'.may = true then [] else [V.ref l13] := by cases k0'.may <;> rfl
  generalize (List.replicate (if k0'.may = true then (0 : Int) else 1).toNat [V.ref l13]).flatten = rl at ef ⊢
  have hF : ∀ u ∈ (([.non, .int 0, .str "", .ref l1, .ref l2, .ref l3, .ref l4, .ref l5, .ref l6, .ref l8, .ref l9, .ref l10, .ref l11] : List V) ++ rl), OdV G13 ks u := fun u hu => by
    rcases List.mem_append.mp hu with hu | hu
    · exact A13 u hu
    · rw [ef] at hu
      by_cases hm : k0'.may = true
      · rw [if_pos hm] at hu; cases hu
      · rw [if_neg hm] at hu
        rw [List.mem_singleton.mp hu]
        exact od_hd hl13 ek (by show (decide (k0'.lo ≤ -1) && _) = false; rw [decide_eq_false (by unfold KeyR.lo; rw [if_neg hm]; decide), Bool.false_and]) ⟨.int _, Fl.int _ (.inr (.inl rfl)), ⟨_, rfl⟩⟩ hinr (by omega)
  have w5 := same_upd (o := .lst rl) N5
  refine ⟨L3, L5, _, _, rfl, rfl, w5 _ _ (w4 _ _ hL3), upd_same, (by rw [ef]; split; (show 13 + 0 ≤ sizeLine; decide); (show 13 + 1 ≤ sizeLine; decide)), fun L6 N6 => ?_⟩
  have w6 := w4.trans (w5.trans (same_upd (o := .lst (([.non, .int 0, .str "", .ref l1, .ref l2, .ref l3, .ref l4, .ref l5, .ref l6, .ref l8, .ref l9, .ref l10, .ref l11] : List V) ++ rl)) N6))
  have hL6 : upd (upd (upd G13 L4 (.lst [.ref l13])) L5 (.lst rl)) L6 (.lst (([.non, .int 0, .str "", .ref l1, .ref l2, .ref l3, .ref l4, .ref l5, .ref l6, .ref l8, .ref l9, .ref l10, .ref l11] : List V) ++ rl)) L6 = _ := upd_same
  have A14 := ods_same hF w6
  have s15 := s14.trans w6
  have hfl : (([.non, .int 0, .str "", .ref l1, .ref l2, .ref l3, .ref l4, .ref l5, .ref l6, .ref l8, .ref l9, .ref l10, .ref l11] : List V) ++ rl).length ≤ 14 := by rw [ef]; split; (show 13 ≤ 14; decide); (show 14 ≤ 14; decide)
  show (_ : Hp → Prop) (upd (upd (upd G13 L4 (.lst [.ref l13])) L5 (.lst rl)) L6 (.lst (([.non, .int 0, .str "", .ref l1, .ref l2, .ref l3, .ref l4, .ref l5, .ref l6, .ref l8, .ref l9, .ref l10, .ref l11] : List V) ++ rl)))
  clear A13 hF
  generalize ([.non, .int 0, .str "", .ref l1, .ref l2, .ref l3, .ref l4, .ref l5, .ref l6, .ref l8, .ref l9, .ref l10, .ref l11] : List V) ++ rl = od at hL6 A14 hfl s15 ⊢
  generalize upd (upd (upd G13 L4 (.lst [.ref l13])) L5 (.lst rl)) L6 (.lst od) = G at s15 A14 hL6 ⊢
  have hTG : LamX.Tabs (lamT K) G := hT0.ext s15
  have hBG := hB0.same s15
  refine ⟨_, rfl, L6, rfl, ⟨_, SqL.of hL6⟩, fun D nD => ?_⟩
  refine lc_list (xs := od) (fun i G' => G' D = some (.lst ((List.replicate i true).map V.bl)) ∧ (∀ b o, b ≠ D → (∀ ps, o ≠ .tbl ps) → G b = some o → G' b = some o) ∧ LamX.Tabs (lamT K) G') ⟨upd_same, fun b o hb _ e => (upd_ne hb).trans e, hTG.ext (same_upd nD)⟩ (fun i G' _ q => ?_) (fun i v G' hi q => ?_) (fun G' q => ?_)
  · exact SqL.of (q.2.1 _ _ (ne_of_none hL6 nD) (fun _ z => by cases z) hL6)
  · obtain ⟨q1, q2, q3⟩ := q
    have hiv := (List.getElem?_eq_some_iff.mp hi).1
    have eG : LamX.ExtN G G' := fun b o e h => q2 b o (ne_of_none e nD) h e
    have hov := A14 v (List.mem_of_getElem? hi)
    refine ⟨rfl, ?_⟩
    dsimp only [tYes]
    rw [if_pos rfl]
    refine ⟨q3, fun H1 ex1 tb1 H0 s0 => ?_⟩
    have e0 : LamX.ExtN G H0 := eG.trans (ex1.trans (LamX.ExtN.of s0))
    refine ⟨_, rfl, _, rfl, ?_⟩
    intro x1 dx1 hx1 hdx1 ne1
    refine mk_bad hx1 hdx1 (hBG.kp (KpN.ext e0)) (hov.kp (dat_ext e0)) ?_
    intro H' d s' hd
    refine ⟨"BadStore", by decide +kernel, d, v, rfl, rfl, hd, fun H'' t s2 nt ht => ?_⟩
    have e2 : LamX.ExtN G H'' := e0.trans (LamX.ExtN.of (s'.trans s2))
    obtain ⟨_, _, dv, hval⟩ := hov.kp (dat_ext e2)
    obtain ⟨p1, p2, p3, p4⟩ := pair_ok ht (word_repr "BadStore" (by decide +kernel)) hval
    refine ⟨.ref t, _, rfl, p1, p2, p3, p4, _, rfl, by show 2 ≤ sizeLine; decide, fun t2 n2 => ?_⟩
    have u2 := same_upd (o := .tup [.str "BadStore", v]) n2
    obtain ⟨o1, o2, o3, o4⟩ := pair_ok (upd_same (H := H'') (a := t2) (o := .tup [.str "BadStore", v])) (word_repr "BadStore" (by decide +kernel)) (⟨dt_kp (dat_same u2) hval.dt, hval.sh, hval.dp, hval.ln⟩ : ValOk _ v dv)
    refine ⟨.ref t2, _, rfl, o1, o2, o3, o4, rfl, ?_⟩
    have e3 : ∀ b o, (∀ ps, o ≠ .tbl ps) → G' b = some o → upd H'' t2 (.tup [.str "BadStore", v]) b = some o := fun b o h e => u2 _ _ (s2 _ _ (s' _ _ (s0 _ _ (ex1 b o e h))))
    have tb3 : LamX.Tabs (lamT K) (upd H'' t2 (.tup [.str "BadStore", v])) := (tb1.ext s0).ext (s'.trans (s2.trans u2))
    have hD3 := e3 _ _ (fun _ z => by cases z) q1
    refine ⟨_, hD3, by rw [List.length_map, List.length_replicate]; omega, ?_, fun b o hb h e => (upd_ne hb).trans (e3 b o h (q2 b o hb h e)), tabs_but tb3 (fun b o hb e => (upd_ne hb).trans e) hD3 (fun _ z => by cases z) (fun _ _ z => by unfold LamX.CodeO at z; cases z)⟩
    rw [upd_same, List.replicate_succ', List.map_append]
    simp
  · refine ⟨D, List.replicate od.length true, rfl, SqL.of q.1, ?_⟩
    have : (List.replicate od.length true).all id = true := by simp
    have e2 : LamX.ExtN H G' := fun b o e h => q.2.1 b o (ne_of_none (s15 _ _ (s0 _ _ e)) nD) h (s15 _ _ (s0 _ _ e))
    first
      | (rw [this]; exact hQ _ e2 q.2.2)
      | (simp; exact hQ _ e2 q.2.2)
theorem ok_law_refused_right (T : Pr K mg) (R : Er P w K mg base) (G : Gd K mg base) : FOkG P w K mg base 10 "_law_refused_right" ["_law_own", "_law_keys_here", "_law_now"] (spRef K) := ok_refR T R G
end
end KP

/-! the law: stores that are not equal. -/
namespace KP
open PySem PySem.Spec PyProof.Rows L2 G137 SlX
def spUnr (K : Frag) : Sp := fun vs H Q _ => ∃ (lk ln a bk kr w : Addr) (ts : List Addr) (ks : List KeyR) (ws : List Int), vs = [.ref lk, .ref ln, .ref a] ∧ H lk = some (.lst (ts.map V.ref)) ∧ KeyRows H ts ks ∧ KeysOk ks ∧ manyL ks ≤ 40 ∧ H ln = some (.lst (ws.map V.int)) ∧ WOk ks ws ∧ StK K H a bk kr w ks ws ∧ ∀ H', Same H H' → Q (.bl true) H'
section
variable {P : Program} {w : World} {K : Frag} {mg : Str → Option Value} {base : Heap}
theorem sc_law_unlike_right : FnScope ["_law_keys_here", "_law_now", "_law_held", "_law_first", "_law_rest", "_law_turned", "_law_thing"] ["_law_keys_here", "_law_now", "_law_held"] (defScope d_law_unlike_right) := ⟨rfl, rfl, rfl, by decide +kernel, rfl, by decide +kernel, by decide +kernel⟩
theorem ok_law_unlike_right (T : Pr K mg) (R : Er P w K mg base) : FOk P w K mg base 12 "_law_unlike_right" ["_law_keys_here", "_law_now", "_law_held"] (spUnr K) := by
  obtain ⟨fd, F⟩ := T.f_law_unlike_right
  have btuple := T.fre "tuple" (by decide +kernel)
  have blen := T.fre "len" (by decide +kernel)
  have bany := T.fre "any" (by decide +kernel)
  refine FOk.of F (T.glo _ (by decide +kernel)) sc_law_unlike_right (fun _ _ _ _ _ _ us hl => match us, hl with | [_, _, _], _ => rfl) (fun vs H Q E h => ?_) (fun cdv A outer s H vs Q E hr h => ?_)
  · obtain ⟨_, _, _, _, _, _, _, _, _, rfl, _⟩ := h; rfl
  have blist := T.fre "list" (by decide +kernel)
  have btuple := T.fre "tuple" (by decide +kernel)
  refine ⟨_, PSs.nox (pss_cons (ps_par (i := 3) (j := 4) rfl sc_law_unlike_right.nd rfl rfl (by decide) rfl rfl (pa_cons (pe_ix ix_list (pv 0) pe_int (fun _ _ => rfl)) (pa_cons (pe_slice sl_list (pv 1) (po_some pe_int) po_none) pa_nil)) (by rfl))
    (pss_cons (ps_set (i := 5) sc_law_unlike_right.nd rfl (Or.inl rfl) (pe_makeF (ok_Book T) (hr.mono (by decide)) rfl (pa_cons (pe_callF (ok_law_page T) (hr.mono (by decide)) rfl (pa_cons (pe_op (op_cat) (pe_lst (pa_cons (pe_tup (pa_cons (pe_ix ix_tup (pv 3) pe_int (fun _ _ => rfl)) (pa_cons (pe_ix ix_tup (pv 3) pe_int (fun _ _ => rfl)) (pa_cons (pe_not (pe_ix ix_tup (pv 3) pe_int (fun _ _ => rfl))) pa_nil)))) pa_nil)) (pe_slice sl_list (pv 0) (po_some pe_int) po_none)) (pa_cons pe_str pa_nil))) pa_nil)))
    (pss_cons (ps_if (pt_cmpR ((op_eqOwn (MOk.dun (ok_Store_eq T) (dunF T (by decide +kernel))) (hr.mono (by decide)) pass0)) (pe_makeX (ok_Store T R) (hr.mono (by decide)) passL rfl (pa_cons (pe_propF (pv 2) (ok_p_Store_book T) (hr.mono (by decide))) (pa_cons (pe_callTy call_tuple_of (by rfl) btuple (by decide +kernel) (pa_cons (pe_op (op_cat) (pe_lst (pa_cons pe_int pa_nil)) (pv 4)) pa_nil)) pa_nil))) (pe_makeX (ok_Store T R) (hr.mono (by decide)) passL rfl (pa_cons (pv 5) (pa_cons (pe_callTy call_tuple_of (by rfl) btuple (by decide +kernel) (pa_cons (pe_op (op_cat) (pe_lst (pa_cons pe_int pa_nil)) (pv 4)) pa_nil)) pa_nil))) (nomark _))
      (pss_one (ps_ret pe_bl))
      pss_nil)
    (pss_cons (ps_if (pt_cmpR op_gt (pe_callB call_len_seq (by rfl) blen PySem.boot_len (pa_cons (pv 0) pa_nil)) pe_int (nomark _))
      (pss_cons (ps_set (i := 5) sc_law_unlike_right.nd rfl (Or.inl rfl) (pe_makeF (ok_Book T) (hr.mono (by decide)) rfl (pa_cons (pe_callF (ok_law_page T) (hr.mono (by decide)) rfl (pa_cons (pe_op (op_cat) (pe_slice sl_list (pv 0) (po_some pe_int) po_none) (pe_slice sl_list (pv 0) po_none (po_some pe_int))) (pa_cons pe_str pa_nil))) pa_nil)))
    (pss_one (ps_if (pt_cmpR ((op_eqOwn (MOk.dun (ok_Store_eq T) (dunF T (by decide +kernel))) (hr.mono (by decide)) pass0)) (pv 2) (pe_makeX (ok_Store T R) (hr.mono (by decide)) passL rfl (pa_cons (pv 5) (pa_cons (pe_callTy call_tuple_of (by rfl) btuple (by decide +kernel) (pa_cons (pe_op (op_cat) (pv 4) (pe_slice sl_list (pv 1) po_none (po_some pe_int))) pa_nil)) pa_nil))) (nomark _))
      (pss_one (ps_ret pe_bl))
      pss_nil)))
      pss_nil)
    (pss_one (ps_ret (pe_not (pe_callB (cr_any rfl) (by rfl) bany (by decide +kernel) (pa_cons (pe_lc (own := [("_law_thing", 6)]) (g := gName 6) (tt := tYes) (te := tOp (rEqOwn K (cA K "Store") (spSEq K) E0) (tVar 2) (tVar 6)) rfl sc_law_unlike_right.nd (pi_tup (pe_tup (pa_cons (pe_callTy call_tuple_of (by rfl) btuple (by decide +kernel) (pa_cons (pv 1) pa_nil)) (pa_cons (pe_callTy call_list_of (by rfl) blist (by decide +kernel) (pa_cons (pv 1) pa_nil)) (pa_cons pe_non (pa_cons (pe_propF (pv 2) (ok_p_Store_book T) (hr.mono (by decide))) pa_nil)))))) (blkOk_by (own := [("_law_thing", 6)]) (N := ["_law_keys_here", "_law_now", "_law_held", "_law_first", "_law_rest", "_law_turned", "_law_thing"]) (sc := defScope d_law_unlike_right) (by decide +kernel)) (fun _ _ _ _ _ => (pg_name (i := 6) sc_law_unlike_right.nd rfl (Or.inl rfl))) (fun _ _ _ _ _ => pts_nil) (fun _ _ _ _ _ => (pe_cmpR ((op_eqOwn (MOk.dun (ok_Store_eq T) (dunF T (by decide +kernel))) (hr.mono (by decide)) pass0)) (pv 2) (pv 6) (nomark _)))) pa_nil))))))))), ?_⟩
  have hbig := sizeLine_big
  obtain ⟨lk, ln, a, bk, kr, wa, ts, ks, ws, rfl, hlk, hK, hk, hm, hln, hW, hS, hQ⟩ := h
  have hlen : ts.length = ks.length := Paired.length hK
  have h4 := hk.four
  have hwl : ks.length = ws.length := Paired.length hW
  obtain ⟨k0, r0, ek, eh⟩ := head_ok hk
  subst ek
  obtain ⟨t0, tr, et⟩ : ∃ t0 tr, ts = t0 :: tr := by
    cases ts with
    | nil => cases hlen
    | cons a r => exact ⟨a, r, rfl⟩
  subst et
  obtain ⟨w0, wr, ew⟩ : ∃ w0 wr, ws = w0 :: wr := by
    cases ws with
    | nil => cases hwl
    | cons a r => exact ⟨a, r, rfl⟩
  subst ew
  have ht0 : H t0 = some k0.tup := by cases hK; assumption
  have hKr : KeyRows H tr r0 := by cases hK; assumption
  have hWr : WOk r0 wr := by cases hW; assumption
  have hw0 : k0.lo ≤ w0 ∧ w0 < (k0.size : Int) := by cases hW; assumption
  have hko := hk.ok k0 (List.mem_cons_self ..)
  have hwl5 : wr.length ≤ 3 := by rw [List.length_cons, List.length_cons] at hwl; rw [List.length_cons] at h4; omega
  have htr : tr.length ≤ 3 := by rw [List.length_cons, List.length_cons] at hlen; rw [List.length_cons] at h4; omega
  have cS := T.cls "Store" (by decide +kernel)
  have nm0 : ∀ k ∈ k0 :: r0, nameS k.name = true := fun k h => (hk.ok k h).nm
  have ec1 : cutV ((w0 :: wr).map V.int) (some 1) none = wr.map V.int := by rw [show (1 : Int) = ((1 : Nat) : Int) from rfl, cutV_from]; rfl
  have ec2 : cutV ((t0 :: tr).map V.ref) (some 1) none = tr.map V.ref := by rw [show (1 : Int) = ((1 : Nat) : Int) from rfl, cutV_from]; rfl
  have ec3 : cutV ((t0 :: tr).map V.ref) none (some 1) = [V.ref t0] := by rw [show (1 : Int) = ((1 : Nat) : Int) from rfl, cutV_to]; rfl
  have ec4 : cutV ((w0 :: wr).map V.int) none (some 1) = [V.int w0] := by rw [show (1 : Int) = ((1 : Nat) : Int) from rfl, cutV_to]; rfl
  refine ⟨_, rfl, lk, _, 0, .ref t0, rfl, rfl, SqL.of hlk, atI_nat (j := 0) rfl, _, rfl, 1, rfl, ln, _, rfl, SqL.of hln, fun q0 n0 => ?_⟩
  rw [ec1]
  refine ⟨_, _, rfl, ?_⟩
  have s0 := same_upd (o := .lst (wr.map V.int)) n0
  have hrst : upd H q0 (.lst (wr.map V.int)) q0 = _ := upd_same
  have hlk := s0 _ _ hlk
  have hln := s0 _ _ hln
  have ht0 := s0 _ _ ht0
  have hKr := hKr.same s0
  have hS := hS.same s0
  generalize upd H q0 (.lst (wr.map V.int)) = B at s0 hrst hlk hln ht0 hKr hS ⊢
  -- the first key turned
  refine ⟨_, rfl, t0, _, 0, .str k0.name, rfl, rfl, SqT.of ht0, atI_nat (j := 0) rfl, _, rfl, t0, _, 1, .int k0.size, rfl, rfl, SqT.of ht0, atI_nat (j := 1) rfl, _, rfl, t0, _, 2, .bl k0.may, rfl, rfl, SqT.of ht0, atI_nat (j := 2) rfl, _, rfl, by show 3 ≤ sizeLine; decide, fun f1 g1 => ?_⟩
  have u1 := same_upd (o := k0.flip.tup) g1
  have hf1 : upd B f1 k0.flip.tup f1 = _ := upd_same
  show (_ : Hp → Prop) (upd B f1 k0.flip.tup)
  generalize upd B f1 k0.flip.tup = C1 at u1 hf1 ⊢
  refine ⟨by show 1 ≤ sizeLine; decide, fun f2 g2 => ?_⟩
  have u2 := same_upd (o := .lst [.ref f1]) g2
  refine ⟨_, rfl, 1, rfl, lk, _, rfl, SqL.of (u2 _ _ (u1 _ _ hlk)), fun f3 g3 => ?_⟩
  rw [ec2]
  have u3 := same_upd (o := .lst (tr.map V.ref)) g3
  refine ⟨f2, f3, _, _, rfl, rfl, u3 _ _ upd_same, upd_same, by show 1 + (tr.map V.ref).length ≤ _; rw [List.length_map]; omega, fun f4 g4 => ?_⟩
  have u4 := u2.trans (u3.trans (same_upd (o := .lst ([.ref f1] ++ tr.map V.ref)) g4))
  have hf4 : upd (upd (upd C1 f2 (.lst [.ref f1])) f3 (.lst (tr.map V.ref))) f4 (.lst ([.ref f1] ++ tr.map V.ref)) f4 = some (.lst ((f1 :: tr).map V.ref)) := upd_same
  have hf1 := u4 _ _ hf1
  have v1 := u1.trans u4
  generalize upd (upd (upd C1 f2 (.lst [.ref f1])) f3 (.lst (tr.map V.ref))) f4 (.lst ([.ref f1] ++ tr.map V.ref)) = C2 at v1 hf1 hf4 ⊢
  have kf := keys_flip hk hm
  have hK1 : KeyRows C2 (f1 :: tr) (k0.flip :: r0) := .cons hf1 (hKr.same v1)
  refine ⟨f4, "0", 0, f1 :: tr, k0.flip :: r0, rfl, hf4, hK1, kf, .inl ⟨rfl, rfl⟩, fun C3 v2 => ?_⟩
  intro x1 dx1 hx1 hd1 ne1
  refine mk_book (n := 0) hx1 hd1 kf (.inl ⟨rfl, rfl⟩) fun kr1 C4 v3 hB1 _ => ⟨rfl, ?_⟩
  have s4 := v1.trans (v2.trans v3)
  have hS4 := hS.same s4
  have hrst4 := s4 _ _ hrst
  obtain ⟨⟨dxa, ha4, hwa4⟩, hb4, hl4⟩ := id hS4
  refine ⟨_, rfl, a, dxa, _, rfl, ha4, a, dxa, bk, kr, .ref wa, rfl, ha4, ?_⟩
  have W0 : WOk (k0 :: r0) (0 :: wr) := .cons (lo_zero hko) hWr
  have W1 : WOk (k0.flip :: r0) (0 :: wr) := .cons (lo_zero (flip_ok hko)) hWr
  refine ⟨by show 1 ≤ sizeLine; decide, fun p1 mp1 => ?_⟩
  have y3a := same_upd (o := .lst [.int 0]) mp1
  refine ⟨_, rfl, p1, q0, _, _, rfl, rfl, upd_same, y3a _ _ hrst4, by show 1 + (wr.map V.int).length ≤ _; rw [List.length_map]; omega, fun p2 mp2 => ?_⟩
  have y3b := y3a.trans (same_upd (o := .lst (.int 0 :: wr.map V.int)) mp2)
  refine ⟨p2, _, rfl, .inl ⟨SqL.of upd_same, fun p3 mp3 => ?_⟩⟩
  have y3 := y3b.trans (same_upd (o := .tup (.int 0 :: wr.map V.int)) mp3)
  have hp3 : upd (upd (upd C4 p1 (.lst [.int 0])) p2 (.lst (.int 0 :: wr.map V.int))) p3 (.tup (.int 0 :: wr.map V.int)) p3 = some (.tup ((0 :: wr).map V.int)) := upd_same
  clear y3a y3b
  show (_ : Hp → Prop) (upd (upd (upd C4 p1 (.lst [.int 0])) p2 (.lst (.int 0 :: wr.map V.int))) p3 (.tup (.int 0 :: wr.map V.int)))
  generalize upd (upd (upd C4 p1 (.lst [.int 0])) p2 (.lst (.int 0 :: wr.map V.int))) p3 (.tup (.int 0 :: wr.map V.int)) = C5 at y3 hp3 ⊢
  intro x2 dx2 hx2 hd2 ne2
  refine mk_store hx2 hd2 (hb4.same y3) hp3 W0 fun C6 v6 hS2 => ⟨rfl, ?_⟩
  have s6 := y3.trans v6
  refine ⟨_, rfl, by show 1 ≤ sizeLine; decide, fun p4 mp4 => ?_⟩
  have y6a := same_upd (o := .lst [.int 0]) mp4
  refine ⟨_, rfl, p4, q0, _, _, rfl, rfl, upd_same, y6a _ _ (s6 _ _ hrst4), by show 1 + (wr.map V.int).length ≤ _; rw [List.length_map]; omega, fun p5 mp5 => ?_⟩
  have y6b := y6a.trans (same_upd (o := .lst (.int 0 :: wr.map V.int)) mp5)
  refine ⟨p5, _, rfl, .inl ⟨SqL.of upd_same, fun p6 mp6 => ?_⟩⟩
  have y6 := y6b.trans (same_upd (o := .tup (.int 0 :: wr.map V.int)) mp6)
  have hp6 : upd (upd (upd C6 p4 (.lst [.int 0])) p5 (.lst (.int 0 :: wr.map V.int))) p6 (.tup (.int 0 :: wr.map V.int)) p6 = some (.tup ((0 :: wr).map V.int)) := upd_same
  clear y6a y6b
  show (_ : Hp → Prop) (upd (upd (upd C6 p4 (.lst [.int 0])) p5 (.lst (.int 0 :: wr.map V.int))) p6 (.tup (.int 0 :: wr.map V.int)))
  generalize upd (upd (upd C6 p4 (.lst [.int 0])) p5 (.lst (.int 0 :: wr.map V.int))) p6 (.tup (.int 0 :: wr.map V.int)) = C7 at y6 hp6 ⊢
  intro x3 dx3 hx3 hd3 ne3
  refine mk_store hx3 hd3 ((hB1.same s6).same y6) hp6 W1 fun C8 v8 hS3 => ⟨rfl, ?_⟩
  have s8 := y6.trans v8
  have hS2 := hS2.same s8
  obtain ⟨⟨dxb, hb8, hwb8⟩, _, _⟩ := id hS2
  obtain ⟨⟨dxc, hc8, hwc8⟩, _, _⟩ := id hS3
  have nm1 : ∀ k ∈ k0.flip :: r0, nameS k.name = true := fun k h => (kf.ok k h).nm
  refine ⟨x2, dxb, _, _, rfl, hb8, (T.isi "Store" (by decide +kernel)).ty cS hc8, T.nfC "Store" (by decide +kernel) "Store" (by decide +kernel), x2, bk, kr, p3, k0 :: r0, 0 :: wr, .ref x3, rfl, hS2, nm0, .inr ⟨x3, x1, kr1, p6, k0.flip :: r0, 0 :: wr, rfl, hS3, nm1, _, rfl, ?_⟩⟩
  refine iN (by rw [eqv_flip]; rfl) ?_
  have s9 := s4.trans (s6.trans s8)
  clear hS4 hb4 hB1 hS2 hS3 hb8 hc8 hwb8 hwc8
  have hlk9 := s9 _ _ hlk
  refine ⟨_, rfl, lk, _, rfl, .inl (SqL.of hlk9), _, _, rfl, rfl, _, rfl, ?_⟩
  refine ite_joinD (fun σ G => ∃ x5, σ = [some (.ref lk), some (.ref ln), some (.ref a), some (.ref t0), some (.ref q0), x5, none] ∧ Same B G) (fun hc D' rr => ?_) (fun hc D' rr => rr _ _ ⟨_, rfl, s9⟩) ?_
  · have hr0 : r0 ≠ [] := fun z => by
      rw [z] at hlen
      have hc' := of_decide_eq_true hc
      rw [List.length_map, List.length_cons] at hc'
      rw [List.length_cons, List.length_cons] at hlen
      simp at hlen
      rw [hlen] at hc'
      exact absurd hc' (by decide)
    have kt := keys_turn hk hm hr0
    refine ⟨_, rfl, 1, rfl, lk, _, rfl, SqL.of hlk9, fun f5 g5 => ?_⟩
    rw [ec2]
    have a1 := same_upd (o := .lst (tr.map V.ref)) g5
    refine ⟨_, rfl, 1, rfl, lk, _, rfl, SqL.of (a1 _ _ hlk9), fun f6 g6 => ?_⟩
    rw [ec3]
    have a2 := same_upd (o := .lst [.ref t0]) g6
    refine ⟨f5, f6, _, _, rfl, rfl, a2 _ _ upd_same, upd_same, by show (tr.map V.ref).length + 1 ≤ _; rw [List.length_map]; omega, fun f7 g7 => ?_⟩
    have a3 := a1.trans (a2.trans (same_upd (o := .lst (tr.map V.ref ++ [.ref t0])) g7))
    have hf7 : upd (upd (upd C8 f5 (.lst (tr.map V.ref))) f6 (.lst [.ref t0])) f7 (.lst (tr.map V.ref ++ [.ref t0])) f7 = some (.lst ((tr ++ [t0]).map V.ref)) := by rw [upd_same, List.map_append]; rfl
    have s10 := s9.trans a3
    generalize upd (upd (upd C8 f5 (.lst (tr.map V.ref))) f6 (.lst [.ref t0])) f7 (.lst (tr.map V.ref ++ [.ref t0])) = E1 at s10 hf7 ⊢
    refine ⟨f7, "0", 0, tr ++ [t0], r0 ++ [k0], rfl, hf7, KeyRows.snoc (hKr.same s10) (s10 _ _ ht0), kt, .inl ⟨rfl, rfl⟩, fun E2 b2 => ?_⟩
    intro x4 dx4 hx4 hd4 ne4
    refine mk_book (n := 0) hx4 hd4 kt (.inl ⟨rfl, rfl⟩) fun kr4 E3 b3 hB4 _ => ⟨rfl, ?_⟩
    have s11 := s10.trans (b2.trans b3)
    have hrst11 := s11 _ _ hrst
    have hln11 := s11 _ _ hln
    refine ⟨_, rfl, _, rfl, _, rfl, _, rfl, 1, rfl, ln, _, rfl, SqL.of hln11, fun f8 g8 => ?_⟩
    rw [ec4]
    have a4 := same_upd (o := .lst [.int w0]) g8
    refine ⟨q0, f8, _, _, rfl, rfl, a4 _ _ hrst11, upd_same, by show (wr.map V.int).length + 1 ≤ _; rw [List.length_map]; omega, fun f9 g9 => ?_⟩
    have a5 := a4.trans (same_upd (o := .lst (wr.map V.int ++ [.int w0])) g9)
    refine ⟨f9, _, rfl, .inl ⟨SqL.of upd_same, fun f10 g10 => ?_⟩⟩
    have a6 := a5.trans (same_upd (o := .tup (wr.map V.int ++ [.int w0])) g10)
    have hf10 : upd (upd (upd E3 f8 (.lst [.int w0])) f9 (.lst (wr.map V.int ++ [.int w0]))) f10 (.tup (wr.map V.int ++ [.int w0])) f10 = some (.tup ((wr ++ [w0]).map V.int)) := by rw [upd_same, List.map_append]; rfl
    generalize upd (upd (upd E3 f8 (.lst [.int w0])) f9 (.lst (wr.map V.int ++ [.int w0]))) f10 (.tup (wr.map V.int ++ [.int w0])) = E4 at a6 hf10 ⊢
    intro x5 dx5 hx5 hd5 ne5
    refine mk_store hx5 hd5 (hB4.same a6) hf10 (wok_snoc hWr hw0) fun E5 b5 hS5 => ⟨rfl, ?_⟩
    have s12 := s11.trans (a6.trans b5)
    have hS12 := hS.same s12
    obtain ⟨⟨dxb, hb8, hwb8⟩, _, _⟩ := id hS12
    obtain ⟨⟨dxc, hc8, hwc8⟩, _, _⟩ := id hS5
    have nm1 : ∀ k ∈ r0 ++ [k0], nameS k.name = true := fun k h => (kt.ok k h).nm
    refine ⟨a, dxb, _, _, rfl, hb8, (T.isi "Store" (by decide +kernel)).ty cS hc8, T.nfC "Store" (by decide +kernel) "Store" (by decide +kernel), a, bk, kr, wa, k0 :: r0, w0 :: wr, .ref x5, rfl, hS12, nm0, .inr ⟨x5, x4, kr4, f10, r0 ++ [k0], wr ++ [w0], rfl, hS5, nm1, _, rfl, ?_⟩⟩
    refine iN ?_ (rr _ _ ⟨_, rfl, s12⟩)
    obtain ⟨k1, r1, er⟩ : ∃ k1 r1, r0 = k1 :: r1 := by
      cases r0 with
      | nil => exact absurd rfl hr0
      | cons a r => exact ⟨a, r, rfl⟩
    rw [er] at hk ⊢
    have hne : k0.name ≠ k1.name := fun z => by
      have := hk.nd
      rw [List.map_cons, List.map_cons, List.nodup_cons] at this
      exact this.1 (by rw [z]; exact List.mem_cons_self ..)
    rw [List.cons_append, eqv_turn hne]; rfl
  · rintro σ G ⟨x5, rfl, sG⟩
    have hlnG := sG _ _ hln
    refine ⟨_, rfl, ln, _, rfl, .inl ⟨SqL.of hlnG, fun z1 m1 => ?_⟩⟩
    have c1 := same_upd (o := .tup ((w0 :: wr).map V.int)) m1
    refine ⟨_, rfl, ln, _, rfl, .inl (SqL.of (c1 _ _ hlnG)), fun z2 m2 => ?_⟩
    have c2 := same_upd (o := .lst ((w0 :: wr).map V.int)) m2
    have hz1 := c2 z1 _ upd_same
    have hz2 : upd (upd G z1 (.tup ((w0 :: wr).map V.int))) z2 (.lst ((w0 :: wr).map V.int)) z2 = _ := upd_same
    have c3 := c1.trans c2
    generalize upd (upd G z1 (.tup ((w0 :: wr).map V.int))) z2 (.lst ((w0 :: wr).map V.int)) = F1 at hz1 hz2 c3 ⊢
    have hS13 := hS.same (sG.trans c3)
    obtain ⟨⟨dxb, hb8, hwb8⟩, _, _⟩ := id hS13
    refine ⟨_, rfl, a, dxb, _, rfl, hb8, a, dxb, bk, kr, .ref wa, rfl, hb8, ?_⟩
    refine ⟨by show 4 ≤ sizeLine; decide, fun z3 m3 => ?_⟩
    have c4 : Same F1 (upd F1 z3 (.tup [.ref z1, .ref z2, .non, .ref bk])) := same_upd m3
    have hz3 : upd F1 z3 (.tup [.ref z1, .ref z2, .non, .ref bk]) z3 = _ := upd_same
    have hz1 := c4 _ _ hz1
    have hz2 := c4 _ _ hz2
    have hS14 := hS13.same c4
    have s14 := sG.trans (c3.trans c4)
    show (_ : Hp → Prop) (upd F1 z3 (.tup [.ref z1, .ref z2, .non, .ref bk]))
    generalize upd F1 z3 (.tup [.ref z1, .ref z2, .non, .ref bk]) = F2 at hz1 hz2 hz3 hS14 s14 ⊢
    refine ⟨z3, rfl, ⟨_, SqT.of hz3⟩, fun D nD => ?_⟩
    refine lc_tup (xs := [.ref z1, .ref z2, .non, .ref bk]) (AccP (fun i => (List.replicate i false).map V.bl) D F2) (acc_start rfl) (fun i G _ q => SqT.of (q.same nD _ _ hz3)) (fun i v G hi q => ?_) (fun G q => ?_)
    · have sq := q.same nD
      have hSq := hS14.same sq
      obtain ⟨⟨dxc, hc8, hwc8⟩, hbq, _⟩ := id hSq
      obtain ⟨dxk, _, _, _, _, _, _, _, _, hbk, _⟩ := id hbq.r
      have hi4 : i < 4 := (List.getElem?_eq_some_iff.mp hi).1
      have hno : NoSt K G v ∧ ∃ tb, TyX K G v tb ∧ PySem.W.notFirst K (cA K "Store") tb = true := by
        have hv := List.mem_of_getElem? hi
        simp only [List.mem_cons, List.not_mem_nil, or_false] at hv
        rcases hv with rfl | rfl | rfl | rfl
        · have ht : tyS G (.ref z1) = some "tuple" := by show tyO (G z1) = _; rw [sq _ _ hz1]; rfl
          exact ⟨.inl ⟨_, ht⟩, _, tyS_tyx ht, T.nfT "tuple" (tyS_mem ht) "Store" (by decide +kernel)⟩
        · have ht : tyS G (.ref z2) = some "list" := by show tyO (G z2) = _; rw [sq _ _ hz2]; rfl
          exact ⟨.inl ⟨_, ht⟩, _, tyS_tyx ht, T.nfT "list" (tyS_mem ht) "Store" (by decide +kernel)⟩
        · have ht : tyS G .non = some "NoneType" := rfl
          exact ⟨.inl ⟨_, ht⟩, _, tyS_tyx ht, T.nfT "NoneType" (tyS_mem ht) "Store" (by decide +kernel)⟩
        · exact ⟨.inr ⟨bk, _, _, rfl, hbk⟩, _, (T.isi "Book" (by decide +kernel)).ty (T.cls "Book" (by decide +kernel)) hbk, T.nfC "Store" (by decide +kernel) "Book" (by decide +kernel)⟩
      obtain ⟨hno, tb, hty, hnf⟩ := hno
      refine ⟨rfl, ?_⟩
      dsimp only [tYes]
      rw [if_pos rfl]
      refine ⟨_, rfl, _, rfl, a, dxc, _, tb, rfl, hc8, hty, hnf, a, bk, kr, wa, k0 :: r0, w0 :: wr, v, rfl, hSq, nm0, .inl ⟨hno, ?_⟩⟩
      refine acc_step q (Same.refl _) ?_ ?_
      · rw [List.length_map, List.length_replicate]; omega
      · show (List.replicate (i + 1) false).map V.bl = (List.replicate i false).map V.bl ++ [V.bl false]
        rw [List.replicate_succ', List.map_append]; rfl
    · refine ⟨D, List.replicate 4 false, rfl, SqL.of q.1, ?_⟩
      exact ⟨_, rfl, hQ _ (s0.trans (s14.trans (q.same nD)))⟩
end
end KP

/-! what stays in a turn of the law's loop. -/
namespace KP
open PySem PySem.Spec PyProof.Rows L2 G137 SlX
/-- all stays that is neither a list, nor a table, nor a store -/
def Kp3 (H H' : Hp) : Prop := ∀ b o, (∀ xs, o ≠ .lst xs) → (∀ ps, o ≠ .tbl ps) → (∀ C dx fs, o = .ins C dx fs → fs.length ≠ 3) → H b = some o → H' b = some o
theorem Kp3.of {H H' : Hp} (s : Same H H') : Kp3 H H' := fun b o _ _ _ e => s b o e
theorem Kp3.trans {H H1 H2 : Hp} (x : Kp3 H H1) (y : Kp3 H1 H2) : Kp3 H H2 := fun b o h1 h2 h3 e => y b o h1 h2 h3 (x b o h1 h2 h3 e)
theorem Kp3.but {H H' : Hp} {p : Addr} {xs : List V} (k : But p H H') (hp : H p = some (.lst xs)) : Kp3 H H' := fun b o h1 _ _ e => k b o (fun z => by
  rw [z, hp] at e
  exact h1 _ (Option.some.inj e).symm) e
theorem Kp3.turn {H H' : Hp} {p a C dx : Addr} {xs : List V} {fs : List (Str × V)} (k : ButT p a H H') (hp : H p = some (.lst xs)) (ha : H a = some (.ins C dx fs)) (hf : fs.length = 3) : Kp3 H H' := fun b o h1 h2 h3 e => k b o (fun z => by
  rw [z, hp] at e
  exact h1 _ (Option.some.inj e).symm) (fun z => by
  rw [z, ha] at e
  exact h3 _ _ _ (Option.some.inj e).symm hf) h2 e
theorem KeyRows.k3 {H H' : Hp} (k : Kp3 H H') {ts : List Addr} {ks : List KeyR} (h : KeyRows H ts ks) : KeyRows H' ts ks := KeyRows.mono (fun c xs e => k c _ (fun _ z => by cases z) (fun _ z => by cases z) (fun _ _ _ z => by cases z) e) h
theorem BkOk.k3 {K : Frag} {H H' : Hp} {b kr : Addr} {ks : List KeyR} (k : Kp3 H H') (h : BkOk K H b ks kr) : BkOk K H' b ks kr := by
  have ki : ∀ {c C dx t x1 x2 x3 x4 x5 x6 x7}, H c = some (.ins C dx (fsB t x1 x2 x3 x4 x5 x6 x7)) → H' c = some (.ins C dx (fsB t x1 x2 x3 x4 x5 x6 x7)) := fun e => k _ _ (fun _ z => by cases z) (fun _ z => by cases z) (fun _ _ _ z => by cases z; show 8 ≠ 3; decide) e
  refine ⟨?_, ?_, h.four⟩
  · obtain ⟨dy, t, g, pd, kn, st, pl, w, rows, h1, h2, h3⟩ := h.r
    exact ⟨dy, t, g, pd, kn, st, pl, w, rows, ki h1, k _ _ (fun _ z => by cases z) (fun _ z => by cases z) (fun _ _ _ z => by cases z) h2, h3.k3 k⟩
  · obtain ⟨dy, t, kr', g, pd, kn, st, pl, w, h1, h2⟩ := h.p
    exact ⟨dy, t, kr', g, pd, kn, st, pl, w, ki h1, k _ _ (fun _ z => by cases z) (fun _ z => by cases z) (fun _ _ _ z => by cases z) h2⟩
theorem BkTxt.k3 {K : Frag} {H H' : Hp} {b : Addr} {t : Str} (k : Kp3 H H') (h : BkTxt K H b t) : BkTxt K H' b t := by
  obtain ⟨dx, x1, x2, x3, x4, x5, x6, x7, h⟩ := h
  exact ⟨dx, x1, x2, x3, x4, x5, x6, x7, k _ _ (fun _ z => by cases z) (fun _ z => by cases z) (fun _ _ _ z => by cases z; show 8 ≠ 3; decide) h⟩
/-- the store at a stays where its instance stays -/
theorem StK.k3 {K : Frag} {H H' : Hp} {a b kr w : Addr} {ks : List KeyR} {ws : List Int} (k : Kp3 H H') (ha : ∀ o, H a = some o → H' a = some o) (h : StK K H a b kr w ks ws) : StK K H' a b kr w ks ws := by
  obtain ⟨⟨dx, h1, h2⟩, h3, h4⟩ := h
  exact ⟨⟨dx, ha _ h1, k _ _ (fun _ z => by cases z) (fun _ z => by cases z) (fun _ _ _ z => by cases z) h2⟩, h3.k3 k, h4⟩
/-- what the loop of the law keeps: the pot, the keys, two stores and the ledger of both -/
structure Lp (K : Frag) (G : Hp) (p lk nl hl n0 n1 a0 a1 bk kr w0 w1 : Addr) (ts : List Addr) (ks : List KeyR) (x0 x1 : List Int) (b : Nat) : Prop where
  pot : Pot G p b
  hlk : G lk = some (.lst (ts.map V.ref))
  rows : KeyRows G ts ks
  hnl : G nl = some (.lst [.ref n0, .ref n1])
  hhl : G hl = some (.lst [.ref a0, .ref a1])
  i0 : G n0 = some (.lst (x0.map V.int))
  i1 : G n1 = some (.lst (x1.map V.int))
  k0 : WOk ks x0
  k1 : WOk ks x1
  s0 : StK K G a0 bk kr w0 ks x0
  s1 : StK K G a1 bk kr w1 ks x1
  ne : a0 ≠ a1
  p0 : n0 ≠ p
  p1 : n1 ≠ p
  q1 : lk ≠ nl
  q2 : hl ≠ nl
  tabs : LamX.Tabs (lamT K) G
theorem pot_ne {G : Hp} {p c : Addr} {b : Nat} {xs : List V} (h : Pot G p b) (e : G c = some (.lst xs)) (hx : ∀ i j k, xs ≠ [.int i, .int j, .int k]) : c ≠ p := fun z => by
  obtain ⟨n0, n1, n2, h1, _⟩ := h
  rw [z, show G p = _ from h1] at e
  have := Option.some.inj e
  injection this with this
  exact hx _ _ _ this.symm
theorem refs_ne {ts : List Addr} (h : ts ≠ []) : ∀ i j k, ts.map V.ref ≠ [.int i, .int j, .int k] := fun i j k z => by
  cases ts with
  | nil => exact h rfl
  | cons a r => cases z
theorem StK.ins {K : Frag} {H : Hp} {a b kr w : Addr} {ks : List KeyR} {ws : List Int} (h : StK K H a b kr w ks ws) : ∃ dx, H a = some (.ins (cA K "Store") dx (fsS b kr (.ref w))) := by
  obtain ⟨⟨dx, h1, h2⟩, _, _⟩ := h
  exact ⟨dx, h1⟩
section
variable {K : Frag} {G G' : Hp} {p lk nl hl n0 n1 a0 a1 bk kr w0 w1 : Addr} {ts : List Addr} {ks : List KeyR} {x0 x1 : List Int} {b : Nat}
theorem Lp.same (L : Lp K G p lk nl hl n0 n1 a0 a1 bk kr w0 w1 ts ks x0 x1 b) (s : Same G G') : Lp K G' p lk nl hl n0 n1 a0 a1 bk kr w0 w1 ts ks x0 x1 b :=
  ⟨L.pot.same s, s _ _ L.hlk, L.rows.same s, s _ _ L.hnl, s _ _ L.hhl, s _ _ L.i0, s _ _ L.i1, L.k0, L.k1, L.s0.same s, L.s1.same s, L.ne, L.p0, L.p1, L.q1, L.q2, L.tabs.ext s⟩
theorem Lp.take (L : Lp K G p lk nl hl n0 n1 a0 a1 bk kr w0 w1 ts ks x0 x1 b) (hk : KeysOk ks) (k : But p G G') (hp : Pot G' p (b + 1)) : Lp K G' p lk nl hl n0 n1 a0 a1 bk kr w0 w1 ts ks x0 x1 (b + 1) := by
  have hts : ts ≠ [] := fun z => by
    have h1 : ts.length = ks.length := Paired.length L.rows
    have h2 := hk.ne
    rw [z] at h1
    cases ks with
    | nil => exact h2 rfl
    | cons a r => cases h1
  have kp := KpN.but k L.pot
  obtain ⟨_, _, _, hP, _⟩ := id L.pot
  exact ⟨hp, k _ _ (pot_ne L.pot L.hlk (refs_ne hts)) L.hlk, L.rows.kp kp, k _ _ (pot_ne L.pot L.hnl fun _ _ _ z => by cases z) L.hnl, k _ _ (pot_ne L.pot L.hhl fun _ _ _ z => by cases z) L.hhl, k _ _ L.p0 L.i0, k _ _ L.p1 L.i1, L.k0, L.k1, L.s0.kp kp, L.s1.kp kp, L.ne, L.p0, L.p1, L.q1, L.q2,
    tabs_but L.tabs k hP (fun _ z => by cases z) (fun _ _ z => by unfold LamX.CodeO at z; cases z)⟩
/-- a turn with the first store: its worths are now at l -/
theorem Lp.turn0 (L : Lp K G p lk nl hl n0 n1 a0 a1 bk kr w0 w1 ts ks x0 x1 b) (hk : KeysOk ks) {l w' : Addr} {x' : List Int} (hl' : G' l = some (.lst (x'.map V.int))) (hS : StK K G' a0 bk kr w' ks x') (hW : WOk ks x') (k : ButT p a0 G G') (hp : Pot G' p (b + 5)) (hT : LamX.Tabs (lamT K) G') (hll : l = n0 ∨ G l = none) :
    G' nl = some (.lst [.ref n0, .ref n1]) ∧ ∀ G2 : Hp, But nl G' G2 → G2 nl = some (.lst [.ref l, .ref n1]) → Lp K G2 p lk nl hl l n1 a0 a1 bk kr w' w1 ts ks x' x1 (b + 5) := by
  have hts : ts ≠ [] := fun z => by
    have h1 : ts.length = ks.length := Paired.length L.rows
    have h2 := hk.ne
    rw [z] at h1
    cases ks with
    | nil => exact h2 rfl
    | cons a r => cases h1
  have hne : ∀ {ws : List Int}, WOk ks ws → ws.map V.int ≠ [] := fun {ws} h z => by
    have h1 : ks.length = ws.length := Paired.length h
    have h2 := hk.ne
    cases ws with
    | nil =>
      cases ks with
      | nil => exact h2 rfl
      | cons a r => cases h1
    | cons a r => cases z
  obtain ⟨dx0, e0⟩ := L.s0.ins
  obtain ⟨dx1, e1⟩ := L.s1.ins
  obtain ⟨_, _, _, hP, _⟩ := id L.pot
  obtain ⟨m0, m1, m2, hP', hb'⟩ := id hp
  have hlp : l ≠ p := fun z => by
    rcases hll with h | h
    · exact L.p0 (h.symm.trans z)
    · rw [z, show G p = _ from hP] at h; cases h
  have lst : ∀ {c : Addr} {xs : List V}, G c = some (.lst xs) → c ≠ p → G' c = some (.lst xs) := fun {c xs} e h => k _ _ h (ne_of e e0 (by intro z; cases z)) (fun _ z => by cases z) e
  have k3 : Kp3 G G' := Kp3.turn k hP e0 rfl
  have hnl := lst L.hnl (pot_ne L.pot L.hnl fun _ _ _ z => by cases z)
  refine ⟨hnl, fun G2 k2 h2 => ?_⟩
  have kk : Kp3 G' G2 := Kp3.but k2 hnl
  have nn : ∀ {c : Addr} {xs : List V}, G' c = some (.lst xs) → xs ≠ [.ref n0, .ref n1] → G2 c = some (.lst xs) := fun {c xs} e h => k2 _ _ (fun z => by
    rw [z, hnl] at e
    have := Option.some.inj e
    injection this with this
    exact h this.symm) e
  have intN : ∀ {ws : List Int}, WOk ks ws → ws.map V.int ≠ [V.ref n0, V.ref n1] := fun {ws} h z => by
    cases ws with
    | nil => exact hne h rfl
    | cons a r => cases z
  obtain ⟨dx0', e0'⟩ := hS.ins
  have e1'' : ∀ o, G a1 = some o → G' a1 = some o := fun o e => by
    have : o = _ := Option.some.inj (e.symm.trans e1)
    subst this
    exact k _ _ (fun z => by rw [z, show G p = _ from hP] at e1; cases e1) (Ne.symm L.ne) (fun _ z => by cases z) e1
  have e1' := e1'' _ e1
  have hlk' := lst L.hlk (pot_ne L.pot L.hlk (refs_ne hts))
  refine { pot := ⟨m0, m1, m2, nn hP' (fun z => by cases z), hb'⟩, hlk := k2 _ _ L.q1 hlk', rows := (L.rows.k3 k3).k3 kk, hnl := h2, hhl := k2 _ _ L.q2 (lst L.hhl (pot_ne L.pot L.hhl fun _ _ _ z => by cases z)), i0 := nn hl' (intN hW), i1 := nn (lst L.i1 L.p1) (intN L.k1), k0 := hW, k1 := L.k1, s0 := hS.k3 kk (fun o e => k2 _ _ (ne_of e0' hnl (by intro z; cases z)) e), s1 := (L.s1.k3 k3 (fun o e => e1'' o e)).k3 kk (fun o e => k2 _ _ (ne_of e1' hnl (by intro z; cases z)) e), ne := L.ne, p0 := hlp, p1 := L.p1, q1 := L.q1, q2 := L.q2, tabs := tabs_but hT k2 hnl (fun _ z => by cases z) (fun _ _ z => by unfold LamX.CodeO at z; cases z) }
/-- a turn with the second store: its worths are now at l -/
theorem Lp.turn1 (L : Lp K G p lk nl hl n0 n1 a0 a1 bk kr w0 w1 ts ks x0 x1 b) (hk : KeysOk ks) {l w' : Addr} {x' : List Int} (hl' : G' l = some (.lst (x'.map V.int))) (hS : StK K G' a1 bk kr w' ks x') (hW : WOk ks x') (k : ButT p a1 G G') (hp : Pot G' p (b + 5)) (hT : LamX.Tabs (lamT K) G') (hll : l = n1 ∨ G l = none) :
    G' nl = some (.lst [.ref n0, .ref n1]) ∧ ∀ G2 : Hp, But nl G' G2 → G2 nl = some (.lst [.ref n0, .ref l]) → Lp K G2 p lk nl hl n0 l a0 a1 bk kr w0 w' ts ks x0 x' (b + 5) := by
  have hts : ts ≠ [] := fun z => by
    have h1 : ts.length = ks.length := Paired.length L.rows
    have h2 := hk.ne
    rw [z] at h1
    cases ks with
    | nil => exact h2 rfl
    | cons a r => cases h1
  have hne : ∀ {ws : List Int}, WOk ks ws → ws.map V.int ≠ [] := fun {ws} h z => by
    have h1 : ks.length = ws.length := Paired.length h
    have h2 := hk.ne
    cases ws with
    | nil =>
      cases ks with
      | nil => exact h2 rfl
      | cons a r => cases h1
    | cons a r => cases z
  obtain ⟨dx0, e0⟩ := L.s0.ins
  obtain ⟨dx1, e1⟩ := L.s1.ins
  obtain ⟨_, _, _, hP, _⟩ := id L.pot
  obtain ⟨m0, m1, m2, hP', hb'⟩ := id hp
  have hlp : l ≠ p := fun z => by
    rcases hll with h | h
    · exact L.p1 (h.symm.trans z)
    · rw [z, show G p = _ from hP] at h; cases h
  have lst : ∀ {c : Addr} {xs : List V}, G c = some (.lst xs) → c ≠ p → G' c = some (.lst xs) := fun {c xs} e h => k _ _ h (ne_of e e1 (by intro z; cases z)) (fun _ z => by cases z) e
  have k3 : Kp3 G G' := Kp3.turn k hP e1 rfl
  have hnl := lst L.hnl (pot_ne L.pot L.hnl fun _ _ _ z => by cases z)
  refine ⟨hnl, fun G2 k2 h2 => ?_⟩
  have kk : Kp3 G' G2 := Kp3.but k2 hnl
  have nn : ∀ {c : Addr} {xs : List V}, G' c = some (.lst xs) → xs ≠ [.ref n0, .ref n1] → G2 c = some (.lst xs) := fun {c xs} e h => k2 _ _ (fun z => by
    rw [z, hnl] at e
    have := Option.some.inj e
    injection this with this
    exact h this.symm) e
  have intN : ∀ {ws : List Int}, WOk ks ws → ws.map V.int ≠ [V.ref n0, V.ref n1] := fun {ws} h z => by
    cases ws with
    | nil => exact hne h rfl
    | cons a r => cases z
  obtain ⟨dx1', e1'⟩ := hS.ins
  have e0'' : ∀ o, G a0 = some o → G' a0 = some o := fun o e => by
    have : o = _ := Option.some.inj (e.symm.trans e0)
    subst this
    exact k _ _ (fun z => by rw [z, show G p = _ from hP] at e0; cases e0) L.ne (fun _ z => by cases z) e0
  have e0' := e0'' _ e0
  have hlk' := lst L.hlk (pot_ne L.pot L.hlk (refs_ne hts))
  refine { pot := ⟨m0, m1, m2, nn hP' (fun z => by cases z), hb'⟩, hlk := k2 _ _ L.q1 hlk', rows := (L.rows.k3 k3).k3 kk, hnl := h2, hhl := k2 _ _ L.q2 (lst L.hhl (pot_ne L.pot L.hhl fun _ _ _ z => by cases z)), i0 := nn (lst L.i0 L.p0) (intN L.k0), i1 := nn hl' (intN hW), k0 := L.k0, k1 := hW, s0 := (L.s0.k3 k3 (fun o e => e0'' o e)).k3 kk (fun o e => k2 _ _ (ne_of e0' hnl (by intro z; cases z)) e), s1 := hS.k3 kk (fun o e => k2 _ _ (ne_of e1' hnl (by intro z; cases z)) e), ne := L.ne, p0 := L.p0, p1 := hlp, q1 := L.q1, q2 := L.q2, tabs := tabs_but hT k2 hnl (fun _ z => by cases z) (fun _ _ z => by unfold LamX.CodeO at z; cases z) }
end
end KP
/-! the law: one pot. -/
namespace KP
open PySem PySem.Spec PyProof.Rows L2 G137 SlX
def spRight (K : Frag) : Sp := fun vs H Q _ => ∃ p, vs = [.ref p] ∧ Pot H p 0 ∧ LamX.Tabs (lamT K) H ∧ ∀ H', (∀ b o, b ≠ p → (∀ ps, o ≠ .tbl ps) → H b = some o → H' b = some o) → LamX.Tabs (lamT K) H' → Q (.bl true) H'
theorem pe_storeK {X : Cx} (T : Pr X.K X.mg) (R : Er X.prog X.w X.K X.mg X.base) {e1 e2 : Expr} {t1 t2 : TE} {E : XK} {p pos k1 k2 : Pos} (h1 : PE X e1 t1) (h2 : PE X e2 t2) (hr : Room 7 X.A) (hg : Gl X "Store") (hx : Passes (L2.CX X.prog X.w) X E)
    (hall : (backToKw pos (keywordEach [⟨some "worths", e1, k1⟩, ⟨some "book", e2, k2⟩] X.env)).all (·.1.isSome) = true := by rfl) (hks : (backToKw pos (keywordEach [⟨some "worths", e1, k1⟩, ⟨some "book", e2, k2⟩] X.env)).filterMap (·.1) = (["worths", "book"] : List Str) := by rfl)
    (hpl : ((backTo pos (starEach [] X.env)).any (·.1) || (backToKw pos (keywordEach [⟨some "worths", e1, k1⟩, ⟨some "book", e2, k2⟩] X.env)).any (·.1.isNone)) = false := by rfl) :
    PE X (.Call (.Name "Store" p) [] [⟨some "worths", e1, k1⟩, ⟨some "book", e2, k2⟩] pos) (tMakeK (cA X.K "Store") 0 2 (spStI0 X.K) (fun us ws => us ++ ws.reverse) E tNil (tCons t1 (tCons t2 tNil))) := by
  obtain ⟨fd, F⟩ := T.f_Store_init
  have hb : KBn X.K fd ["self", "book", "worths"] 1 ["worths", "book"] (fun us ws => us ++ ws.reverse) (fun us ws => us ++ ws.reverse) := FunD.kbindsN (g := fun us ws => us ++ ws.reverse) F (fun r1 r2 => r1.append r2.reverse) (fun _ _ _ _ _ _ us ws h1 h2 => match us, ws, h1, h2 with | [_], [_, _], _, _ => rfl)
  exact pe_makeK0 (ks := ["worths", "book"]) (T.mkr "Store" (by decide +kernel)) (fn_Store T R F) hr hg (T.glo _ (by decide +kernel)) hb hx (pk_cons h1 (pk_cons h2 pk_nil)) hall hks (by decide) hpl
theorem intsL_shaped (ws : List Int) : SeqAt.shaped (.list (ws.map PyData.int)) = true := shaped_list (n := 0) (fun d hd => by
  obtain ⟨z, _, rfl⟩ := List.mem_map.mp hd
  exact ⟨by simp [PyData.canLay0], by simp [PyData.depth]⟩) (by decide)
section
variable {P : Program} {w : World} {K : Frag} {mg : Str → Option Value} {base : Heap}
theorem sc_law_right : FnScope ["_law_pot_here", "_law_keys_here", "_law_own", "_law_twin", "_law_nows", "_law_helds", "_law_turn_here", "_law_at", "_law_later", "_law_held", "_law_now", "_law_like"] ["_law_pot_here"] (defScope d_law_right) := ⟨rfl, rfl, rfl, by decide +kernel, rfl, by decide +kernel, by decide +kernel⟩
theorem ok_law_right (T : Pr K mg) (R : Er P w K mg base) (G : Gd K mg base) : FOkG P w K mg base 13 "_law_right" ["_law_pot_here"] (spRight K) := by
  obtain ⟨fd, F⟩ := T.f_law_right
  have btuple := T.fre "tuple" (by decide +kernel)
  have brange := T.fre "range" (by decide +kernel)
  have ball := T.fre "all" (by decide +kernel)
  have bzip := T.fre "zip" (by decide +kernel)
  obtain ⟨osys, hsys⟩ := G.sys
  refine FOkG.of F (T.glo _ (by decide +kernel)) sc_law_right (fun _ _ _ _ _ _ us hl => match us, hl with | [_], _ => rfl) (fun vs H Q E h => ?_) (fun A outer s H vs Q E hgd hr h => ?_)
  · obtain ⟨_, rfl, _⟩ := h; rfl
  have hgA : (A.deeper (envOfC "_law_right" (defScope d_law_right) s.heap.objs.size (He.ga K "_law_right") (.ref (He.cT K ("_law_right", none)).1))).guards = some [] := deeper_guards hgd
  have hu : (A.deeper (envOfC "_law_right" (defScope d_law_right) s.heap.objs.size (He.ga K "_law_right") (.ref (He.cT K ("_law_right", none)).1))).units + 65 < cLine := by have := hr.un; omega
  have hu1 : (A.deeper (envOfC "_law_right" (defScope d_law_right) s.heap.objs.size (He.ga K "_law_right") (.ref (He.cT K ("_law_right", none)).1))).units + 1 < cLine := by omega
  have hu64 : (A.deeper (envOfC "_law_right" (defScope d_law_right) s.heap.objs.size (He.ga K "_law_right") (.ref (He.cT K ("_law_right", none)).1))).units + 64 < cLine := by omega
  have btuple := T.fre "tuple" (by decide +kernel)
  refine ⟨_, PSs.nox (pss_cons (ps_set (i := 1) sc_law_right.nd rfl (Or.inr rfl) (pe_callF (ok_law_keys T) (hr.mono (by decide)) rfl (pa_cons (pv 0) (pa_cons pe_int pa_nil))))
    (pss_cons (ps_par (i := 2) (j := 3) rfl sc_law_right.nd rfl rfl (by decide) rfl rfl (pa_cons (pe_makeF (ok_Book T) (hr.mono (by decide)) rfl (pa_cons (pe_callF (ok_law_page T) (hr.mono (by decide)) rfl (pa_cons (pv 1) (pa_cons pe_str pa_nil))) pa_nil)) (pa_cons (pe_makeF (ok_Book T) (hr.mono (by decide)) rfl (pa_cons (pe_callF (ok_law_page T) (hr.mono (by decide)) rfl (pa_cons (pv 1) (pa_cons pe_str pa_nil))) pa_nil)) pa_nil)) (by rfl))
    (pss_cons (ps_set (i := 4) sc_law_right.nd rfl (Or.inl rfl) (pe_lst (pa_cons (pe_callF (ok_law_worths T) (hr.mono (by decide)) rfl (pa_cons (pv 0) (pa_cons (pv 1) pa_nil))) (pa_cons (pe_callF (ok_law_worths T) (hr.mono (by decide)) rfl (pa_cons (pv 0) (pa_cons (pv 1) pa_nil))) pa_nil))))
    (pss_cons (ps_set (i := 5) sc_law_right.nd rfl (Or.inl rfl) (pe_lst (pa_cons (pe_makeX (ok_Store T R) (hr.mono (by decide)) passL rfl (pa_cons (pv 2) (pa_cons (pe_callTy call_tuple_of (by rfl) btuple (by decide +kernel) (pa_cons (pe_ix ix_list (pv 4) pe_int (fun _ _ => rfl)) pa_nil)) pa_nil))) (pa_cons (pe_storeK T R (pe_callTy call_tuple_of (by rfl) btuple (by decide +kernel) (pa_cons (pe_ix ix_list (pv 4) pe_int (fun _ _ => rfl)) pa_nil)) (pv 2) (hr.mono (by decide)) rfl passL) pa_nil))))
    (pss_cons (ps_for PassesOwn.never rfl (pi_range1 rfl brange (pa_cons pe_int pa_nil)) (pg_name (i := 6) sc_law_right.nd rfl (Or.inl rfl))
      (pss_cons (ps_set (i := 7) sc_law_right.nd rfl (Or.inl rfl) (pe_callF (ok_law_take T) (hr.mono (by decide)) rfl (pa_cons (pv 0) (pa_cons pe_int pa_nil))))
    (pss_cons (ps_set (i := 8) sc_law_right.nd rfl (Or.inl rfl) (pe_callGF (ok_law_turn T R G) hgA (hr.mono (by decide)) rfl (pa_cons (pv 0) (pa_cons (pv 1) (pa_cons (pe_ix ix_list (pv 5) (pv 7) (fun _ _ => rfl)) (pa_cons (pe_ix ix_list (pv 4) (pv 7) (fun _ _ => rfl)) pa_nil))))))
    (pss_cons (ps_if (pt_cmpR op_isN (pv 8) pe_non (nomark _))
      (pss_one (ps_ret pe_bl))
      pss_nil)
    (pss_cons (ps_asg (pv 8) (pg_sub (pv 4) (pv 7) set_list))
    (pss_cons (ps_if (pt_not (pt_val (pe_callB (cr_all rfl) (by rfl) ball (by decide +kernel) (pa_cons (pe_lc (own := [("_law_held", 9), ("_law_now", 10)]) (g := gTup K 2 (gCons (gName 9) (gCons (gName 10) gNil))) (tt := tYes) (te := tCall (spTold K) [] E0 (tCons (tVar 1) (tCons (tVar 9) (tCons (tVar 10) tNil)))) rfl sc_law_right.nd (pi_zip (by rfl) bzip (pa_cons (pv 5) (pa_cons (pv 4) pa_nil))) (blkOk_by (own := [("_law_held", 9), ("_law_now", 10)]) (N := ["_law_pot_here", "_law_keys_here", "_law_own", "_law_twin", "_law_nows", "_law_helds", "_law_turn_here", "_law_at", "_law_later", "_law_held", "_law_now", "_law_like"]) (sc := defScope d_law_right) (by decide +kernel)) (fun _ _ _ _ _ => (pg_tup rfl (pgs_cons (pg_name (i := 9) sc_law_right.nd rfl (Or.inl rfl)) (pgs_cons (pg_name (i := 10) sc_law_right.nd rfl (Or.inl rfl)) pgs_nil)))) (fun _ _ _ _ _ => pts_nil) (fun _ _ _ _ _ => (pe_callGF (ok_law_is_told T R G) hgA (hr.mono (by decide)) rfl (pa_cons (pv 1) (pa_cons (pv 9) (pa_cons (pv 10) pa_nil)))))) pa_nil))))
      (pss_one (ps_ret pe_bl))
      pss_nil)
    (pss_one (ps_if (pt_cmpR op_ne (pe_cmpR ((op_eqOwn (MOk.dun (ok_Store_eq T) (dunF T (by decide +kernel))) (hr.mono (by decide)) pass0)) (pe_ix ix_list (pv 5) pe_int (fun _ _ => rfl)) (pe_ix ix_list (pv 5) pe_int (fun _ _ => rfl)) (nomark _)) (pe_cmpR ((op_eqD hu64)) (pe_ix ix_list (pv 4) pe_int (fun _ _ => rfl)) (pe_ix ix_list (pv 4) pe_int (fun _ _ => rfl)) (nomark _)) (nomark _))
      (pss_one (ps_ret pe_bl))
      pss_nil))))))))
    (pss_cons (ps_set (i := 11) sc_law_right.nd rfl (Or.inl rfl) (pe_makeX (ok_Store T R) (hr.mono (by decide)) passL rfl (pa_cons (pv 3) (pa_cons (pe_callTy call_tuple_of (by rfl) btuple (by decide +kernel) (pa_cons (pe_ix ix_list (pv 4) pe_int (fun _ _ => rfl)) pa_nil)) pa_nil))))
    (pss_cons (ps_if (PW.pt (pw_or (pt_not (pt_cmpR ((op_eqOwn (MOk.dun (ok_Store_eq T) (dunF T (by decide +kernel))) (hr.mono (by decide)) pass0)) (pe_ix ix_list (pv 5) pe_int (fun _ _ => rfl)) (pv 11) (nomark _))) (pw_or (pt_not (pt_cmpR ((op_eqOwn (MOk.dun (ok_Book_eq T) (dunF T (by decide +kernel))) (hr.mono (by decide)) pass0)) (pe_propF (pe_ix ix_list (pv 5) pe_int (fun _ _ => rfl)) (ok_p_Store_book T) (hr.mono (by decide))) (pv 2) (nomark _))) (pw_or1 (pt_not (pt_cmpR ((op_eqOwn (MOk.dun (ok_Book_eq T) (dunF T (by decide +kernel))) (hr.mono (by decide)) pass0)) (pe_propF (pv 11) (ok_p_Store_book T) (hr.mono (by decide))) (pv 3) (nomark _)))))))
      (pss_one (ps_ret pe_bl))
      pss_nil)
    (pss_one (ps_ret (pe_and (pe_callF (ok_law_unlike_right T R) (hr.mono (by decide)) rfl (pa_cons (pv 1) (pa_cons (pe_ix ix_list (pv 4) pe_int (fun _ _ => rfl)) (pa_cons (pe_ix ix_list (pv 5) pe_int (fun _ _ => rfl)) pa_nil)))) (pe_one (pe_callGF (ok_law_refused_right T R G) hgA (hr.mono (by decide)) rfl (pa_cons (pv 2) (pa_cons (pv 1) (pa_cons (pe_ix ix_list (pv 4) pe_int (fun _ _ => rfl)) pa_nil))))))))))))))), ?_⟩
  have hbig := sizeLine_big
  obtain ⟨p, rfl, hP, hT, hQ⟩ := h
  have hko : ∀ {k : KeyR} {ks : List KeyR}, KeysOk ks → k ∈ ks → nameS k.name = true := fun h hk => (h.ok _ hk).nm
  have cS := T.cls "Store" (by decide +kernel)
  have cB := T.cls "Book" (by decide +kernel)
  refine ⟨_, rfl, p, 0, rfl, hP, by decide, fun ks ts lk G1 hk hm b1 hP1 nlk hlk hK => ?_⟩
  have hT1 : LamX.Tabs (lamT K) G1 := by
    obtain ⟨_, _, _, h, _⟩ := id hP
    exact tabs_but hT b1 h (fun _ z => by cases z) (fun _ _ z => by unfold LamX.CodeO at z; cases z)
  have hts : ts ≠ [] := fun z => by
    have h1 : ts.length = ks.length := Paired.length hK
    have h2 := hk.ne
    rw [z] at h1
    cases ks with
    | nil => exact h2 rfl
    | cons a r => cases h1
  -- the books
  refine ⟨_, rfl, lk, "0", 0, ts, ks, rfl, hlk, hK, hk, .inl ⟨rfl, rfl⟩, fun G2 s2 => ?_⟩
  intro own dx1 hx1 hd1 ne1
  refine mk_book (n := 0) hx1 hd1 hk (.inl ⟨rfl, rfl⟩) fun kr G3 s3 hB ht => ⟨rfl, ?_⟩
  have s13 := s2.trans s3
  refine ⟨_, rfl, lk, "1", 1, ts, ks, rfl, s13 _ _ hlk, hK.same s13, hk, .inr ⟨rfl, rfl⟩, fun G4 s4 => ?_⟩
  intro twin dx2 hx2 hd2 ne2
  refine mk_book (n := 1) hx2 hd2 hk (.inr ⟨rfl, rfl⟩) fun krT G5 s5 hBT htT => ⟨rfl, ?_⟩
  refine ⟨_, _, rfl, ?_⟩
  have s35 := s4.trans s5
  have s15 := s13.trans s35
  have hB := hB.same s35
  have ht := ht.same s35
  have hlk := s15 _ _ hlk
  have hK := hK.same s15
  have hP5 := hP1.same s15
  have hT5 := hT1.ext s15
  have k5 : ∀ b o, b ≠ p → (∀ ps, o ≠ .tbl ps) → H b = some o → G5 b = some o := fun b o h1 _ e => s15 _ _ (b1 _ _ h1 e)
  clear hP1 hT1 hP hT b1 s2 s3 s4 s5 s13 s35 s15
  -- the ledgers
  refine ⟨_, rfl, _, rfl, p, lk, ts, ks, 0 + 300, rfl, hP5, hlk, hK, hk, by decide, fun y0 n0 G6 hW0 b6 hP6 nn0 hn0 => ?_⟩
  have p0 : n0 ≠ p := hP5.ne nn0
  obtain ⟨_, _, _, hp5, _⟩ := id hP5
  have k56 := Kp3.but b6 hp5
  have hlkp := pot_ne hP5 hlk (refs_ne hts)
  have hlk := b6 _ _ hlkp hlk
  have hK := hK.k3 k56
  have hB := hB.k3 k56
  have ht := ht.k3 k56
  have hBT := hBT.k3 k56
  have htT := htT.k3 k56
  have hT6 := tabs_but hT5 b6 hp5 (fun _ z => by cases z) (fun _ _ z => by unfold LamX.CodeO at z; cases z)
  have k6 : ∀ b o, b ≠ p → (∀ ps, o ≠ .tbl ps) → H b = some o → G6 b = some o := fun b o h1 h2 e => b6 _ _ h1 (k5 b o h1 h2 e)
  refine ⟨_, rfl, _, rfl, p, lk, ts, ks, 0 + 300 + 4, rfl, hP6, hlk, hK, hk, by decide, fun y1 n1 G7 hW1 b7 hP7 nn1 hn1 => ?_⟩
  have p1 : n1 ≠ p := hP6.ne nn1
  obtain ⟨_, _, _, hp6, _⟩ := id hP6
  have k67 := Kp3.but b7 hp6
  have hlk := b7 _ _ hlkp hlk
  have hK := hK.k3 k67
  have hB := hB.k3 k67
  have ht := ht.k3 k67
  have hBT := hBT.k3 k67
  have htT := htT.k3 k67
  have hn0 := b7 _ _ p0 hn0
  have hT7 := tabs_but hT6 b7 hp6 (fun _ z => by cases z) (fun _ _ z => by unfold LamX.CodeO at z; cases z)
  have k7 : ∀ b o, b ≠ p → (∀ ps, o ≠ .tbl ps) → H b = some o → G7 b = some o := fun b o h1 h2 e => b7 _ _ h1 (k6 b o h1 h2 e)
  clear hT5 hT6 k5 k6 k56 k67 hp5 hp6 hP5 hP6 b6 b7
  refine ⟨by show 2 ≤ sizeLine; decide, fun nl mnl => ?_⟩
  have u8 := same_upd (o := .lst [.ref n0, .ref n1]) mnl
  have hnl : upd G7 nl (.lst [.ref n0, .ref n1]) nl = _ := upd_same
  have q1 : lk ≠ nl := ne_of_none hlk mnl
  show (_ : Hp → Prop) (upd G7 nl (.lst [.ref n0, .ref n1]))
  generalize upd G7 nl (.lst [.ref n0, .ref n1]) = G8 at u8 hnl ⊢
  -- the stores
  have hn08 := u8 _ _ hn0
  have hn18 := u8 _ _ hn1
  refine ⟨_, rfl, _, rfl, nl, _, 0, .ref n0, rfl, rfl, SqL.of hnl, atI_nat (j := 0) rfl, n0, _, rfl, .inl ⟨SqL.of hn08, fun w0 m0 => ?_⟩⟩
  have u9 := same_upd (o := .tup (y0.map V.int)) m0
  intro a0 dx0 hx0 hd0 ne0
  refine mk_store hx0 hd0 ((hB.same u8).same u9) upd_same hW0 fun G9 v9 hS0 => ⟨rfl, ?_⟩
  have s89 := u9.trans v9
  refine ⟨_, rfl, nl, _, 1, .ref n1, rfl, rfl, SqL.of (s89 _ _ hnl), atI_nat (j := 1) rfl, n1, _, rfl, .inl ⟨SqL.of (s89 _ _ hn18), fun w1 m1 => ?_⟩⟩
  have u10 := same_upd (o := .tup (y1.map V.int)) m1
  refine ⟨_, rfl, rfl, rfl, ?_⟩
  intro a1 dx3 hx3 hd3 ne3
  refine mk_store hx3 hd3 (((hB.same u8).same s89).same u10) upd_same hW1 fun G10 v10 hS1 => ⟨rfl, ?_⟩
  have s9a := u10.trans v10
  refine ⟨by show 2 ≤ sizeLine; decide, fun hl mhl => ?_⟩
  have u11 := same_upd (o := .lst [.ref a0, .ref a1]) mhl
  have sab := s9a.trans u11
  have s8b := s89.trans sab
  have hne : a0 ≠ a1 := by
    obtain ⟨dd, hd⟩ := hS0.ins
    exact ne_of_none (u10 _ _ hd) hx3
  have q2 : hl ≠ nl := Ne.symm (ne_of_none (s9a _ _ (s89 _ _ hnl)) mhl)
  have L0 : Lp K (upd G10 hl (.lst [.ref a0, .ref a1])) p lk nl hl n0 n1 a0 a1 own kr w0 w1 ts ks y0 y1 (0 + 300 + 4 + 4) :=
    ⟨(hP7.same u8).same s8b, s8b _ _ (u8 _ _ hlk), (hK.same u8).same s8b, s8b _ _ hnl, upd_same, s8b _ _ hn08, s8b _ _ hn18, hW0, hW1, hS0.same sab, hS1.same u11, hne, p0, p1, q1, q2, (hT7.ext u8).ext s8b⟩
  have hBT := (hBT.same u8).same s8b
  have ht := (ht.same u8).same s8b
  have htT := (htT.same u8).same s8b
  have k11 : ∀ b o, b ≠ p → (∀ ps, o ≠ .tbl ps) → H b = some o → upd G10 hl (.lst [.ref a0, .ref a1]) b = some o := fun b o h1 h2 e => s8b _ _ (u8 _ _ (k7 b o h1 h2 e))
  have f0 : ∀ b o, b ≠ p → (∀ ps, o ≠ .tbl ps) → H b = some o → b ≠ a0 ∧ b ≠ a1 ∧ b ≠ nl := fun b o h1 h2 e => by
    have e7 := k7 b o h1 h2 e
    have e8 := u8 _ _ e7
    exact ⟨ne_of_none (u9 _ _ e8) hx0, ne_of_none (u10 _ _ (s89 _ _ e8)) hx3, ne_of_none e7 mnl⟩
  clear hS0 hS1 hT7 hP7 hlk hK hB k7 u11 sab s8b s9a s89 hn08 hn18 hn0 hn1 hnl u8
  show (_ : Hp → Prop) (upd G10 hl (.lst [.ref a0, .ref a1]))
  generalize upd G10 hl (.lst [.ref a0, .ref a1]) = Gb at L0 hBT ht htT k11 ⊢
  have hnm : ∀ k ∈ ks, nameS k.name = true := fun k h => hko hk h
  refine ⟨18, rfl, by decide, by decide, ?_⟩
  refine for_range (lo := 0) (n := 18) (fun i σ G => ∃ (n0 n1 w0 w1 : Addr) (x0 x1 : List Int) (z6 z7 z8 : Option V), σ = [some (.ref p), some (.ref lk), some (.ref own), some (.ref twin), some (.ref nl), some (.ref hl), z6, z7, z8, none, none, none] ∧ Lp K G p lk nl hl n0 n1 a0 a1 own kr w0 w1 ts ks x0 x1 (308 + 6 * i) ∧ BkOk K G twin ks krT ∧ BkTxt K G own (pgT ks "0") ∧ BkTxt K G twin (pgT ks "1") ∧ ∀ b o, b ≠ p → (∀ ps, o ≠ .tbl ps) → H b = some o → G b = some o)
    ⟨n0, n1, w0, w1, y0, y1, none, none, none, rfl, L0, hBT, ht, htT, k11⟩ ?_ ?_
  · rintro i σ G hi ⟨n0, n1, w0, w1, x0, x1, z6, z7, z8, rfl, L, hBT, ht, htT, kH⟩
    refine ⟨_, rfl, p, 2, 308 + 6 * i, rfl, L.pot, by decide, by decide, by omega, fun d G2 d0 d1 k2 hP2 => ?_⟩
    have L2' := L.take hk k2 hP2
    obtain ⟨_, _, _, hp2, _⟩ := id L.pot
    have k3a := Kp3.but k2 hp2
    have hBT := hBT.k3 k3a
    have ht := ht.k3 k3a
    have htT := htT.k3 k3a
    have kH2 : ∀ b o, b ≠ p → (∀ ps, o ≠ .tbl ps) → H b = some o → G2 b = some o := fun b o h1 h2 e => k2 _ _ h1 (kH b o h1 h2 e)
    obtain ⟨dxa, ea⟩ := L2'.s0.ins
    obtain ⟨dxb, eb⟩ := L2'.s1.ins
    obtain ⟨_, _, _, hp3, _⟩ := id L2'.pot
    have hd : d = 0 ∨ d = 1 := by omega
    rcases hd with rfl | rfl
    case' inl => refine ⟨_, rfl, _, rfl, _, rfl, _, rfl, hl, _, 0, .ref a0, rfl, rfl, SqL.of L2'.hhl, atI_nat (j := 0) rfl, _, rfl, _, rfl, nl, _, 0, .ref n0, rfl, rfl, SqL.of L2'.hnl, atI_nat (j := 0) rfl, p, lk, a0, n0, own, kr, w0, ts, ks, x0, 308 + 6 * i + 1, rfl, L2'.pot, by omega, L2'.hlk, L2'.rows, hk, L2'.s0, L2'.i0, L2'.p0, L2'.k0, L2'.tabs, fun l w' x' G3 hl' hS' hW' k3 hP3 hT3 hll => ?_⟩
    case' inl => obtain ⟨hnl3, mk⟩ := L2'.turn0 hk hl' hS' hW' k3 hP3 hT3 hll
    case' inl => have k3b := Kp3.turn k3 hp3 ea rfl
    case' inl => have kH3 : ∀ b o, b ≠ p → (∀ ps, o ≠ .tbl ps) → H b = some o → G3 b = some o := fun b o h1 h2 e => k3 _ _ h1 (f0 b o h1 h2 e).1 h2 (kH2 b o h1 h2 e)
    case' inl => refine ⟨_, rfl, rfl, _, rfl, iN rfl ?_⟩
    case' inl => refine ⟨_, rfl, _, rfl, _, rfl, nl, _, 0, 0, rfl, rfl, hnl3, rfl, ?_⟩
    case' inl => have k4 : But nl G3 (upd G3 nl (.lst [.ref l, .ref n1])) := fun b o hb e => (upd_ne hb).trans e
    case' inl => obtain ⟨m0, m1, v0, v1, y0, y1, L4⟩ : ∃ m0 m1 v0 v1 y0 y1, Lp K (upd G3 nl (.lst [.ref l, .ref n1])) p lk nl hl m0 m1 a0 a1 own kr v0 v1 ts ks y0 y1 (308 + 6 * i + 1 + 5) := ⟨_, _, _, _, _, _, mk _ k4 upd_same⟩
    case' inr => refine ⟨_, rfl, _, rfl, _, rfl, _, rfl, hl, _, 1, .ref a1, rfl, rfl, SqL.of L2'.hhl, atI_nat (j := 1) rfl, _, rfl, _, rfl, nl, _, 1, .ref n1, rfl, rfl, SqL.of L2'.hnl, atI_nat (j := 1) rfl, p, lk, a1, n1, own, kr, w1, ts, ks, x1, 308 + 6 * i + 1, rfl, L2'.pot, by omega, L2'.hlk, L2'.rows, hk, L2'.s1, L2'.i1, L2'.p1, L2'.k1, L2'.tabs, fun l w' x' G3 hl' hS' hW' k3 hP3 hT3 hll => ?_⟩
    case' inr => obtain ⟨hnl3, mk⟩ := L2'.turn1 hk hl' hS' hW' k3 hP3 hT3 hll
    case' inr => have k3b := Kp3.turn k3 hp3 eb rfl
    case' inr => have kH3 : ∀ b o, b ≠ p → (∀ ps, o ≠ .tbl ps) → H b = some o → G3 b = some o := fun b o h1 h2 e => k3 _ _ h1 (f0 b o h1 h2 e).2.1 h2 (kH2 b o h1 h2 e)
    case' inr => refine ⟨_, rfl, rfl, _, rfl, iN rfl ?_⟩
    case' inr => refine ⟨_, rfl, _, rfl, _, rfl, nl, _, 1, 1, rfl, rfl, hnl3, rfl, ?_⟩
    case' inr => have k4 : But nl G3 (upd G3 nl (.lst [.ref n0, .ref l])) := fun b o hb e => (upd_ne hb).trans e
    case' inr => obtain ⟨m0, m1, v0, v1, y0, y1, L4⟩ : ∃ m0 m1 v0 v1 y0 y1, Lp K (upd G3 nl (.lst [.ref n0, .ref l])) p lk nl hl m0 m1 a0 a1 own kr v0 v1 ts ks y0 y1 (308 + 6 * i + 1 + 5) := ⟨_, _, _, _, _, _, mk _ k4 upd_same⟩
    case' inl => show (_ : Hp → Prop) (upd G3 nl (.lst [.ref l, .ref n1])); generalize upd G3 nl (.lst [.ref l, .ref n1]) = G4 at k4 L4 ⊢
    case' inr => show (_ : Hp → Prop) (upd G3 nl (.lst [.ref n0, .ref l])); generalize upd G3 nl (.lst [.ref n0, .ref l]) = G4 at k4 L4 ⊢
    all_goals
      clear mk hl' hS' hW' hP3 hT3 hll
      have k34 := Kp3.but k4 hnl3
      have hBT := (hBT.k3 k3b).k3 k34
      have ht := (ht.k3 k3b).k3 k34
      have htT := (htT.k3 k3b).k3 k34
      have kH4 : ∀ b o, b ≠ p → (∀ ps, o ≠ .tbl ps) → H b = some o → G4 b = some o := fun b o h1 h2 e => k4 _ _ (f0 b o h1 h2 e).2.2 (kH3 b o h1 h2 e)
      refine ⟨_, rfl, _, rfl, hl, nl, _, _, rfl, SqL.of L4.hhl, SqL.of L4.hnl, fun D nD => ?_⟩
      refine lc_it (walk_zip (xs := [.ref a0, .ref a1]) (ys := [.ref m0, .ref m1]) (n := 2) rfl) (AccP (fun i => (List.replicate i true).map V.bl) D G4) (acc_start rfl) (fun i G _ q => ⟨SqL.of (q.same nD _ _ L4.hhl), SqL.of (q.same nD _ _ L4.hnl)⟩) (fun j y G5 G6 hj q yl => ?_) (fun G5 q => ?_)
      · obtain ⟨t1, u1, u2, rfl, nt1, rfl, e1, e2⟩ := yl
        have sq := (q.same nD).trans (same_upd (o := .tup [u1, u2]) nt1)
        have L5 := L4.same sq
        have stp : ∀ H', Same (upd G5 t1 (.tup [u1, u2])) H' → ∃ acc, H' D = some (.lst acc) ∧ acc.length < sizeLine ∧ AccP (fun i => (List.replicate i true).map V.bl) D G4 (j + 1) (upd H' D (.lst (acc ++ [V.bl true]))) := fun H' s' => by
          refine acc_step q ((same_upd (o := .tup [u1, u2]) nt1).trans s') ?_ ?_
          · rw [List.length_map, List.length_replicate]; omega
          · show (List.replicate (j + 1) true).map V.bl = (List.replicate j true).map V.bl ++ [V.bl true]
            rw [List.replicate_succ', List.map_append]; rfl
        have hj2 : j = 0 ∨ j = 1 := by omega
        refine ⟨t1, _, rfl, SqT.of upd_same, rfl, _, _, rfl, _, _, rfl, rfl, rfl, ?_⟩
        dsimp only [tYes]
        rw [if_pos rfl]
        rcases hj2 with rfl | rfl
        · obtain rfl : V.ref a0 = u1 := Option.some.inj e1
          obtain rfl : V.ref m0 = u2 := Option.some.inj e2
          exact ⟨_, rfl, _, rfl, _, rfl, lk, a0, m0, own, kr, v0, ts, ks, y0, rfl, L5.hlk, L5.rows, hk, L5.s0, L5.i0, L5.k0, stp⟩
        · obtain rfl : V.ref a1 = u1 := Option.some.inj e1
          obtain rfl : V.ref m1 = u2 := Option.some.inj e2
          exact ⟨_, rfl, _, rfl, _, rfl, lk, a1, m1, own, kr, v1, ts, ks, y1, rfl, L5.hlk, L5.rows, hk, L5.s1, L5.i1, L5.k1, stp⟩
      · refine ⟨D, List.replicate 2 true, rfl, SqL.of q.1, _, rfl, ?_⟩
        refine iN rfl ?_
        have sq := q.same nD
        have L5 := L4.same sq
        obtain ⟨dxa, ea⟩ := L5.s0.ins
        obtain ⟨dxb, eb⟩ := L5.s1.ins
        refine ⟨_, rfl, hl, _, 0, .ref a0, rfl, rfl, SqL.of L5.hhl, atI_nat (j := 0) rfl, _, rfl, hl, _, 1, .ref a1, rfl, rfl, SqL.of L5.hhl, atI_nat (j := 1) rfl, a0, dxa, _, _, rfl, ea, (T.isi "Store" (by decide +kernel)).ty cS eb, T.nfC "Store" (by decide +kernel) "Store" (by decide +kernel), a0, own, kr, v0, ks, y0, .ref a1, rfl, L5.s0, hnm, .inr ⟨a1, own, kr, v1, ks, y1, rfl, L5.s1, hnm, ?_⟩⟩
        refine ⟨_, rfl, nl, _, 0, .ref m0, rfl, rfl, SqL.of L5.hnl, atI_nat (j := 0) rfl, _, rfl, nl, _, 1, .ref m1, rfl, rfl, SqL.of L5.hnl, atI_nat (j := 1) rfl, .list (y0.map .int), .list (y1.map .int), .lst (SqL.of L5.i0) (ints_dp y0), .lst (SqL.of L5.i1) (ints_dp y1), intsL_shaped y0, intsL_shaped y1, rfl, _, rfl, ?_⟩
        refine iN ?_ ?_
        · rw [rows_refl hnm, Bool.true_and, show PyData.eqv (.list (y0.map PyData.int)) (.list (y1.map PyData.int)) = PyData.eqvAll (y0.map PyData.int) (y1.map PyData.int) by rw [PyData.eqv], eqvAll_ints]
          simp
        · exact ⟨m0, m1, v0, v1, y0, y1, _, _, _, rfl, L5, hBT.same sq, ht.same sq, htT.same sq, fun b o h1 h2 e => sq _ _ (kH4 b o h1 h2 e)⟩
  · rintro σ G ⟨n0, n1, w0, w1, x0, x1, z6, z7, z8, rfl, L, hBT, ht, htT, kH⟩
    have hlx : ∀ {G' : Hp}, Same G G' → G' hl = some (.lst [.ref a0, .ref a1]) := fun s' => s' _ _ L.hhl
    refine ⟨_, rfl, _, rfl, nl, _, 0, .ref n0, rfl, rfl, SqL.of L.hnl, atI_nat (j := 0) rfl, n0, _, rfl, .inl ⟨SqL.of L.i0, fun w2 m2 => ?_⟩⟩
    have u2 := same_upd (o := .tup (x0.map V.int)) m2
    intro al dxl hxl hdl nel
    refine mk_store hxl hdl (hBT.same u2) upd_same L.k0 fun G2 v2 hSl => ⟨rfl, ?_⟩
    have s2 := u2.trans v2
    have L2' := L.same s2
    have hBT := hBT.same s2
    have ht := ht.same s2
    have htT := htT.same s2
    obtain ⟨dxa, ea⟩ := L2'.s0.ins
    obtain ⟨dxc, ec⟩ := hSl.ins
    obtain ⟨dxo, _, _, _, _, _, _, _, eo⟩ := id ht
    obtain ⟨dxt, _, _, _, _, _, _, _, et⟩ := id htT
    have hat : ∀ {j : Nat} {x : V}, [V.ref a0, V.ref a1][j]? = some x → atI [V.ref a0, V.ref a1] (j : Int) = some x := fun h => atI_nat h
    refine ⟨_, rfl, hl, _, 0, .ref a0, rfl, rfl, SqL.of L2'.hhl, atI_nat (j := 0) rfl, _, rfl, a0, dxa, _, _, rfl, ea, (T.isi "Store" (by decide +kernel)).ty cS ec, T.nfC "Store" (by decide +kernel) "Store" (by decide +kernel), a0, own, kr, w0, ks, x0, .ref al, rfl, L2'.s0, hnm, .inr ⟨al, twin, krT, w2, ks, x0, rfl, hSl, hnm, _, rfl, ?_⟩⟩
    refine iN (by rw [rows_refl hnm]; simp) ?_
    refine ⟨_, rfl, hl, _, 0, .ref a0, rfl, rfl, SqL.of L2'.hhl, atI_nat (j := 0) rfl, a0, dxa, _, rfl, ea, a0, dxa, own, kr, .ref w0, rfl, ea, _, rfl, own, dxo, _, _, rfl, eo, (T.isi "Book" (by decide +kernel)).ty cB eo, T.nfC "Book" (by decide +kernel) "Book" (by decide +kernel), own, _, own, _, rfl, ht, ht, _, rfl, ?_⟩
    refine iN (by simp) ?_
    refine ⟨_, rfl, al, dxc, _, rfl, ec, al, dxc, twin, krT, .ref w2, rfl, ec, _, rfl, twin, dxt, _, _, rfl, et, (T.isi "Book" (by decide +kernel)).ty cB et, T.nfC "Book" (by decide +kernel) "Book" (by decide +kernel), twin, _, twin, _, rfl, htT, htT, _, rfl, ?_⟩
    refine iN (by simp) ?_
    refine ⟨_, rfl, _, rfl, nl, _, 0, .ref n0, rfl, rfl, SqL.of L2'.hnl, atI_nat (j := 0) rfl, _, rfl, hl, _, 0, .ref a0, rfl, rfl, SqL.of L2'.hhl, atI_nat (j := 0) rfl, lk, n0, a0, own, kr, w0, ts, ks, x0, rfl, L2'.hlk, L2'.rows, hk, hm, L2'.i0, L2'.k0, L2'.s0, fun G3 s3 => ⟨true, rfl, ?_⟩⟩
    refine iY rfl ?_
    have L3 := L2'.same s3
    refine ⟨_, rfl, _, rfl, _, rfl, nl, _, 0, .ref n0, rfl, rfl, SqL.of L3.hnl, atI_nat (j := 0) rfl, own, lk, n0, kr, ts, ks, x0, rfl, L3.s0.b, L3.hlk, L3.rows, hk, L3.i0, L3.k0, L3.tabs, fun G4 e4 t4 => ?_⟩
    exact hQ G4 (fun b o h1 h2 e => e4 b o (s3 _ _ (s2 _ _ (kH b o h1 h2 e))) h2) t4
end
end KP

/-! the law. -/
namespace KP
open PySem PySem.Spec PyProof.Rows L2 G137 SlX
def spLaw (K : Frag) : Sp := fun vs H Q _ => ∃ (a : Addr) (ns : List Int), vs = [.ref a] ∧ SqL K H a (ns.map V.int) ∧ ns.length ≤ 63 ∧ LamX.Tabs (lamT K) H ∧ ∀ H', Q (.bl true) H'
theorem sc_law : FnScope ["_law_script", "_law_k"] ["_law_script"] (defScope d_law) := ⟨rfl, rfl, rfl, by decide +kernel, rfl, by decide +kernel, by decide +kernel⟩
section
variable {P : Program} {w : World} {K : Frag} {mg : Str → Option Value} {base : Heap} {f : Addr} {fd : FuncData}
theorem fnG_law (T : Pr K mg) (R : Er P w K mg base) (G : Gd K mg base) (F : FunD K "law" "law" (defArgs d_law) (defBody d_law) (defScope d_law) [] [] f fd) : FnG P w K mg base CX0 14 f fd ["_law_script"] (spLaw K) := by
  have gL := T.fre "len" (by decide +kernel)
  have gRa := T.fre "range" (by decide +kernel)
  have gMx := T.fre "max" (by decide +kernel)
  have gMn := T.fre "min" (by decide +kernel)
  refine fnG_of F sc_law (fun vs H Q E h => ?_) (fun cdv A outer s H vs Q E hgd hr h => ?_)
  · obtain ⟨a, ns, rfl, _⟩ := h
    rfl
  have hgX : (A.deeper (envOfC "law" (defScope d_law) s.heap.objs.size f cdv)).guards = some [] := deeper_guards hgd
  refine ⟨_, PSs.nox (pss_cons (ps_for PassesOwn.never rfl (pi_range1 (by rfl) gRa (pa_cons (pe_callB (call_max2 rfl) (by rfl) gMx (by decide +kernel) (pa_cons pe_int (pa_cons (pe_callB (call_min2 rfl) (by rfl) gMn (by decide +kernel) (pa_cons pe_int (pa_cons (pe_callB call_len_seq (by rfl) gL PySem.boot_len (pa_cons (pv 0) pa_nil)) pa_nil))) pa_nil))) pa_nil))
      (pg_name (i := 1) sc_law.nd rfl (Or.inl rfl))
      (pss_one (ps_if (pt_not (pt_val (pe_callGF (ok_law_right T R G) hgX (hr.mono (by decide)) rfl (pa_cons (pe_callF (ok_law_pot T) (hr.mono (by decide)) rfl (pa_cons (pv 0) (pa_cons (pv 1) pa_nil))) pa_nil)))) (pss_one (ps_ret pe_bl)) pss_nil)))
    (pss_one (ps_ret pe_bl))), ?_⟩
  obtain ⟨a, ns, rfl, hS, hn, hT, hQ⟩ := h
  refine ⟨_, rfl, a, _, rfl, .inl hS, _, _, rfl, _, _, rfl, _, rfl, ?_, ?_, ?_⟩
  · split <;> (try split) <;> omega
  · split <;> (try split) <;> omega
  generalize hm : (if (if ((ns.map V.int).length : Int) < 3 then ((ns.map V.int).length : Int) else 3) > 1 then (if ((ns.map V.int).length : Int) < 3 then ((ns.map V.int).length : Int) else 3) else 1) = m
  have hm3 : m ≤ 3 := by
    rw [← hm]
    split <;> (try split) <;> omega
  refine for_range (lo := 0) (n := m.toNat) (fun i σ G => (∃ b, σ = [some (.ref a), b]) ∧ SqL K G a (ns.map V.int) ∧ LamX.Tabs (lamT K) G) ⟨⟨none, rfl⟩, hS, hT⟩ ?_ ?_
  · rintro i σ G hi ⟨⟨b, rfl⟩, hSG, hTG⟩
    refine ⟨_, rfl, _, rfl, a, ns, i, ?_, hSG, by omega, fun G1 p s1 np hP => ?_⟩
    · show [V.ref a, V.int (0 + (i : Int))] ++ [] = _
      rw [Int.zero_add]; rfl
    refine ⟨p, rfl, hP, hTG.ext s1, fun G2 k2 t2 => ⟨true, rfl, ?_⟩⟩
    refine iN rfl ?_
    refine ⟨⟨_, rfl⟩, ?_, t2⟩
    rcases hSG with h | h
    · rcases h with h | ⟨o, h⟩
      · exact .inl (.inl (k2 _ _ (ne_of_none h np) (fun _ z => by cases z) (s1 _ _ h)))
      · exact .inl (.inr ⟨o, k2 _ _ (ne_of_none h np) (fun _ z => by cases z) (s1 _ _ h)⟩)
    · exact .inr h
  · rintro σ G ⟨⟨b, rfl⟩, _, _⟩
    exact hQ G
end
end KP
/-! What the head tells, and the end (printed by genend.py). -/
namespace KP
open PySem PySem.Spec PyProof.Rows L2 G137
theorem hInitBody : defBody m_OnlyError_init = initBody ⟨8, 8, 8, 13⟩ ⟨8, 8, 8, 15⟩ ⟨8, 8, 8, 24⟩ ⟨8, 25, 8, 30⟩ ⟨8, 8, 8, 31⟩ ⟨8, 8, 8, 31⟩ ⟨9, 8, 9, 12⟩ ⟨9, 8, 9, 18⟩ ⟨9, 21, 9, 26⟩ ⟨9, 8, 9, 26⟩ := by rfl
theorem hInitScope : NdefX.NScope ["self", "value", "__class__"] ["self", "value"] ["__class__"] (defScope m_OnlyError_init) := NdefX.nscope_by (by decide +kernel)
theorem hInit {w : World} {K : Frag} {mg : Str → Option Value} (e : fnI K (hIni K) = hVi) (hs : mg "super" = none) (hb : initB "/claim/cut.py" "OnlyError.__init__" K (cA K "OnlyError") (hIni K) = true) (hc : (PySem.W.clsIn K (cA K "OnlyError")).isSome = true)
    (tp : PySem.W.nsIn K cStatics "thirdparty.any" = some none) : ∃ fd, PySem.W.typeIn K (.ref (hIni K)) = some (.type "function") ∧ (∀ base : Heap, FnOk PG w K mg base CX0 1 (hIni K) fd ["self", "value"] (spInit K (cA K "OnlyError"))) ∧ Binds K fd ["self", "value"] [] := by
  obtain ⟨cc, cda, fd, T, hdf, od, osl, lk⟩ := initAt_of (P := PG) (mg := mg) (D := cA K "OnlyError") e hb hc hs (by decide +kernel) tp
  refine ⟨fd, ?_, fun base => ?_, ?_⟩
  · show (K.lookup (hIni K)).map (fun o => o.cls) = _
    rw [lk]; rfl
  · rw [hInitBody] at T
    exact init_ok T hInitScope (by decide +kernel) (by rfl) (fun env => ⟨_, rfl⟩) (fun env => rfl) (fun env => rfl)
  · obtain ⟨oc, od', dV, kV, doc, pm, an, ct, osl', rfl, _⟩ := T.fn
    have : dV = .none := hdf
    subst this
    exact Binds.all fun us hl => match us, hl with | [_, _], _ => rfl
section
variable {K : Frag} {h : Heap} {mg : Str → Option Value}
theorem hFa_glo {x : Str} (h : x ∈ gNames) : He.Fa.glo x ∈ hFa := List.mem_append_left _ (List.mem_map_of_mem h)
theorem hFa_fre {x : Str} (h : x ∈ gFrees) : He.Fa.free x ∈ hFa := List.mem_append_right _ (List.mem_append_left _ (List.mem_map_of_mem h))
theorem hFa_str {x z : Str} (h : (x, z) ∈ gStrs) : He.Fa.str x z ∈ hFa := List.mem_append_right _ (List.mem_append_right _ (List.mem_append_left _ (List.mem_map_of_mem (f := fun p : Str × Str => He.Fa.str p.1 p.2) h)))
theorem hFa_int {x : Str} {i : Int} (h : (x, i) ∈ gInts) : He.Fa.int x i ∈ hFa := List.mem_append_right _ (List.mem_append_right _ (List.mem_append_right _ (List.mem_append_left _ (List.mem_map_of_mem (f := fun p : Str × Int => He.Fa.int p.1 p.2) h))))
theorem hFa_cls {x : Str} (h : x ∈ gCls) : He.Fa.cls x ∈ hFa := List.mem_append_right _ (List.mem_append_right _ (List.mem_append_right _ (List.mem_append_right _ (List.mem_append_left _ (List.mem_map_of_mem h)))))
theorem hFa_fld {x z : Str} (h : (x, z) ∈ gFld) : He.Fa.noat x z ∈ hFa := List.mem_append_right _ (List.mem_append_right _ (List.mem_append_right _ (List.mem_append_right _ (List.mem_append_right _ (List.mem_append_left _ (List.mem_map_of_mem (f := fun p : Str × Str => He.Fa.noat p.1 p.2) h))))))
theorem hFa_meth {x z : Str} (h : (x, z) ∈ gMeth) : He.Fa.meth x z ∈ hFa := List.mem_append_right _ (List.mem_append_right _ (List.mem_append_right _ (List.mem_append_right _ (List.mem_append_right _ (List.mem_append_right _ (List.mem_append_left _ (List.mem_map_of_mem (f := fun p : Str × Str => He.Fa.meth p.1 p.2) h)))))))
theorem hFa_mkr {x : Str} (h : x ∈ gMk) : He.Fa.mkr x ∈ hFa := List.mem_append_right _ (List.mem_append_right _ (List.mem_append_right _ (List.mem_append_right _ (List.mem_append_right _ (List.mem_append_right _ (List.mem_append_right _ (List.mem_map_of_mem h)))))))
structure Xe (K : Frag) (D : Addr) : Prop where
  d : ErrF K D D
  e : ∀ c ∈ gExc, ErrF K D (He.ga K c)
  i : initB "/claim/cut.py" "OnlyError.__init__" K D (hIni K) = true
  t : PySem.W.nsIn K cStatics "thirdparty.any" = some none
  s : ∃ o, K.lookup sysModules = some o
  k : ∀ c ∈ gExc, ∀ d ∈ gExc, PySem.W.kitOne K (.ref (He.ga K c)) (.ref (He.ga K d)) = some (c == d)
  x : ∀ c ∈ gExc, PySem.W.exmOne K (.ref (He.ga K c)) (.ref D) = some true
theorem xe_ok {D : Addr} (h : hXe K D = true) : Xe K D := by
  unfold hXe at h
  simp only [Bool.and_eq_true, List.all_eq_true] at h
  obtain ⟨h0, h1, h2, h3, h4, h5, h6⟩ := h
  exact ⟨errB_ok h0, fun c hc => errB_ok (h1 c hc), h2, of_decide_eq_true h3, Option.isSome_iff_exists.mp h4, fun c hc d hd => of_decide_eq_true (h5 c hc d hd), fun c hc => of_decide_eq_true (h6 c hc)⟩
structure Xi (K : Frag) : Prop where
  f : ∀ x m, (x, m) ∈ gMeth → PySem.W.fnIn K (He.ma K (He.ga K x) m) = true
  i : ∀ x ∈ gIsi, IsiF K (He.ga K x)
  t : ∀ T ∈ tyNames, ∀ x ∈ gIsi, PySem.W.kitOne K (.type T) (.ref (He.ga K x)) = some false ∧ PySem.W.notFirst K (He.ga K x) (.type T) = true
  c : ∀ x ∈ gIsi, ∀ y ∈ gIsi, PySem.W.kitOne K (.ref (He.ga K x)) (.ref (He.ga K y)) = some (x == y) ∧ PySem.W.notFirst K (He.ga K x) (.ref (He.ga K y)) = true
theorem xi_ok (h : hXi K = true) : Xi K := by
  unfold hXi at h
  simp only [Bool.and_eq_true, List.all_eq_true] at h
  obtain ⟨h1, h2, h3, h4⟩ := h
  exact ⟨fun x m hm => h1 (x, m) hm, fun x hx => isiB_ok (h2 x hx), fun T hT x hx => ⟨of_decide_eq_true (h3 T hT x hx).1, (h3 T hT x hx).2⟩, fun x hx y hy => ⟨of_decide_eq_true (h4 x hx y hy).1, (h4 x hx y hy).2⟩⟩
theorem hEx_ok (h : hEx K = true) : Xe K (He.ga K "OnlyError") ∧ Xi K ∧ hXs K = true ∧ hXl K = true := by
  unfold hEx at h
  simp only [Bool.and_eq_true] at h
  exact ⟨xe_ok h.1, xi_ok h.2.1, h.2.2.1, h.2.2.2⟩
theorem hPr (X : K.In h) (G : h.Ns mainGlobals mg) (c : SaysY hW h K) : Pr K mg := by
  obtain ⟨_, xi, xs, _⟩ := hEx_ok c.x
  unfold hXs at xs
  simp only [Bool.and_eq_true] at xs
  obtain ⟨x0, xm, ⟨⟨y0, y1⟩, y2⟩⟩ := xs
  exact {
    glo := fun x hx => He.glo_ok X G (c.d.facts (hFa_glo hx))
    fre := fun x hx => He.free_ok X G (c.d.facts (hFa_fre hx))
    str := fun x z hx => He.str_ok X G (c.d.facts (hFa_str hx))
    int := fun x z hx => He.int_ok X G (c.d.facts (hFa_int hx))
    cls := fun x hx => He.cls_ok (c.d.facts (hFa_cls hx))
    fld := fun x z hx => He.noat_ok (c.d.facts (hFa_fld hx))
    meth := fun x z hx => He.meth_ok (c.d.facts (hFa_meth hx))
    mkr := fun x hx => He.mkr_ok (c.d.facts (hFa_mkr hx))
    fni := xi.f
    isi := xi.i
    kitT := fun T hT x hx => (xi.t T hT x hx).1
    kitC := fun x hx y hy => (xi.c x hx y hy).1
    nfT := fun T hT x hx => (xi.t T hT x hx).2
    nfC := fun x hx y hy => (xi.c x hx y hy).2
    sc_Line := slcB_ok x0
    sm_Line := He.mkr_ok xm
    ss_Line_depth := slB_ok y0
    ss_Line_number := slB_ok y1
    ss_Line_words := slB_ok y2
    p_Store_book := c.prop 0 (C := "Store") (x := "book") (st := m_Store_book) rfl
    p_Store_worths := c.prop 1 (C := "Store") (x := "worths") (st := m_Store_worths) rfl
    p_Book_key_rows := c.prop 2 (C := "Book") (x := "key_rows") (st := m_Book_key_rows) rfl
    f_is_integer := c.d.def_ 0 (d := ⟨("is_integer", none), "is_integer", "is_integer", defArgs d_is_integer, defBody d_is_integer, defScope d_is_integer, [], []⟩) rfl
    f_is_between := c.d.def_ 1 (d := ⟨("is_between", none), "is_between", "is_between", defArgs d_is_between, defBody d_is_between, defScope d_is_between, [], []⟩) rfl
    f_is_tuple := c.d.def_ 2 (d := ⟨("is_tuple", none), "is_tuple", "is_tuple", defArgs d_is_tuple, defBody d_is_tuple, defScope d_is_tuple, [], []⟩) rfl
    f_is_name := c.d.def_ 3 (d := ⟨("is_name", none), "is_name", "is_name", defArgs d_is_name, defBody d_is_name, defScope d_is_name, [], []⟩) rfl
    f_is_word_of := c.d.def_ 4 (d := ⟨("is_word_of", none), "is_word_of", "is_word_of", defArgs d_is_word_of, defBody d_is_word_of, defScope d_is_word_of, [], []⟩) rfl
    f_number_in := c.d.def_ 5 (d := ⟨("number_in", none), "number_in", "number_in", defArgs d_number_in, defBody d_number_in, defScope d_number_in, [], []⟩) rfl
    f_is_worth := c.d.def_ 6 (d := ⟨("is_worth", none), "is_worth", "is_worth", defArgs d_is_worth, defBody d_is_worth, defScope d_is_worth, [], []⟩) rfl
    f_is_store := c.d.def_ 7 (d := ⟨("is_store", none), "is_store", "is_store", defArgs d_is_store, defBody d_is_store, defScope d_is_store, [], []⟩) rfl
    f_check_store := c.d.def_ 8 (d := ⟨("check_store", none), "check_store", "check_store", defArgs d_check_store, defBody d_check_store, defScope d_check_store, [], []⟩) rfl
    f_is_key := c.d.def_ 9 (d := ⟨("is_key", none), "is_key", "is_key", defArgs d_is_key, defBody d_is_key, defScope d_is_key, [], []⟩) rfl
    f_is_worth_of := c.d.def_ 10 (d := ⟨("is_worth_of", none), "is_worth_of", "is_worth_of", defArgs d_is_worth_of, defBody d_is_worth_of, defScope d_is_worth_of, [], []⟩) rfl
    f_Sum_init := c.d.def_ 11 (d := ⟨("Sum", some "__init__"), "__init__", "Sum.__init__", defArgs m_Sum_init, defBody m_Sum_init, defScope m_Sum_init, [], []⟩) rfl
    f_Sum_names := c.d.def_ 12 (d := ⟨("Sum", some "names"), "names", "Sum.names", defArgs m_Sum_names, defBody m_Sum_names, defScope m_Sum_names, [], []⟩) rfl
    f_Statement_init := c.d.def_ 13 (d := ⟨("Statement", some "__init__"), "__init__", "Statement.__init__", defArgs m_Statement_init, defBody m_Statement_init, defScope m_Statement_init, [], []⟩) rfl
    f_Statement_looked_at := c.d.def_ 14 (d := ⟨("Statement", some "looked_at"), "looked_at", "Statement.looked_at", defArgs m_Statement_looked_at, defBody m_Statement_looked_at, defScope m_Statement_looked_at, [], []⟩) rfl
    f_Program_init := c.d.def_ 15 (d := ⟨("Program", some "__init__"), "__init__", "Program.__init__", defArgs m_Program_init, defBody m_Program_init, defScope m_Program_init, [], []⟩) rfl
    f_Store_init := c.d.def_ 16 (d := ⟨("Store", some "__init__"), "__init__", "Store.__init__", defArgs m_Store_init, defBody m_Store_init, defScope m_Store_init, [], []⟩) rfl
    f_Store_eq := c.d.def_ 17 (d := ⟨("Store", some "__eq__"), "__eq__", "Store.__eq__", defArgs m_Store_eq, defBody m_Store_eq, defScope m_Store_eq, [], []⟩) rfl
    f_Store_len := c.d.def_ 18 (d := ⟨("Store", some "__len__"), "__len__", "Store.__len__", defArgs m_Store_len, defBody m_Store_len, defScope m_Store_len, [], []⟩) rfl
    f_Store_contains := c.d.def_ 19 (d := ⟨("Store", some "__contains__"), "__contains__", "Store.__contains__", defArgs m_Store_contains, defBody m_Store_contains, defScope m_Store_contains, [], []⟩) rfl
    f_Store_getitem := c.d.def_ 20 (d := ⟨("Store", some "__getitem__"), "__getitem__", "Store.__getitem__", defArgs m_Store_getitem, defBody m_Store_getitem, defScope m_Store_getitem, [], []⟩) rfl
    f_Store_setitem := c.d.def_ 21 (d := ⟨("Store", some "__setitem__"), "__setitem__", "Store.__setitem__", defArgs m_Store_setitem, defBody m_Store_setitem, defScope m_Store_setitem, [], []⟩) rfl
    f_Store_worth_of := c.d.def_ 22 (d := ⟨("Store", some "worth_of"), "worth_of", "Store.worth_of", defArgs m_Store_worth_of, defBody m_Store_worth_of, defScope m_Store_worth_of, [], []⟩) rfl
    f_Store_let_be := c.d.def_ 23 (d := ⟨("Store", some "let_be"), "let_be", "Store.let_be", defArgs m_Store_let_be, defBody m_Store_let_be, defScope m_Store_let_be, [], []⟩) rfl
    f_Store_drop := c.d.def_ 24 (d := ⟨("Store", some "drop"), "drop", "Store.drop", defArgs m_Store_drop, defBody m_Store_drop, defScope m_Store_drop, [], []⟩) rfl
    f_Line_init := c.d.def_ 25 (d := ⟨("Line", some "__init__"), "__init__", "Line.__init__", defArgs m_Line_init, defBody m_Line_init, defScope m_Line_init, [], []⟩) rfl
    f_Page_init := c.d.def_ 26 (d := ⟨("Page", some "__init__"), "__init__", "Page.__init__", defArgs m_Page_init, defBody m_Page_init, defScope m_Page_init, [], []⟩) rfl
    f_is_new_name := c.d.def_ 27 (d := ⟨("is_new_name", none), "is_new_name", "is_new_name", defArgs d_is_new_name, defBody d_is_new_name, defScope d_is_new_name, [], []⟩) rfl
    f_key_in := c.d.def_ 28 (d := ⟨("key_in", none), "key_in", "key_in", defArgs d_key_in, defBody d_key_in, defScope d_key_in, [], []⟩) rfl
    f_many_stores := c.d.def_ 29 (d := ⟨("many_stores", none), "many_stores", "many_stores", defArgs d_many_stores, defBody d_many_stores, defScope d_many_stores, [], []⟩) rfl
    f_program_in := c.d.def_ 30 (d := ⟨("program_in", none), "program_in", "program_in", defArgs d_program_in, defBody d_program_in, defScope d_program_in, [], []⟩) rfl
    f_part_in := c.d.def_ 31 (d := ⟨("part_in", none), "part_in", "part_in", defArgs d_part_in, defBody d_part_in, defScope d_part_in, [], []⟩) rfl
    f_sum_in := c.d.def_ 32 (d := ⟨("sum_in", none), "sum_in", "sum_in", defArgs d_sum_in, defBody d_sum_in, defScope d_sum_in, [], []⟩) rfl
    f_statement_in := c.d.def_ 33 (d := ⟨("statement_in", none), "statement_in", "statement_in", defArgs d_statement_in, defBody d_statement_in, defScope d_statement_in, [], []⟩) rfl
    f_Reader_init := c.d.def_ 34 (d := ⟨("Reader", some "__init__"), "__init__", "Reader.__init__", defArgs m_Reader_init, defBody m_Reader_init, defScope m_Reader_init, [], []⟩) rfl
    f_Reader_coming := c.d.def_ 35 (d := ⟨("Reader", some "coming"), "coming", "Reader.coming", defArgs m_Reader_coming, defBody m_Reader_coming, defScope m_Reader_coming, [], []⟩) rfl
    f_Reader_page := c.d.def_ 36 (d := ⟨("Reader", some "page"), "page", "Reader.page", defArgs m_Reader_page, defBody m_Reader_page, defScope m_Reader_page, [], []⟩) rfl
    f_Reader_keys_told := c.d.def_ 37 (d := ⟨("Reader", some "keys_told"), "keys_told", "Reader.keys_told", defArgs m_Reader_keys_told, defBody m_Reader_keys_told, defScope m_Reader_keys_told, [], []⟩) rfl
    f_Reader_groups_told := c.d.def_ 38 (d := ⟨("Reader", some "groups_told"), "groups_told", "Reader.groups_told", defArgs m_Reader_groups_told, defBody m_Reader_groups_told, defScope m_Reader_groups_told, [], []⟩) rfl
    f_Reader_deeds_told := c.d.def_ 39 (d := ⟨("Reader", some "deeds_told"), "deeds_told", "Reader.deeds_told", defArgs m_Reader_deeds_told, defBody m_Reader_deeds_told, defScope m_Reader_deeds_told, [], []⟩) rfl
    f_Reader_block_read := c.d.def_ 40 (d := ⟨("Reader", some "block_read"), "block_read", "Reader.block_read", defArgs m_Reader_block_read, defBody m_Reader_block_read, defScope m_Reader_block_read, [], []⟩) rfl
    f_Reader_statement := c.d.def_ 41 (d := ⟨("Reader", some "statement"), "statement", "Reader.statement", defArgs m_Reader_statement, defBody m_Reader_statement, defScope m_Reader_statement, [], []⟩) rfl
    f_Reader_is_deeper := c.d.def_ 42 (d := ⟨("Reader", some "is_deeper"), "is_deeper", "Reader.is_deeper", defArgs m_Reader_is_deeper, defBody m_Reader_is_deeper, defScope m_Reader_is_deeper, [], []⟩) rfl
    f_page_in := c.d.def_ 43 (d := ⟨("page_in", none), "page_in", "page_in", defArgs d_page_in, defBody d_page_in, defScope d_page_in, [], []⟩) rfl
    f_Names_init := c.d.def_ 44 (d := ⟨("Names", some "__init__"), "__init__", "Names.__init__", defArgs m_Names_init, defBody m_Names_init, defScope m_Names_init, [], []⟩) rfl
    f_Names_with_rounds := c.d.def_ 45 (d := ⟨("Names", some "with_rounds"), "with_rounds", "Names.with_rounds", defArgs m_Names_with_rounds, defBody m_Names_with_rounds, defScope m_Names_with_rounds, [], []⟩) rfl
    f_Names_keys_by := c.d.def_ 46 (d := ⟨("Names", some "keys_by"), "keys_by", "Names.keys_by", defArgs m_Names_keys_by, defBody m_Names_keys_by, defScope m_Names_keys_by, [], []⟩) rfl
    f_Names_is_named := c.d.def_ 47 (d := ⟨("Names", some "is_named"), "is_named", "Names.is_named", defArgs m_Names_is_named, defBody m_Names_is_named, defScope m_Names_is_named, [], []⟩) rfl
    f_Names_is_downward := c.d.def_ 48 (d := ⟨("Names", some "is_downward"), "is_downward", "Names.is_downward", defArgs m_Names_is_downward, defBody m_Names_is_downward, defScope m_Names_is_downward, [], []⟩) rfl
    f_check_page := c.d.def_ 49 (d := ⟨("check_page", none), "check_page", "check_page", defArgs d_check_page, defBody d_check_page, defScope d_check_page, [], []⟩) rfl
    f_all_stores := c.d.def_ 50 (d := ⟨("all_stores", none), "all_stores", "all_stores", defArgs d_all_stores, defBody d_all_stores, defScope d_all_stores, [], []⟩) rfl
    f_Book_init := c.d.def_ 51 (d := ⟨("Book", some "__init__"), "__init__", "Book.__init__", defArgs m_Book_init, defBody m_Book_init, defScope m_Book_init, [], []⟩) rfl
    f_Book_eq := c.d.def_ 52 (d := ⟨("Book", some "__eq__"), "__eq__", "Book.__eq__", defArgs m_Book_eq, defBody m_Book_eq, defScope m_Book_eq, [], []⟩) rfl
    f_Book_place_of := c.d.def_ 53 (d := ⟨("Book", some "place_of"), "place_of", "Book.place_of", defArgs m_Book_place_of, defBody m_Book_place_of, defScope m_Book_place_of, [], []⟩) rfl
    f_law_pot := c.d.def_ 54 (d := ⟨("_law_pot", none), "_law_pot", "_law_pot", defArgs d_law_pot, defBody d_law_pot, defScope d_law_pot, [], []⟩) rfl
    f_law_take := c.d.def_ 55 (d := ⟨("_law_take", none), "_law_take", "_law_take", defArgs d_law_take, defBody d_law_take, defScope d_law_take, [], []⟩) rfl
    f_law_of := c.d.def_ 56 (d := ⟨("_law_of", none), "_law_of", "_law_of", defArgs d_law_of, defBody d_law_of, defScope d_law_of, [], []⟩) rfl
    f_law_unlike := c.d.def_ 57 (d := ⟨("_law_unlike", none), "_law_unlike", "_law_unlike", defArgs d_law_unlike, defBody d_law_unlike, defScope d_law_unlike, [], []⟩) rfl
    f_law_names := c.d.def_ 58 (d := ⟨("_law_names", none), "_law_names", "_law_names", defArgs d_law_names, defBody d_law_names, defScope d_law_names, [], []⟩) rfl
    f_law_keys := c.d.def_ 59 (d := ⟨("_law_keys", none), "_law_keys", "_law_keys", defArgs d_law_keys, defBody d_law_keys, defScope d_law_keys, [], []⟩) rfl
    f_law_heard := c.d.def_ 60 (d := ⟨("_law_heard", none), "_law_heard", "_law_heard", defArgs d_law_heard, defBody d_law_heard, defScope d_law_heard, [], []⟩) rfl
    f_law_page := c.d.def_ 61 (d := ⟨("_law_page", none), "_law_page", "_law_page", defArgs d_law_page, defBody d_law_page, defScope d_law_page, [], []⟩) rfl
    f_law_worths := c.d.def_ 62 (d := ⟨("_law_worths", none), "_law_worths", "_law_worths", defArgs d_law_worths, defBody d_law_worths, defScope d_law_worths, [], []⟩) rfl
    f_law_let := c.d.def_ 63 (d := ⟨("_law_let", none), "_law_let", "_law_let", defArgs d_law_let, defBody d_law_let, defScope d_law_let, [], []⟩) rfl
    f_law_due := c.d.def_ 64 (d := ⟨("_law_due", none), "_law_due", "_law_due", defArgs d_law_due, defBody d_law_due, defScope d_law_due, [], []⟩) rfl
    f_law_turn := c.d.def_ 65 (d := ⟨("_law_turn", none), "_law_turn", "_law_turn", defArgs d_law_turn, defBody d_law_turn, defScope d_law_turn, [], []⟩) rfl
    f_law_is_told := c.d.def_ 66 (d := ⟨("_law_is_told", none), "_law_is_told", "_law_is_told", defArgs d_law_is_told, defBody d_law_is_told, defScope d_law_is_told, [], []⟩) rfl
    f_law_refused_right := c.d.def_ 67 (d := ⟨("_law_refused_right", none), "_law_refused_right", "_law_refused_right", defArgs d_law_refused_right, defBody d_law_refused_right, defScope d_law_refused_right, [], []⟩) rfl
    f_law_unlike_right := c.d.def_ 68 (d := ⟨("_law_unlike_right", none), "_law_unlike_right", "_law_unlike_right", defArgs d_law_unlike_right, defBody d_law_unlike_right, defScope d_law_unlike_right, [], []⟩) rfl
    f_law_right := c.d.def_ 69 (d := ⟨("_law_right", none), "_law_right", "_law_right", defArgs d_law_right, defBody d_law_right, defScope d_law_right, [], []⟩) rfl
    f_law := c.d.def_ 70 (d := ⟨("law", none), "law", "law", defArgs d_law, defBody d_law, defScope d_law, [], []⟩) rfl
  }
theorem hEr {w : World} (T : Pr K mg) (c : SaysY hW h K) (base : Heap) : Er PG w K mg base := by
  obtain ⟨xe, _, _, _⟩ := hEx_ok c.x
  obtain ⟨fdI, tI, GI, bI⟩ := hInit (w := w) (mg := mg) c.i (T.fre "super" (by decide +kernel)) xe.i xe.d.k.c xe.t
  exact {
    m := fun x hx => ⟨(xe.e x hx).c, hIni K, fdI, (xe.e x hx).i, tI, GI base, bI⟩
    k := fun x hx => (xe.e x hx).k
    kit := xe.k
    exm := xe.x }
theorem hGd (c : SaysY hW h K) {base : Heap} (tb : ∀ p ∈ hTf, LamX.TabB base mg (He.cT K p).1 (He.cT K p).2) : Gd K mg base := by
  obtain ⟨xe, _, _, xl⟩ := hEx_ok c.x
  exact ⟨tb, of_decide_eq_true xl, xe.s⟩
theorem tabs0 {H : Hp} (e : ∀ p ∈ hTf, H (He.cT K p).2 = some (.tbl #[])) : LamX.Tabs (lamT K) H := by
  have z : ∀ {P : Addr} {q : Str}, H P = some (.tbl #[]) → LamX.TabS H P q := fun {P q} e => by
    refine ⟨#[], e, ?_, fun pos cv hc => ?_⟩
    · first | trivial | exact trivial | simp [PySem.W.TriplesOk] | decide
    · first | cases hc | exact absurd hc (by simp)
  intro p hp
  unfold lamT at hp
  simp only [List.mem_cons, List.not_mem_nil, or_false] at hp
  rcases hp with rfl | rfl
  · exact z (e _ (List.mem_cons_self ..))
  · exact z (e _ (List.mem_cons_of_mem _ (List.mem_cons_self ..)))
theorem hLaw {w : World} {fa : Addr} (X : K.In h) (G : h.Ns mainGlobals mg) (hfa : mg ("law" : Str) = some (.ref fa)) (c : SaysY hW h K) : LawG PySem.Challenge.rw_onlytell_k05_stores_by_own_ledger w K CX0 14 63 "_law_script" mg fa h := by
  have T := hPr X G c
  obtain ⟨fd, F⟩ := T.f_law
  have e := hfa.symm.trans (T.glo "law" (by decide +kernel))
  cases e
  have b := FunD.bindsA (ps := ["_law_script"]) F fun _ _ _ _ _ _ us hl => match us, hl with | [_], _ => rfl
  refine ⟨fd, hTf.map fun p => He.cT K p, spLaw K, ⟨fun p hp => ?_, fun p hp => ?_, fun p hp => ?_⟩, fun s v => b s [v] rfl, fun H a ns hl hH hS => ⟨a, ns, rfl, hS, hl, tabs0 fun p hp => hH _ (List.mem_map_of_mem hp), fun _ => rfl⟩, fun base _ _ tb => fnG_law T (hEr T c base) (hGd c fun p hp => tb _ (List.mem_map_of_mem hp)) F⟩
  · obtain ⟨q, hq, rfl⟩ := List.mem_map.mp hp
    exact c.em q hq
  · obtain ⟨q, hq, rfl⟩ := List.mem_map.mp hp
    exact c.no q hq
  · obtain ⟨q, hq, rfl⟩ := List.mem_map.mp hp
    exact PySem.W.codeHd_of_K X (c.hd q hq)
end
end KP
open PySem PySem.W PySem.Calls PyProof.Rows
theorem PySem.Challenge.cw_onlytell_k05_stores_by_own_ledger_holds : PySem.Challenge.rw_onlytell_k05_stores_by_own_ledger.Holds := by
  w_on; o_law
  refine HandSHeadRun.head_any (r := OpenLaw.row PySem.Challenge.rw_onlytell_k05_stores_by_own_ledger) (q := view (OpenLaw.row PySem.Challenge.rw_onlytell_k05_stores_by_own_ledger).prog [139]) (H := KP.hHk) (ob := KP.hOb) (M := 60000) (loose := KP.gLoose) (d := HandSHeadRun.topDef (OpenLaw.row PySem.Challenge.rw_onlytell_k05_stores_by_own_ledger).prog 139) (kwd := []) KP.hOb_eq
    (by kernel_rfl) (fun s => by kernel_rfl) KP.hRun (by kernel_rfl) (by kernel_rfl) (by kernel_rfl) (by rfl) (by first | assumption | decide +kernel) (by decide +kernel) ⟨rfl, rfl, rfl, rfl, rfl, by decide +kernel⟩ ?hw ?hc
  case hw => w_witness2
  case hc =>
    refine G137.walk_ofTG (l := PySem.Challenge.rw_onlytell_k05_stores_by_own_ledger) (n := 63) (k := 14) (x := "_law_script") (CX := L2.CX0) rfl (by decide) (by kernel_rfl) ⟨rfl, by decide, by decide⟩ ?F (fun _ _ _ _ z => z)
    intro w mg fa h Y G hmg0
    obtain ⟨K, KX, c⟩ := Y
    have hmg : mg ("law" : PySem.Str) = some (.ref fa) := by
      have e : (HandSHeadRun.topDef (OpenLaw.row PySem.Challenge.rw_onlytell_k05_stores_by_own_ledger).prog 139).name = ("law" : PySem.Str) := by kernel_rfl
      rw [← e]
      exact hmg0
    exact ⟨K, KX, KP.hLaw KX G hmg c⟩
