import PyProof.Rows.All
import Wide.All
import OpenK.AllK
import Wide.FinOn
import KE.KExcSuper
import HandS.ForMost
import HandS.Exc
import HandS.ExcInit
import HandS.ExcSuper
import HandS.ClsMeth
import HandS.HotCalls
import HandS.ExcField
import HandS.ExcOwn
import HandS.Defaults
import HandS.TryMany
import KE.KExcIs
import HandS.OwnEq
import KE.KCallOwn
import KE.KOpsOwn
import PyProof.CollectWalk
import PyProof.StrWalks
import PyProof.ListStr
import HandS.IterNext
import HandS.Walk
import PyProof.WalksEnum
import PyProof.Draws
import HandS.OwnIter
import HandS.Style
import HandS.SetFor
import HandS.FltList
import HandS.MakeKwOnly
import HandS.RaiseMore
import HandS.Small
import HandS.FStr
import PyProof.Rows.StrRev
import HandS.IsInst
import HandS.Conv
import HandS.Sort
import HandS.WordsExc
import HandS.Evl
import KE.KStateDown
import HandS.Ends
import HandS.Words
import HandS.Head0
import HandS.Head1
import HandS.Head2
import HandS.HeadEnd
import HandS.HeadHook1
import HandS.HeadHook2
import HandS.HeadHook3
import PySem.Challenge.RW_manyclerks_k02_texts_open_and_closed
set_option Elab.async false
set_option linter.all false
set_option maxRecDepth 100000
set_option maxHeartbeats 4000000
/-! MB1: an own exception class over ValueError, through any bases of the text, whose __init__ begins with super().__init__(..) -/
namespace MC
open PySem PySem.Spec PyProof.Rows L2

section
variable {prog : Program} {w : World} {A : Around} {E : Value → Shared → Prop} {h : Heap} {g : Array GenState} {d : Drawn} {t : Nat} {os : OsState}
variable {nm q : Str} {C N : Addr} {bs bm : List Value} {hdct : Bool} {sn : List Str} {sub : List Value} {ab : Bool} {col : Option Bool} {dd : Option Addr} {k0 k1 k2 k3 k5 : Option Value}
/-- the bound ValueError.__init__ is called -/
theorem call_mw {u e t0 : Addr} {rest : List Value} {Q : Value → Shared → Prop}
    (hC : h.get? C = some (excClassObj nm q C N bs bm hdct sn sub ab col dd k0 k1 k2 k3 k5 "ValueError.__new__")) (he : h.get? e = some (PySem.HandSPX.excO C t0)) (hu : h.get? u = some (PySem.W.kxs_mw "ValueError.__init__" e)) (hrest : rest.length ≤ sizeLine)
    (hq : ∀ h' t1, (∀ b o, b ≠ e → h.get? b = some o → h'.get? b = some o) → h'.get? e = some (PySem.HandSPX.excO C t1) → Q .none ⟨h', g, d, t, os⟩) :
    wpAny (model prog w) A (call (.ref u) rest) Q E ⟨h, g, d, t, os⟩ := by
  refine wpAny_call (codeAny_of_tree ?_)
  show wpAny _ A.in1 (callAny (.ref u) ⟨rest, []⟩) _ _ _
  simp only [callAny]
  refine wpAny_bind (wpAny_load hu ?_)
  simp only [PySem.W.kxs_mw, show (Value.type "method-wrapper" == Value.type "method" || Value.type "method-wrapper" == Value.type "builtin_function_or_method" || Value.type "method-wrapper" == Value.type "method-wrapper") = true by decide, if_true]
  refine PySem.W.KFB.if_so (by decide) ?_
  refine wpAny_bind (PySem.ESX.check_bound PySem.F.excBase_ValueError hC he rfl ?_)
  refine wpAny_bind (wpAny_pure (wpAny_pure ?_))
  refine ⟨plainId_quiet PySem.F.excBase_ValueError.init.plain _, codeAny_builtin PySem.F.excBase_ValueError.initEntry ?_⟩
  exact PySem.W.exc_init_tree (cls := .ref C) (t0 := t0) (dv := none) (c2 := .none) (c3 := .none) (b4 := .bool false) he hrest fun h' k e' _ => hq h' _ k e'
end

section
open PySem.W
variable {M : Model} {A : Around} {E : Value → Shared → Prop} {s : Shared} {i : String} {u x : Addr}
theorem mw_callWith1 {pos : Pos} {env : Env} {e : Expr} {rest : List Expr} {Q : Value → Shared → Prop}
    (h : wpAny M A (spliced (backTo pos (starEach (e :: rest) env))) (fun vs s₁ => KxsAt i u x s₁.heap ∧ wpAny M A (call (.ref u) vs) Q E s₁) E s)
    (he : starEach (e :: rest) env = (false, eval e env) :: starEach rest env) (hplain : (backTo pos (starEach rest env)).any (·.1) = false) :
    wpAny M A (callWith pos (.ref u) [] (backTo pos (starEach (e :: rest) env)) []) Q E s := by
  rw [he] at h ⊢
  refine kxs_callWith (i := i) (x := x) (by show (false || (backTo pos (starEach rest env)).any (·.1)) = false; rw [hplain]; rfl) ?_
  exact PySem.Calls.evalArgs_plain h
end

/-! ### the def -/
/-- names of an __init__ that says super(): __class__ is free, super is a global's name, all others are its own -/
structure SupScope (N P : List Str) (sc : Scope) : Prop where
  kind : sc.kind = .function
  co : sc.isCoroutine = false
  gen : sc.isGenerator = false
  nd : N.Nodup
  pre : N.take P.length = P
  par : ∀ x ∈ P, sc.names.lookup x = some .local
  nocell : ∀ y ∈ sc.names, y.2 ≠ .cell
  one : ∀ y ∈ sc.names, y.2 = .free → y.1 = "__class__"
  cls : sc.names.lookup ("__class__" : Str) = some .free
  sup : sc.names.lookup ("super" : Str) = some .globalImplicit

/-- such a def as it stands behind the top: D is the class in its cell cc -/
structure SupF (P : Program) (K : PySem.W.Frag) (x qual : Str) (params : Arguments) (body : List Stmt) (scope : Scope) (f : Addr) (fd : FuncData) (D cc : Addr) : Prop where
  ex : ∃ (oc : Value) (od : Option Addr) (dV kV doc pm : Value) (an : Option Addr) (cda : Addr) (ct : Value) (osl : Array (Option Value)),
    fd = PySem.W.ksFn x qual params body scope dV kV doc pm an (.ref cda) ct cc ∧ K.lookup f = some ⟨oc, od, .func fd, osl⟩ ∧ PySem.W.codeIn K (.ref cda) qual = true ∧
      ∃ (ccl : Value) (cdd : Option Addr) (vs : Array Value) (ccs : Array (Option Value)) (file : Str) (tf : Tok), K.lookup cda = some ⟨ccl, cdd, .fields vs, ccs⟩ ∧ vs[2]? = some (.str file tf) ∧ ((P.main.file : Str) == file) = true
  cell : ∃ (cl : Value) (cld : Option Addr) (csl : Array (Option Value)), K.lookup cc = some ⟨cl, cld, .cell (some (.ref D)), csl⟩
  kp : PySem.W.keepIn K (.ref f) = true

/-- what of the text super() in an exception's __init__ looks at -/
structure SupC (P : Program) (K : PySem.W.Frag) (mg : Str → Option Value) (C : Addr) : Prop where
  oex : OexC K C
  opq : PySem.W.nsIn K cStatics "thirdparty.any" = some none
  ini : ∃ cd bm, PySem.W.clsIn K C = some cd ∧ cd.mro = .ref C :: bm ∧ PySem.W.alongIn K "__init__" bm = some (some (.builtin "ValueError.__init__"))
  sub : PySem.W.subIn K (.ref C) (.type "ValueError") = some true
  self : PySem.W.mroIn K C (.ref C) = some true
  nosup : mg "super" = none
  top : (P.main.scope.names.lookup ("super" : Str)).isSome = false

/-- the context of its body -/
def cxS (CX : CXT) (P : Program) (w : World) (K : PySem.W.Frag) (mg : Str → Option Value) (base : Heap) (N : List Str) (qual : Str) (scope : Scope) (f cc : Addr) (cd : Value) (A : Around) (outer : List Env) (s : Shared) (H : Hp) (E : XK) : Cx where
  prog := P
  w := w
  K := K
  mg := mg
  base := base
  A := A.deeper (PySem.W.ksEnv qual scope s.heap.objs.size f cd cc)
  N := N
  s_0 := s
  H_0 := H
  env := PySem.W.ksEnv qual scope s.heap.objs.size f cd cc
  outer := outer
  stack := PySem.W.ksEnv qual scope s.heap.objs.size f cd cc :: outer
  ex := []
  calm := true
  fn := fun _ => false
  pn := []
  xe := fun e s' => wpAny (model P w) (A.deeper (PySem.W.ksEnv qual scope s.heap.objs.size f cd cc)) (leaving (PySem.W.ksEnv qual scope s.heap.objs.size f cd cc) e) (fun _ s'' => CX outer H s E e s'') (fun e' s'' => CX outer H s E e' s'') s'

theorem zip_fst_sub : ∀ (P : List Str) (us : List Value), ((P.zip us).map (·.1)).Sublist P
  | [], _ => by simp
  | _ :: _, [] => by simp
  | p :: P, u :: us => by
    rw [List.zip_cons_cons, List.map_cons]
    exact (zip_fst_sub P us).cons_cons _
theorem zip_rev_lookup : ∀ {P : List Str} {us : List Value} {i : Nat} {x : Str} {u : Value}, P.Nodup → P[i]? = some x → us[i]? = some u → (P.zip us).reverse.lookup x = some u := by
  intro P us i x u hn hp hu
  have hm : (x, u) ∈ P.zip us := by
    refine List.mem_of_getElem? (i := i) ?_
    rw [List.getElem?_zip_eq_some]
    exact ⟨hp, hu⟩
  have uniq : ∀ (l : List (Str × Value)), (l.map (·.1)).Nodup → (x, u) ∈ l → l.lookup x = some u := by
    intro l
    induction l with
    | nil => intro _ h; cases h
    | cons a r ih =>
      intro hnd h
      obtain ⟨a1, a2⟩ := a
      rw [List.map_cons, List.nodup_cons] at hnd
      rw [List.lookup_cons]
      rcases List.mem_cons.mp h with e | h
      · cases e
        rw [beq_self_eq_true]
      · have ne : (x == a1) = false := by
          refine beq_eq_false_iff_ne.mpr fun e => hnd.1 ?_
          rw [← e]
          exact List.mem_map.mpr ⟨(x, u), h, rfl⟩
        rw [ne]
        exact ih hnd.2 h
  refine uniq _ ?_ (List.mem_reverse.mpr hm)
  rw [List.map_reverse]
  exact List.pairwise_reverse.mpr ((hn.sublist (zip_fst_sub P us)).imp fun h e => h e.symm)

theorem inv_sup {CX : CXT} {P : Program} {w : World} {K : PySem.W.Frag} {mg : Str → Option Value} {base : Heap} {N ps : List Str} {qual : Str} {scope : Scope} {f cc D : Addr} {cd : Value} {A : Around} {outer : List Env} {s : Shared} {H : Hp} {E : XK} {us : List Value} {vs : List V} {h₀ : Heap} {tk : Nat}
    (S : SupScope N ps scope) (hd : A.handled = none) (e0 : Env0 P w K mg base A outer s H) (hl : vs.length = ps.length) (r : Vals vs us)
    (hc : ∃ (cl : Value) (cld : Option Addr) (csl : Array (Option Value)), K.lookup cc = some ⟨cl, cld, .cell (some (.ref D)), csl⟩)
    (hns : h₀.Ns s.heap.objs.size (fun x => (ps.zip us).reverse.lookup x)) (hk : ∀ b o, s.heap.get? b = some o → h₀.get? b = some o) :
    Inv (cxS CX P w K mg base N qual scope f cc cd A outer s H E) [] (start N vs) H { s with heap := h₀, toks := tk } := by
  have hpl : ps.length ≤ N.length := by have := congrArg List.length S.pre; rw [List.length_take] at this; omega
  have noA : ∀ b : Addr, b ∉ (cxS CX P w K mg base N qual scope f cc cd A outer s H E).ex := fun b z => absurd (show b ∈ ([] : List Addr) from z) (by simp)
  obtain ⟨cl, cld, csl, hcc⟩ := hc
  have hb : base.get? cc = some ⟨cl, cld, .cell (some (.ref D)), csl⟩ := e0.mod.kin _ _ hcc
  have cell1 : ∀ x c, (cxS CX P w K mg base N qual scope f cc cd A outer s H E).env.cells.lookup x = some c → x = "__class__" ∧ c = cc := fun x c e => by
    have e' : (match x == ("__class__" : Str) with | true => some cc | false => ([] : List (Str × Addr)).lookup x) = some c := e
    cases q : (x == ("__class__" : Str)) with
    | true =>
      rw [q] at e'
      exact ⟨beq_iff_eq.mp q, (Option.some.inj e').symm⟩
    | false =>
      rw [q] at e'
      cases e'
  refine ⟨⟨e0.mod, S.kind, rfl, rfl, Nat.le_refl _, fun y z c h1 h2 => (cell1 y c h1).1.trans (cell1 z c h2).1.symm, fun y hy => ?_, fun y c hf _ => Bool.noConfusion hf, fun _ => hd, Around.frames_deeper e0.frames, .inr ⟨rfl, rfl⟩, fun b z => absurd z (noA b), e0.bs, e0.bsz, fun b _ _ => noA b, fun b z => absurd z (noA b), e0.funs, e0.frf⟩,
    rfl, e0.bare, Un.kept hk, ⟨_, hns, fun i y v h1 h2 h3 => ?_⟩, fun y c h => ⟨some (.ref D), ?_⟩, e0.hok.fresh (Nat.le_refl _), fun y c h => ?_, fun p hp => absurd (show p ∈ ([] : List (Addr × Obj)) from hp) (by simp), e0.hok.kept hk, ?_⟩
  · have hy : scope.names.lookup y = some .cell ∨ scope.names.lookup y = some .free := hy
    rcases hy with hy | hy
    · exact absurd rfl (S.nocell _ (PySem.mem_of_lookup hy))
    · have e := S.one _ (PySem.mem_of_lookup hy) rfl
      refine ⟨cc, ?_⟩
      show (match y == ("__class__" : Str) with | true => some cc | false => ([] : List (Str × Addr)).lookup y) = some cc
      rw [show (y == ("__class__" : Str)) = true from beq_iff_eq.mpr e]
  · have hi : i < vs.length := by
      unfold L2.start at h2
      by_cases hi : i < vs.length
      · exact hi
      · rw [List.getElem?_append_right (by simpa using hi)] at h2
        rw [List.getElem?_replicate] at h2
        split at h2 <;> cases h2
    have ha : vs[i]? = some v := by
      unfold L2.start at h2
      rw [List.getElem?_append_left (by simpa using hi), List.getElem?_map] at h2
      cases e : vs[i]? with
      | none => rw [e] at h2; cases h2
      | some a => rw [e] at h2; cases h2; rfl
    obtain ⟨u, hu, rv⟩ := r.get ha
    have hp : ps[i]? = some y := by
      rw [← S.pre, List.getElem?_take_of_lt (by omega)]; exact h1
    have ndP : ps.Nodup := by rw [← S.pre]; exact S.nd.sublist (List.take_sublist _ _)
    exact ⟨u, rv, .inl ⟨S.par y (List.mem_of_getElem? hp), zip_rev_lookup ndP hp hu⟩⟩
  · obtain ⟨_, rfl⟩ := cell1 y c h
    exact ⟨_, hk _ _ (e0.bs _ _ hb).1, rfl⟩
  · obtain ⟨_, rfl⟩ := cell1 y c h
    exact (e0.bs _ _ hb).2
  · unfold L2.start
    show _ = N.length
    rw [List.length_append, List.length_map, List.length_replicate]
    omega

/-- super().__init__(e, ..), then the rest of the body -/
theorem fn_sup {CX : CXT} {P : Program} {w : World} {K : PySem.W.Frag} {mg : Str → Option Value} {base : Heap} {k : Nat} {f cc C : Addr} {fd : FuncData} {name qual : Str} {params : Arguments} {scope : Scope} {e : Expr} {es : List Expr} {rest : List Stmt} {p0 p1 p2 p3 p4 : Pos} {ar : Arg} {N ps : List Str} {sp : Sp} {pl : Env → Sem Bool}
    (F : SupF P K name qual params (.Expr (.Call (.Attribute (.Call (.Name "super" p0) [] [] p1) "__init__" p2) (e :: es) [] p3) p4 :: rest) scope f fd C cc) (S : SupScope N ps scope)
    (hp : (params.posonlyargs ++ params.args).head? = some ar) (hN : N[0]? = some ar.arg) (h0 : ps ≠ []) (T : SupC P K mg C)
    (len : ∀ vs H Q E, sp vs H Q E → vs.length = ps.length)
    (hbody : ∀ (cd : Value) (A : Around) (outer : List Env) (s : Shared) (H : Hp) (vs : List V) (Q : VK) (E : XK), Room k (A.deeper (PySem.W.ksEnv qual scope s.heap.objs.size f cd cc)) → sp vs H Q E →
      ∃ (ta : TA) (t : TS) (a : Addr), PA (cxS CX P w K mg base N qual scope f cc cd A outer s H E) (e :: es) ta ∧ PSs (cxS CX P w K mg base N qual scope f cc cd A outer s H E) rest t ∧ vs.head? = some (.ref a) ∧ H a = some (exo a C none) ∧
        ta (start N vs) H (fun ws H1 => ws.length ≤ 1000 ∧ H1 a = some (exo a C none) ∧ t { nx := fun _ H' => Q .non H', rt := Q } (start N vs) H1))
    (he : ∀ env, starEach (e :: es) env = (false, eval e env) :: starEach es env := by intro _; rfl) (hpl : ∀ env, (backTo p3 (starEach es env)).any (·.1) = false := by intro _; rfl)
    (hev : ∀ env, eval (.Call (.Attribute (.Call (.Name "super" p0) [] [] p1) "__init__" p2) (e :: es) [] p3) env = (do
      let ov ← attributeBase (.Call (.Name "super" p0) [] [] p1) "__init__" env (eval (.Call (.Name "super" p0) [] [] p1) env)
      standAt p2.atName
      let (f, first) ← holding [ov] (getMethod ov "__init__" (pl env))
      callWith p3 f first (backTo p3 (starEach (e :: es) env)) []) := by intro _; rfl) :
    FnOk P w K mg base CX (k + 1) f fd ps sp := by
  obtain ⟨oc, od, dV, kV, doc, pm, an, cda, ct, osl, rfl, lk, hcd, ccl, cdd, vs2, ccs, file, tf, hcode, hvs, hfile⟩ := F.ex
  obtain ⟨cl, cld, csl, hcell⟩ := F.cell
  refine ⟨len, fun A outer s H args us vs Q E hr e0 hb r hsp => ?_⟩
  have hl := len _ _ _ _ hsp
  have KX : K.In s.heap := e0.mod.kin.keeps fun b o e => (e0.bs b o e).1
  have lim : s.heap.NoLimit := e0.mod.nolimit.keeps fun b o e => (e0.bs b o e).1
  have hloc : ∀ y ∈ ps.zip us, scope.names.lookup y.1 = some .local := fun ⟨n, v⟩ hy => S.par n (List.of_mem_zip hy).1
  refine ks_codeAny_call_defAt (fd := PySem.W.ksFn name qual params (.Expr (.Call (.Attribute (.Call (.Name "super" p0) [] [] p1) "__init__" p2) (e :: es) [] p3) p4 :: rest) scope dV kV doc pm an (.ref cda) ct cc) hr.depth (KX _ _ lk) rfl lim (PySem.W.codeRec_of KX hcd) rfl hb S.nocell hloc (fun h₀ hns hk => ?_) S.co S.gen S.kind
  obtain ⟨ta, t, a, hta, ht, hv0, ha, hq⟩ := hbody (.ref cda) A outer s H vs Q E (hr.deeper _) hsp
  have I : Inv (cxS CX P w K mg base N qual scope f cc (.ref cda) A outer s H E) [] (L2.start N vs) H { s with heap := h₀, toks := s.toks + (ps.zip us).length } :=
    inv_sup S hr.hd e0 hl r F.cell hns hk
  have fin : ∀ {σ' : L2.St} {H' : Hp} {v : V} {u : Value} {s' : Shared}, Inv (cxS CX P w K mg base N qual scope f cc (.ref cda) A outer s H E) [] σ' H' s' → RelV v u → Q v H' → CE outer P w H s Q u s' :=
    fun {σ' H' v u s'} J rv q => ⟨v, H', J.os, J.bare, J.base, J.hok, rv, q⟩
  show PySem.wpAt (model P w) (A.deeper (PySem.W.ksEnv qual scope s.heap.objs.size f (.ref cda) cc)) (.func _ (PySem.W.ksEnv qual scope s.heap.objs.size f (.ref cda) cc)) (execs _ (PySem.W.ksEnv qual scope s.heap.objs.size f (.ref cda) cc)) _ _ _
  refine ks_wpAt_execs_cons (ks_wpAt_Expr_any (ks_wpAt_MethodCall (pl := pl _) ?_ (hev _)) I.quiet)
  obtain ⟨mb, hb1, hb2⟩ := I.mod.blt
  obtain ⟨cdC, bm, hcl, hmro, hal⟩ := T.ini
  obtain ⟨oC, hC1, hC2⟩ : ∃ oD, (h₀.get? C = some oD) ∧ oD.data = .cls cdC := by
    have hcl2 := hcl
    unfold PySem.W.clsIn at hcl2
    split at hcl2
    · rename_i c d cd' sl ho
      cases hcl2
      exact ⟨_, I.kIn _ _ ho, rfl⟩
    · cases hcl2
  obtain ⟨t1, hx⟩ := exo_at I.hok ha
  have hv : (fun x => (ps.zip us).reverse.lookup x) ar.arg = some (.ref a) := by
    cases vs with
    | nil => cases hv0
    | cons v vr =>
      have ev : v = .ref a := by simpa using hv0
      subst ev
      cases r with
      | @cons _ u0 _ ur ra rr =>
        obtain rfl : u0 = Value.ref a := ra
        have ndP : ps.Nodup := by rw [← S.pre]; exact S.nd.sublist (List.take_sublist _ _)
        cases ps with
        | nil => exact absurd rfl h0
        | cons p ps' =>
          have hp0 : p = ar.arg := by
            have e1 : (N.take (p :: ps').length)[0]? = some p := by rw [S.pre]; rfl
            rw [List.getElem?_take_of_lt (by simp)] at e1
            rw [hN] at e1
            exact (Option.some.inj e1).symm
          exact zip_rev_lookup (i := 0) ndP (by simp [hp0]) rfl
  have hpar : scope.names.lookup ar.arg = some .local := by
    cases ps with
    | nil => exact absurd rfl h0
    | cons p ps' =>
      have e1 : (N.take (p :: ps').length)[0]? = some p := by rw [S.pre]; rfl
      rw [List.getElem?_take_of_lt (by simp), hN] at e1
      cases e1
      exact S.par _ (List.mem_cons_self ..)
  refine ks_wpAt_super_base (f := f) (cc := cda) (ar := ar) S.sup S.cls (by decide) rfl (I.kIn _ _ lk) rfl hp rfl (I.kIn _ _ hcode) rfl hvs hfile T.top ?_
  refine PySem.W.ks_loadName_global S.kind S.sup (Calls.loadGlobal_builtin (I.mod.glob.keeps I.bk) T.nosup (hb1.keeps I.bk) ((hb2 _ (by decide)).trans (by decide +kernel)) ⟨rfl, ?_⟩)
  refine wpAny_loadName_free S.kind S.cls (c := cc) rfl ⟨_, I.kIn _ _ hcell, rfl⟩ ?_
  refine wpAny_loadName_local S.kind hpar hns hv ?_
  refine ks_wpAny_isType_cls hC1 hC2 ⟨rfl, ?_⟩
  refine ks_wpAny_call_super hC1 hC2 hx rfl (fun c z => nomatch z) (PySem.W.looks_mroIn I.kIn T.self) (fun h' hso k => ?_)
  have I1 : Inv (cxS CX P w K mg base N qual scope f cc (.ref cda) A outer s H E) [] (L2.start N vs) H { s with heap := h', toks := s.toks + (ps.zip us).length } := I.kept k
  have hlook : PySem.W.Looks (model P w) h' (mroOf (.ref C)) (.ref C :: bm) := fun A Q E s kp q => wpAny_bind ((PySem.W.looks_clsIn I1.kIn hcl) A _ E s kp (by rw [← hmro] at q; exact wpAny_pure q))
  have hxC : a ≠ C := fun z => by
    have h1 := I.kIn
    subst z
    rw [hx] at hC1
    cases hC1
    cases hC2
  have hin : PySem.W.Looks (model P w) h' (isInstance (.ref a) (.type "ValueError")) true := by
    have J : PySem.W.InstAt h' a (PySem.HandSPX.excO C t1) C none := ⟨k _ _ hx, rfl, rfl, trivial⟩
    exact J.type.andThen (PySem.W.looks_subIn I1.kIn T.sub)
  obtain ⟨sh, sg, sd, stk, sos⟩ := s
  refine PySem.W.kxs_getMethod PySem.W.kxs_ValueError hso (PySem.W.looks_opaque I1.kIn T.opq) hlook (PySem.ESX.drop_own C bm) I1.kIn hal hin hxC (by decide) ?_
  have I2 := ClX.pin_new (o := PySem.W.kxs_mw "ValueError.__init__" a) (h' := h'.push (PySem.W.kxs_mw "ValueError.__init__" a)) (a := h'.objs.size) (t' := stk + (ps.zip us).length + 1) I1 (fun b u z => Heap.get?_push_of_some _ z) (Nat.le_refl _) (Heap.get?_push_size _ rfl) (fun v z => nomatch z)
  show wpAny _ _ (callWith p3 (Value.ref h'.objs.size) [] (backTo p3 (starEach (e :: es) _)) []) _ _ _
  refine mw_callWith1 (i := "ValueError.__init__") (x := a) (thn (hta.run p3 _ _ (L2.start N vs) H _ I2 hq) fun ws s3 ⟨wv, H1, I3, rw3, hlen, ha1, q⟩ => ⟨ClX.pin_at I3, ?_⟩) (he _) (hpl _)
  obtain ⟨nm, qn, NC, bs, bm', sn, sub, ab, col, dd, k0, k1, k2, k3, k5, hC, hbm⟩ := T.oex.cls
  obtain ⟨t3, he3⟩ := exo_at I3.hok ha1
  have hu3 := ClX.pin_at I3
  obtain ⟨hp3, g3, d3, tk3, os3⟩ := s3
  refine call_mw (I3.kIn _ _ hC) he3 hu3 (by rw [← Paired.length rw3, sizeLine_eq]; omega) fun h4 t4 k4 e4 => ?_
  have I3' := ClX.unpin I3
  have J := I3'.write (t' := tk3) (x := a) (e := a) (o := exo a C none) (by rw [ha1]; exact True.intro) (.inl rfl) k4 ⟨_, e4⟩ (exo_ok e4)
  have eu : upd H1 a (exo a C none) = H1 := by
    funext b
    by_cases hb : b = a
    · rw [hb, upd_same, ha1]
    · rw [upd_ne hb]
  rw [eu] at J
  refine wpAt_of_wpAny (wpAny_mono (ht.run [] _ (L2.start N vs) H1 _ J q) (fun fl s' hs => ?_) fun e s' hs => hs)
  cases fl with
  | ret u =>
    obtain ⟨v, σ', H', J, rv, q⟩ := hs
    exact fin J rv q
  | next =>
    obtain ⟨σ', H', J, q⟩ := hs
    exact fin (v := V.non) (u := Value.none) J rfl q
  | brk =>
    obtain ⟨_, _, _, q⟩ := hs
    exact False.elim q
  | cont =>
    obtain ⟨_, _, _, q⟩ := hs
    exact False.elim q
end MC
set_option maxHeartbeats 4000000
/-! MB2: try with several named clauses; a def that is handed the exception within a suite -/
namespace MC
open PySem PySem.Spec PyProof.Rows L2

/-! ### several clauses «except C as n» -/
/-- the ends of a suite whose name goes behind it -/
def gone (i : Nat) (D : Ends) : Ends := { nx := fun σ H => D.nx (σ.set i none) H, rt := D.rt, bk := fun σ H => D.bk (σ.set i none) H, ct := fun σ H => D.ct (σ.set i none) H }
abbrev Cl := Value × Nat × (Addr → Value → Option Addr → TS)
/-- what the clauses wish of an exception of the body, one behind the other -/
def wAsL (K : PySem.W.Frag) (Wout : WX) (D : Ends) : List Cl → WX
  | [] => Wout
  | (c, i, ts) :: r => fun cls d σ H => ∃ b, PySem.W.exmOne K cls c = some b ∧ (b = true → ∀ a, H a = none → ts a cls d (gone i D) (σ.set i (some (.ref a))) H) ∧ (b = false → wAsL K Wout D r cls d σ H)
inductive HdsAs (X : Cx) : List ExceptHandler → List Cl → Prop
  | nil : HdsAs X [] []
  | cons {x n : Str} {c : Value} {i : Nat} {ts : Addr → Value → Option Addr → TS} {b₀ : Stmt} {suite : List Stmt} {np pos' : Pos} {hds : List ExceptHandler} {l : List Cl} (hc : Names X x c) (hi : X.N[i]? = some n) (hln : X.env.kindOf n = some .local)
      (hsu : ∀ (a : Addr) (oe : Obj) (cls : Value) (d : Option Addr) (pn : List (Addr × Obj)), Zc cls d oe → (∃ vs, oe.data = .fields vs) → PSs (X.suite a ((a, oe) :: pn)) (b₀ :: suite) (ts a cls d)) (r : HdsAs X hds l) :
      HdsAs X (.ExceptHandler (some (.Name x np)) (some n) (b₀ :: suite) pos' :: hds) ((c, i, ts) :: l)
section
variable {X : Cx} {body : List Stmt} {h₀ : ExceptHandler} {hds : List ExceptHandler} {l : List Cl} {pos : Pos} {tb : WX → TS} {Wout : WX}
def tTryAs (K : PySem.W.Frag) (Wout : WX) (l : List Cl) (tb : WX → TS) : TS := fun D σ H => tb (wAsL K Wout D l) D σ H
theorem ps_try_asL (hs : X.stack = X.env :: X.outer) (hf : X.env.frame = some X.env.locals) (hN : X.N.Nodup) (tk : Takes X Wout)
    (hb : ∀ (W : WX) (pn : List (Addr × Obj)) (xe : Value → Shared → Prop), Takes (X.tr pn xe) W → PassesOwn (model X.prog X.w) X.A X.env xe → PSs (X.tr pn xe) body (tb W))
    (hh : HdsAs X (h₀ :: hds) l) : PS X (.Try body (h₀ :: hds) [] [] pos) (tTryAs X.K Wout l tb) := by
  refine ⟨fun pins s σ H D I h => ?_⟩
  have ok := I.ok
  have hfr : X.A.frames = some (X.env :: X.outer) := by rw [ok.frames, hs]
  refine wpAny_Try_except (wpAny_mono ((hb (wAsL X.K Wout D l) (X.pn ++ pins) (fun e s₁ => wpAny (model X.prog X.w) X.A (noteFrame e X.env) (fun _ s₂ => wpAny (model X.prog X.w) X.A (setFlight e none) (fun _ s₃ =>
    wpAny (model X.prog X.w) X.A (handleBy e X.env (h₀ :: hds)) (SP X pins D) X.xe s₃) X.xe s₂) X.xe s₁) (fun u s' xx => ?_) PassesOwn.looking).run [] s σ H D (I.toTry _) h) (fun f s1 hsp => ?_) (fun e s1 he => he))
  · -- the body raises
    obtain ⟨a, B, sI, pins', σ', H', cls, d, rfl, J', nb, up, sky, na, os, ag, w⟩ := xx
    have J : Inv X pins σ' H' sI := J'.ofTry ok
    have sky' : Sky B (X.env :: X.outer) a (Zc cls d) X.env.locals s'.heap := by rw [← hs]; exact sky
    show wpAny (model X.prog X.w) X.A (noteFrame (.ref a) X.env) _ _ _
    refine Sky.land Zc.steady hfr hf sky' fun h3 fl3 up3 => ?_
    have J3 : Inv X pins σ' H' { s' with heap := h3 } := J.landed nb fl3.1 (up.trans up3) os ag
    obtain ⟨oe3, vs3, he3, hz3, hd3⟩ := fl3.there
    have nfr : a ∉ frs (X.env :: X.outer) := fun hm => by
      obtain ⟨_, o', e', hnf⟩ := fl3.2.2.1.mem hm
      have e2 : some oe3 = some o' := he3.symm.trans e'
      cases e2
      exact hnf _ hd3
    have nL : a ≠ X.env.locals := fun z => nfr (List.mem_filterMap.mpr ⟨X.env, List.mem_cons_self, by rw [hf, z]⟩)
    have nF : a ∉ X.fs := fun hm => by
      obtain ⟨e, he, q⟩ := List.mem_filterMap.mp hm
      exact nfr (List.mem_filterMap.mpr ⟨e, List.mem_cons_of_mem _ he, q⟩)
    have S3 := J3.suite he3 hd3 na nL nF
    have go : ∀ {hds' : List ExceptHandler} {l' : List Cl}, HdsAs X hds' l' → wAsL X.K Wout D l' cls d σ' H' →
        wpAny (model X.prog X.w) X.A (handleBy (.ref a) X.env hds') (SP X pins D) X.xe { s' with heap := h3 } := by
      intro hds' l' hk
      induction hk with
      | nil =>
        intro w
        refine wpAny_handleBy_nil ?_
        obtain ⟨k1, k2, k3, oe, vs, T, oT, ts', he, hz, hd, h1, hr⟩ := id fl3
        unfold PySem.passOn
        refine wpAny_bind (wpAny_field he hd h1 ?_)
        rw [if_neg (show ¬ ((Value.ref T == Value.none) = true) from by simp)]
        have fin : wpAny (model X.prog X.w) X.A (setFlight (.ref a) X.env.frame) (fun _ s4 => wpAny (model X.prog X.w) X.A (throw (.ref a) : Sem Flow) (SP X pins D) X.xe s4) X.xe { s' with heap := h3 } := by
          rw [hf]
          refine HandSPX.setFlight_upZ fl3 fun h4 hh4 up4 => wpAny_throw (tk _ _ ?_)
          exact ⟨a, B, sI, pins, σ', H', cls, d, rfl, J, nb, (up.trans up3).trans up4, .inr (.inr (by rw [hs]; exact hh4)), na, os, ag, w⟩
        first
          | exact wpAny_bind (wpAny_pure (wpAny_bind fin))
          | exact wpAny_bind fin
      | @cons x n c i ts b₀ suite np pos' hds2 l2 hc hi hln hsu r ih =>
        intro w
        obtain ⟨b, hb1, hyes, hno⟩ := w
        refine wpAny_handleBy_cons (codeAny_handlers_test ?_) (by intro q; cases q)
        have LT : PySem.W.Looks (model X.prog X.w) h3 (typeOf (.ref a)) cls := fun A Q E s k q => wpAny_typeOf_ref (k _ _ he3) (by rw [hz3.1]; exact q)
        have LM := PySem.W.exm_one (M := model X.prog X.w) (J3.kIn) LT hb1
        have test : ∀ {Q : Value → Shared → Prop} {E : Value → Shared → Prop}, Q c { s' with heap := h3 } → wpAny (model X.prog X.w) (X.A.mark (some (.ref a))) (eval (.Name x np) X.env) Q E { s' with heap := h3 } := fun {Q E} q => by
          obtain ⟨hg, hdbg, hm | ⟨hm, hv, hnn⟩⟩ := hc
          · exact ld_glob (X := X.suite a ((a, oe3) :: (X.pn ++ pins))) S3 hg hm q hdbg
          · exact ld_blt (X := X.suite a ((a, oe3) :: (X.pn ++ pins))) S3 hg hm hv q hnn hdbg
        refine test (LM.here ?_)
        cases b with
        | true =>
          refine codeAny_handlers_suite_as (HandSPX.lands_againZ fl3 fun h4 fl4 up4 => ?_)
          have J4 : Inv X pins σ' H' { s' with heap := h4 } := J.landed nb fl4.1 ((up.trans up3).trans up4) os ag
          obtain ⟨oe4, vs4, he4, hz4, hd4⟩ := fl4.there
          have S4 := J4.suite he4 hd4 na nL nF
          refine store_ok (X := X.suite a ((a, oe4) :: (X.pn ++ pins))) (v := .ref a) S4 hN hi (.inl hln) rfl (fun s5 S5 => ?_) (.inr hln)
          refine wpAny_mono ((hsu a oe4 cls d (X.pn ++ pins) hz4 ⟨_, hd4⟩).run [] s5 _ H' _ S5 (hyes rfl a na)) (fun f s6 hsp => ?_) (fun _ _ z => False.elim z)
          have end_ : ∀ {σ6 : L2.St} {H6 : Hp} {Q : Shared → Prop}, Inv (X.suite a ((a, oe4) :: (X.pn ++ pins))) [] σ6 H6 s6 → (∀ s7, Inv X pins (σ6.set i none) H6 s7 → Q s7) →
              wpAny (model X.prog X.w) X.A (do bindName X.env n .none; unbindBehindTheSuite X.env n pos') (fun _ s7 => Q s7) X.xe s6 := fun {σ6 H6 Q} S6 hq => gone_ok (S6.unsuite ok) hN hi hln hq
          cases f with
          | next =>
            obtain ⟨σ6, H6, S6, q6⟩ := hsp
            exact end_ S6 fun s7 J7 => ⟨_, _, J7, q6⟩
          | brk =>
            obtain ⟨σ6, H6, S6, q6⟩ := hsp
            exact end_ S6 fun s7 J7 => ⟨_, _, J7, q6⟩
          | cont =>
            obtain ⟨σ6, H6, S6, q6⟩ := hsp
            exact end_ S6 fun s7 J7 => ⟨_, _, J7, q6⟩
          | ret u =>
            obtain ⟨v6, σ6, H6, S6, r6, q6⟩ := hsp
            exact end_ S6 fun s7 J7 => ⟨_, _, _, J7, r6, q6⟩
        | false =>
          show wpAny _ X.A (handleBy (.ref a) X.env hds2) _ _ _
          exact ih (hno rfl)
    exact go hh w
  · cases f with
    | next =>
      obtain ⟨σ', H', J', q⟩ := hsp
      exact wpAny_execs_nil ⟨σ', H', J'.ofTry ok, q⟩
    | brk =>
      obtain ⟨σ', H', J', q⟩ := hsp
      exact ⟨σ', H', J'.ofTry ok, q⟩
    | cont =>
      obtain ⟨σ', H', J', q⟩ := hsp
      exact ⟨σ', H', J'.ofTry ok, q⟩
    | ret u =>
      obtain ⟨v, σ', H', J', r, q⟩ := hsp
      exact ⟨v, σ', H', J'.ofTry ok, r, q⟩
end

/-! ### a def that is handed the exception within the suite, and raises nothing -/
abbrev SpE := Addr → Value → Option Addr → Sp
abbrev XE0 : XK := fun _ _ _ => False
structure FnE (P : Program) (w : World) (K : PySem.W.Frag) (mg : Str → Option Value) (base : Heap) (k : Nat) (f : Addr) (fd : FuncData) (ps : List Str) (sp : SpE) : Prop where
  len : ∀ a c d vs H Q E, sp a c d vs H Q E → vs.length = ps.length
  run : ∀ (A : Around) (outer : List Env) (s : Shared) (H : Hp) (args : Args) (us : List Value) (vs : List V) (Q : VK) (p : Addr × Obj) (c : Value) (d : Option Addr), L2H.RoomH k A → L2H.PinOk outer H s p → Zc c d p.2 → (∃ vs, p.2.data = .fields vs) →
    Env0 P w K mg base A outer s H → BindsTo s fd args (ps.zip us) → Vals vs us → sp p.1 c d vs H Q XE0 → codeAny (model P w) A (.call (.ref f) args) (CR CX0 outer P w H s Q XE0) s
section
variable {P : Program} {w : World} {K : PySem.W.Frag} {mg : Str → Option Value} {base : Heap}
theorem fn_ofE {k : Nat} {f : Addr} {name qual : Str} {params : Arguments} {body : List Stmt} {scope : Scope} {dvs : List V} {kws : List (Str × V)} {fd : FuncData} {N ps : List Str} {sp : SpE}
    (F : FunD K name qual params body scope dvs kws f fd) (S : FnScope N ps scope) (len : ∀ a c d vs H Q E, sp a c d vs H Q E → vs.length = ps.length)
    (hbody : ∀ (cdv : Value) (A : Around) (outer : List Env) (s : Shared) (H : Hp) (vs : List V) (Q : VK) (p : Addr × Obj) (c : Value) (d : Option Addr), L2H.RoomH k (A.deeper (envOfC qual scope s.heap.objs.size f cdv)) → Zc c d p.2 → (∃ vs, p.2.data = .fields vs) → sp p.1 c d vs H Q XE0 →
      ∃ t, PSs (L2H.cxH CX0 P w K mg base N qual scope f cdv A outer s H XE0 p) body t ∧ t { nx := fun _ H' => Q .non H', rt := Q } (L2.start N vs) H) : FnE P w K mg base (k + 1) f fd ps sp := by
  obtain ⟨oc, od, dV, kV, doc, pm, an, cdv, ct, osl, rfl, lk, hcd, _, _⟩ := F.ex
  refine ⟨len, fun A outer s H args us vs Q p c d hr hpin hz hf e0 hb r hsp => ?_⟩
  have hl := len _ _ _ _ _ _ _ hsp
  have KX : K.In s.heap := e0.mod.kin.keeps fun b o e => (e0.bs b o e).1
  have lim : s.heap.NoLimit := e0.mod.nolimit.keeps fun b o e => (e0.bs b o e).1
  refine codeAny_call_function hr.depth (KX _ _ lk) rfl S.co S.gen rfl (PySem.W.codeRec_of KX hcd) (hb _ _ _ _ (wpAny_newFunctionEnv_cells S.kind (fun ⟨n, v⟩ hy => (S.par n (List.of_mem_zip hy).1).imp id fun q => ⟨q, PySem.W.cellsFrom_some _ _ _ (.inl q)⟩) fun env he s1 x => ?_))
  subst he
  refine ⟨lim.keeps x.toInCall.keep, codeAny_func ?_⟩
  obtain ⟨t, ht, hq⟩ := hbody cdv A outer s H vs Q p c d (hr.deeper _) hz hf hsp
  have I : Inv (L2H.cxH CX0 P w K mg base N qual scope f cdv A outer s H XE0 p) [] (L2.start N vs) H s1 := L2H.inv_startH S hpin e0 hl r x
  refine wpAny_mono (ht.run [] s1 (L2.start N vs) H _ I hq) (fun fl s' hs => ?_) fun e s' hs => hs
  have fin : ∀ {σ' : L2.St} {H' : Hp} {v : V} {u : Value}, Inv (L2H.cxH CX0 P w K mg base N qual scope f cdv A outer s H XE0 p) [] σ' H' s' → RelV v u → Q v H' → CE outer P w H s Q u s' :=
    fun {σ' H' v u} J rv q => ⟨v, H', J.os, J.bare, J.base, J.hok, rv, q⟩
  match fl, hs with
  | .ret u, hs => obtain ⟨v, σ', H', J, rv, q⟩ := hs; exact fin J rv q
  | .next, hs => obtain ⟨σ', H', J, q⟩ := hs; exact fin (v := V.non) (u := Value.none) J rfl q
  | .brk, hs => obtain ⟨_, _, _, q⟩ := hs; exact False.elim q
  | .cont, hs => obtain ⟨_, _, _, q⟩ := hs; exact False.elim q
end
section
variable {X : Cx} {k : Nat} {f a : Addr} {oe : Obj} {cls : Value} {d : Option Addr} {pn : List (Addr × Obj)} {fd : FuncData} {ps : List Str} {sp : SpE} {x : Str} {q pos : Pos} {e : Expr} {es : List Expr} {t : TA}
def tCallE (a : Addr) (cls : Value) (d : Option Addr) (sp : SpE) (t : TA) : TE := fun σ H Q => t σ H fun vs H1 => sp a cls d vs H1 Q XE0
/-- f(..) within the suite, f a def as FnE -/
theorem pe_callE (F : FnE X.prog X.w X.K X.mg X.base k f fd ps sp) (hr : L2H.RoomH k (X.suite a ((a, oe) :: pn)).A) (hz : Zc cls d oe) (hf : ∃ vs, oe.data = .fields vs) (hg : Gl X x) (hm : X.mg x = some (.ref f)) (hk : PySem.W.keepIn X.K (.ref f) = true) (hb : Binds X.K fd ps [])
    (ha : PA (X.suite a ((a, oe) :: pn)) (e :: es) t) (hdb : (x == ("__debug__" : Str)) = false := by decide) (he : starEach (e :: es) X.env = (false, eval e X.env) :: starEach es X.env := by rfl) (hpl : (backTo pos (starEach es X.env)).any (·.1) = false := by rfl) :
    PE (X.suite a ((a, oe) :: pn)) (.Call (.Name x q) (e :: es) [] pos) (tCallE a cls d sp t) := by
  refine ⟨fun pins s σ H Q I h => ?_⟩
  refine wpAny_Call_Name_kw (ld_glob I hg hm ?_ hdb)
  refine PySem.W.callWith_K (h₀ := X.base) I.ok.mod.kin hk (thn (ha.run pos pins s σ H _ I h) fun us s1 ⟨vs, H1, I1, r, hsp⟩ => ⟨I1.kIn, ?_⟩) he hpl
  have hl : us.length = ps.length := by rw [← r.length]; exact F.len _ _ _ _ _ _ _ hsp
  have b := hb s1 us I1.kIn (by rw [List.append_nil]; exact hl)
  rw [List.append_nil] at b
  have P1 := I1.pin (a, oe) (List.mem_append_left _ List.mem_cons_self)
  have hpin : L2H.PinOk (X.suite a ((a, oe) :: pn)).stack H1 s1 (a, oe) := ⟨P1.1, P1.2.1, fun hm => (List.mem_cons.mp (I1.stkSub a hm)).elim P1.2.2.1 P1.2.2.2.1, P1.2.2.2.2⟩
  refine wpAny_call (codeAny_mono (F.run (X.suite a ((a, oe) :: pn)).A (X.suite a ((a, oe) :: pn)).stack s1 H1 ⟨us, []⟩ us vs Q (a, oe) cls d hr hpin hz hf I1.env0 b r hsp) fun r s' hq => ?_)
  match r, hq with
  | .error e, hq => exact hq.elim
  | .ok (.ret u), hq => exact I1.after hq
  | .ok .next, hq => exact hq.elim
  | .ok .brk, hq => exact hq.elim
  | .ok .cont, hq => exact hq.elim

/-- isinstance of a pinned exception -/
def rIsP (K : PySem.W.Frag) (D a : Addr) (d : Option Addr) : List V → Hp → VK → Prop := fun xs H Q => ∃ (c : V) (cv : Value) (b : Bool), xs = [.ref a, c] ∧ (∀ u, RelV c u → u = cv) ∧ (∀ dd, d = some dd → ∃ fs, H dd = some (.xd fs)) ∧ PySem.W.kitOne K (.ref D) cv = some b ∧ Q (.bl b) H
structure ExcT (K : PySem.W.Frag) (D : Addr) : Prop where
  cl : (PySem.W.clsIn K D).isSome = true
  hg : PySem.W.findIn K (.ref D) "__getattribute__" = some (some (.builtin "BaseException.__getattribute__"))
  hk : PySem.W.findIn K (.ref D) "__getattr__" = some none
  hs : PySem.W.subIn K (.ref D) (.type "BaseException") = some true
  ha : PySem.W.findIn K (.ref D) "__class__" = some (some (.builtin "object.__class__"))
  hn : PySem.W.specialIn K (.builtin "object.__class__") "__get__" = some (some (.builtin "getset_descriptor.__get__"))
  ht : PySem.W.takesIn K (.builtin "object.__class__") = some true
  hm : PySem.W.mroIn K D (.type "object") = some true
theorem call_isP {X : Cx} {a D : Addr} {d : Option Addr} {oe : Obj} (C : ExcT X.K D) (hp : (a, oe) ∈ X.pn) (hz : Zc (.ref D) d oe) (hf : ∃ vs, oe.data = .fields vs) : CallR X (.builtin "isinstance") (rIsP X.K D a d) := by
  intro pins s σ H xs us Q I r h
  obtain ⟨c, cv, b, rfl, hcv, hd, e, q⟩ := h
  match r with
  | .cons rx (.cons rt .nil) =>
    cases rx
    obtain rfl := hcv _ rt
    obtain ⟨hget, _⟩ := I.pin (a, oe) (List.mem_append.mpr (.inl hp))
    obtain ⟨vs, hv⟩ := hf
    obtain ⟨oc, odt, oda, osl⟩ := oe
    obtain ⟨h1, h2⟩ := hz
    dsimp only at h1 h2 hv
    subst h1 h2 hv
    have fin : ∀ tk, EP X pins σ Q (.bool b) { s with toks := tk } := fun tk => ⟨.bl b, H, I.kept (t' := tk) fun _ _ z => z, rfl, q⟩
    cases odt with
    | none => exact PySem.W.kia_one (PySem.W.kitx_exc C.cl C.hg C.hk C.hs C.ha C.hn C.ht C.hm) I.kIn (show PySem.W.InstAt s.heap a _ D none from ⟨hget, rfl, rfl, trivial⟩) e (fun z => nomatch z) fin
    | some dd =>
      obtain ⟨fs, hdd⟩ := hd dd rfl
      have hx : ObjOk X.prog X.w H s.heap dd (.xd fs) := I.hok dd _ hdd
      obtain ⟨mA, ⟨od, es, ep, ho, _⟩, _⟩ := hx
      exact PySem.W.kia_one (PySem.W.kitx_exc C.cl C.hg C.hk C.hs C.ha C.hn C.ht C.hm) I.kIn (show PySem.W.InstAt s.heap a _ D (some od) from ⟨hget, rfl, rfl, ho⟩) e (fun z => nomatch z) fin
end
end MC
set_option maxHeartbeats 4000000
/-! MB3: operators and built-ins over instances of an own class -/
namespace MC
open PySem PySem.Spec PyProof.Rows L2

/-- what an own special method of the class at C is: its def at f -/
structure Spec (K : PySem.W.Frag) (C : Addr) (m : Str) (f : Addr) : Prop where
  at_ : PySem.W.findIn K (.ref C) m = some (some (.ref f))
  fn : PySem.W.isFn K (.ref f) = true

section
variable {X : Cx} {k : Nat} {C f : Addr} {fd : FuncData} {ps : List Str} {sp : Sp} {E : XK} {A' : Around}
/-- a def is run by a built-in of the running body -/
theorem run_at {pins : List (Addr × Obj)} {σ : L2.St} {H : Hp} {s : Shared} {Q : VK} {us : List Value} {vs : List V} (F : FnOk X.prog X.w X.K X.mg X.base (L2.CX X.prog X.w) k f fd ps sp) (hr : Room k A') (hfr : A'.frames = X.A.frames) (hb : Binds X.K fd ps [])
    (hx : PassesAt (L2.CX X.prog X.w) X σ E) (I : Inv X pins σ H s) (r : Vals vs us) (h : sp vs H Q E) : wpAny (model X.prog X.w) A' (call (.ref f) us) (EP X pins σ Q) X.xe s := by
  have hl : us.length = ps.length := by rw [← r.length]; exact F.len _ _ _ _ h
  have b := hb s us I.kIn (by rw [List.append_nil]; exact hl)
  rw [List.append_nil] at b
  have e := I.env0
  refine wpAny_call (codeAny_mono (F.run A' X.stack s H ⟨us, []⟩ us vs Q E hr ⟨by rw [hfr]; exact e.frames, e.mod, e.bs, e.bsz, e.funs, e.frf, e.hok, e.bare⟩ b r h) fun r s' hq => ?_)
  match r, hq with
  | .error e, hq => exact hx pins H s e s' I hq
  | .ok (.ret u), hq => exact I.after hq
  | .ok .next, hq => exact hq.elim
  | .ok .brk, hq => exact hq.elim
  | .ok .cont, hq => exact hq.elim
theorem pass_none {σ : L2.St} : PassesAt (L2.CX X.prog X.w) X σ XE0 := fun _ _ _ _ _ _ h => by
  obtain ⟨_, _, _, _, _, _, _, _, _, _, _, _, z⟩ := h
  exact z.elim
/-- .. one that raises nothing, wherever it stands -/
theorem run_at0 {pins : List (Addr × Obj)} {σ : L2.St} {H : Hp} {s : Shared} {Q : VK} {us : List Value} {vs : List V} {EE : Value → Shared → Prop} (F : FnOk X.prog X.w X.K X.mg X.base (L2.CX X.prog X.w) k f fd ps sp) (hr : Room k A') (hfr : A'.frames = X.A.frames) (hb : Binds X.K fd ps [])
    (I : Inv X pins σ H s) (r : Vals vs us) (h : sp vs H Q XE0) : wpAny (model X.prog X.w) A' (call (.ref f) us) (EP X pins σ Q) EE s := by
  have hl : us.length = ps.length := by rw [← r.length]; exact F.len _ _ _ _ h
  have b := hb s us I.kIn (by rw [List.append_nil]; exact hl)
  rw [List.append_nil] at b
  have e := I.env0
  refine wpAny_call (codeAny_mono (F.run A' X.stack s H ⟨us, []⟩ us vs Q XE0 hr ⟨by rw [hfr]; exact e.frames, e.mod, e.bs, e.bsz, e.funs, e.frf, e.hok, e.bare⟩ b r h) fun r s' hq => ?_)
  match r, hq with
  | .error e, hq =>
    obtain ⟨_, _, _, _, _, _, _, _, _, _, _, _, z⟩ := hq
    exact z.elim
  | .ok (.ret u), hq => exact I.after hq
  | .ok .next, hq => exact hq.elim
  | .ok .brk, hq => exact hq.elim
  | .ok .cont, hq => exact hq.elim
/-- an instance, for the library's rules -/
theorem inst_of {pins : List (Addr × Obj)} {σ : L2.St} {H : Hp} {s : Shared} {a dx : Addr} {fs : List (Str × V)} (I : Inv X pins σ H s) (e : H a = some (.ins C dx fs)) : ∃ od, PySem.W.InstAt s.heap a (PySem.W.instObj C dx) C (some od) := by
  obtain ⟨mA, J, _⟩ := ins_get I.hok e
  obtain ⟨od, J, _⟩ := J.look
  exact ⟨od, J⟩

/-! ### len(o), str(o) -/
def rLenO (C : Addr) (sp : Sp) : List V → Hp → VK → Prop := fun xs H Q => ∃ a dx fs, xs = [.ref a] ∧ H a = some (.ins C dx fs) ∧ sp [.ref a] H (fun v H' => ∃ n : Int, v = .int n ∧ (0 ≤ n ∧ n < 2 ^ 63) ∧ Q (.int n) H') XE0
theorem call_lenO (F : FnOk X.prog X.w X.K X.mg X.base (L2.CX X.prog X.w) k f fd ps sp) (hb : Binds X.K fd ps []) (S : Spec X.K C "__len__" f) (hr : Room (k + 1) X.A) : CallR X (.builtin "len") (rLenO C sp) := by
  intro pins s σ H xs us Q I rv h
  obtain ⟨a, dx, fs, rfl, ha, h⟩ := h
  obtain ⟨u, rfl, ru⟩ := rv.one
  cases ru
  obtain ⟨od, J⟩ := inst_of I ha
  obtain ⟨m, hF⟩ := I.fr
  refine PySem.W.len_K hF I.ok.mod.kin J S.at_ S.fn (thn (run_at (vs := [.ref a]) F hr.in1 rfl hb pass_none I (.cons rfl .nil) h) fun v s' ⟨x, H', I', rx, n, ex, hn, q⟩ => ?_)
  subst ex
  obtain ⟨t, rfl⟩ := rx
  exact ⟨hn, .int n, H', I'.tok _, ⟨_, rfl⟩, q⟩
def rStrO (C : Addr) (sp : Sp) : List V → Hp → VK → Prop := fun xs H Q => ∃ a dx fs, xs = [.ref a] ∧ H a = some (.ins C dx fs) ∧ sp [.ref a] H (fun v H' => ∃ z : Str, v = .str z ∧ Q (.str z) H') XE0
theorem call_strO (F : FnOk X.prog X.w X.K X.mg X.base (L2.CX X.prog X.w) k f fd ps sp) (hb : Binds X.K fd ps []) (S : Spec X.K C "__str__" f) (hr : Room (k + 2) X.A) : CallR X (.type "str") (rStrO C sp) := by
  intro pins s σ H xs us Q I rv h
  obtain ⟨a, dx, fs, rfl, ha, h⟩ := h
  obtain ⟨u, rfl, ru⟩ := rv.one
  cases ru
  obtain ⟨od, J⟩ := inst_of I ha
  refine PySem.W.kso_call hr.in1.in1.units0 I.kIn J S.at_ S.fn (thn (run_at (vs := [.ref a]) F hr.in1.in1 rfl hb pass_none I (.cons rfl .nil) h) fun v s' ⟨x, H', I', rx, z, ex, q⟩ => ?_)
  subst ex
  obtain ⟨t, rfl⟩ := rx
  exact ⟨.str z, H', I', ⟨_, rfl⟩, q⟩

/-! ### p in o -/
def rInO (C : Addr) (sp : Sp) : R2 := fun x y H Q => ∃ a dx fs, y = .ref a ∧ H a = some (.ins C dx fs) ∧ sp [.ref a, x] H (fun v H' => ∃ b : Bool, v = .bl b ∧ Q (.bl b) H') XE0
theorem op_inO (F : FnOk X.prog X.w X.K X.mg X.base (L2.CX X.prog X.w) k f fd ps sp) (hb : Binds X.K fd ps []) (S : Spec X.K C "__contains__" f) (hr : Room k X.A) : OpR X (compareOp .In) (rInO C sp) := by
  intro pins s σ H x y v u Q I rx ry h
  obtain ⟨a, dx, fs, rfl, ha, h⟩ := h
  cases ry
  obtain ⟨od, J⟩ := inst_of I ha
  obtain ⟨m, hF⟩ := I.fr
  refine PySem.W.in_K hF I.ok.mod.kin J S.at_ S.fn (thn (run_at (vs := [.ref a, x]) F hr rfl hb pass_none I (.cons rfl (.cons rx .nil)) h) fun v s' ⟨x, H', I', rx, b, ex, q⟩ => ?_)
  subst ex
  cases rx
  exact wpAny_truthy_bool ⟨.bl b, H', I', rfl, q⟩

/-! ### o == x, x anything -/
def rEqO (K : PySem.W.Frag) (C : Addr) (sp : Sp) : R2 := fun x y H Q => ∃ a dx fs tb, x = .ref a ∧ H a = some (.ins C dx fs) ∧ TyOf K H y tb ∧ PySem.W.notFirst K C tb = true ∧ sp [.ref a, y] H (fun v H' => ∃ b : Bool, v = .bl b ∧ Q (.bl b) H') XE0
theorem looks_ty {pins : List (Addr × Obj)} {σ : L2.St} {H : Hp} {s : Shared} {y : V} {v tb : Value} {M : Model} (I : Inv X pins σ H s) (ry : RelV y v) (t : TyOf X.K H y tb) : PySem.W.Looks M s.heap (typeOf v) tb := by
  cases t with
  | non => cases (show v = Value.none from ry); exact .of_pure rfl
  | bl b => cases (show v = Value.bool b from ry); exact .of_pure rfl
  | int i => obtain ⟨t, rfl⟩ := (show ∃ t, v = Value.int i t from ry); exact .of_pure rfl
  | str z => obtain ⟨t, rfl⟩ := (show ∃ t, v = Value.str z t from ry); exact .of_pure rfl
  | flt b => obtain ⟨t, rfl⟩ := (show ∃ t, v = Value.float b t from ry); exact .of_pure rfl
  | @lst a xs ea =>
    cases (show v = Value.ref a from ry)
    obtain ⟨_, _, n, _, h1⟩ := (show ObjOk X.prog X.w H s.heap a (.lst xs) from I.hok a _ ea)
    exact fun A Q E s k q => wpAny_typeOf_ref (k _ _ h1) q
  | @frz a ob xs ea =>
    cases (show v = Value.ref a from ry)
    obtain ⟨_, _, _, n, _, h1⟩ := (show ObjOk X.prog X.w H s.heap a (.frz ob (.lst xs)) from I.hok a _ ea)
    exact fun A Q E s k q => wpAny_typeOf_ref (k _ _ h1) q
  | @tup a xs ea =>
    cases (show v = Value.ref a from ry)
    obtain ⟨_, _, _, o, h1, h2, _⟩ := (show ObjOk X.prog X.w H s.heap a (.tup xs) from I.hok a _ ea)
    exact fun A Q E s k q => wpAny_typeOf_ref (k _ _ h1) (by rw [h2]; exact q)
  | @dK a kvs ea =>
    cases (show v = Value.ref a from ry)
    obtain ⟨_, _, vs, _, o, es, ep, h1, h2, _⟩ := (show ObjOk X.prog X.w H s.heap a (.dK kvs) from I.hok a _ ea)
    exact fun A Q E s k q => wpAny_typeOf_ref (k _ _ h1) (by rw [h2.1]; exact q)
  | @dT a kvs ea =>
    cases (show v = Value.ref a from ry)
    obtain ⟨_, _, xs, _, o, es, ep, h1, h2, _⟩ := (show ObjOk X.prog X.w H s.heap a (.dT kvs) from I.hok a _ ea)
    exact fun A Q E s k q => wpAny_typeOf_ref (k _ _ h1) (by rw [h2.1]; exact q)
  | @ins a C dx fs ea cl ha hn htk hm =>
    cases (show v = Value.ref a from ry)
    obtain ⟨od, J⟩ := inst_of I ea
    exact J.type
theorem op_eqO (F : FnOk X.prog X.w X.K X.mg X.base (L2.CX X.prog X.w) k f fd ps sp) (hb : Binds X.K fd ps []) (S : Spec X.K C "__eq__" f) (hr : Room k X.A) : OpR X (compareOp .Eq) (rEqO X.K C sp) := by
  intro pins s σ H x y v u Q I rx ry h
  obtain ⟨a, dx, fs, tb, rfl, ha, ht, hn, h⟩ := h
  cases rx
  obtain ⟨od, J⟩ := inst_of I ha
  obtain ⟨m, hF⟩ := I.fr
  show wpAny (model X.prog X.w) X.A (richCompare .Eq (.ref a) u) (EP X pins σ Q) X.xe s
  refine PySem.W.cmp_K (op := .Eq) hr.units0 hF I.ok.mod.kin J (looks_ty I ry ht) hn S.at_ S.fn (thn (run_at (vs := [.ref a, y]) F hr rfl hb pass_none I (.cons rfl (.cons ry .nil)) h) fun v s' ⟨x, H', I', rx, b, ex, q⟩ => ?_)
  subst ex
  cases rx
  exact ⟨.bl b, H', I', rfl, q⟩

/-! ### what may raise: o[i], o + p, o >> n (a wish of the slots) -/
abbrev R2S := L2.St → R2
def OpRS (X : Cx) (f : Value → Value → Sem Value) (r : R2S) : Prop :=
  ∀ (pins : List (Addr × Obj)) (s : Shared) (σ : L2.St) (H : Hp) (x y : V) (v u : Value) (Q : VK), Inv X pins σ H s → RelV x v → RelV y u → r σ x y H Q → wpAny (model X.prog X.w) X.A (f v u) (EP X pins σ Q) X.xe s
def tOpS (r : R2S) (ta tb : TE) : TE := fun σ H Q => ta σ H fun x H1 => tb σ H1 fun y H2 => r σ x y H2 Q
section
variable {a b : Expr} {ta tb : TE} {pos : Pos} {W : WX}
theorem pe_opS {op : Operator} {r : R2S} (ho : OpRS X (binaryOp op) r) (ha : PE X a ta) (hb : PE X b tb) : PE X (.BinOp a op b pos) (tOpS r ta tb) := by
  refine ⟨fun pins s σ H Q I h => ?_⟩
  exact wpAny_BinOp (binT ha hb I h fun v u s2 x y H2 I2 rx ry q => ho pins s2 σ H2 x y v u Q I2 rx ry q)
/-- both of the class -/
def rBinO (C : Addr) (sp : Sp) (W : WX) : R2S := fun σ x y H Q => ∃ a b dx dy fs gs, x = .ref a ∧ y = .ref b ∧ H a = some (.ins C dx fs) ∧ H b = some (.ins C dy gs) ∧ sp [.ref a, .ref b] H (fun v H' => v ≠ .non ∧ Q v H') (WE W σ)
theorem op_binO {op : Operator} (F : FnOk X.prog X.w X.K X.mg X.base (L2.CX X.prog X.w) k f fd ps sp) (hb : Binds X.K fd ps []) (S : Spec X.K C (PySem.dunder op.info.2) f) (hc : PySem.W.selfFirst X.K C = true) (hr : Room k X.A) (tk : Takes X W) : OpRS X (binaryOp op) (rBinO C sp W) := by
  intro pins s σ H x y v u Q I rx ry h
  obtain ⟨a, b, dx, dy, fs, gs, rfl, rfl, ha, hb', h⟩ := h
  cases rx
  cases ry
  obtain ⟨od, J⟩ := inst_of I ha
  obtain ⟨od', J'⟩ := inst_of I hb'
  obtain ⟨m, hF⟩ := I.fr
  refine PySem.W.binop_K hF I.ok.mod.kin J J'.type hc S.at_ S.fn (thn (run_at (vs := [.ref a, .ref b]) F hr rfl hb (passAt tk σ) I (.cons rfl (.cons rfl .nil)) h) fun v s' ⟨x, H', I', rx, hx, q⟩ => ?_)
  have fin : EP X pins σ Q v s' := ⟨x, H', I', rx, q⟩
  cases v <;> first | exact fin | skip
  cases x <;> first | (obtain ⟨t, e⟩ := rx; cases e) | cases rx
/-- the right one an int -/
def rBinI (C : Addr) (sp : Sp) (W : WX) : R2S := fun σ x y H Q => ∃ a i dx fs, x = .ref a ∧ y = .int i ∧ H a = some (.ins C dx fs) ∧ sp [.ref a, .int i] H Q (WE W σ)
structure BinI (K : PySem.W.Frag) (C : Addr) (op : Operator) : Prop where
  self : PySem.W.selfFirst K C = true
  rev : ∃ rc, PySem.W.findIn K (.ref C) (dunderR op.info.2) = some rc ∧ (rc = none ∨ ∃ g : Addr, rc = some (.ref g))
  fo : ∃ fo, PySem.W.findIn K (.type "int") (PySem.dunder op.info.2) = some fo
  ro : ∃ ro, PySem.W.findIn K (.type "int") (dunderR op.info.2) = some ro
  sub : PySem.W.subIn K (.type "int") (.ref C) = some false
theorem op_binI {op : Operator} (F : FnOk X.prog X.w X.K X.mg X.base (L2.CX X.prog X.w) k f fd ps sp) (hb : Binds X.K fd ps []) (S : Spec X.K C (PySem.dunder op.info.2) f) (hc : BinI X.K C op) (hr : Room k X.A) (tk : Takes X W) : OpRS X (binaryOp op) (rBinI C sp W) := by
  intro pins s σ H x y v u Q I rx ry h
  obtain ⟨a, i, dx, fs, rfl, rfl, ha, h⟩ := h
  cases rx
  obtain ⟨t, rfl⟩ := ry
  obtain ⟨od, J⟩ := inst_of I ha
  obtain ⟨m, hF⟩ := I.fr
  obtain ⟨rc, h1, h2⟩ := hc.rev
  obtain ⟨fo, h3⟩ := hc.fo
  obtain ⟨ro, h4⟩ := hc.ro
  refine PySem.W.ksp_binT hF I.ok.mod.kin J (T := "int") rfl hc.self S.at_ S.fn h1 h2 h3 h4 hc.sub (thn (run_at (vs := [.ref a, .int i]) F hr rfl hb (passAt tk σ) I (.cons rfl (.cons ⟨_, rfl⟩ .nil)) h) fun v s' ⟨x, H', I', rx, q⟩ => ?_)
  have fin : EP X pins σ Q v s' := ⟨x, H', I', rx, q⟩
  cases v <;> first | exact fin | skip
  cases x <;> first | (obtain ⟨t, e⟩ := rx; cases e) | cases rx
/-- o[i] -/
def rSubO (C : Addr) (sp : Sp) (W : WX) : R2S := fun σ x y H Q => ∃ a dx fs, x = .ref a ∧ H a = some (.ins C dx fs) ∧ sp [.ref a, y] H Q (WE W σ)
theorem pe_subO (F : FnOk X.prog X.w X.K X.mg X.base (L2.CX X.prog X.w) k f fd ps sp) (hb : Binds X.K fd ps []) (S : Spec X.K C "__getitem__" f) (hf : PySem.W.fnIn X.K f = true) (hr : Room (k + 1) X.A) (tk : Takes X W) (ha : PE X a ta) (hi : PE X b tb)
    (hsl : ∀ x i, subscripted b true x i = runValue (.builtin "lifetime.subscript" ⟨[x, i], []⟩) := by intro _ _; with_unfolding_all rfl) : PE X (.Subscript a b pos) (tOpS (rSubO C sp W) ta tb) := by
  refine ⟨fun pins s σ H Q I h => ?_⟩
  refine Subscript_ (binT ha hi I h fun v u s2 x y H2 I2 rx ry q => ?_)
  obtain ⟨p, dx, fs, rfl, hp, h⟩ := q
  cases rx
  obtain ⟨od, J⟩ := inst_of I2 hp
  obtain ⟨m, hF⟩ := I2.fr
  exact PySem.W.sub_K hF I2.ok.mod.kin J S.at_ hf S.fn (run_at (vs := [.ref p, y]) F hr.in1 rfl hb (passAt tk σ) I2 (.cons rfl (.cons ry .nil)) h) (hsl _ _)
end
end
end MC
set_option maxHeartbeats 4000000
/-! MB4: enumerate(text) in a for; iter(text); list(text), list(o) of an own __iter__ that hands back iter(text) -/
namespace MC
open PySem PySem.Spec PyProof.Rows L2

/-! ### a for over new tuples -/
/-- n turns; the i-th gives a new tuple of Y i -/
def ItT (n : Nat) (Y : Nat → List V) : It := ⟨fun i _ => i < n, fun i H v H' => ∃ T, v = .ref T ∧ H T = none ∧ H' = upd H T (.tup (Y i)), fun i _ => i = n⟩
theorem turn_T {P : Program} {w : World} {K : PySem.W.Frag} {elts : List Expr} {kk : Nat} {tpos : Pos} {it : Addr} {fp wr : List Addr} {n : Nat} {Pt : Nat → Array Value → Prop} {St : Nat → Heap → Prop} {Mid : Nat → Addr → Heap → Prop} {Y : Nat → List V}
    (W : ∀ A : Around, A.handled = none → WalksT P w A it fp wr n Pt St Mid) (hI : it ∈ fp) (hself : ∀ (A : Around) (i : Nat) (s : Shared) (Q : Value → Shared → Prop) (E : Value → Shared → Prop), St i s.heap → Q (.ref it) s → wpAny (model P w) A (pyIter (.ref it)) Q E s)
    (hsub : ∀ b ∈ wr, b ∈ fp) (hfr : ∀ i h h', St i h → (∀ b ∈ fp, ∀ o, h.get? b = some o → h'.get? b = some o) → St i h')
    (hobj : ∀ i h, St i h → ∀ b ∈ fp, ∃ o, h.get? b = some o ∧ ∀ v, o.data ≠ .cell v) (hY : ∀ i vals, i < n → Pt i vals → Vals (Y i) vals.toList) (hz : ∀ i, (Y i).length ≤ 100) :
    Turn P w K (.Tuple elts kk tpos) (ItT n Y) fp it St where
  mem := hI
  obj := hobj
  keep := hfr
  item := by
    intro X hP hw hK hc i pins s σ H E I hf st hg
    subst hP hw
    have WW := W X.A (I.ok.hd hc)
    have hlt : ∀ b ∈ fp, b < s.heap.objs.size := fun b hb => by
      obtain ⟨o, ho, _⟩ := hobj i _ st b hb
      exact Heap.lt_size ho
    refine WW.item i s _ _ hg st fun T vals h' tk hPt hT htup hmid hk => ⟨_, rfl, WW.go elts kk tpos i T _ _ _ hmid fun h'' st' hk' => ?_⟩
    have hTw : T ∉ wr := WW.apart i T h' hmid
    have ho2 : h''.IsTuple T vals := by
      obtain ⟨o, ho, r⟩ := htup
      exact ⟨o, hk' T o hTw ho, r⟩
    have new : ObjOk X.prog X.w (upd H T (.tup (Y i))) h'' T (.tup (Y i)) := by
      obtain ⟨o, ho, hc, m, hd⟩ := ho2
      exact ⟨by have := hz i; rw [sizeLine_eq]; omega, vals.toList, hY i vals hg hPt, ⟨o, ho, hc, m, by simpa using hd⟩⟩
    have I1 : Inv X pins σ (upd H T (.tup (Y i))) { s with heap := h'', toks := tk } :=
      I.turnedNew (ch := wr) (fun b ob hb q => hk' b ob hb (hk b ob hb q)) (fun b hb => hf b (hsub b hb)) hT new
    refine ⟨.ref T, _, I1, rfl, ⟨T, rfl, I.hok.fresh hT, rfl⟩, st', fun b hb => ?_⟩
    rw [upd_ne (Nat.ne_of_lt (Nat.lt_of_lt_of_le (hlt b hb) hT))]
    exact (hf b hb).1
  done := by
    intro X hP hw hK hc i pins s σ H E I hf st hg
    subst hP hw
    have e : i = n := hg
    subst e
    exact (W X.A (I.ok.hd hc)).done s _ _ st fun h' tk hk => ⟨rfl, I.turnedL (ch := wr) hk fun b hb => hf b (hsub b hb)⟩
  self := hself
theorem walk_T {n : Nat} {Y : Nat → List V} : Walk (ItT n Y) n (fun _ => True) (fun i H v H' => ∃ T, v = .ref T ∧ H T = none ∧ H' = upd H T (.tup (Y i))) :=
  ⟨fun _ _ hi _ => hi, fun _ _ => rfl, fun _ _ _ _ _ _ y => y⟩
/-- the i-th sign of a text, as a text -/
def sgn (z : Str) (i : Nat) : V := .str ⟨#[z.cps.getD i 0]⟩
/-- enumerate(text) -/
def iEnumS (ta : TA) : TI := fun σ H R => ta σ H fun vs H1 => ∃ z : Str, vs = [.str z] ∧ R (ItT z.cps.size fun i => [.int (i : Nat), sgn z i]) H1
theorem pi_enumS {X : Cx} {e : Expr} {ta : TA} {p pos tpos : Pos} {elts : List Expr} {kk : Nat} (hg : Gl X "enumerate") (hm : X.mg "enumerate" = none) (ha : PA X [e] ta) (hs : starEach [e] X.env = [(false, eval e X.env)] := by rfl) :
    PI X (.Tuple elts kk tpos) (.Call (.Name "enumerate" p) [e] [] pos) (iEnumS ta) := by
  refine ⟨fun pins s σ H R I h => ?_⟩
  refine Call_ (ld_blt I hg hm boot_enumerate (PyProof.Rows.callWith_type1 (thn (ha.run pos pins s σ H _ I h) fun us s1 ⟨vs, H1, I1, r1, z, ex, q⟩ => ?_) hs rfl))
  subst ex
  obtain ⟨u, rfl, ru⟩ := r1.one
  obtain ⟨t, rfl⟩ := ru
  refine call_enumerate_str fun h' he hit hsz hk => wpAny_pyIter_enum he ?_
  have I2 : Inv X pins σ H1 { s1 with heap := h' } := I1.kept (t' := s1.toks) hk
  have hfp : ∀ b ∈ [s1.heap.objs.size + 1, s1.heap.objs.size], FpOk X pins H1 b := fun b hb => by
    have hle : s1.heap.objs.size ≤ b := by
      rcases List.mem_cons.mp hb with z | hb
      · rw [z]; exact Nat.le_add_right _ _
      · rw [List.mem_singleton.mp hb]; exact Nat.le_refl _
    exact I1.fpOk hle (I1.hok.fresh hle)
  have hob : ∀ (ty : String) i h, (∃ old, IsEnum h (s1.heap.objs.size + 1) s1.heap.objs.size (i : Nat) old) ∧ h.IsStrIter s1.heap.objs.size ty z t i → ∀ b ∈ [s1.heap.objs.size + 1, s1.heap.objs.size], ∃ o, h.get? b = some o ∧ ∀ v, o.data ≠ .cell v := by
    rintro ty i h ⟨⟨old, h1⟩, ⟨o, h2, _, h3⟩⟩ b hb
    rcases List.mem_cons.mp hb with z | hb
    · rw [z]; exact ⟨_, h1, fun v q => nomatch q⟩
    · rw [List.mem_singleton.mp hb]; exact ⟨o, h2, fun v q => by rw [h3] at q; cases q⟩
  have hY : ∀ i (vals : Array Value), i < z.cps.size → (∃ t x, SignAt z i x ∧ vals = #[.int i t, x]) → Vals [.int (i : Nat), sgn z i] vals.toList := by
    rintro i vals hi ⟨t', x, ⟨c, u, h1, h2⟩, rfl⟩
    refine .cons ⟨_, rfl⟩ (.cons ⟨u, ?_⟩ .nil)
    rw [h2]
    have : z.cps.getD i 0 = c := by
      rw [Array.getD_eq_getD_getElem?, h1]; rfl
    rw [this]
  cases ha : z.cps.all (· < 128) with
  | true =>
    have ht : strIterType z = "str_ascii_iterator" := by unfold strIterType; rw [ha]; rfl
    rw [ht] at hit
    exact ⟨_, _, _, _, H1, rfl, I2, turn_T (fun A hA => WalksT.enumerateD (Draws.strAscii (A := A.in1) hA s1.heap.objs.size z t) (s1.heap.objs.size + 1) (Nat.succ_ne_self _) (by simp) (by simp)) (by simp)
      (fun A i s Q E st h => by obtain ⟨⟨_, he⟩, _⟩ := st; exact wpAny_pyIter_enum he h) (fun b hb => hb) (fun i h h' st k => by
        obtain ⟨⟨old, h1⟩, ⟨o, h2, r⟩⟩ := st
        exact ⟨⟨old, k _ (by simp) _ h1⟩, ⟨o, k _ (by simp) _ h2, r⟩⟩) (hob _) hY (fun i => by simp), ⟨⟨.none, he⟩, hit⟩, hfp, q⟩
  | false =>
    have ht : strIterType z = "str_iterator" := by unfold strIterType; rw [ha]; rfl
    rw [ht] at hit
    exact ⟨_, _, _, _, H1, rfl, I2, turn_T (fun A hA => WalksT.enumerateD (Draws.strWide (A := A.in1) hA s1.heap.objs.size z t) (s1.heap.objs.size + 1) (Nat.succ_ne_self _) (by simp) (by simp)) (by simp)
      (fun A i s Q E st h => by obtain ⟨⟨_, he⟩, _⟩ := st; exact wpAny_pyIter_enum he h) (fun b hb => hb) (fun i h h' st k => by
        obtain ⟨⟨old, h1⟩, ⟨o, h2, r⟩⟩ := st
        exact ⟨⟨old, k _ (by simp) _ h1⟩, ⟨o, k _ (by simp) _ h2, r⟩⟩) (hob _) hY (fun i => by simp), ⟨⟨.none, he⟩, hit⟩, hfp, q⟩

/-! ### list(text) -/
/-- the signs of a text, each a text -/
def sgns (z : Str) : List V := z.cps.toList.map fun c => V.str ⟨#[c]⟩
theorem sgns_len (z : Str) : (sgns z).length = z.cps.size := by simp [sgns]
theorem vals_of : ∀ {xs : List V} {us : List Value}, xs.length = us.length → (∀ (i : Nat) x u, xs[i]? = some x → us[i]? = some u → RelV x u) → Vals xs us
  | [], [], _, _ => .nil
  | x :: xs, u :: us, hl, h => .cons (h 0 x u rfl rfl) (vals_of (by simpa using hl) fun i y v h1 h2 => h (i + 1) y v (by simpa using h1) (by simpa using h2))
  | [], _ :: _, hl, _ => by simp at hl
  | _ :: _, [], hl, _ => by simp at hl
theorem vals_items {z : Str} {acc : Array Value} (h : ItemsOf (SignAt z) acc z.cps.size) : Vals (sgns z) acc.toList := by
  refine vals_of (by rw [sgns_len, Array.length_toList, h.1]) fun i x u h1 h2 => ?_
  obtain ⟨c, t, h3, h4⟩ := h.2 i u (by simpa using h2)
  have h5 : (sgns z)[i]? = some (V.str ⟨#[c]⟩) := by
    unfold sgns
    rw [List.getElem?_map, Array.getElem?_toList, h3]; rfl
  rw [h5] at h1
  cases h1
  exact ⟨t, h4⟩
def rListS0 : List V → Hp → VK → Prop := fun xs H Q => ∃ z : Str, xs = [.str z] ∧ z.cps.size ≤ sizeLine ∧ ∀ q, H q = none → Q (.ref q) (upd H q (.lst (sgns z)))
theorem call_listS {X : Cx} (hc : X.calm = true) : CallR X (.type "list") rListS0 := by
  intro pins s σ H xs us Q I rv h
  obtain ⟨z, rfl, hz, q⟩ := h
  obtain ⟨u, rfl, ru⟩ := rv.one
  obtain ⟨t, rfl⟩ := ru
  refine call_list_str (I.ok.hd hc) z t (fun h' tk acc' c' k e it => ?_) hz
  have hv := vals_items it
  exact ⟨.ref _, _, I.laid (t' := tk) (a := s.heap.objs.size) (o := .lst (sgns z)) k (Nat.le_refl _) ⟨by rw [sgns_len]; exact hz, acc'.toList, c', hv, e⟩, rfl, q _ (I.hok.fresh (Nat.le_refl _))⟩

/-! ### iter(text); an iterator over a text that a def hands back -/
/-- an iterator over the text z, i signs taken (z of ASCII signs) -/
def strIt (it : Addr) (z : Str) (i : Nat) : HO := .ext fun h => ∃ t, h.IsStrIter it "str_ascii_iterator" z t i
theorem strIt_ok {P : Program} {w : World} {H : Hp} {h : Heap} {it : Addr} {z : Str} {t : Tok} {i : Nat} (hit : h.IsStrIter it "str_ascii_iterator" z t i) : ObjOk P w H h it (strIt it z i) := by
  obtain ⟨o, ho, r⟩ := hit
  exact ⟨⟨t, o, ho, r⟩, ⟨o, ho⟩, fun h1 h2 x k => by
    obtain ⟨t2, o2, e2, r2⟩ := x
    exact ⟨t2, o2, k _ e2, r2⟩⟩
theorem strIt_at {P : Program} {w : World} {H : Hp} {h : Heap} {it : Addr} {z : Str} {i : Nat} (hok : HOk P w H h) (e : H it = some (strIt it z i)) : ∃ t, h.IsStrIter it "str_ascii_iterator" z t i := by
  have x : ObjOk P w H h it (.ext fun h => ∃ t, h.IsStrIter it "str_ascii_iterator" z t i) := hok it _ e
  exact x.1
def rIterS : List V → Hp → VK → Prop := fun xs H Q => ∃ z : Str, xs = [.str z] ∧ z.cps.all (· < 128) = true ∧ ∀ it, H it = none → Q (.ref it) (upd H it (strIt it z 0))
theorem call_iterS {X : Cx} : CallR X (.builtin "iter") rIterS := by
  intro pins s σ H xs us Q I rv h
  obtain ⟨z, rfl, ha, q⟩ := h
  obtain ⟨u, rfl, ru⟩ := rv.one
  obtain ⟨t, rfl⟩ := ru
  refine Calls.call_function_entry (by decide +kernel) (by decide +kernel) PySem.W.kdk_entry_iter (PySem.W.kdk_args_iter _) ?_
  unfold Builtin.«iter»
  refine wpAny_bind (m := someArgs "iter" 1 2 _) (wpAny_of_eq (a := [Value.str z t]) (by first | rfl | kernel_rfl!) ?_)
  show wpAny _ _ (pyIter (.str z t) >>= _) _ _ _
  refine wpAny_bind (wpAny_pyIter_ascii ha ?_)
  exact wpAny_pure ⟨_, rfl, .ref _, _, I.laid (t' := s.toks) (a := s.heap.objs.size) (o := strIt s.heap.objs.size z 0) (fun b o e => Heap.get?_push_of_some _ e) (Nat.le_refl _) (strIt_ok ⟨_, Heap.get?_push_size _ rfl, rfl, rfl⟩), rfl, q _ (I.hok.fresh (Nat.le_refl _))⟩
end MC
set_option maxHeartbeats 4000000
/-! MB5: list(o), o of a class with __len__ and an __iter__ that hands back iter(text) -/
namespace PySem
open Sem (wp)
section
variable {prog : Program} {w : World} {A : Around} {E : Value → Shared → Prop} {s : Shared}
/-- the last turn of an iterator over a text: the iterator's object is there behind it -/
theorem mc_ascii_end {it : Addr} {x : Str} {t : Tok} {i : Nat} {Q : Option Value → Shared → Prop} (hh : A.handled = none)
    (hit : s.heap.IsStrIter it "str_ascii_iterator" x t i) (hx : x.cps[i]? = none)
    (hQ : ∀ h', Heap.ExtBut it s.heap h' → (∃ o, h'.get? it = some o) → Q none { s with heap := h' }) : wpAny (model prog w) A (pyNext (.ref it)) Q E s := by
  obtain ⟨o, ho, hc, hd⟩ := id hit
  unfold pyNext
  refine wpAny_bind (wpAny_attempt (wpAny_callSpecial?_slot (name := Str.ofString "__next__") hit.typeIs F.slot_str_ascii_iterator_next
    (wpAny_call_entry F.slot_str_ascii_iterator_next hit.typeIs F.entry_str_ascii_iterator_next ?_ (F.args_str_ascii_iterator_next_1 _))))
  show wpAny _ _ (field (.ref it) 0 >>= _) _ _ s
  refine wpAny_bind (wpAny_field ho hd (x := .str x t) rfl ?_)
  show wpAny _ _ (field (.ref it) 1 >>= _) _ _ s
  refine wpAny_bind (wpAny_field ho hd (x := .int i 0) rfl ?_)
  simp only [Int.toNat_natCast, hx]
  refine wpAny_bind (wpAny_rule (wpAny_bind (wpAny_setField ho hd (by simp) (wpAny_bind (wpAny_letGo ?_)))))
  show wpAny _ _ (newExc (.type "StopIteration") [] >>= _) _ _ _
  refine wpAny_bind ?_
  simp only [newExc, newTuple]
  refine wpAny_bind (wpAny_newObj_type ?_ (by size_fits))
  refine wpAny_bind (m := firstArgMember _ _) (wpAny_of_eq (a := Value.none) (by first | rfl | (simp only [firstArgMember]; rfl)) ?_)
  refine wpAny_newObj_type ?_ (by size_fits)
  simp only [raiseNew]
  refine wpAny_bind (wpAny_handled ?_)
  rw [show A.in1.handled = none from hh]
  refine wpAny_bind (wpAny_pure (wpAny_throw ?_))
  refine wpAny_bind (wpAny_isInstance (T := "StopIteration") (b := true) ⟨_, Heap.get?_push_size _ rfl, rfl⟩ isSubtype_stop ?_)
  exact wpAny_pure (hQ _ (((Heap.SameBut.update ..).extBut.push _).push _) ⟨_, Heap.get?_push_of_some _ (Heap.get?_push_of_some _ (Heap.get?_update_self _ ho (Obj.isFreed_of_fields (Obj.data_mapFields hd _))))⟩)
end
end PySem
namespace MC
open PySem PySem.Spec PyProof.Rows L2
section
variable {X : Cx} {pins : List (Addr × Obj)} {σ : L2.St} {A1 : Around}
/-- the list at q is filled off the iterator at it -/
theorem fill_loop {q it : Addr} {z : Str} {Rs : Result → Shared → Prop} {H0 : Hp} (hh : A1.in1.handled = none) (hz : z.cps.size ≤ sizeLine) (hne : q ≠ it)
    (hdone : ∀ H s, Inv X pins σ H s → (∀ b, b ≠ q → b ≠ it → H b = H0 b) → H q = some (.lst (sgns z)) → Rs (.ok (.ret .none)) s) :
    ∀ (m i : Nat) (H : Hp) (s : Shared), z.cps.size - i = m → i ≤ z.cps.size → Inv X pins σ H s → (∀ b, b ≠ q → b ≠ it → H b = H0 b) → H q = some (.lst ((sgns z).take i)) → H it = some (strIt it z i) →
      codeAny (model X.prog X.w) A1 (.builtin "list.extend.loop" ⟨[.ref q, .ref it, .none], []⟩) Rs s := by
  intro m
  induction m with
  | zero =>
    intro i H s hm hi I ho hq hit
    have e : i = z.cps.size := by omega
    subst e
    obtain ⟨t, ht⟩ := strIt_at I.hok hit
    refine codeAny_builtin PySem.F.entry_extend_loop ?_
    rw [Around.under_plainId PySem.F.plain_extend_loop _]
    show wpAny _ A1.in1 (pyNext (.ref it) >>= _) _ _ s
    refine wpAny_bind (mc_ascii_end hh ht (by simp) fun h' he hx => ?_)
    have I1 : Inv X pins σ (upd H it (.ext fun _ => True)) { s with heap := h' } := I.write (t' := s.toks) (x := it) (e := it) (by rw [hit]; exact True.intro) (.inl rfl) (fun b u hb e => he b u hb e) hx ⟨True.intro, hx, fun _ _ _ _ => True.intro⟩
    refine wpAny_pure (hdone _ _ I1 (fun b h1 h2 => by rw [upd_ne h2]; exact ho b h1 h2) ?_)
    rw [upd_ne hne, hq, List.take_of_length_le (by rw [sgns_len]; exact Nat.le_refl _)]
  | succ m ih =>
    intro i H s hm hi I ho hq hit
    have hlt : i < z.cps.size := by omega
    obtain ⟨t, ht⟩ := strIt_at I.hok hit
    refine codeAny_builtin PySem.F.entry_extend_loop ?_
    rw [Around.under_plainId PySem.F.plain_extend_loop _]
    show wpAny _ A1.in1 (pyNext (.ref it) >>= _) _ _ s
    refine wpAny_bind (wpAny_pyNext_ascii_item ht (c := z.cps[i]) (by simp [hlt]) fun h' hit' sb => ?_)
    have hx : ∃ o, h'.get? it = some o := by obtain ⟨o, e, _⟩ := hit'; exact ⟨o, e⟩
    have I1 : Inv X pins σ (upd H it (strIt it z (i + 1))) { s with heap := h', toks := s.toks + 1 } := I.write (t' := s.toks + 1) (x := it) (e := it) (by rw [hit]; exact True.intro) (.inl rfl) (fun b u hb e => (sb.2 b hb).trans e) hx (strIt_ok hit')
    show wpAny _ A1.in1 (updateSeq q (·.push (.str ⟨#[z.cps[i]]⟩ s.toks)) >>= _) _ _ _
    have hq1 : upd H it (strIt it z (i + 1)) q = some (.lst ((sgns z).take i)) := by rw [upd_ne hne]; exact hq
    obtain ⟨hz1, its, k, r2, hl, e⟩ := I1.lstM hq1
    have hlen : its.length = i := by rw [← hl, List.length_take, sgns_len]; omega
    refine wpAny_bind (wpAny_updateSeq e rfl (wpAny_pure ⟨plainId_quiet PySem.F.plain_extend_loop _, ?_⟩) (by rw [List.size_toArray]; omega) (by show (its.toArray.push _).size ≤ sizeLine + 1; rw [Array.size_push, List.size_toArray]; omega))
    have et : (sgns z).take (i + 1) = (sgns z).take i ++ [V.str ⟨#[z.cps[i]]⟩] := by
      rw [List.take_add_one]
      congr 1
      simp [sgns, hlt]
    refine ih (i + 1) _ _ (by omega) hlt (I1.lset (its' := its ++ [.str ⟨#[z.cps[i]]⟩ s.toks]) (t' := s.toks + 1) (ys := (sgns z).take (i + 1)) hq1 e (by simp) (by rw [et]; exact r2.append (.cons ⟨_, rfl⟩ .nil)) (by rw [List.length_take]; omega)) (fun b h1 h2 => ?_) upd_same ?_
    · rw [upd_ne h1, upd_ne h2]; exact ho b h1 h2
    · rw [upd_ne (Ne.symm hne)]; exact upd_same

/-- list(o): a new list q; __iter__ hands back an iterator over z; __len__ is asked; then q is filled -/
def rListO (C : Addr) (spI spL : Sp) : List V → Hp → VK → Prop := fun xs H Q => ∃ a dx fs, xs = [.ref a] ∧ H a = some (.ins C dx fs) ∧ ∀ q, H q = none →
  spI [.ref a] (upd H q (.lst [])) (fun v H1 => ∃ it z, v = .ref it ∧ z.cps.size ≤ sizeLine ∧ H1 q = some (.lst []) ∧ H1 it = some (strIt it z 0) ∧ (∃ dx fs, H1 a = some (.ins C dx fs)) ∧
    spL [.ref a] H1 (fun v H2 => ∃ n : Int, v = .int n ∧ (0 ≤ n ∧ n ≤ sizeLine) ∧ H2 q = some (.lst []) ∧ H2 it = some (strIt it z 0) ∧ ∀ H3, (∀ b, b ≠ q → b ≠ it → H3 b = H2 b) → H3 q = some (.lst (sgns z)) → Q (.ref q) H3) XE0) XE0
variable {C fi fl : Addr} {fdI fdL : FuncData} {psI psL : List Str} {spI spL : Sp} {kI kL k : Nat}
theorem call_listO (FI : FnOk X.prog X.w X.K X.mg X.base (L2.CX X.prog X.w) k fi fdI psI spI) (bI : Binds X.K fdI psI []) (SI : Spec X.K C "__iter__" fi)
    (FL : FnOk X.prog X.w X.K X.mg X.base (L2.CX X.prog X.w) k fl fdL psL spL) (bL : Binds X.K fdL psL []) (SL : Spec X.K C "__len__" fl) (hc : X.calm = true) (hr : Room (k + 3) X.A) : CallR X (.type "list") (rListO C spI spL) := by
  intro pins s σ H xs us Q I rv h
  obtain ⟨a, dx, fs, rfl, ha, h⟩ := h
  obtain ⟨u, rfl, ru⟩ := rv.one
  cases ru
  refine callType_codes (Q₁ := fun obj s₁ => obj = .ref s.heap.objs.size ∧ s₁ = { s with heap := s.heap.push { cls := .type "list", data := .seq #[] } }) PySem.F.called_list (PySem.F.typeCall_list_1 _) PySem.F.entry_list_init
    (code_list_new _ ⟨rfl, rfl⟩) fun obj s₁ h₁ => ?_
  obtain ⟨rfl, rfl⟩ := h₁
  have hS : (s.heap.push { cls := .type "list", data := .seq #[] }).get? s.heap.objs.size = some { cls := .type "list", data := .seq #[] } := Heap.get?_push_size _ rfl
  refine ⟨⟨_, hS, rfl⟩, PySem.F.args_list_init_2 _ _, ?_⟩
  have fr : H s.heap.objs.size = none := I.hok.fresh (Nat.le_refl _)
  generalize hqd : s.heap.objs.size = q at *
  have hq := h q fr
  have I1 : Inv X pins σ (upd H q (.lst [])) { s with heap := s.heap.push { cls := .type "list", data := .seq #[] } } := by rw [← hqd]; exact I.lnew (its := []) (t' := s.toks) .nil (Nat.zero_le _)
  show wpAny _ _ (do let old ← Builtin.List.listItems (.ref q); Builtin.List.listUpdate (.ref q) (fun _ => #[]); letGo old.toList.reverse; Builtin.List.listExtendWith (.ref q) (.ref a) .none) _ _ _
  refine wpAny_bind ?_
  unfold Builtin.List.listItems
  refine wpAny_bind (wpAny_seqItems hS rfl (wpAny_pure ?_))
  show wpAny _ _ (updateSeq q (fun _ => #[]) >>= fun _ => letGo (#[] : Array Value).toList.reverse >>= fun _ => Builtin.List.listExtendWith (.ref q) (.ref a) .none) _ _ _
  refine wpAny_bind (wpAny_updateSeq hS rfl ?_)
  have I2 := I1.lset (f := fun _ => #[]) (its := []) (its' := []) (ys := []) (t' := s.toks) upd_same hS rfl .nil (Nat.zero_le _)
  rw [upd_upd] at I2
  refine wpAny_bind (wpAny_letGo ?_)
  have hqa : q ≠ a := Ne.symm (ne_of_none ha fr)
  have ha2 : upd H q (.lst []) a = some (.ins C dx fs) := by rw [upd_ne (Ne.symm hqa)]; exact ha
  obtain ⟨od, J⟩ := inst_of I2 ha2
  obtain ⟨m0, hF⟩ := I2.fr
  unfold Builtin.List.listExtendWith
  refine wpAny_bind (J.type.here ?_)
  have h1 : Builtin.List.listSameRef (.ref q) (.ref a) = false := by simp [Builtin.List.listSameRef, hqa]
  have h2 : (Value.ref C == Value.type "list") = false := rfl
  have h3 : (Value.ref C == Value.type "tuple") = false := rfl
  simp only [h1, h2, h3, Bool.or_false, Bool.false_eq_true, if_false]
  refine wpAny_bind (PySem.W.owit_iter hF I2.ok.mod.kin J SI.at_ SI.fn (thn (run_at (vs := [.ref a]) FI (hr.in1.in1.mono (by omega)) rfl bI pass_none I2 (.cons rfl .nil) hq) fun v s3 hv => ?_))
  obtain ⟨x, H1, I3, rx, it, z, ex, hz, hq1, hit, ⟨dx2, fs2, ha3⟩, hsL⟩ := hv
  subst ex
  cases rx
  obtain ⟨t, ht⟩ := strIt_at I3.hok hit
  unfold PySem.W.OwitIt
  refine wpAny_specialOf ht.typeIs PySem.F.slot_str_ascii_iterator_next.lookup ?_
  refine wpAny_bind (wpAny_holding ?_)
  obtain ⟨od3, J3⟩ := inst_of I3 ha3
  obtain ⟨m3, hF3⟩ := I3.fr
  have hint : wpAny (model X.prog X.w) X.A.in1.in1 (Builtin.List.listLengthHint (.ref a)) (fun r s4 => ∃ H2, Inv X pins σ H2 s4 ∧ H2 q = some (.lst []) ∧ H2 it = some (strIt it z 0) ∧ ∀ H3, (∀ b, b ≠ q → b ≠ it → H3 b = H2 b) → H3 q = some (.lst (sgns z)) → Q (.ref q) H3) X.xe s3 := by
    unfold Builtin.List.listLengthHint
    refine wpAny_bind (wpAny_bind (J3.type.here ((PySem.W.looks_findIn I3.kIn SL.at_).here ?_)))
    refine PySem.W.KFB.if_not rfl ?_
    refine PySem.W.KFB.if_so rfl ?_
    refine wpAny_bind (wpAny_rule ?_)
    refine wpAny_bind (wpAny_attempt (PySem.W.len_K hF3 I3.ok.mod.kin J3 SL.at_ SL.fn (thn (run_at0 (vs := [.ref a]) FL hr.in1.in1.in1 rfl bL I3 (.cons rfl .nil) hsL) fun v s4 hv => ?_)))
    obtain ⟨x, H2, I4, rx, n, ex, hn, hq2, hit2, k2⟩ := hv
    subst ex
    obtain ⟨t4, rfl⟩ := rx
    refine ⟨⟨hn.1, by have := hn.2; rw [sizeLine_eq] at this; omega⟩, ?_⟩
    refine wpAny_bind (wpAny_pure ?_)
    have ht4 : Builtin.List.listTooLong n.toNat = false := by
      unfold Builtin.List.listTooLong
      exact decide_eq_false (by have := hn.2; omega)
    show wpAny _ _ (if Builtin.List.listTooLong n.toNat = true then _ else pure (n != 0)) _ _ _
    rw [if_neg (by rw [ht4]; decide)]
    exact wpAny_pure ⟨H2, I4.tok _, hq2, hit2, k2⟩
  refine thn hint fun r s4 ⟨H2, I4, hq2, hit2, k2⟩ => ?_
  have hqi : q ≠ it := ne_of hq2 hit2 (fun z => by
    have z' : HO.lst [] = HO.ext _ := z
    cases z')
  have go : ∀ s5, Inv X pins σ H2 s5 → wpAny (model X.prog X.w) X.A.in1.in1 (again (.builtin "list.extend.loop" ⟨[.ref q, .ref it, .none], []⟩) : Sem Fin) (fun fin s' => match fin with | .done f => wants (fun r s₂ => r = Value.none ∧ EP X pins σ Q (.ref q) s₂) X.xe (.ok f) s' | .again c' => c'.quiet = true ∧ codeAny (model X.prog X.w) X.A.in1 c' (wants (fun r s₂ => r = Value.none ∧ EP X pins σ Q (.ref q) s₂) X.xe) s')
      (fun e s' => wants (fun r s₂ => r = Value.none ∧ EP X pins σ Q (.ref q) s₂) X.xe (.error e) s') s5 := fun s5 I5 =>
    wpAny_pure ⟨plainId_quiet PySem.F.plain_extend_loop _, fill_loop (A1 := X.A.in1) (H0 := H2) (I.ok.hd hc) hz hqi (fun H3 s' I' ho hl => ⟨rfl, .ref q, H3, I', rfl, k2 H3 ho hl⟩) z.cps.size 0 H2 s5 (by omega) (Nat.zero_le _) I5 (fun _ _ _ => rfl) (by simpa using hq2) hit2⟩
  refine wpAny_ite_split (fun _ => ?_) (fun _ => go s4 I4)
  refine wpAny_bind (wpAny_rule ?_)
  refine wpAny_bind ?_
  show wpAny _ _ (updateSeq q (·.push .none) >>= fun _ => updateSeq q (·.pop)) _ _ _
  obtain ⟨z4, its4, k4, r4, hl4, e4⟩ := I4.lstM hq2
  cases r4
  refine wpAny_bind (wpAny_updateSeq e4 rfl ?_)
  have I5 := I4.lset (f := (·.push Value.none)) (its' := [Value.none]) (ys := [.non]) (t' := s4.toks) hq2 e4 (by simp) (.cons rfl .nil) (by rw [List.length_singleton, sizeLine_eq]; decide)
  obtain ⟨z5, its5, k5, r5, hl5, e5⟩ := I5.lstM upd_same
  obtain ⟨u5, rfl, ru5⟩ := r5.one
  refine wpAny_updateSeq e5 rfl ?_ (by show 1 ≤ sizeLine; rw [sizeLine_eq]; decide) (by show 0 ≤ sizeLine + 1; exact Nat.zero_le _)
  have I6 := I5.lset (f := (·.pop)) (its := [u5]) (its' := []) (ys := []) (t' := s4.toks) upd_same e5 (by rfl) .nil (Nat.zero_le _)
  rw [upd_upd] at I6
  have hH : upd H2 q (.lst []) = H2 := by
    funext b
    by_cases hb : b = q
    · rw [hb, upd_same, hq2]
    · rw [upd_ne hb]
  rw [hH] at I6
  exact go _ I6
end
end MC
set_option maxHeartbeats 4000000
/-! MB6: operators by any kind of value; count, min, text * n, text[::-1]; calls that may raise, at the slots -/
namespace MC
open PySem PySem.Spec PyProof.Rows L2

/-! ### + of ints, texts, lists -/
def rAddU : R2 := fun x y H Q => (rI0 (fun i j => .int (i + j)) x y H Q ∨ (∃ i j, x = .str i ∧ y = .str j ∧ i.length + j.length ≤ sizeLine ∧ Q (.str (i ++ j)) H)) ∨ rCat x y H Q
theorem op_addU {X : Cx} : OpR X (binaryOp .Add) rAddU := (op_add.or op_add_str).or op_cat
/-! ### * of ints, of a text and an int -/
def repS (z : Str) (n : Int) : Str := if n < 1 then Str.empty else ⟨(List.replicate n.toNat z.cps.toList).flatten.toArray⟩
theorem foldl_app : ∀ (l : List (Array Nat)) (a : Array Nat), l.foldl (· ++ ·) a = a ++ (l.map Array.toList).flatten.toArray
  | [], a => by simp
  | x :: r, a => by
    rw [List.foldl_cons, foldl_app r, List.map_cons, List.flatten_cons]
    apply Array.ext'
    simp
def rMulS : R2 := fun x y H Q => ∃ z n, x = .str z ∧ y = .int n ∧ n < 1000 ∧ -1000 < n ∧ z.length ≤ 10000 ∧ Q (.str (repS z n)) H
theorem op_mulS {X : Cx} : OpR X (binaryOp .Mult) rMulS := by
  intro pins s σ H x y v u Q I rx ry h
  obtain ⟨z, n, rfl, rfl, h1, h0, hz, q⟩ := h
  obtain ⟨t, rfl⟩ := rx
  obtain ⟨t', rfl⟩ := ry
  have hr : (decide (n < -(2 ^ 63 : Int)) || decide (n ≥ 2 ^ 63)) = false := by
    have e1 : ¬ n < -(2 ^ 63 : Int) := by omega
    have e2 : ¬ n ≥ 2 ^ 63 := by omega
    rw [decide_eq_false e1, decide_eq_false e2]; rfl
  have hlen : ¬ n < 1 → z.length * n.toNat ≤ 10000 * 1000 := fun _ => Nat.mul_le_mul hz (by omega)
  refine P.mul_str hr (fun hn _ => ?_) (fun hn _ => ?_) ?_
  · have hpos : 0 < n := by omega
    have e3 : ((2 : Int) ^ 63 - 1) / 1000 ≤ (2 ^ 63 - 1) / n := by
      rw [Int.le_ediv_iff_mul_le hpos]
      have : (2 ^ 63 - 1) / 1000 * n ≤ (2 ^ 63 - 1) / 1000 * 1000 := Int.mul_le_mul_of_nonneg_left (by omega) (by decide)
      have e4 : ((2 : Int) ^ 63 - 1) / 1000 * 1000 ≤ 2 ^ 63 - 1 := by decide
      omega
    have e5 : (10000 : Int) ≤ (2 ^ 63 - 1) / 1000 := by decide
    omega
  · have := hlen hn
    first
    | exact decide_eq_false (by rw [sizeLine_eq]; omega)
    | (unfold tooLong; exact decide_eq_false (by rw [sizeLine_eq]; omega))
  · by_cases hn : n < 1
    · rw [if_pos hn]
      unfold repS at q
      rw [if_pos hn] at q
      exact ⟨by decide, .str _, H, I.tok _, ⟨_, rfl⟩, q⟩
    · rw [if_neg hn]
      unfold repS at q
      rw [if_neg hn] at q
      by_cases c : (n == 1 || z.length == 0) = true
      · rw [if_pos c]
        have e : (⟨(List.replicate n.toNat z.cps.toList).flatten.toArray⟩ : Str) = z := by
          rw [Bool.or_eq_true, beq_iff_eq, beq_iff_eq] at c
          rcases c with c | c
          · subst c
            show (⟨(List.replicate 1 z.cps.toList).flatten.toArray⟩ : Str) = z
            simp
          · have e0 : z.cps = #[] := Array.eq_empty_of_size_eq_zero c
            cases z with
            | mk cps =>
              have e0 : cps = #[] := e0
              subst e0
              simp
        rw [e] at q
        exact ⟨.str z, H, I, ⟨t, rfl⟩, q⟩
      · rw [if_neg c, foldl_app]
        have e : (#[] ++ ((List.replicate n.toNat z.cps).map Array.toList).flatten.toArray : Array Nat) = (List.replicate n.toNat z.cps.toList).flatten.toArray := by simp
        rw [e]
        refine ⟨?_, .str _, H, I.tok _, ⟨_, rfl⟩, q⟩
        have h5 : (⟨(List.replicate n.toNat z.cps.toList).flatten.toArray⟩ : Str).length = n.toNat * z.length := by
          show ((List.replicate n.toNat z.cps.toList).flatten.toArray).size = _
          rw [List.size_toArray, List.length_flatten, List.map_replicate, List.sum_replicate_nat, Array.length_toList]
          rfl
        rw [h5, Nat.mul_comm, sizeLine_eq]
        have := hlen hn
        omega
def rMulU : R2 := fun x y H Q => rI CMul (fun i j => .int (i * j)) x y H Q ∨ rMulS x y H Q
theorem op_mulU {X : Cx} : OpR X (binaryOp .Mult) rMulU := op_mul.or op_mulS
/-! ### == of flat values, of data -/
def rEqU (K : PySem.W.Frag) : R2 := fun x y H Q => rEq x y H Q ∨ rEqD K x y H Q
def rNeU (K : PySem.W.Frag) : R2 := fun x y H Q => rNe x y H Q ∨ rNeD K x y H Q
theorem op_eqU {X : Cx} {k : Nat} (hr : Room k X.A) : OpR X (compareOp .Eq) (rEqU X.K) := op_eq.or (op_eqD (by have := hr.un; omega))
theorem op_neU {X : Cx} {k : Nat} (hr : Room k X.A) : OpR X (compareOp .NotEq) (rNeU X.K) := op_ne.or (op_neD (by have := hr.un; omega))
/-! ### <, <= of ints, of texts -/
def rLtU : R2 := fun x y H Q => rI0 (fun i j => .bl (decide (i < j))) x y H Q ∨ ∃ i j, x = .str i ∧ y = .str j ∧ Q (.bl (decide (i.cps.toList < j.cps.toList))) H
def rLeU : R2 := fun x y H Q => rI0 (fun i j => .bl (decide (i ≤ j))) x y H Q ∨ ∃ i j, x = .str i ∧ y = .str j ∧ Q (.bl (!decide (j.cps.toList < i.cps.toList))) H
theorem op_ltU {X : Cx} : OpR X (compareOp .Lt) rLtU := op_lt.or op_lt_str
theorem op_leU {X : Cx} : OpR X (compareOp .LtE) rLeU := op_le.or op_le_str
/-! ### slices of texts, lists -/
def rSlU (K : PySem.W.Frag) : V → Option Int → Option Int → Hp → VK → Prop := fun x lo hi H Q => rSlS x lo hi H Q ∨ rSlL K x lo hi H Q
theorem sl_U {X : Cx} : SlR X (rSlU X.K) := sl_str.or sl_list
/-! ### text[::-1] -/
def revS (z : Str) : Str := ⟨z.cps.toList.reverse.toArray⟩
theorem rev_step (x : Str) (u : Tok) : Txt.sliceBy x none none (-1, u) = revS x := by
  have h := step_rev_list x u
  have e : (Txt.sliceBy x none none (-1, u)).cps.toList = x.cps.toList.reverse := by
    rw [h]
    apply List.ext_getElem
    · simp [Str.length]
    · intro i h1 h2
      have hi : i < x.cps.size := by simpa [Str.length] using h1
      rw [List.getElem_map, List.getElem_range, List.getElem_reverse]
      have : x.length - 1 - i < x.cps.size := by show x.cps.size - 1 - i < _; omega
      rw [Array.getD_eq_getD_getElem?, Array.getElem?_eq_getElem this]
      simp [Str.length]
  have e2 : (Txt.sliceBy x none none (-1, u)).cps = x.cps.toList.reverse.toArray := by rw [← e]
  cases hh : Txt.sliceBy x none none (-1, u) with
  | mk c =>
    rw [hh] at e2
    show (⟨c⟩ : Str) = ⟨_⟩
    rw [show c = _ from e2]
def tRevS (te : TE) : TE := fun σ H Q => te σ H fun x H1 => ∃ z : Str, x = .str z ∧ z.length ≤ sizeLine ∧ Q (.str (revS z)) H1
theorem pe_revS {X : Cx} {e : Expr} {te : TE} {k : Nat} {p1 p2 p3 pos : Pos} (he : PE X e te) : PE X (.Subscript e (.Slice none none (some (.UnaryOp .USub (.Constant (.int 1) k p1) p2)) p3) pos) (tRevS te) := by
  refine ⟨fun pins s σ H Q I h => ?_⟩
  refine Subscript_ (thn (he.run pins s σ H _ I h) fun v s1 ⟨x, H1, I1, r1, q1⟩ => ?_)
  obtain ⟨z, ex, hz, q⟩ := q1
  subst ex
  obtain ⟨t, rfl⟩ := r1
  have hst : PO X (some (.UnaryOp .USub (.Constant (.int 1) k p1) p2)) (tPart (tUn (rU fun i => .int (-i)) (tC (.int 1)))) := po_some (pe_un un_neg pe_int)
  refine wpAny_Slice (thn (po_none.run pins s1 σ H1 (fun o H2 => o = none ∧ H2 = H1) I1 ⟨rfl, rfl⟩) fun vl s2 ⟨l, H2, I2, pl, el, e2⟩ => ?_)
  subst el e2
  refine thn (po_none.run pins s2 σ H2 (fun o H3 => o = none ∧ H3 = H2) I2 ⟨rfl, rfl⟩) fun vu s3 ⟨u, H3, I3, pu, eu, e3⟩ => ?_
  subst eu e3
  refine thn (hst.run pins s3 σ H3 (fun o H4 => o = some (-1) ∧ H4 = H3) I3 ⟨1, rfl, -1, rfl, rfl, rfl⟩) fun vs s4 ⟨o, H4, I4, ps, eo, e4⟩ => ?_
  subst eo e4
  have I5 : Inv X pins σ H4 { s4 with heap := s4.heap.push { cls := .type "slice", data := .fields #[vl, vu, vs] } } := I4.kept (t' := s4.toks) fun b ob q => Heap.get?_push_of_some _ q
  show wpAny (model X.prog X.w) X.A (subscriptTail e (.Slice none none (some (.UnaryOp .USub (.Constant (.int 1) k p1) p2)) p3) (.str z t) (.ref s4.heap.objs.size)) (EP X pins σ Q) X.xe { s4 with heap := s4.heap.push { cls := .type "slice", data := .fields #[vl, vu, vs] } }
  cases pl
  cases pu
  cases ps with
  | int i tt =>
  refine tail_any (ops := [.ref s4.heap.objs.size, .str z t]) (typeIs_str _ z t) (PySem.F.slot_str_getitem.lookup) ?_ (by with_unfolding_all rfl)
  refine wpAny_getItem_str_slice (l := none) (u := none) (st := some (-1, tt)) ⟨_, Heap.get?_push_size _ rfl, rfl, rfl⟩ (by rfl) ?_
  have e9 : sliceMade z t none none (some (-1, tt)) = .str (revS z) := by
    rw [← rev_step z tt]
    unfold Txt.sliceBy sliceMade
    have h1 : (((((some ((-1 : Int), tt)).map (·.1)).getD 1 == 1) && ((slicePicked z none none (some (-1, tt))).length == z.length))) = false := rfl
    rw [if_neg (by rw [h1]; exact Bool.false_ne_true), if_neg (by rw [h1]; exact Bool.false_ne_true)]
  rw [e9]
  refine ⟨?_, .str _, H4, I5.tok _, ⟨_, rfl⟩, q⟩
  show (z.cps.toList.reverse.toArray).size ≤ sizeLine
  rw [List.size_toArray, List.length_reverse, Array.length_toList]
  exact hz
/-! ### list.count of flat items -/
theorem countP_eqU {x : V} : ∀ {xs : List V} {us : List Value}, Vals xs us → xs.all flatV = true → us.countP (eqU x) = xs.countP fun y => eqV y x
  | _, _, .nil, _ => rfl
  | y :: xs, u :: us, .cons r t, f => by
    rw [List.all_cons, Bool.and_eq_true] at f
    rw [List.countP_cons, List.countP_cons, eqU_of r f.1, countP_eqU t f.2]
def rCntF (K : PySem.W.Frag) : V → List V → Hp → VK → Prop := fun x xs H Q => ∃ (p : Addr) (ys : List V) (y : V), x = .ref p ∧ xs = [y] ∧ SqL K H p ys ∧ flatV y = true ∧ ys.all flatV = true ∧ Q (.int ((ys.countP fun z => eqV z y : Nat) : Int)) H
theorem mt_cntF {X : Cx} : MtR X "list.count" (rCntF X.K) := by
  intro pins s σ H x xs v us Q I rx rxs h
  obtain ⟨p, ys, y, rfl, rfl, hs, fy, fs, q⟩ := h
  cases rx
  obtain ⟨u, rfl, ru⟩ := rxs.one
  obtain ⟨its, rv, ⟨⟨cls, dd, data, sl⟩, n, ho, hc, hdn, hd⟩, hlen⟩ := I.list hs
  simp only at hc hd
  subst hc hd
  refine call_meets PySem.F.slot_list_count ⟨_, ho, rfl⟩ PySem.F.entry_list_count (PySem.F.args_list_count_2 _ _)
    (SeqAt.list_countAt p its.toArray n dd sl u (eqU y)) ⟨ho, fun w hw => mem_eqAt ru fy rv fs w (by simpa using hw), ?_⟩
  refine ⟨.int ((ys.countP fun z => eqV z y : Nat) : Int), H, I.tok _, ⟨s.toks, ?_⟩, q⟩
  show Value.int ((its.toArray.toList.countP (eqU y) : Nat) : Int) s.toks = _
  rw [List.toList_toArray, countP_eqU rv fs]
/-! ### min of a list of texts -/
def minS : List Str → Str
  | [] => Str.empty
  | z :: r => r.foldl (fun b x => if x.cps.toList < b.cps.toList then x else b) z
def btS (zs : List Str) (i j : Nat) : Bool := decide ((zs.getD i Str.empty).cps.toList < (zs.getD j Str.empty).cps.toList)
theorem argBest_S (z : Str) (r : List Str) : ∀ k, k ≤ r.length → (z :: r).getD (argBest (btS (z :: r)) k) Str.empty = (r.take k).foldl (fun b x => if x.cps.toList < b.cps.toList then x else b) z
  | 0, _ => by simp [argBest]
  | k + 1, hk => by
    have ih := argBest_S z r k (by omega)
    have e : r.take (k + 1) = r.take k ++ [r.getD k Str.empty] := by
      rw [List.take_add_one]
      congr 1
      simp [List.getElem?_eq_getElem (show k < r.length by omega)]
    rw [e, List.foldl_append, ← ih]
    show (z :: r).getD (argBest (btS (z :: r)) (k + 1)) Str.empty = (if (r.getD k Str.empty).cps.toList < _ then _ else _)
    have e2 : (z :: r).getD (k + 1) Str.empty = r.getD k Str.empty := by simp
    have e3 : argBest (btS (z :: r)) (k + 1) = if btS (z :: r) (k + 1) (argBest (btS (z :: r)) k) then k + 1 else argBest (btS (z :: r)) k := rfl
    rw [e3]
    by_cases c : (r.getD k Str.empty).cps.toList < ((z :: r).getD (argBest (btS (z :: r)) k) Str.empty).cps.toList
    · rw [if_pos c]
      have : btS (z :: r) (k + 1) (argBest (btS (z :: r)) k) = true := by
        unfold btS
        rw [e2]
        exact decide_eq_true c
      rw [if_pos this, e2]
    · rw [if_neg c]
      have : btS (z :: r) (k + 1) (argBest (btS (z :: r)) k) = false := by
        unfold btS
        rw [e2]
        exact decide_eq_false c
      rw [if_neg (by rw [this]; exact Bool.false_ne_true)]
theorem mcStrs : ∀ {zs : List Str} {us : List Value}, Vals (zs.map V.str) us → ∀ i v, us[i]? = some v → ∃ t, v = Value.str (zs.getD i Str.empty) t
  | [], _, .nil, i, v, h => by cases i <;> cases h
  | z :: zs, _, .cons r t, 0, v, h => by
    cases h
    obtain ⟨k, rfl⟩ := r
    exact ⟨k, by simp⟩
  | z :: zs, _, .cons r t, i + 1, v, h => by
    obtain ⟨k, e⟩ := mcStrs t i v (by simpa using h)
    exact ⟨k, by simpa using e⟩
def rMinS (K : PySem.W.Frag) : List V → Hp → VK → Prop := fun vs H Q => ∃ (a : Addr) (zs : List Str), vs = [V.ref a] ∧ SqL K H a (zs.map V.str) ∧ 0 < zs.length ∧ Q (.str (minS zs)) H
theorem call_minS {X : Cx} (hc : X.calm = true) : CallR X (.builtin "min") (rMinS X.K) := by
  intro pins s σ H vs us Q I r h
  obtain ⟨a, zs, rfl, hs, hne, q⟩ := h
  obtain ⟨its, rv, hl, _⟩ := I.list hs
  rw [Vals.ref1 r]
  have hlen : its.length = zs.length := by rw [← rv.length, List.length_map]
  refine call_min_walk (iter_anyList hl.isList fun s₂ e st hfp hlI => ?_)
  subst e
  have cmp : CmpOf X.prog X.w X.A.in1 .Lt (fun i v => its.toArray[i]? = some v) (btS zs) := by
    intro i j vi vj s1 Q1 E1 hi hj hQ
    obtain ⟨ti, rfl⟩ := mcStrs rv i vi (by simpa using hi)
    obtain ⟨tj, rfl⟩ := mcStrs rv j vj (by simpa using hj)
    exact PyProof.Rows.lt_str hQ
  refine ⟨_, _, _, _, _, _, _, rfl, Walks.list (A := X.A.in1) (I.ok.hd hc) _ a hlI its.toArray, st, hfp, by simp; omega, cmp, fun v h' tk hP hk => ?_⟩
  have hP2 : its[argBest (btS zs) (its.toArray.size - 1)]? = some v := by simpa using hP
  obtain ⟨t, rfl⟩ := mcStrs rv _ v hP2
  refine ⟨.str _, H, I.kept (t' := tk) (PySem.old_kept hk), ⟨t, rfl⟩, ?_⟩
  cases zs with
  | nil => exact absurd hne (by simp)
  | cons z zr =>
    have e := argBest_S z zr zr.length (Nat.le_refl _)
    rw [List.take_of_length_le (Nat.le_refl _)] at e
    have e2 : its.toArray.size - 1 = zr.length := by simp [hlen]
    rw [e2, e]
    exact q
end MC
set_option maxHeartbeats 4000000
/-! MB7: calls of defs, methods, classmethods, classes that may raise: what they let out, at the slots -/
namespace MC
open PySem PySem.Spec PyProof.Rows L2

theorem run_S {X : Cx} {k : Nat} {f : Addr} {sp : Sp} {E : XK} {pins : List (Addr × Obj)} {σ : L2.St} {H : Hp} {s : Shared} {Q : VK} {us : List Value} {vs : List V} (F : FnR X.prog X.w X.K X.mg X.base (L2.CX X.prog X.w) k f sp) (hr : Room k X.A) (hx : PassesAt (L2.CX X.prog X.w) X σ E)
    (I : Inv X pins σ H s) (r : Vals vs us) (h : sp vs H Q E) : codeAny (model X.prog X.w) X.A (.call (.ref f) ⟨us, []⟩) (fun r s' => match r with | .ok (.ret v) => EP X pins σ Q v s' | .ok _ => False | .error e => X.xe e s') s := by
  refine codeAny_mono (F X.A X.stack s H us vs Q E hr I.env0 r h) fun r s' hq => ?_
  cases r with
  | error e => exact hx pins H s e s' I hq
  | ok fl =>
    cases fl with
    | ret u => exact I.after hq
    | next => exact False.elim hq
    | brk => exact False.elim hq
    | cont => exact False.elim hq

/-! ### a def by its name -/
structure FnG (P : Program) (w : World) (K : PySem.W.Frag) (mg : Str → Option Value) (base : Heap) (k : Nat) (x : Str) (sp : Sp) : Prop where
  ex : ∃ f, FnR P w K mg base (L2.CX P w) k f sp ∧ mg x = some (.ref f) ∧ PySem.W.keepIn K (.ref f) = true
/-- a wish of the slots that wishes nothing -/
abbrev EN : L2.St → XK := fun _ _ _ _ => False
theorem passN {X : Cx} : ∀ σ, PassesAt (L2.CX X.prog X.w) X σ (EN σ) := fun σ => pass_none
theorem passW {X : Cx} {W : WX} (tk : Takes X W) : ∀ σ, PassesAt (L2.CX X.prog X.w) X σ (WE W σ) := fun σ => passAt tk σ
section
variable {X : Cx} {k : Nat} {sp : Sp} {E : L2.St → XK} {x m : Str} {p pos apos : Pos} {e o : Expr} {es : List Expr} {ta : TE} {t tk : TA} {C : Addr} {pl : Sem Bool}
theorem pe_callG (F : FnG X.prog X.w X.K X.mg X.base k x sp) (hr : Room k X.A) (hx : ∀ σ, PassesAt (L2.CX X.prog X.w) X σ (E σ)) (hg : Gl X x) (ha : PA X (e :: es) t)
    (hdb : (x == ("__debug__" : Str)) = false := by decide) (he : starEach (e :: es) X.env = (false, eval e X.env) :: starEach es X.env := by rfl) (hpl : (backTo pos (starEach es X.env)).any (·.1) = false := by rfl) :
    PE X (.Call (.Name x p) (e :: es) [] pos) (tCallS sp E t) := by
  obtain ⟨f, G, hm, hk⟩ := F.ex
  refine ⟨fun pins s σ H Q I h => ?_⟩
  refine wpAny_Call_Name_kw (ld_glob I hg hm ?_ hdb)
  refine PySem.W.callWith_K (h₀ := X.base) I.ok.mod.kin hk (thn (ha.run pos pins s σ H _ I h) fun us s1 ⟨vs, H1, I1, r, q⟩ => ⟨I1.kIn, ?_⟩) he hpl
  exact wpAny_call (run_S G hr (hx σ) I1 r q)

/-! ### a method of an own class -/
structure MeG (P : Program) (w : World) (K : PySem.W.Frag) (mg : Str → Option Value) (base : Heap) (k : Nat) (C : Addr) (m : Str) (sp : Sp) : Prop where
  cl : Cls K C
  ex : ∃ f, FnR P w K mg base (L2.CX P w) k f sp ∧ Meth K C m f
def tMethG (C : Addr) (m : Str) (sp : Sp) (E : L2.St → XK) (ta : TE) (t : TA) : TE := fun σ H Q => ta σ H fun x H1 => ∃ a dx fs, x = .ref a ∧ H1 a = some (.ins C dx fs) ∧ fs.lookup m = none ∧ t σ H1 fun vs H2 => sp (.ref a :: vs) H2 Q (E σ)
theorem pe_methG (F : MeG X.prog X.w X.K X.mg X.base k C m sp) (hr : Room k X.A) (hx : ∀ σ, PassesAt (L2.CX X.prog X.w) X σ (E σ)) (he : PE X o ta) (ha : PA X (e :: es) t)
    (hst : starEach (e :: es) X.env = (false, eval e X.env) :: starEach es X.env := by rfl) (hpl : (backTo pos (starEach es X.env)).any (·.1) = false := by rfl)
    (ht : eval (.Call (.Attribute o m apos) (e :: es) [] pos) X.env = (do
      let ov ← eval o X.env
      standAt apos.atName
      let (f, first) ← holding [ov] (getMethod ov m pl)
      callWith pos f first (backTo pos (starEach (e :: es) X.env)) (backToKw pos (keywordEach [] X.env))) := by rfl) :
    PE X (.Call (.Attribute o m apos) (e :: es) [] pos) (tMethG C m sp E ta t) := by
  obtain ⟨f, G, hm⟩ := F.ex
  refine ⟨fun pins s σ H Q I h => ?_⟩
  refine PySem.W.methodCall_KW (pl := pl) (thn (he.run pins s σ H _ I h) fun u s1 ⟨x, H1, I1, rx, a, dx, fs, ex, ea, l, q⟩ => ?_) ht
  subst ex
  obtain rfl : u = Value.ref a := rx
  refine getmeth_ok I1 ea F.cl hm l ?_
  refine PySem.W.callWith_K (first := [.ref a]) (h₀ := X.base) I.ok.mod.kin hm.kp (thn (ha.run pos pins s1 σ H1 _ I1 q) fun us s2 ⟨vs, H2, I2, r, q2⟩ => ⟨I2.kIn, ?_⟩) hst hpl
  exact wpAny_call (run_S (us := .ref a :: us) (vs := .ref a :: vs) G hr (hx σ) I2 (.cons rfl r) q2)
theorem pe_methG0 (F : MeG X.prog X.w X.K X.mg X.base k C m sp) (hr : Room k X.A) (hx : ∀ σ, PassesAt (L2.CX X.prog X.w) X σ (E σ)) (he : PE X o ta)
    (ht : eval (.Call (.Attribute o m apos) [] [] pos) X.env = (do
      let ov ← eval o X.env
      standAt apos.atName
      let (f, first) ← holding [ov] (getMethod ov m pl)
      callWith pos f first (backTo pos (starEach [] X.env)) (backToKw pos (keywordEach [] X.env))) := by rfl) :
    PE X (.Call (.Attribute o m apos) [] [] pos) (tMethG C m sp E ta tNil) := by
  obtain ⟨f, G, hm⟩ := F.ex
  refine ⟨fun pins s σ H Q I h => ?_⟩
  refine PySem.W.methodCall_KW (pl := pl) (thn (he.run pins s σ H _ I h) fun u s1 ⟨x, H1, I1, rx, a, dx, fs, ex, ea, l, q⟩ => ?_) ht
  subst ex
  obtain rfl : u = Value.ref a := rx
  refine getmeth_ok I1 ea F.cl hm l ?_
  exact PySem.W.callWith_K0 (first := [.ref a]) I1.kIn hm.kp (wpAny_call (run_S (us := [.ref a]) (vs := [.ref a]) G hr (hx σ) I1 (.cons rfl .nil) q))

/-! ### a classmethod, by the class -/
structure CmG (P : Program) (w : World) (K : PySem.W.Frag) (mg : Str → Option Value) (base : Heap) (k : Nat) (C : Addr) (m : Str) (sp : Sp) : Prop where
  ex : ∃ mc pr g, ClX.CRead K C mc ∧ ClX.CMet K C mc m pr g ∧ FnR P w K mg base (L2.CX P w) k g sp
def tCMethG (C : Addr) (sp : Sp) (E : L2.St → XK) (ta : TE) (t : TA) : TE := fun σ H Q => ta σ H fun x H1 => x = .ref C ∧ t σ H1 fun vs H2 => sp (.ref C :: vs) H2 Q (E σ)
theorem pe_cmethG (F : CmG X.prog X.w X.K X.mg X.base k C m sp) (hr : Room k X.A) (hx : ∀ σ, PassesAt (L2.CX X.prog X.w) X σ (E σ)) (he : PE X o ta) (ha : PA X (e :: es) t)
    (hst : starEach (e :: es) X.env = (false, eval e X.env) :: starEach es X.env := by rfl) (hpl : (backTo pos (starEach es X.env)).any (·.1) = false := by rfl)
    (ht : eval (.Call (.Attribute o m apos) (e :: es) [] pos) X.env = (do
      let ov ← eval o X.env
      standAt apos.atName
      let (f, first) ← holding [ov] (getMethod ov m pl)
      callWith pos f first (backTo pos (starEach (e :: es) X.env)) (backToKw pos (keywordEach [] X.env))) := by rfl) :
    PE X (.Call (.Attribute o m apos) (e :: es) [] pos) (tCMethG C sp E ta t) := by
  obtain ⟨mc, pr, g, r, c, G⟩ := F.ex
  refine ⟨fun pins s σ H Q I h => ?_⟩
  refine PySem.W.methodCall_KW (pl := pl) (thn (he.run pins s σ H _ I h) fun u s1 ⟨x, H1, I1, rx, ex, q⟩ => ?_) ht
  subst ex
  obtain rfl : u = Value.ref C := rx
  refine ClX.getmethcm_ok I1 r c fun s2 I2 => ?_
  refine ClX.callwith_cm I2 (ClX.base_none I1 (Nat.le_refl _)) c.fi (thn (ha.run pos _ s2 σ H1 _ I2 q) fun us s3 ⟨vs, H2, I3, rv, q2⟩ => ⟨⟨ClX.pin_at I3, I3.kIn⟩, ?_⟩) hst hpl
  have z : wpAny (model X.prog X.w) X.A (call (.ref s1.heap.objs.size) us) (EP X ((s1.heap.objs.size, PySem.W.methodObj (.ref g) (.ref C)) :: pins) σ Q) X.xe s3 :=
    wpAny_call (PySem.W.method_call (ClX.pin_at I3) (run_S (us := .ref C :: us) (vs := .ref C :: vs) G hr (hx σ) I3 (.cons rfl rv) q2))
  exact thn z fun _ _ y => ClX.unpinE y

/-! ### a class, called with n values and keywords ks; the callee any expression that gives the class -/
/-- its __init__ keeps the promise sp at [values, then keywords' values], once the new instance is there -/
structure CtG (P : Program) (w : World) (K : PySem.W.Frag) (mg : Str → Option Value) (base : Heap) (k : Nat) (C : Addr) (n : Nat) (ks : List Str) (sp : List V → List V → Hp → VK → XK → Prop) : Prop where
  ex : ∃ f fd ps spI g gV, Mk K C f ∧ FnOk P w K mg base (L2.CX P w) k f fd ps spI ∧ KBn K fd ps (n + 1) ks g gV ∧
    ∀ vs zs H Q E, sp vs zs H Q E → vs.length = n ∧ zs.length = ks.length ∧ ∀ x dx, H x = none → H dx = none → dx ≠ x → spI (gV (.ref x :: vs) zs) (upd (upd H dx (.own x)) x (.ins C dx [])) (fun v H2 => v = .non ∧ Q (.ref x) H2) E
def tMkG (C : Addr) (sp : List V → List V → Hp → VK → XK → Prop) (E : L2.St → XK) (tf : TE) (t tk : TA) : TE := fun σ H Q => tf σ H fun c H0 => c = .ref C ∧ t σ H0 fun vs H1 => tk σ H1 fun zs H2 => sp vs zs H2 Q (E σ)
variable {n : Nat} {ks : List Str} {spK : List V → List V → Hp → VK → XK → Prop} {tf : TE} {kws : List Keyword}
theorem run_mkG {pins : List (Addr × Obj)} {σ : L2.St} {H : Hp} {s : Shared} {Q : VK} {us ws : List Value} {vs zs : List V} {E : XK} (F : CtG X.prog X.w X.K X.mg X.base k C n ks spK) (hr : Room (k + 1) X.A) (hx : PassesAt (L2.CX X.prog X.w) X σ E)
    (I : Inv X pins σ H s) (r : Vals vs us) (rz : Vals zs ws) (h : spK vs zs H Q E) : wpAny (model X.prog X.w) X.A (call (.ref C) us (ks.zip ws)) (EP X pins σ Q) X.xe s := by
  obtain ⟨f, fd, ps, spI, g, gV, M, G, hb, hsp⟩ := F.ex
  obtain ⟨l1, l2, h⟩ := hsp _ _ _ _ _ h
  have hq := h (s.heap.objs.size + 1) s.heap.objs.size (I.hok.fresh (Nat.le_succ _)) (I.hok.fresh (Nat.le_refl _)) (Nat.ne_of_lt (Nat.lt_succ_self _))
  have I2 := Inv.made (C := C) I
  have r1 : Vals (V.ref (s.heap.objs.size + 1) :: vs) (Value.ref (s.heap.objs.size + 1) :: us) := .cons rfl r
  have r2 := hb.rel r1 rz
  have n1 : (Value.ref (s.heap.objs.size + 1) :: us).length = n + 1 := by
    rw [List.length_cons, ← r.length, l1]
  refine wpAny_call (make_map (f := f) I.kIn M.makes M.init (beq_iff_eq.mp M.fn) (codeAny_mono (G.run _ X.stack _ _ ⟨Value.ref (s.heap.objs.size + 1) :: us, ks.zip ws⟩ (g (Value.ref (s.heap.objs.size + 1) :: us) ws) _ _ E (hr.make C us (ks.zip ws))
    (I2.env0.make C us (ks.zip ws)) (hb.to _ (Value.ref (s.heap.objs.size + 1) :: us) ws I2.kIn n1 (rz.length.symm.trans l2)) r2 hq) fun r s' hq' => ?_))
  cases r with
  | error e => exact hx pins _ _ e s' I2 hq'
  | ok fl =>
    cases fl with
    | ret u =>
      obtain ⟨v, H', I3, rv, ev, q3⟩ := I2.after hq'
      subst ev
      exact ⟨rv, ⟨V.ref (s.heap.objs.size + 1), H', I3, rfl, q3⟩⟩
    | next => exact False.elim hq'
    | brk => exact False.elim hq'
    | cont => exact False.elim hq'
theorem CtG.kp (F : CtG X.prog X.w X.K X.mg X.base k C n ks spK) : PySem.W.keepIn X.K (.ref C) = true := by
  obtain ⟨f, fd, ps, spI, g, gV, M, G, hb, hsp⟩ := F.ex
  exact M.kp
theorem pe_mkG0 (F : CtG X.prog X.w X.K X.mg X.base k C n ks spK) (hr : Room (k + 1) X.A) (hx : ∀ σ, PassesAt (L2.CX X.prog X.w) X σ (E σ)) (hf : PE X (.Name x p) tf) (hkw : PK X kws tk)
    (hall : (backToKw pos (keywordEach kws X.env)).all (·.1.isSome) = true := by rfl) (hks : (backToKw pos (keywordEach kws X.env)).filterMap (·.1) = ks := by rfl)
    (hpl : ((backTo pos (starEach [] X.env)).any (·.1) || (backToKw pos (keywordEach kws X.env)).any (·.1.isNone)) = false := by rfl) :
    PE X (.Call (.Name x p) [] kws pos) (tMkG C spK E tf tNil tk) := by
  refine ⟨fun pins s σ H Q I h => ?_⟩
  refine wpAny_Call_Name_kw (thn (hf.run pins s σ H _ I h) fun u s0 ⟨c, H0, I0, rc, ec, q0⟩ => ?_)
  subst ec
  obtain rfl : u = Value.ref C := rc
  refine PySem.W.callWith_KW0 (h₀ := X.base) I.ok.mod.kin F.kp hall ?_ hpl
  refine thn (hkw.run pos pins s0 σ H0 _ I0 q0) fun ws s2 ⟨zs, H2, I2, rz, q2⟩ => ⟨I2.kIn, ?_⟩
  rw [hks]
  exact run_mkG (us := []) (vs := []) F hr (hx σ) I2 .nil rz q2
theorem pe_mkG (F : CtG X.prog X.w X.K X.mg X.base k C n ks spK) (hr : Room (k + 1) X.A) (hx : ∀ σ, PassesAt (L2.CX X.prog X.w) X σ (E σ)) (hf : PE X (.Name x p) tf) (ha : PA X (e :: es) t) (hkw : PK X kws tk)
    (hall : (backToKw pos (keywordEach kws X.env)).all (·.1.isSome) = true := by rfl) (hks : (backToKw pos (keywordEach kws X.env)).filterMap (·.1) = ks := by rfl)
    (he : starEach (e :: es) X.env = (false, eval e X.env) :: starEach es X.env := by rfl) (hpl : ((backTo pos (starEach (e :: es) X.env)).any (·.1) || (backToKw pos (keywordEach kws X.env)).any (·.1.isNone)) = false := by rfl) :
    PE X (.Call (.Name x p) (e :: es) kws pos) (tMkG C spK E tf t tk) := by
  refine ⟨fun pins s σ H Q I h => ?_⟩
  refine wpAny_Call_Name_kw (thn (hf.run pins s σ H _ I h) fun u s0 ⟨c, H0, I0, rc, ec, q0⟩ => ?_)
  subst ec
  obtain rfl : u = Value.ref C := rc
  refine PySem.W.callWith_KW (h₀ := X.base) I.ok.mod.kin F.kp hall (thn (ha.run pos pins s0 σ H0 _ I0 q0) fun us s1 ⟨vs, H1, I1, r, q⟩ => ?_) hpl he
  refine thn (hkw.run pos pins s1 σ H1 _ I1 q) fun ws s2 ⟨zs, H2, I2, rz, q2⟩ => ⟨I2.kIn, ?_⟩
  rw [hks]
  exact run_mkG F hr (hx σ) I2 r rz q2

/-! ### raise C() of a class without __init__ -/
theorem pmk_own0 {bmB : List Value} {B newId initId : String} (F : ExcBaseFacts B newId initId bmB) (q : PySem.W.excIn X.K C bmB newId = true) (gC : X.mg x = some (.ref C)) (kC : PySem.W.keepIn X.K (.ref C) = true) (r : Raises X (.ref C)) (hg : Gl X x)
    (hdb : (x == ("__debug__" : Str)) = false := by decide) : PMk X (.Call (.Name x p) [] [] pos) (fun _ H Q => Q (.ref C) none H) := by
  intro pins s σ H Q I h
  refine wpAny_Call_Name_kw (ld_glob I hg gC ?_ hdb)
  refine PySem.W.callWith_K0 I.kIn kC ?_
  obtain ⟨bm, N, nm, qn, bs, hdct, sn, sub, ab, col, dd, k0, k1, k2, k3, k5, mN, hC, hN, hni, T⟩ := exc_obj I.kIn q
  refine wpAny_call_exc_subT F T hC hN hni (fun h' e hm => ?_) (by show 0 ≤ sizeLine; exact Nat.zero_le _)
  exact mk_of I hm r h (I.hok.gone hm.new)
end
end MC
set_option maxHeartbeats 4000000
/-! MB8: readings, step by step; what stays of a heap -/
namespace MC
open PySem PySem.Spec PyProof.Rows L2

/-! ### what stays: all but the drawing lists [script, int, int] -/
def stSh : HO → Bool
  | .lst [.ref _, .int _, .int _] => true
  | _ => false
/-- all stays -/
structure Le (H H' : Hp) : Prop where
  at_ : ∀ a o, H a = some o → H' a = some o
  fr : ∀ a, H' a = none → H a = none
theorem Le.refl (H : Hp) : Le H H := ⟨fun _ _ h => h, fun _ h => h⟩
theorem Le.trans {H H1 H2 : Hp} (a : Le H H1) (b : Le H1 H2) : Le H H2 := ⟨fun x o h => b.at_ x o (a.at_ x o h), fun x h => a.fr x (b.fr x h)⟩
theorem Le.new {H : Hp} {p : Addr} {o : HO} (h : H p = none) : Le H (upd H p o) := ⟨fun a u e => by
  rw [upd_ne (ne_of_none e h)]
  exact e, fun a e => by
  by_cases hb : a = p
  · rw [hb]; exact h
  · rwa [upd_ne hb] at e⟩
theorem Le.keep {H H' : Hp} {a : Addr} {o : HO} (e : Le H H') (h : H a = some o) : H' a = some o := e.at_ a o h
/-- all but the drawing lists stays -/
structure Lw (H H' : Hp) : Prop where
  at_ : ∀ a o, H a = some o → stSh o = false → H' a = some o
  fr : ∀ a, H' a = none → H a = none
theorem Lw.refl (H : Hp) : Lw H H := ⟨fun _ _ h _ => h, fun _ h => h⟩
theorem Lw.trans {H H1 H2 : Hp} (a : Lw H H1) (b : Lw H1 H2) : Lw H H2 := ⟨fun x o h s => b.at_ x o (a.at_ x o h s) s, fun x h => a.fr x (b.fr x h)⟩
theorem Le.w {H H' : Hp} (a : Le H H') : Lw H H' := ⟨fun x o h _ => a.at_ x o h, a.fr⟩
theorem Lw.keep {H H' : Hp} {a : Addr} {o : HO} (e : Lw H H') (h : H a = some o) (s : stSh o = false) : H' a = some o := e.at_ a o h s
theorem Lw.st {H : Hp} {s : Addr} {xs ys : List V} (h : H s = some (.lst xs)) (hs : stSh (.lst xs) = true) : Lw H (upd H s (.lst ys)) := ⟨fun a u e hu => by
  by_cases hb : a = s
  · rw [hb, h] at e
    cases e
    rw [hs] at hu
    cases hu
  · rw [upd_ne hb]; exact e, fun a e => by
  by_cases hb : a = s
  · rw [hb, upd_same] at e; cases e
  · rwa [upd_ne hb] at e⟩
theorem sh_str (zs : List Str) : stSh (.lst (zs.map V.str)) = false := by cases zs <;> rfl
theorem sh_ints (zs : List Int) : stSh (.lst (zs.map V.int)) = false := by cases zs <;> rfl
theorem sh_sgns (z : Str) : stSh (.lst (sgns z)) = false := by
  unfold sgns
  cases z.cps.toList <;> rfl
theorem sql {K : PySem.W.Frag} {H : Hp} {a : Addr} {xs : List V} (h : H a = some (.lst xs)) : SqL K H a xs := SqL.of h
theorem sqt {K : PySem.W.Frag} {H : Hp} {a : Addr} {xs : List V} (h : H a = some (.tup xs)) : SqT K H a xs := SqT.of h
theorem szb {n : Nat} (h : n ≤ 1000000) : n ≤ sizeLine := by rw [sizeLine_eq]; omega

/-! ### expressions -/
section
variable {K : PySem.W.Frag} {σ : L2.St} {H : Hp} {ta tb tc te : TE} {t tr : TA} {Q : VK} {v x y : V} {i j : Int} {b : Bool} {z w : Str} {QL : List V → Hp → Prop} {QB : Bool → Hp → Prop} {QO : Option Int → Hp → Prop}
theorem x_var {n : Nat} (h : σ[n]? = some (some v)) (q : Q v H) : tVar n σ H Q := ⟨v, h, q⟩
theorem x_c (q : Q v H) : tC v σ H Q := q
theorem x_op {r : R2} (h : ta σ H fun x H1 => tb σ H1 fun y H2 => r x y H2 Q) : tOp r ta tb σ H Q := h
theorem x_opS {r : R2S} (h : ta σ H fun x H1 => tb σ H1 fun y H2 => r σ x y H2 Q) : tOpS r ta tb σ H Q := h
theorem x_un {r : V → Hp → VK → Prop} (h : ta σ H fun x H1 => r x H1 Q) : tUn r ta σ H Q := h
theorem x_neg (q : Q (.int (-i)) H) : rU (fun i => .int (-i)) (.int i) H Q := ⟨i, rfl, q⟩
def kB (QB : Bool → Hp → Prop) : VK := fun x H => ∃ k, x = .bl k ∧ QB k H
theorem x_kB (q : QB b H) : kB QB (.bl b) H := ⟨b, rfl, q⟩
theorem x_test (h : ta σ H (kB QB)) : tTest ta σ H QB := h
theorem x_tB (h : ta σ H (kB QB)) : tB ta σ H QB := h
theorem x_nil (q : QL [] H) : tNil σ H QL := q
theorem x_cons (h : ta σ H fun x H1 => tr σ H1 fun xs H2 => QL (x :: xs) H2) : tCons ta tr σ H QL := h
def kTup (Q : VK) : List V → Hp → Prop := fun xs H1 => xs.length ≤ sizeLine ∧ ∀ p, H1 p = none → Q (.ref p) (upd H1 p (.tup xs))
theorem x_tup (h : t σ H (kTup Q)) : tTup t σ H Q := h
theorem x_kTup {xs : List V} (hl : xs.length ≤ 1000000) (q : ∀ p H1, H p = none → Le H H1 → H1 p = some (.tup xs) → Q (.ref p) H1) : kTup Q xs H := ⟨szb hl, fun p hp => q p _ hp (Le.new hp) upd_same⟩
def kLst (Q : VK) : List V → Hp → Prop := fun xs H1 => xs.length ≤ sizeLine ∧ ∀ p, H1 p = none → Q (.ref p) (upd H1 p (.lst xs))
theorem x_lst (h : t σ H (kLst Q)) : tLst t σ H Q := h
theorem x_kLst {xs : List V} (hl : xs.length ≤ 1000000) (q : ∀ p H1, H p = none → Le H H1 → H1 p = some (.lst xs) → Q (.ref p) H1) : kLst Q xs H := ⟨szb hl, fun p hp => q p _ hp (Le.new hp) upd_same⟩
/-- an attribute -/
def FldOk (K : PySem.W.Frag) (C : Addr) (f : Str) : Prop := Cls K C ∧ NoAttr K C f
def kFld (K : PySem.W.Frag) (f : Str) (Q : VK) : VK := fun x H1 => ∃ a C dx fs v, x = .ref a ∧ H1 a = some (.ins C dx fs) ∧ Cls K C ∧ NoAttr K C f ∧ fs.lookup f = some v ∧ Q v H1
theorem x_fld {f : Str} (h : ta σ H (kFld K f Q)) : tFld K ta f σ H Q := h
theorem x_kFld {f : Str} {a C dx : Addr} {fs : List (Str × V)} (h : H a = some (.ins C dx fs)) (k : FldOk K C f) (hl : fs.lookup f = some v) (q : Q v H) : kFld K f Q (.ref a) H := ⟨a, C, dx, fs, v, rfl, h, k.1, k.2, hl, q⟩
/-- built-ins, methods of built-ins -/
theorem x_cb {r : List V → Hp → VK → Prop} (h : t σ H fun xs H1 => r xs H1 Q) : tCB r t σ H Q := h
theorem x_call {sp : Sp} {E : L2.St → XK} (h : t σ H fun vs H1 => sp vs H1 Q (E σ)) : tCallS sp E t σ H Q := h
theorem x_callE {a : Addr} {cls : Value} {d : Option Addr} {sp : SpE} (h : t σ H fun vs H1 => sp a cls d vs H1 Q XE0) : tCallE a cls d sp t σ H Q := h
def kMeth (C : Addr) (m : Str) (sp : Sp) (E : L2.St → XK) (t : TA) (σ : L2.St) (Q : VK) : VK := fun x H1 => ∃ a dx fs, x = .ref a ∧ H1 a = some (.ins C dx fs) ∧ fs.lookup m = none ∧ t σ H1 fun vs H2 => sp (.ref a :: vs) H2 Q (E σ)
theorem x_meth {C : Addr} {m : Str} {sp : Sp} {E : L2.St → XK} (h : ta σ H (kMeth C m sp E t σ Q)) : tMethG C m sp E ta t σ H Q := h
theorem x_kMeth {C : Addr} {m : Str} {sp : Sp} {E : L2.St → XK} {a dx : Addr} {fs : List (Str × V)} (h : H a = some (.ins C dx fs)) (hl : fs.lookup m = none) (q : t σ H fun vs H2 => sp (.ref a :: vs) H2 Q (E σ)) : kMeth C m sp E t σ Q (.ref a) H := ⟨a, dx, fs, rfl, h, hl, q⟩
def kCM (C : Addr) (sp : Sp) (E : L2.St → XK) (t : TA) (σ : L2.St) (Q : VK) : VK := fun x H1 => x = .ref C ∧ t σ H1 fun vs H2 => sp (.ref C :: vs) H2 Q (E σ)
theorem x_cm {C : Addr} {sp : Sp} {E : L2.St → XK} (h : ta σ H (kCM C sp E t σ Q)) : tCMethG C sp E ta t σ H Q := h
theorem x_kCM {C : Addr} {sp : Sp} {E : L2.St → XK} (q : t σ H fun vs H2 => sp (.ref C :: vs) H2 Q (E σ)) : kCM C sp E t σ Q (.ref C) H := ⟨rfl, q⟩
def kMk (C : Addr) (sp : List V → List V → Hp → VK → XK → Prop) (E : L2.St → XK) (t tk : TA) (σ : L2.St) (Q : VK) : VK := fun c H0 => c = .ref C ∧ t σ H0 fun vs H1 => tk σ H1 fun zs H2 => sp vs zs H2 Q (E σ)
theorem x_mk {C : Addr} {sp : List V → List V → Hp → VK → XK → Prop} {E : L2.St → XK} {tf : TE} {tk : TA} (h : tf σ H (kMk C sp E t tk σ Q)) : tMkG C sp E tf t tk σ H Q := h
theorem x_kMk {C : Addr} {sp : List V → List V → Hp → VK → XK → Prop} {E : L2.St → XK} {tk : TA} (q : t σ H fun vs H1 => tk σ H1 fun zs H2 => sp vs zs H2 Q (E σ)) : kMk C sp E t tk σ Q (.ref C) H := ⟨rfl, q⟩
def kTy (K : PySem.W.Frag) (T : String) (r : V → List V → Hp → VK → Prop) (t : TA) (σ : L2.St) (Q : VK) : VK := fun x H1 => tyV K T x H1 ∧ t σ H1 fun xs H2 => r x xs H2 Q
theorem x_bm {T : String} {r : V → List V → Hp → VK → Prop} (h : ta σ H (kTy K T r t σ Q)) : tBM K T r ta t σ H Q := h
theorem x_tyL {r : V → List V → Hp → VK → Prop} {p : Addr} {xs : List V} (h : H p = some (.lst xs)) (q : t σ H fun ys H2 => r (.ref p) ys H2 Q) : kTy K "list" r t σ Q (.ref p) H := ⟨Or.inl ⟨rfl, xs, SqL.of h⟩, q⟩
theorem x_tyS {r : V → List V → Hp → VK → Prop} (q : t σ H fun ys H2 => r (.str z) ys H2 Q) : kTy K "str" r t σ Q (.str z) H := ⟨by first | rfl | exact trivial | (show _ ∨ _; exact Or.inl rfl), q⟩
/-- parts of a slice -/
theorem x_np (q : QO none H) : tNoPart σ H QO := q
def kPart (QO : Option Int → Hp → Prop) : VK := fun x H1 => ∃ i, x = .int i ∧ QO (some i) H1
theorem x_part (h : ta σ H (kPart QO)) : tPart ta σ H QO := h
theorem x_kPart (q : QO (some i) H) : kPart QO (.int i) H := ⟨i, rfl, q⟩
theorem x_sl {r : V → Option Int → Option Int → Hp → VK → Prop} {tl th : TO} (h : te σ H fun x H1 => tl σ H1 fun l H2 => th σ H2 fun u H3 => r x l u H3 Q) : L2.tSl r te tl th σ H Q := h
theorem x_slS {lo hi : Option Int} (hz : z.length ≤ 1000000) (q : Q (.str (cutS z lo hi)) H) : rSlU K (.str z) lo hi H Q := Or.inl ⟨z, rfl, szb hz, q⟩
theorem x_slL {lo hi : Option Int} {a : Addr} {xs : List V} (h : SqL K H a xs) (q : ∀ p H1, H p = none → Le H H1 → H1 p = some (.lst (cutV xs lo hi)) → Q (.ref p) H1) : rSlU K (.ref a) lo hi H Q := Or.inr ⟨a, xs, rfl, h, fun p hp => q p _ hp (Le.new hp) upd_same⟩
def kRev (Q : VK) : VK := fun x H1 => ∃ z : Str, x = .str z ∧ z.length ≤ sizeLine ∧ Q (.str (revS z)) H1
theorem x_rev (h : te σ H (kRev Q)) : tRevS te σ H Q := h
theorem x_kRev (hz : z.length ≤ 1000000) (q : Q (.str (revS z)) H) : kRev Q (.str z) H := ⟨z, rfl, szb hz, q⟩
/-- operators -/
theorem x_addI (q : Q (.int (i + j)) H) : rAddU (.int i) (.int j) H Q := Or.inl (Or.inl ⟨i, j, rfl, rfl, q⟩)
theorem x_addS (h : z.length + w.length ≤ 1000000) (q : Q (.str (z ++ w)) H) : rAddU (.str z) (.str w) H Q := Or.inl (Or.inr ⟨z, w, rfl, rfl, szb h, q⟩)
theorem x_addL {a c : Addr} {xs ys : List V} (h1 : H a = some (.lst xs)) (h2 : H c = some (.lst ys)) (hz : xs.length + ys.length ≤ 1000000) (q : ∀ p H1, H p = none → Le H H1 → H1 p = some (.lst (xs ++ ys)) → Q (.ref p) H1) : rAddU (.ref a) (.ref c) H Q :=
  Or.inr ⟨a, c, xs, ys, rfl, rfl, h1, h2, szb hz, fun p hp => q p _ hp (Le.new hp) upd_same⟩
theorem x_I0 {g : Int → Int → V} (q : Q (g i j) H) : rI0 g (.int i) (.int j) H Q := ⟨i, j, rfl, rfl, q⟩
theorem x_I {C : Int → Int → Prop} {g : Int → Int → V} (h : C i j) (q : Q (g i j) H) : rI C g (.int i) (.int j) H Q := ⟨i, j, rfl, rfl, h, q⟩
theorem x_mulI (h : -(2 ^ 64) < i ∧ i < 2 ^ 64) (q : Q (.int (i * j)) H) : rMulU (.int i) (.int j) H Q := Or.inl ⟨i, j, rfl, rfl, .inl h, q⟩
theorem x_mulS (h1 : i < 1000) (h0 : -1000 < i) (hz : z.length ≤ 10000) (q : Q (.str (repS z i)) H) : rMulU (.str z) (.int i) H Q := Or.inr ⟨z, i, rfl, rfl, h1, h0, hz, q⟩
theorem x_eqS (q : Q (.bl (decide (z = w))) H) : rEqU K (.str z) (.str w) H Q := Or.inl ⟨rfl, by
  rw [show decide (V.str z = V.str w) = decide (z = w) from decide_eq_decide.mpr ⟨fun h => by cases h; rfl, fun h => by rw [h]⟩]; exact q⟩
theorem x_eqI (q : Q (.bl (decide (i = j))) H) : rEqU K (.int i) (.int j) H Q := Or.inl ⟨rfl, by
  rw [show decide (V.int i = V.int j) = decide (i = j) from decide_eq_decide.mpr ⟨fun h => by cases h; rfl, fun h => by rw [h]⟩]; exact q⟩
theorem x_eqB {c : Bool} (q : Q (.bl (b == c)) H) : rEqU K (.bl b) (.bl c) H Q := Or.inl ⟨rfl, by
  have e : decide (V.bl b = V.bl c) = (b == c) := by cases b <;> cases c <;> rfl
  rw [e]; exact q⟩
theorem x_neS (q : Q (.bl (!decide (z = w))) H) : rNeU K (.str z) (.str w) H Q := Or.inl ⟨rfl, by
  rw [show decide (V.str z = V.str w) = decide (z = w) from decide_eq_decide.mpr ⟨fun h => by cases h; rfl, fun h => by rw [h]⟩]; exact q⟩
theorem x_neI (q : Q (.bl (!decide (i = j))) H) : rNeU K (.int i) (.int j) H Q := Or.inl ⟨rfl, by
  rw [show decide (V.int i = V.int j) = decide (i = j) from decide_eq_decide.mpr ⟨fun h => by cases h; rfl, fun h => by rw [h]⟩]; exact q⟩
theorem x_neB {c : Bool} (q : Q (.bl (!(b == c))) H) : rNeU K (.bl b) (.bl c) H Q := Or.inl ⟨rfl, by
  have e : decide (V.bl b = V.bl c) = (b == c) := by cases b <;> cases c <;> rfl
  rw [e]; exact q⟩
theorem x_neD {d e : PyData} (h1 : Dp K H x d) (h2 : Dp K H y e) (s1 : SeqAt.shaped d = true) (s2 : SeqAt.shaped e = true) (q : Q (.bl (!PyData.eqv d e)) H) : rNeU K x y H Q := Or.inr ⟨d, e, h1, h2, s1, s2, q⟩
theorem x_eqD {d e : PyData} (h1 : Dp K H x d) (h2 : Dp K H y e) (s1 : SeqAt.shaped d = true) (s2 : SeqAt.shaped e = true) (q : Q (.bl (PyData.eqv d e)) H) : rEqU K x y H Q := Or.inr ⟨d, e, h1, h2, s1, s2, q⟩
theorem x_ltI (q : Q (.bl (decide (i < j))) H) : rLtU (.int i) (.int j) H Q := Or.inl ⟨i, j, rfl, rfl, q⟩
theorem x_ltS (q : Q (.bl (decide (z.cps.toList < w.cps.toList))) H) : rLtU (.str z) (.str w) H Q := Or.inr ⟨z, w, rfl, rfl, q⟩
theorem x_leI (q : Q (.bl (decide (i ≤ j))) H) : rLeU (.int i) (.int j) H Q := Or.inl ⟨i, j, rfl, rfl, q⟩
theorem x_leS (q : Q (.bl (!decide (w.cps.toList < z.cps.toList))) H) : rLeU (.str z) (.str w) H Q := Or.inr ⟨z, w, rfl, rfl, q⟩
/-- p in z, of texts -/
def isIn (p z : Str) : Bool := !(Builtin.Str.occurrences z p 0 z.length 1).isEmpty
def rInT : R2 := fun x y H Q => ∃ i j, x = .str i ∧ y = .str j ∧ Q (.bl (isIn i j)) H
def rNotInT : R2 := fun x y H Q => ∃ i j, x = .str i ∧ y = .str j ∧ Q (.bl (!isIn i j)) H
theorem op_inT {X : Cx} : OpR X (compareOp .In) rInT := op_in_str
theorem op_notInT {X : Cx} : OpR X (compareOp .NotIn) rNotInT := L2.op_notIn_str
theorem x_inT (q : Q (.bl (isIn z w)) H) : rInT (.str z) (.str w) H Q := ⟨z, w, rfl, rfl, q⟩
theorem x_notInT (q : Q (.bl (!isIn z w)) H) : rNotInT (.str z) (.str w) H Q := ⟨z, w, rfl, rfl, q⟩
/-- subscripts -/
theorem x_ixL {p : Addr} {xs : List V} (h : SqL K H p xs) (ha : atI xs i = some v) (q : Q v H) : rIx K (.ref p) (.int i) H Q := Or.inl ⟨p, xs, i, v, rfl, rfl, h, ha, q⟩
theorem x_ixT {p : Addr} {xs : List V} (h : H p = some (.tup xs)) (ha : atI xs i = some v) (q : Q v H) : rIx K (.ref p) (.int i) H Q := Or.inr (Or.inl ⟨p, xs, i, v, rfl, rfl, sqt h, ha, q⟩)
theorem x_ixS {c : Nat} (hz : z.length ≤ 1000000) (ha : atI z.cps.toList i = some c) (q : Q (.str ⟨#[c]⟩) H) : rIx K (.str z) (.int i) H Q := Or.inr (Or.inr ⟨z, i, c, rfl, rfl, szb hz, ha, q⟩)
/-- calls of built-ins -/
def rLenU (K : PySem.W.Frag) : List V → Hp → VK → Prop := fun xs H Q => ∃ x n, xs = [x] ∧ LenV K x H n ∧ Q (.int n) H
theorem call_lenU {X : Cx} : CallR X (.builtin "len") (rLenU X.K) := call_len
theorem x_lenS (hz : z.length ≤ 1000000) (q : Q (.int (z.length : Nat)) H) : rLenU K [.str z] H Q := ⟨_, z.length, rfl, ⟨szb hz, rfl⟩, q⟩
theorem x_lenL {p : Addr} {xs : List V} (h : SqL K H p xs) (q : Q (.int (xs.length : Nat)) H) : rLenU K [.ref p] H Q := ⟨_, xs.length, rfl, Or.inl ⟨xs, h, rfl⟩, q⟩
theorem x_lenT {p : Addr} {xs : List V} (h : H p = some (.tup xs)) (q : Q (.int (xs.length : Nat)) H) : rLenU K [.ref p] H Q := ⟨_, xs.length, rfl, Or.inr ⟨xs, sqt h, rfl⟩, q⟩
def rAbs : List V → Hp → VK → Prop := fun xs H Q => ∃ i, xs = [.int i] ∧ Q (.int (if i < 0 then -i else i)) H
theorem call_absU {X : Cx} : CallR X (.builtin "abs") rAbs := call_abs
theorem x_abs (q : Q (.int (if i < 0 then -i else i)) H) : rAbs [.int i] H Q := ⟨i, rfl, q⟩
def rInt1 : List V → Hp → VK → Prop := fun xs H Q => (∃ i, xs = [.int i] ∧ Q (.int i) H) ∨ ∃ k, xs = [.bl k] ∧ Q (.int (if k then 1 else 0)) H
theorem call_intU {X : Cx} : CallR X (.type "int") rInt1 := call_int1
theorem x_int (q : Q (.int i) H) : rInt1 [.int i] H Q := Or.inl ⟨i, rfl, q⟩
def rListU (K : PySem.W.Frag) : List V → Hp → VK → Prop := fun xs H Q => rListS0 xs H Q ∨ ∃ p ys, xs = [.ref p] ∧ (SqL K H p ys ∨ SqT K H p ys) ∧ ∀ l, H l = none → Q (.ref l) (upd H l (.lst ys))
theorem call_listU {X : Cx} (hc : X.calm = true) : CallR X (.type "list") (rListU X.K) := (call_listS hc).or call_list_of
theorem x_listS (hz : z.cps.size ≤ 1000000) (q : ∀ p H1, H p = none → Le H H1 → H1 p = some (.lst (sgns z)) → Q (.ref p) H1) : rListU K [.str z] H Q := Or.inl ⟨z, rfl, szb hz, fun p hp => q p _ hp (Le.new hp) upd_same⟩
theorem x_listL {a : Addr} {ys : List V} (h : SqL K H a ys) (q : ∀ p H1, H p = none → Le H H1 → H1 p = some (.lst ys) → Q (.ref p) H1) : rListU K [.ref a] H Q := Or.inr ⟨a, ys, rfl, Or.inl h, fun p hp => q p _ hp (Le.new hp) upd_same⟩
theorem x_isi {tt u : Value} (hc : ClsV y u) (ht : TyX K H x tt) (hk : PySem.W.kitOne K tt u = some b) (q : Q (.bl b) H) : rIsi K [x, y] H Q := ⟨x, y, tt, u, b, rfl, hc, ht, hk, q⟩
theorem x_isB {c : Bool} {n : String} (hk : PySem.W.kitOne K (.type "bool") (.type n) = some b) (q : Q (.bl b) H) : rIsi K [.bl c, .ty n] H Q := x_isi (.ty n) (.base (.bl c)) hk q
theorem x_isI {n : String} (hk : PySem.W.kitOne K (.type "int") (.type n) = some b) (q : Q (.bl b) H) : rIsi K [.int i, .ty n] H Q := x_isi (.ty n) (.base (.int i)) hk q
theorem x_isS {n : String} (hk : PySem.W.kitOne K (.type "str") (.type n) = some b) (q : Q (.bl b) H) : rIsi K [.str z, .ty n] H Q := x_isi (.ty n) (.base (.str z)) hk q
theorem x_isT {n : String} {p : Addr} {xs : List V} (h : H p = some (.tup xs)) (hk : PySem.W.kitOne K (.type "tuple") (.type n) = some b) (q : Q (.bl b) H) : rIsi K [.ref p, .ty n] H Q := x_isi (.ty n) (.base (.tup h)) hk q
theorem x_isL {n : String} {p : Addr} {xs : List V} (h : H p = some (.lst xs)) (hk : PySem.W.kitOne K (.type "list") (.type n) = some b) (q : Q (.bl b) H) : rIsi K [.ref p, .ty n] H Q := x_isi (.ty n) (.base (.lst h)) hk q
/-- what isinstance asks of an own class -/
def InsOk (K : PySem.W.Frag) (C : Addr) : Prop := ∀ {H : Hp} {a dx : Addr} {fs : List (Str × V)}, H a = some (.ins C dx fs) → TyOf K H (.ref a) (.ref C)
theorem x_isO {C D dx p : Addr} {fs : List (Str × V)} (h : H p = some (.ins C dx fs)) (k : InsOk K C) (hk : PySem.W.kitOne K (.ref C) (.ref D) = some b) (q : Q (.bl b) H) : rIsi K [.ref p, .ref D] H Q := x_isi (.own D) (.base (k h)) hk q
theorem x_isp {a D : Addr} {d : Option Addr} {cv : Value} (hcv : ∀ u, RelV y u → u = cv) (hd : ∀ dd, d = some dd → ∃ fs, H dd = some (.xd fs)) (hk : PySem.W.kitOne K (.ref D) cv = some b) (q : Q (.bl b) H) : rIsP K D a d [.ref a, y] H Q := ⟨y, cv, b, rfl, hcv, hd, hk, q⟩
theorem x_min {a : Addr} {zs : List Str} (h : H a = some (.lst (zs.map V.str))) (hn : 0 < zs.length) (q : Q (.str (minS zs)) H) : rMinS K [.ref a] H Q := ⟨a, zs, rfl, sql h, hn, q⟩
theorem x_cnt {p : Addr} {ys : List V} (h : H p = some (.lst ys)) (fy : flatV y = true) (fs : ys.all flatV = true) (q : Q (.int ((ys.countP fun z => eqV z y : Nat) : Int)) H) : rCntF K (.ref p) [y] H Q := ⟨p, ys, y, rfl, rfl, sql h, fy, fs, q⟩
def kCV (K : PySem.W.Frag) (f : Str) (Q : VK) : VK := fun x H1 => ∃ C mc v u, x = .ref C ∧ ClX.CRead K C mc ∧ ClX.CVal K C mc f v u ∧ Q v H1
theorem x_cv {f : Str} (h : ta σ H (kCV K f Q)) : ClX.tCVal K ta f σ H Q := h
def CvOk (K : PySem.W.Frag) (C : Addr) (f : Str) (v : V) : Prop := ∃ mc u, ClX.CRead K C mc ∧ ClX.CVal K C mc f v u
theorem x_kCV {f : Str} {C : Addr} (h : CvOk K C f v) (q : Q v H) : kCV K f Q (.ref C) H := by
  obtain ⟨mc, u, h1, h2⟩ := h
  exact ⟨C, mc, v, u, rfl, h1, h2, q⟩
/-- f-strings -/
def tJoined (ts : List TE) : TE := fun σ H Q => tJs ts Str.empty σ H fun out H1 => Q (.str out) H1
theorem pe_joinedU {X : Cx} {v1 v2 : Expr} {rest : List Expr} {ts : List TE} {pos : Pos} (h : PJ X (v1 :: v2 :: rest) ts) : PE X (.JoinedStr (v1 :: v2 :: rest) pos) (tJoined ts) := pe_joined h
def kJs (ts : List TE) (acc : Str) (σ : L2.St) (Q : Str → Hp → Prop) : VK := fun x H1 => ∃ y : Str, x = .str y ∧ (acc ++ y).length ≤ sizeLine ∧ tJs ts (acc ++ y) σ H1 Q
theorem x_joined {ts : List TE} (h : tJs ts Str.empty σ H fun out H1 => Q (.str out) H1) : tJoined ts σ H Q := h
theorem x_js {ts : List TE} {acc : Str} {Qs : Str → Hp → Prop} (h : ta σ H (kJs ts acc σ Qs)) : tJs (ta :: ts) acc σ H Qs := h
theorem x_js0 {acc : Str} {Qs : Str → Hp → Prop} (q : Qs acc H) : tJs [] acc σ H Qs := q
theorem x_kJs {ts : List TE} {acc : Str} {Qs : Str → Hp → Prop} (hz : (acc ++ z).length ≤ 1000000) (q : tJs ts (acc ++ z) σ H Qs) : kJs ts acc σ Qs (.str z) H := ⟨z, rfl, szb hz, q⟩
def kFmt (Q : VK) : VK := fun x H1 => (∃ y : Str, x = .str y ∧ y.length ≤ sizeLine ∧ Q (.str y) H1) ∨ ∃ i : Int, x = .int i ∧ i.natAbs.log2 < 1920 ∧ Q (.str (toString i)) H1
theorem x_fmt (h : te σ H (kFmt Q)) : tFmt te σ H Q := h
theorem x_fmtS (hz : z.length ≤ 1000000) (q : Q (.str z) H) : kFmt Q (.str z) H := Or.inl ⟨z, rfl, szb hz, q⟩
theorem x_fmtI (hz : i.natAbs.log2 < 1920) (q : Q (.str (toString i)) H) : kFmt Q (.int i) H := Or.inr ⟨i, rfl, hz, q⟩
/-- an attribute of the caught exception -/
def kXf (a : Addr) (cls : Value) (d : Option Addr) (C : Addr) (f : Str) (Q : VK) : VK := fun x H1 => x = .ref a ∧ cls = .ref C ∧ ∃ (dd : Addr) (fs : List (Str × V)) (v : V), d = some dd ∧ H1 dd = some (.xd fs) ∧ fs.lookup f = some v ∧ Q v H1
theorem x_xf {a C : Addr} {cls : Value} {d : Option Addr} {f : Str} (h : te σ H (kXf a cls d C f Q)) : tXf a cls d C f te σ H Q := h
theorem x_kXf {a C dd : Addr} {f : Str} {fs : List (Str × V)} (h : H dd = some (.xd fs)) (hl : fs.lookup f = some v) (q : Q v H) : kXf a (.ref C) (some dd) C f Q (.ref a) H := ⟨rfl, rfl, dd, fs, v, rfl, h, hl, q⟩

/-! ### and, or, not: the answer is known before it goes on -/
def EvT (tt : TT) (σ : L2.St) (H : Hp) (b : Bool) : Prop := ∀ H1, Le H H1 → ∀ Q : Bool → Hp → Prop, (∀ H2, Le H1 H2 → Q b H2) → tt σ H1 Q
def EvV (te : TE) (σ : L2.St) (H : Hp) (b : Bool) : Prop := ∀ H1, Le H H1 → ∀ Q : VK, (∀ H2, Le H1 H2 → Q (.bl b) H2) → te σ H1 Q
variable {t1 t2 : TT} {c : Bool}
theorem et_run (h : ∀ H1, Le H H1 → ∀ Q : Bool → Hp → Prop, (∀ H2, Le H1 H2 → Q b H2) → t1 σ H1 Q) : EvT t1 σ H b := h
theorem ev_run (h : ∀ H1, Le H H1 → ∀ Q : VK, (∀ H2, Le H1 H2 → Q (.bl b) H2) → te σ H1 Q) : EvV te σ H b := h
theorem et_and (h1 : EvT t1 σ H b) (h2 : b = true → EvT t2 σ H c) : EvT (tAnd t1 t2) σ H (b && c) := fun H1 e Q q => h1 H1 e _ fun H2 e2 => by
  cases b with
  | true =>
    show t2 σ H2 Q
    exact h2 rfl H2 (e.trans e2) Q fun H3 e3 => q H3 (e2.trans e3)
  | false =>
    show Q false H2
    exact q H2 e2
theorem et_or (h1 : EvT t1 σ H b) (h2 : b = false → EvT t2 σ H c) : EvT (tOr t1 t2) σ H (b || c) := fun H1 e Q q => h1 H1 e _ fun H2 e2 => by
  cases b with
  | true =>
    show Q true H2
    exact q H2 e2
  | false =>
    show t2 σ H2 Q
    exact h2 rfl H2 (e.trans e2) Q fun H3 e3 => q H3 (e2.trans e3)
theorem et_not (h1 : EvT t1 σ H b) : EvT (tNot t1) σ H (!b) := fun H1 e Q q => h1 H1 e _ fun H2 e2 => q H2 e2
theorem et_B (h : EvV te σ H b) : EvT (tB te) σ H b := fun H1 e Q q => h H1 e _ fun H2 e2 => ⟨b, rfl, q H2 e2⟩
theorem et_T (h : EvV te σ H b) : EvT (tTest te) σ H b := fun H1 e Q q => h H1 e _ fun H2 e2 => ⟨b, rfl, q H2 e2⟩
theorem ev_andV (h1 : EvV ta σ H b) (h2 : b = true → EvV tb σ H c) : EvV (tAndV ta tb) σ H (b && c) := fun H1 e Q q => h1 H1 e _ fun H2 e2 => ⟨b, rfl, by
  cases b with
  | true =>
    show tb σ H2 Q
    exact h2 rfl H2 (e.trans e2) Q fun H3 e3 => q H3 (e2.trans e3)
  | false =>
    show Q (.bl false) H2
    exact q H2 e2⟩
theorem ev_orV (h1 : EvV ta σ H b) (h2 : b = false → EvV tb σ H c) : EvV (tOrV ta tb) σ H (b || c) := fun H1 e Q q => h1 H1 e _ fun H2 e2 => ⟨b, rfl, by
  cases b with
  | true =>
    show Q (.bl true) H2
    exact q H2 e2
  | false =>
    show tb σ H2 Q
    exact h2 rfl H2 (e.trans e2) Q fun H3 e3 => q H3 (e2.trans e3)⟩
theorem ev_notV (h1 : EvV ta σ H b) : EvV (tNotV ta) σ H (!b) := fun H1 e Q q => h1 H1 e _ fun H2 e2 => ⟨b, rfl, q H2 e2⟩
theorem et_is (h : EvT t1 σ H b) (e : b = c) : EvT t1 σ H c := e ▸ h
theorem ev_is (h : EvV te σ H b) (e : b = c) : EvV te σ H c := e ▸ h
theorem x_andV (h : EvV (tAndV ta tb) σ H b) (q : ∀ H1, Le H H1 → Q (.bl b) H1) : tAndV ta tb σ H Q := h H (Le.refl H) Q q
theorem x_orV (h : EvV (tOrV ta tb) σ H b) (q : ∀ H1, Le H H1 → Q (.bl b) H1) : tOrV ta tb σ H Q := h H (Le.refl H) Q q
theorem x_notV (h : EvV (tNotV ta) σ H b) (q : ∀ H1, Le H H1 → Q (.bl b) H1) : tNotV ta σ H Q := h H (Le.refl H) Q q
/-- a < b < c -/
def kCh (r' : R2) (tc : TE) (σ : L2.St) (Q : VK) : VK := fun z H3 => ∃ k, z = .bl k ∧ (if k = true then tc σ H3 fun w' H4 => r' y w' H4 Q else Q (.bl false) H3)
theorem ev_chain {r r' : R2} {tx : TE} {x y u : V} (ha : ∀ H1, Le H H1 → ∀ Q : VK, (∀ H2, Le H1 H2 → Q x H2) → ta σ H1 Q) (hb : ∀ H1, Le H H1 → ∀ Q : VK, (∀ H2, Le H1 H2 → Q y H2) → tb σ H1 Q) (hc : ∀ H1, Le H H1 → ∀ Q : VK, (∀ H2, Le H1 H2 → Q u H2) → tx σ H1 Q)
    (h1 : ∀ H1, Le H H1 → ∀ Q : VK, Q (.bl b) H1 → r x y H1 Q) (h2 : ∀ H1, Le H H1 → ∀ Q : VK, Q (.bl c) H1 → r' y u H1 Q) : EvV (tChain r r' ta tb tx) σ H (b && c) := fun H1 e Q q => by
  refine ha H1 e _ fun H2 e2 => hb H2 (e.trans e2) _ fun H3 e3 => h1 H3 ((e.trans e2).trans e3) _ ⟨b, rfl, ?_⟩
  cases b with
  | true =>
    rw [if_pos rfl]
    exact hc H3 ((e.trans e2).trans e3) _ fun H4 e4 => h2 H4 (((e.trans e2).trans e3).trans e4) _ (q H4 ((e2.trans e3).trans e4))
  | false =>
    rw [if_neg Bool.false_ne_true]
    exact q H3 (e2.trans e3)

/-! ### statements -/
variable {D : Ends} {u1 u2 : TS} {tt : TT}
theorem x_seq (h : u1 { D with nx := u2 D } σ H) : tSeq u1 u2 D σ H := h
theorem x_next (q : D.nx σ H) : L2.tNext D σ H := q
theorem x_asg {n : Nat} (h : te σ H fun v H1 => D.nx (σ.set n (some v)) H1) : tAsg te (gName n) D σ H := h
theorem x_drop (h : te σ H fun _ H1 => D.nx σ H1) : tDrop te D σ H := h
theorem x_ret (h : te σ H D.rt) : tRet te D σ H := h
theorem x_if (h : EvT tt σ H b) (h1 : b = true → ∀ H1, Le H H1 → u1 D σ H1) (h2 : b = false → ∀ H1, Le H H1 → u2 D σ H1) : tIfS tt u1 u2 D σ H := h H (Le.refl H) _ fun H1 e => by
  cases b with
  | true =>
    rw [if_pos rfl]
    exact h1 rfl H1 e
  | false =>
    rw [if_neg Bool.false_ne_true]
    exact h2 rfl H1 e
theorem x_yes (h : EvT tt σ H true) (q : ∀ H1, Le H H1 → u1 D σ H1) : tIfS tt u1 u2 D σ H := x_if h (fun _ => q) fun z => Bool.noConfusion z
theorem x_no (h : EvT tt σ H false) (q : ∀ H1, Le H H1 → u2 D σ H1) : tIfS tt u1 u2 D σ H := x_if h (fun z => Bool.noConfusion z) fun _ => q
def kIf (u1 u2 : TS) (D : Ends) (σ : L2.St) : Bool → Hp → Prop := fun b H1 => if b = true then u1 D σ H1 else u2 D σ H1
theorem x_ifK (h : tt σ H (kIf u1 u2 D σ)) : tIfS tt u1 u2 D σ H := h
theorem x_kIf {b : Bool} (h1 : b = true → u1 D σ H) (h2 : b = false → u2 D σ H) : kIf u1 u2 D σ b H := by
  unfold kIf
  cases b with
  | true => rw [if_pos rfl]; exact h1 rfl
  | false => rw [if_neg Bool.false_ne_true]; exact h2 rfl
def kAnd (t2 : TT) (σ : L2.St) (QB : Bool → Hp → Prop) : Bool → Hp → Prop := fun c H1 => if c = true then t2 σ H1 QB else QB false H1
theorem x_andW {t1 t2 : TT} (h : t1 σ H (kAnd t2 σ QB)) : tAnd t1 t2 σ H QB := h
theorem x_kAnd {t2 : TT} {b : Bool} (h1 : b = true → t2 σ H QB) (h2 : b = false → QB false H) : kAnd t2 σ QB b H := by
  unfold kAnd
  cases b with
  | true => rw [if_pos rfl]; exact h1 rfl
  | false => rw [if_neg Bool.false_ne_true]; exact h2 rfl
/-- o[i] = e, o a list -/
theorem x_setL {to ti : TE} (h : te σ H fun v H1 => to σ H1 fun o H2 => ti σ H2 fun i H3 => rSetL o i v H3 fun H4 => D.nx σ H4) : tAsg te (gSub to ti rSetL) D σ H := h
theorem x_rSetL {p : Addr} {xs : List V} {n : Nat} {QH : Hp → Prop} (h : H p = some (.lst xs)) (hn : ixN xs.length i = some n) (q : QH (upd H p (.lst (xs.set n v)))) : rSetL (.ref p) (.int i) v H QH := ⟨p, xs, i, n, rfl, rfl, h, hn, q⟩
/-- xs.append(e) -/
theorem x_app {p : Addr} {xs : List V} (h : H p = some (.lst xs)) (hz : xs.length < 1000000) (q : Q .non (upd H p (.lst (xs ++ [v])))) : rAppend (.ref p) [v] H Q := ⟨p, xs, v, rfl, rfl, h, Nat.lt_of_lt_of_le hz (szb (Nat.le_refl _)), q⟩
end
end MC
set_option maxHeartbeats 4000000
/-! MB9: own special methods by bundles; loops and comprehensions, step by step -/
namespace MC
open PySem PySem.Spec PyProof.Rows L2

/-- an own special method with its promise -/
structure OpG (P : Program) (w : World) (K : PySem.W.Frag) (mg : Str → Option Value) (base : Heap) (k : Nat) (C : Addr) (m : Str) (sp : Sp) : Prop where
  ex : ∃ f fd ps, FnOk P w K mg base (L2.CX P w) k f fd ps sp ∧ Binds K fd ps [] ∧ Spec K C m f ∧ PySem.W.fnIn K f = true
section
variable {X : Cx} {k : Nat} {C : Addr} {sp spI spL : Sp} {W : WX} {a b : Expr} {ta tb : TE} {pos : Pos}
theorem call_lenG (F : OpG X.prog X.w X.K X.mg X.base k C "__len__" sp) (hr : Room (k + 1) X.A) : CallR X (.builtin "len") (rLenO C sp) := by
  obtain ⟨f, fd, ps, G, b, S, _⟩ := F.ex
  exact call_lenO G b S hr
theorem call_strG (F : OpG X.prog X.w X.K X.mg X.base k C "__str__" sp) (hr : Room (k + 2) X.A) : CallR X (.type "str") (rStrO C sp) := by
  obtain ⟨f, fd, ps, G, b, S, _⟩ := F.ex
  exact call_strO G b S hr
theorem call_listG (F : OpG X.prog X.w X.K X.mg X.base k C "__iter__" spI) (F2 : OpG X.prog X.w X.K X.mg X.base k C "__len__" spL) (hc : X.calm = true) (hr : Room (k + 3) X.A) : CallR X (.type "list") (rListO C spI spL) := by
  obtain ⟨f, fd, ps, G, b, S, _⟩ := F.ex
  obtain ⟨f2, fd2, ps2, G2, b2, S2, _⟩ := F2.ex
  exact call_listO G b S G2 b2 S2 hc hr
theorem op_inG (F : OpG X.prog X.w X.K X.mg X.base k C "__contains__" sp) (hr : Room k X.A) : OpR X (compareOp .In) (rInO C sp) := by
  obtain ⟨f, fd, ps, G, b, S, _⟩ := F.ex
  exact op_inO G b S hr
theorem op_eqG (F : OpG X.prog X.w X.K X.mg X.base k C "__eq__" sp) (hr : Room k X.A) : OpR X (compareOp .Eq) (rEqO X.K C sp) := by
  obtain ⟨f, fd, ps, G, b, S, _⟩ := F.ex
  exact op_eqO G b S hr
theorem op_addG (F : OpG X.prog X.w X.K X.mg X.base k C "__add__" sp) (hc : PySem.W.selfFirst X.K C = true) (hr : Room k X.A) (tk : Takes X W) : OpRS X (binaryOp .Add) (rBinO C sp W) := by
  obtain ⟨f, fd, ps, G, b, S, _⟩ := F.ex
  exact op_binO (op := .Add) G b S hc hr tk
theorem op_shrG (F : OpG X.prog X.w X.K X.mg X.base k C "__rshift__" sp) (hc : BinI X.K C .RShift) (hr : Room k X.A) (tk : Takes X W) : OpRS X (binaryOp .RShift) (rBinI C sp W) := by
  obtain ⟨f, fd, ps, G, b, S, _⟩ := F.ex
  exact op_binI (op := .RShift) G b S hc hr tk
theorem pe_subG (F : OpG X.prog X.w X.K X.mg X.base k C "__getitem__" sp) (hr : Room (k + 1) X.A) (tk : Takes X W) (ha : PE X a ta) (hi : PE X b tb)
    (hsl : ∀ x i, subscripted b true x i = runValue (.builtin "lifetime.subscript" ⟨[x, i], []⟩) := by intro _ _; with_unfolding_all rfl) : PE X (.Subscript a b pos) (tOpS (rSubO C sp W) ta tb) := by
  obtain ⟨f, fd, ps, G, b, S, fi⟩ := F.ex
  exact pe_subO G b S fi hr tk ha hi hsl
end
section
variable {K : PySem.W.Frag} {σ : L2.St} {H : Hp} {Q : VK} {C a dx : Addr} {fs : List (Str × V)} {sp spI spL : Sp} {y : V} {W : WX}
theorem x_lenO (h : H a = some (.ins C dx fs)) (q : sp [.ref a] H (fun v H' => ∃ n : Int, v = .int n ∧ (0 ≤ n ∧ n < 2 ^ 63) ∧ Q (.int n) H') XE0) : rLenO C sp [.ref a] H Q := ⟨a, dx, fs, rfl, h, q⟩
theorem x_strO (h : H a = some (.ins C dx fs)) (q : sp [.ref a] H (fun v H' => ∃ z : Str, v = .str z ∧ Q (.str z) H') XE0) : rStrO C sp [.ref a] H Q := ⟨a, dx, fs, rfl, h, q⟩
theorem x_inO (h : H a = some (.ins C dx fs)) (q : sp [.ref a, y] H (fun v H' => ∃ b : Bool, v = .bl b ∧ Q (.bl b) H') XE0) : rInO C sp y (.ref a) H Q := ⟨a, dx, fs, rfl, h, q⟩
theorem x_eqO {tb : Value} (h : H a = some (.ins C dx fs)) (t : TyOf K H y tb) (n : PySem.W.notFirst K C tb = true) (q : sp [.ref a, y] H (fun v H' => ∃ b : Bool, v = .bl b ∧ Q (.bl b) H') XE0) : rEqO K C sp (.ref a) y H Q := ⟨a, dx, fs, tb, rfl, h, t, n, q⟩
theorem x_binO {b dy : Addr} {gs : List (Str × V)} (h : H a = some (.ins C dx fs)) (h2 : H b = some (.ins C dy gs)) (q : sp [.ref a, .ref b] H (fun v H' => v ≠ .non ∧ Q v H') (WE W σ)) : rBinO C sp W σ (.ref a) (.ref b) H Q := ⟨a, b, dx, dy, fs, gs, rfl, rfl, h, h2, q⟩
theorem x_binI {i : Int} (h : H a = some (.ins C dx fs)) (q : sp [.ref a, .int i] H Q (WE W σ)) : rBinI C sp W σ (.ref a) (.int i) H Q := ⟨a, i, dx, fs, rfl, rfl, h, q⟩
theorem x_subO (h : H a = some (.ins C dx fs)) (q : sp [.ref a, y] H Q (WE W σ)) : rSubO C sp W σ (.ref a) y H Q := ⟨a, dx, fs, rfl, h, q⟩

/-! ### loops: Pv i what holds ahead of turn i -/
variable {D : Ends} {tu : TS} {t : TA} {tl te : TE} {n lo hi : Int} {j : Nat} {R : It → Hp → Prop} {g : TG} {tt : TT} {vs : List Nat} {wi : TI}
def kFor (g : TG) (tb : TS) (D : Ends) (σ : L2.St) : It → Hp → Prop := fun J H1 => ∃ W : Nat → Nat → L2.St → Hp → Prop, (∃ m, W 0 m σ H1) ∧ ∀ i m σ H, W i m σ H →
  (J.stop i H ∧ D.nx σ H) ∨ (J.go i H ∧ ∃ N : L2.St → Hp → Prop, (∀ σ' H', N σ' H' → ∃ m', m' < m ∧ W (i + 1) m' σ' H') ∧ ∀ x H', J.yld i H x H' → g x σ H' fun σ2 H2 => tb { D with nx := N, ct := N, bk := D.nx } σ2 H2)
theorem x_for (h : wi σ H (kFor g tu D σ)) : tFor wi g tu D σ H := h
def kR1 (R : It → Hp → Prop) : List V → Hp → Prop := fun vs H1 => ∃ j : Int, vs = [.int j] ∧ -(2 ^ 62) ≤ j ∧ j < 2 ^ 62 ∧ R (Itr 0 j.toNat) H1
theorem x_r1 (h : t σ H (kR1 R)) : iRng1 t σ H R := h
def kR2 (R : It → Hp → Prop) : List V → Hp → Prop := fun vs H1 => ∃ i j : Int, vs = [.int i, .int j] ∧ (-(2 ^ 62) ≤ i ∧ i < 2 ^ 62 ∧ -(2 ^ 62) ≤ j ∧ j < 2 ^ 62) ∧ R (Itr i (j - i).toNat) H1
theorem x_r2 (h : t σ H (kR2 R)) : iRng2 t σ H R := h
def kIL (K : PySem.W.Frag) (R : It → Hp → Prop) : VK := fun x H1 => ∃ a, x = .ref a ∧ (∃ xs, SqL K H1 a xs) ∧ R (Itl K a) H1
theorem x_il (h : tl σ H (kIL K R)) : iList K tl σ H R := h
/-- for x in range(n) -/
theorem x_for1 (hn : -(2 ^ 62) ≤ n ∧ n < 2 ^ 62) (Pv : Nat → L2.St → Hp → Prop) (h0 : Pv 0 σ H) (hs : ∀ (i : Nat) σ' H', (i : Int) < n → Pv i σ' H' → tu { D with nx := Pv (i + 1), ct := Pv (i + 1), bk := D.nx } (σ'.set j (some (.int (i : Nat)))) H')
    (hd : ∀ σ' H', Pv n.toNat σ' H' → D.nx σ' H') : kR1 (kFor (gName j) tu D σ) [.int n] H :=
  ⟨n, rfl, hn.1, hn.2, for_range (lo := 0) (n := n.toNat) (g := gName j) Pv h0 (fun i σ' H' hi p => by
      have e0 : (0 : Int) + (i : Int) = (i : Int) := Int.zero_add _
      show tu { D with nx := Pv (i + 1), ct := Pv (i + 1), bk := D.nx } (σ'.set j (some (.int ((0 : Int) + (i : Int))))) H'
      rw [e0]
      exact hs i σ' H' (by omega) p) hd⟩
theorem x_for2 (hn : -(2 ^ 62) ≤ lo ∧ lo < 2 ^ 62 ∧ -(2 ^ 62) ≤ n ∧ n < 2 ^ 62) (Pv : Nat → L2.St → Hp → Prop) (h0 : Pv 0 σ H) (hs : ∀ (i : Nat) σ' H', lo + (i : Int) < n → Pv i σ' H' → tu { D with nx := Pv (i + 1), ct := Pv (i + 1), bk := D.nx } (σ'.set j (some (.int (lo + (i : Nat))))) H')
    (hd : ∀ σ' H', Pv (n - lo).toNat σ' H' → D.nx σ' H') : kR2 (kFor (gName j) tu D σ) [.int lo, .int n] H :=
  ⟨lo, n, rfl, hn, for_range (lo := lo) (n := (n - lo).toNat) (g := gName j) Pv h0 (fun i σ' H' hi p => hs i σ' H' (by omega) p) hd⟩
/-- for x in xs -/
theorem x_forL {p : Addr} {xs : List V} (h : SqL K H p xs) (Pv : Nat → L2.St → Hp → Prop) (h0 : Pv 0 σ H) (hl : ∀ i σ' H', i ≤ xs.length → Pv i σ' H' → SqL K H' p xs) (hs : ∀ i x σ' H', xs[i]? = some x → Pv i σ' H' → tu { D with nx := Pv (i + 1), ct := Pv (i + 1), bk := D.nx } (σ'.set j (some x)) H')
    (hd : ∀ σ' H', Pv xs.length σ' H' → D.nx σ' H') : kIL K (kFor (gName j) tu D σ) (.ref p) H :=
  ⟨p, rfl, ⟨xs, h⟩, for_list (g := gName j) Pv h0 hl hs hd⟩
/-- for i, c in enumerate(text) -/
def kEn (R : It → Hp → Prop) : List V → Hp → Prop := fun vs H1 => ∃ z : Str, vs = [.str z] ∧ R (ItT z.cps.size fun i => [.int (i : Nat), sgn z i]) H1
theorem x_en (h : t σ H (kEn R)) : iEnumS t σ H R := h
theorem x_forE {z : Str} (Pv : Nat → L2.St → Hp → Prop) (h0 : Pv 0 σ H) (hs : ∀ (i : Nat) T σ' H' H2, i < z.cps.size → Pv i σ' H' → Le H' H2 → H2 T = some (.tup [.int (i : Nat), sgn z i]) → g (.ref T) σ' H2 fun σ2 H2 => tu { D with nx := Pv (i + 1), ct := Pv (i + 1), bk := D.nx } σ2 H2)
    (hd : ∀ σ' H', Pv z.cps.size σ' H' → D.nx σ' H') : kEn (kFor g tu D σ) [.str z] H :=
  ⟨z, rfl, for_it (walk_T (n := z.cps.size) (Y := fun i => [.int (i : Nat), sgn z i])) Pv h0 (fun _ _ _ _ _ => trivial) (fun i x σ' H' H2 hi p y => by
    obtain ⟨T, rfl, hT, rfl⟩ := y
    exact hs i T σ' H' _ hi p (Le.new hT) upd_same) hd⟩
/-- [e for x in range(n)], texts, no test -/
def kLc (g : TG) (tt : TT) (te : TE) (vs : List Nat) (σ : L2.St) (Q : VK) : It → Hp → Prop := fun J H1 => ∀ D, H1 D = none → ∃ W : Nat → Nat → Hp → Prop, (∃ m, W 0 m (upd H1 D (.lst []))) ∧ ∀ i m H, W i m H →
  (J.stop i H ∧ Q (.ref D) H) ∨ (J.go i H ∧ ∃ Nx : Hp → Prop, (∀ H', Nx H' → ∃ m', m' < m ∧ W (i + 1) m' H') ∧ ∀ x H', J.yld i H x H' → g x (wipe σ vs) H' fun σ2 H2 => wipe σ2 vs = wipe σ vs ∧ tt σ2 H2 fun b H3 =>
    if b = true then te σ2 H3 fun y H4 => ∃ acc, H4 D = some (.lst acc) ∧ acc.length < sizeLine ∧ Nx (upd H4 D (.lst (acc ++ [y]))) else Nx H3)
theorem x_lc (h : wi σ H (kLc g tt te vs σ Q)) : tLc wi g tt te vs σ H Q := h
theorem le_own {H H' : Hp} {p : Addr} {o : HO} (e : Le H H') (h : H p = none) : Le H (upd H' p o) := ⟨fun a u ha => by
  rw [upd_ne (ne_of_none ha h)]
  exact e.at_ a u ha, fun a ha => by
  by_cases hb : a = p
  · rw [hb]; exact h
  · rw [upd_ne hb] at ha; exact e.fr a ha⟩
theorem x_lcR {f : Nat → Str} (hn : n ≤ 1000000 ∧ -1000000 ≤ n) (hw : ∀ x, wipe ((wipe σ vs).set j x) vs = wipe σ vs) (he : ∀ (i : Nat) H', (i : Int) < n → Le H H' → ∀ Qe : VK, (∀ H2, Le H' H2 → Qe (.str (f i)) H2) → te ((wipe σ vs).set j (some (.int (i : Nat)))) H' Qe)
    (q : ∀ p H1, H p = none → Le H H1 → H1 p = some (.lst (((List.range n.toNat).map f).map V.str)) → Q (.ref p) H1) : kR1 (kLc (gName j) tYes te vs σ Q) [.int n] H := by
  refine ⟨n, rfl, by omega, by omega, fun D hD => lc_range (lo := 0) (n := n.toNat) (g := gName j) (Qd := fun H => Q (.ref D) H) (fun i H' => Le H H' ∧ H' D = some (.lst (((List.range i).map f).map V.str))) ⟨le_own (Le.refl H) hD, upd_same⟩ (fun i H' hi p => ?_) fun H' p => q D H' hD p.1 p.2⟩
  have e0 : (0 : Int) + (i : Int) = (i : Int) := Int.zero_add _
  rw [e0]
  refine ⟨hw _, ?_⟩
  simp only [tYes, if_true]
  refine he i H' (by omega) p.1 _ fun H2 e2 => ⟨_, e2.keep p.2, ?_, le_own (p.1.trans e2) hD, ?_⟩
  · rw [List.length_map, List.length_map, List.length_range, sizeLine_eq]; omega
  · rw [upd_same, List.range_succ, List.map_append, List.map_append]; rfl
end
end MC
set_option maxHeartbeats 4000000
/-! MB10: raise C(e) of a class whose __init__ says super().__init__(f"..") and self.f = e, e an int; raise C() -/
namespace MC
open PySem PySem.Spec PyProof.Rows L2

/-- what such an __init__ promises -/
def sp_exi (C : Addr) (f : Str) : Sp := fun vs H Q E => ∃ (e : Addr) (i : Int), vs = [.ref e, .int i] ∧ i.natAbs.log2 < 1000 ∧ H e = some (exo e C none) ∧
  ∀ dx, H dx = none → dx ≠ e → Q .non (upd (upd H dx (exd dx [(f, .int i)])) e (exo e C (some dx)))
structure ExG (P : Program) (w : World) (K : PySem.W.Frag) (mg : Str → Option Value) (base : Heap) (k : Nat) (x : Str) (C : Addr) (f : Str) : Prop where
  gl : mg x = some (.ref C)
  oex : OexC K C
  ex : ∃ fI fd ps, FnOk P w K mg base (L2.CX P w) k fI fd ps (sp_exi C f) ∧ Binds K fd ps [] ∧ PySem.W.findIn K (.ref C) "__init__" = some (some (.ref fI)) ∧ PySem.W.typeIn K (.ref fI) = some (.type "function")
section
variable {X : Cx} {k : Nat} {C : Addr} {x f : Str} {e : Expr} {es : List Expr} {p pos : Pos} {t : TA} {W : WX}
theorem pmk_exG (F : ExG X.prog X.w X.K X.mg X.base k x C f) (hr : Room (k + 1) X.A) (hg : Gl X x) (ha : PA X (e :: es) t) (hdb : (x == ("__debug__" : Str)) = false := by decide)
    (he : starEach (e :: es) X.env = (false, eval e X.env) :: starEach es X.env := by rfl) (hpl : (backTo pos (starEach es X.env)).any (·.1) = false := by rfl) :
    PMk X (.Call (.Name x p) (e :: es) [] pos) (tMkO C (sp_exi C f) [] t) := by
  obtain ⟨fI, fd, ps, G, b, iC, tI⟩ := F.ex
  exact pmk_oex (p := p) (pos := pos) (dvs := []) F.oex iC tI G hr b .nil (fun pins σ H s e s' I h => pass_none pins H s e s' I h) hg F.gl ha hdb he hpl
/-- raise .. -/
def tRse (W : WX) (m : L2.St → Hp → XK → Prop) : TS := fun _ σ H => m σ H fun cls d H' => W cls d σ H'
theorem ps_rse {m : L2.St → Hp → XK → Prop} (hc : X.calm = true) (tk : Takes X W) (he : PMk X e m) : PS X (.Raise (some e) none pos) (tRse W m) := ps_raise hc tk he
/-- C(), C without __init__ -/
structure Ex0 (K : PySem.W.Frag) (mg : Str → Option Value) (x : Str) (C : Addr) : Prop where
  gl : mg x = some (.ref C)
  kp : PySem.W.keepIn K (.ref C) = true
  ex : PySem.W.excIn K C [.type "ValueError", .type "Exception", .type "BaseException", .type "object"] "ValueError.__new__" = true
  su : PySem.W.subIn K (.ref C) (.type "BaseException") = some true
  ty : PySem.W.typeIn K (.ref C) = some (.type "type")
def tEx0 (C : Addr) : L2.St → Hp → XK → Prop := fun _ H Q => Q (.ref C) none H
theorem pmk_ex0 (F : Ex0 X.K X.mg x C) (hg : Gl X x) (hdb : (x == ("__debug__" : Str)) = false := by decide) : PMk X (.Call (.Name x p) [] [] pos) (tEx0 C) :=
  pmk_own0 PySem.F.excBase_ValueError F.ex F.gl F.kp (raises_own F.su F.ty) hg hdb
end
section
variable {σ : L2.St} {H : Hp} {t : TA} {C : Addr} {f : Str} {E : XK} {W : WX} {D : Ends} {i : Int}
theorem x_rse {m : L2.St → Hp → XK → Prop} (h : m σ H fun cls d H' => W cls d σ H') : tRse W m D σ H := h
def kEx (C : Addr) (f : Str) (E : XK) : List V → Hp → Prop := fun vs H1 => vs.length ≤ 1000 ∧ ∀ a, H1 a = none → sp_exi C f (.ref a :: (vs ++ [])) (upd H1 a (exo a C none))
  (fun v H2 => v = .non ∧ ∃ (d : Addr) (fs : List (Str × V)), H2 a = some (exo a C (some d)) ∧ H2 d = some (exd d fs) ∧ H1 d = none ∧ E (.ref C) (some d) (upd (del H2 a) d (.xd fs))) (fun _ _ _ => False)
theorem x_ex (h : t σ H (kEx C f E)) : tMkO C (sp_exi C f) [] t σ H E := h
theorem x_kEx (hi : i.natAbs.log2 < 1000) (q : ∀ d H2, Le H H2 → H2 d = some (.xd [(f, .int i)]) → E (.ref C) (some d) H2) : kEx C f E [.int i] H := by
  refine ⟨by show 1 ≤ 1000; decide, fun a ha => ⟨a, i, rfl, hi, upd_same, fun dx hdx hne => ⟨rfl, dx, _, upd_same, by rw [upd_ne hne, upd_same], by rwa [upd_ne hne] at hdx, ?_⟩⟩⟩
  have hdx1 : H dx = none := by rwa [upd_ne hne] at hdx
  refine q dx _ ⟨fun b o hb => ?_, fun b hb => ?_⟩ upd_same
  · have n1 : b ≠ dx := ne_of_none hb hdx1
    have n2 : b ≠ a := ne_of_none hb ha
    rw [upd_ne n1, del_ne n2, upd_ne n2, upd_ne n1, upd_ne n2]
    exact hb
  · by_cases n1 : b = dx
    · rw [n1]; exact hdx1
    · rw [upd_ne n1] at hb
      by_cases n2 : b = a
      · rw [n2]; exact ha
      · rw [del_ne n2, upd_ne n2, upd_ne n1, upd_ne n2] at hb
        exact hb
theorem x_ex0 (q : E (.ref C) none H) : tEx0 C σ H E := q
/-- self.f = e in such an __init__ -/
theorem x_ost {K : PySem.W.Frag} {to te : TE} (h : te σ H fun y H1 => to σ H1 fun x H2 => ∃ a C : Addr, x = .ref a ∧ OexC K C ∧ PySem.W.findIn K (.ref C) f = some none ∧
  ((H2 a = some (exo a C none) ∧ ∀ dx, H2 dx = none → dx ≠ a → D.nx σ (upd (upd H2 dx (exd dx [(f, y)])) a (exo a C (some dx)))) ∨
    ∃ (dx : Addr) (fs : List (Str × V)), H2 a = some (exo a C (some dx)) ∧ H2 dx = some (exd dx fs) ∧ fs.length ≤ 900 ∧ D.nx σ (upd H2 dx (exd dx ((f, y) :: fs))))) : tOst K f to te D σ H := h
end
end MC
set_option maxHeartbeats 4000000
/-! MB11: list(range(..)), str(text), join; defs within a suite, by bundles -/
namespace MC
open PySem PySem.Spec PyProof.Rows L2
section
variable {X : Cx}
def rListR : List V → Hp → VK → Prop := fun xs H Q => ∃ p lo hi, xs = [.ref p] ∧ H p = some (.rng lo hi) ∧ (-1000000 < lo ∧ lo < 1000000 ∧ -1000000 < hi ∧ hi < 1000000) ∧ ∀ l, H l = none → Q (.ref l) (upd H l (.lst ((List.range (hi - lo).toNat).map fun (i : Nat) => .int (lo + (i : Int)))))
theorem call_listR (hc : X.calm = true) : CallR X (.type "list") rListR := by
  intro pins s σ H xs us Q I rv h
  obtain ⟨p, lo, hi, rfl, hp, hb, q⟩ := h
  obtain ⟨u, rfl, ru⟩ := rv.one
  cases ru
  obtain ⟨t, u, v, hr⟩ := (show ∃ t u v, s.heap.get? p = some { cls := .type "range", data := .fields #[.int lo t, .int hi u, .int 1 v] } from I.hok p _ hp)
  refine call_list_range (n := (hi - lo).toNat) (I.ok.hd hc) hr (small_one (by omega) (by omega) (by omega) (by omega)) (rangeSize_nat lo hi) (by omega) fun h' tk acc' c' k e it => ?_
  have hv : Vals ((List.range (hi - lo).toNat).map fun (i : Nat) => V.int (lo + (i : Int))) acc'.toList := by
    refine vals_of (by rw [List.length_map, List.length_range, Array.length_toList, it.1]) fun i x w h1 h2 => ?_
    obtain ⟨t, e2⟩ := it.2 i w (by simpa using h2)
    rw [List.getElem?_map] at h1
    cases e3 : (List.range (hi - lo).toNat)[i]? with
    | none => rw [e3] at h1; cases h1
    | some j =>
      rw [e3] at h1
      have : j = i := by
        have := List.getElem?_eq_some_iff.mp e3
        obtain ⟨h5, h6⟩ := this
        rw [List.getElem_range] at h6
        exact h6.symm
      subst this
      cases h1
      exact ⟨t, by rw [e2, Int.mul_one]⟩
  exact ⟨.ref _, _, I.laid (t' := tk) (a := s.heap.objs.size) (o := .lst ((List.range (hi - lo).toNat).map fun (i : Nat) => V.int (lo + (i : Int)))) k (Nat.le_refl _) ⟨by rw [List.length_map, List.length_range, sizeLine_eq]; omega, acc'.toList, c', hv, e⟩, rfl, q _ (I.hok.fresh (Nat.le_refl _))⟩
def rRng2 : List V → Hp → VK → Prop := fun vs H Q => ∃ i j, vs = [V.int i, V.int j] ∧ ∀ p, H p = none → Q (.ref p) (upd H p (.rng i j))
theorem call_rng2 : CallR X (.type "range") rRng2 := cr_range2
def rStrS : List V → Hp → VK → Prop := fun xs H Q => ∃ a, xs = [.str a] ∧ Q (.str a) H
theorem call_strS : CallR X (.type "str") rStrS := SkE.call_str_str
def rJoin (K : PySem.W.Frag) : V → List V → Hp → VK → Prop := fun x xs H Q => ∃ a p, ∃ ys : List Str, x = .str a ∧ xs = [.ref p] ∧ (SqL K H p (ys.map V.str) ∨ SqT K H p (ys.map V.str)) ∧
    (ys.map (·.length)).sum + ys.length * a.length ≤ 16777216 ∧ Q (.str (Txt.join a ys)) H
theorem mt_joinU : MtR X "str.join" (rJoin X.K) := mt_join
end
section
variable {K : PySem.W.Frag} {H : Hp} {Q : VK} {lo hi : Int} {z : Str} {x y : V}
theorem x_listR {p : Addr} (h : H p = some (.rng lo hi)) (hb : -1000000 < lo ∧ lo < 1000000 ∧ -1000000 < hi ∧ hi < 1000000) (q : ∀ l H1, H l = none → Le H H1 → H1 l = some (.lst ((List.range (hi - lo).toNat).map fun (i : Nat) => V.int (lo + (i : Int)))) → Q (.ref l) H1) : rListR [.ref p] H Q :=
  ⟨p, lo, hi, rfl, h, hb, fun l hl => q l _ hl (Le.new hl) upd_same⟩
theorem x_rng2 (q : ∀ p H1, H p = none → Le H H1 → H1 p = some (.rng lo hi) → Q (.ref p) H1) : rRng2 [.int lo, .int hi] H Q := ⟨lo, hi, rfl, fun p hp => q p _ hp (Le.new hp) upd_same⟩
theorem x_strS (q : Q (.str z) H) : rStrS [.str z] H Q := ⟨z, rfl, q⟩
theorem x_join {p : Addr} {ys : List Str} (h : H p = some (.lst (ys.map V.str))) (hz : (ys.map (·.length)).sum + ys.length * z.length ≤ 1000000) (q : Q (.str (Txt.join z ys)) H) : rJoin K (.str z) [.ref p] H Q := ⟨z, p, ys, rfl, rfl, Or.inl (sql h), by omega, q⟩
theorem x_eqF (h : scal x y = true) (q : Q (.bl (decide (x = y))) H) : rEq x y H Q := ⟨h, q⟩
theorem x_eqFS {w : Str} (q : Q (.bl (decide (z = w))) H) : rEq (.str z) (.str w) H Q := ⟨rfl, by
  rw [show decide (V.str z = V.str w) = decide (z = w) from decide_eq_decide.mpr ⟨fun h => by cases h; rfl, fun h => by rw [h]⟩]; exact q⟩
theorem x_eqFI {i j : Int} (q : Q (.bl (decide (i = j))) H) : rEq (.int i) (.int j) H Q := ⟨rfl, by
  rw [show decide (V.int i = V.int j) = decide (i = j) from decide_eq_decide.mpr ⟨fun h => by cases h; rfl, fun h => by rw [h]⟩]; exact q⟩
end
/-! ### the same, K told (within a try's body) -/
section
variable {X : Cx} {k : Nat} (K : PySem.W.Frag) (hK : X.K = K)
include hK
theorem op_eqUk (hr : Room k X.A) : OpR X (compareOp .Eq) (rEqU K) := by subst hK; exact op_eqU hr
theorem op_neUk (hr : Room k X.A) : OpR X (compareOp .NotEq) (rNeU K) := by subst hK; exact op_neU hr
theorem ix_seqk : IxR X (rIx K) := by subst hK; exact ix_seq
theorem sl_Uk : SlR X (rSlU K) := by subst hK; exact sl_U
theorem call_lenUk : CallR X (.builtin "len") (rLenU K) := by subst hK; exact call_lenU
theorem call_isik : CallR X (.builtin "isinstance") (rIsi K) := by subst hK; exact call_isi
theorem call_listUk (hc : X.calm = true) : CallR X (.type "list") (rListU K) := by subst hK; exact call_listU hc
theorem pe_fldk {e : Expr} {ta : TE} {f : Str} {pos : Pos} (he : PE X e ta) (hb : attributeBase e f X.env (eval e X.env) = eval e X.env) : PE X (.Attribute e f pos) (tFld K ta f) := by subst hK; exact pe_fld he hb
theorem pi_listk {tg l : Expr} {tl : TE} (hl : PE X l tl) : PI X tg l (iList K tl) := by subst hK; exact pi_list hl
end
/-! ### in a suite -/
structure FnEG (P : Program) (w : World) (K : PySem.W.Frag) (mg : Str → Option Value) (base : Heap) (k : Nat) (x : Str) (sp : SpE) : Prop where
  ex : ∃ f fd ps, FnE P w K mg base k f fd ps sp ∧ mg x = some (.ref f) ∧ PySem.W.keepIn K (.ref f) = true ∧ Binds K fd ps []
theorem roomS {X : Cx} {k : Nat} {a : Addr} {pn : List (Addr × Obj)} (hr : Room k X.A) : L2H.RoomH k (X.suite a pn).A := ⟨hr.dp, hr.un⟩
section
variable {X : Cx} {k : Nat} {a : Addr} {oe : Obj} {cls : Value} {d : Option Addr} {pn : List (Addr × Obj)} {sp : SpE} {x : Str} {q pos : Pos} {e : Expr} {es : List Expr} {t : TA}
theorem pe_callEG (F : FnEG X.prog X.w X.K X.mg X.base k x sp) (hr : L2H.RoomH k (X.suite a ((a, oe) :: pn)).A) (hz : Zc cls d oe) (hf : ∃ vs, oe.data = .fields vs) (hg : Gl X x)
    (ha : PA (X.suite a ((a, oe) :: pn)) (e :: es) t) (hdb : (x == ("__debug__" : Str)) = false := by decide) (he : starEach (e :: es) X.env = (false, eval e X.env) :: starEach es X.env := by rfl) (hpl : (backTo pos (starEach es X.env)).any (·.1) = false := by rfl) :
    PE (X.suite a ((a, oe) :: pn)) (.Call (.Name x q) (e :: es) [] pos) (tCallE a cls d sp t) := by
  obtain ⟨f, fd, ps, G, hm, hk, hb⟩ := F.ex
  exact pe_callE G hr hz hf hg hm hk hb ha hdb he hpl
end
end MC
set_option maxHeartbeats 4000000
/-! K2A: k02's text, facts, answers, promises -/
namespace K2
open PySem PySem.Spec PyProof.Rows L2 MC

def top (i : Nat) : Stmt := PySem.Challenge.pw_manyclerks_k02_texts_open_and_closed.main.body.getD i (.Pass ⟨0, 0, 0, 0⟩)
abbrev FnP (K : PySem.W.Frag) (x q : Str) (st : Stmt) (f : Addr) (fd : FuncData) : Prop := FunD K x q (defArgs st) (defBody st) (defScope st) [] [] f fd
abbrev s_BadSign___init__ : Stmt := inClass (top 2) 0
abbrev N_BadSign___init__ : List PySem.Str := ["self", "at"]
abbrev s_BadText___init__ : Stmt := inClass (top 3) 0
abbrev N_BadText___init__ : List PySem.Str := ["self", "size"]
abbrev s_NoPlace___init__ : Stmt := inClass (top 4) 0
abbrev N_NoPlace___init__ : List PySem.Str := ["self", "at"]
abbrev s_is_sign : Stmt := top 8
abbrev N_is_sign : List PySem.Str := ["word"]
theorem sc_is_sign : FnScope ["word"] ["word"] (defScope s_is_sign) := ⟨rfl, rfl, rfl, by decide +kernel, rfl, by decide +kernel, by decide +kernel⟩
abbrev s__check_signs : Stmt := top 9
abbrev N__check_signs : List PySem.Str := ["signs", "at", "sign"]
theorem sc__check_signs : FnScope ["signs", "at", "sign"] ["signs"] (defScope s__check_signs) := ⟨rfl, rfl, rfl, by decide +kernel, rfl, by decide +kernel, by decide +kernel⟩
abbrev s_least_turn : Stmt := top 10
abbrev N_least_turn : List PySem.Str := ["signs", "least", "begin", "turned"]
theorem sc_least_turn : FnScope ["signs", "least", "begin", "turned"] ["signs"] (defScope s_least_turn) := ⟨rfl, rfl, rfl, by decide +kernel, rfl, by decide +kernel, by decide +kernel⟩
abbrev s_Text___init__ : Stmt := inClass (top 12) 1
abbrev N_Text___init__ : List PySem.Str := ["self", "signs", "closed"]
theorem sc_Text___init__ : FnScope ["self", "signs", "closed"] ["self", "signs", "closed"] (defScope s_Text___init__) := ⟨rfl, rfl, rfl, by decide +kernel, rfl, by decide +kernel, by decide +kernel⟩
abbrev s_Text_row : Stmt := inClass (top 12) 2
abbrev N_Text_row : List PySem.Str := ["cls", "signs"]
theorem sc_Text_row : FnScope ["cls", "signs"] ["cls", "signs"] (defScope s_Text_row) := ⟨rfl, rfl, rfl, by decide +kernel, rfl, by decide +kernel, by decide +kernel⟩
abbrev s_Text_loop : Stmt := inClass (top 12) 3
abbrev N_Text_loop : List PySem.Str := ["cls", "signs"]
theorem sc_Text_loop : FnScope ["cls", "signs"] ["cls", "signs"] (defScope s_Text_loop) := ⟨rfl, rfl, rfl, by decide +kernel, rfl, by decide +kernel, by decide +kernel⟩
abbrev s_Text_read : Stmt := inClass (top 12) 4
abbrev N_Text_read : List PySem.Str := ["cls", "written"]
theorem sc_Text_read : FnScope ["cls", "written"] ["cls", "written"] (defScope s_Text_read) := ⟨rfl, rfl, rfl, by decide +kernel, rfl, by decide +kernel, by decide +kernel⟩
abbrev s_Text___len__ : Stmt := inClass (top 12) 5
abbrev N_Text___len__ : List PySem.Str := ["self"]
theorem sc_Text___len__ : FnScope ["self"] ["self"] (defScope s_Text___len__) := ⟨rfl, rfl, rfl, by decide +kernel, rfl, by decide +kernel, by decide +kernel⟩
abbrev s_Text___iter__ : Stmt := inClass (top 12) 6
abbrev N_Text___iter__ : List PySem.Str := ["self"]
theorem sc_Text___iter__ : FnScope ["self"] ["self"] (defScope s_Text___iter__) := ⟨rfl, rfl, rfl, by decide +kernel, rfl, by decide +kernel, by decide +kernel⟩
abbrev s_Text___eq__ : Stmt := inClass (top 12) 7
abbrev N_Text___eq__ : List PySem.Str := ["self", "other"]
theorem sc_Text___eq__ : FnScope ["self", "other"] ["self", "other"] (defScope s_Text___eq__) := ⟨rfl, rfl, rfl, by decide +kernel, rfl, by decide +kernel, by decide +kernel⟩
abbrev s_Text___str__ : Stmt := inClass (top 12) 8
abbrev N_Text___str__ : List PySem.Str := ["self"]
theorem sc_Text___str__ : FnScope ["self"] ["self"] (defScope s_Text___str__) := ⟨rfl, rfl, rfl, by decide +kernel, rfl, by decide +kernel, by decide +kernel⟩
abbrev s_Text___getitem__ : Stmt := inClass (top 12) 9
abbrev N_Text___getitem__ : List PySem.Str := ["self", "at"]
theorem sc_Text___getitem__ : FnScope ["self", "at"] ["self", "at"] (defScope s_Text___getitem__) := ⟨rfl, rfl, rfl, by decide +kernel, rfl, by decide +kernel, by decide +kernel⟩
abbrev s_Text___contains__ : Stmt := inClass (top 12) 10
abbrev N_Text___contains__ : List PySem.Str := ["self", "part"]
theorem sc_Text___contains__ : FnScope ["self", "part"] ["self", "part"] (defScope s_Text___contains__) := ⟨rfl, rfl, rfl, by decide +kernel, rfl, by decide +kernel, by decide +kernel⟩
abbrev s_Text___add__ : Stmt := inClass (top 12) 11
abbrev N_Text___add__ : List PySem.Str := ["self", "other"]
theorem sc_Text___add__ : FnScope ["self", "other"] ["self", "other"] (defScope s_Text___add__) := ⟨rfl, rfl, rfl, by decide +kernel, rfl, by decide +kernel, by decide +kernel⟩
abbrev s_Text___rshift__ : Stmt := inClass (top 12) 12
abbrev N_Text___rshift__ : List PySem.Str := ["self", "by", "begin"]
theorem sc_Text___rshift__ : FnScope ["self", "by", "begin"] ["self", "by"] (defScope s_Text___rshift__) := ⟨rfl, rfl, rfl, by decide +kernel, rfl, by decide +kernel, by decide +kernel⟩
abbrev s_Text_same_loop : Stmt := inClass (top 12) 13
abbrev N_Text_same_loop : List PySem.Str := ["self", "other"]
theorem sc_Text_same_loop : FnScope ["self", "other"] ["self", "other"] (defScope s_Text_same_loop) := ⟨rfl, rfl, rfl, by decide +kernel, rfl, by decide +kernel, by decide +kernel⟩
abbrev s_Text_mirrored : Stmt := inClass (top 12) 14
abbrev N_Text_mirrored : List PySem.Str := ["self"]
theorem sc_Text_mirrored : FnScope ["self"] ["self"] (defScope s_Text_mirrored) := ⟨rfl, rfl, rfl, by decide +kernel, rfl, by decide +kernel, by decide +kernel⟩
abbrev s_Text_halves : Stmt := inClass (top 12) 15
abbrev N_Text_halves : List PySem.Str := ["self", "at"]
theorem sc_Text_halves : FnScope ["self", "at"] ["self", "at"] (defScope s_Text_halves) := ⟨rfl, rfl, rfl, by decide +kernel, rfl, by decide +kernel, by decide +kernel⟩
abbrev s_Text_cut_at : Stmt := inClass (top 12) 16
abbrev N_Text_cut_at : List PySem.Str := ["self", "at"]
theorem sc_Text_cut_at : FnScope ["self", "at"] ["self", "at"] (defScope s_Text_cut_at) := ⟨rfl, rfl, rfl, by decide +kernel, rfl, by decide +kernel, by decide +kernel⟩
abbrev s__law_next : Stmt := top 14
abbrev N__law_next : List PySem.Str := ["_law_state", "_law_many", "_law_digit"]
theorem sc__law_next : FnScope ["_law_state", "_law_many", "_law_digit"] ["_law_state", "_law_many"] (defScope s__law_next) := ⟨rfl, rfl, rfl, by decide +kernel, rfl, by decide +kernel, by decide +kernel⟩
abbrev s__law_whole : Stmt := top 15
abbrev N__law_whole : List PySem.Str := ["_law_told"]
theorem sc__law_whole : FnScope ["_law_told"] ["_law_told"] (defScope s__law_whole) := ⟨rfl, rfl, rfl, by decide +kernel, rfl, by decide +kernel, by decide +kernel⟩
abbrev s__law_letters_of : Stmt := top 16
abbrev N__law_letters_of : List PySem.Str := ["_law_state", "_law_base", "_law_many", "_law_at", "_law_step", "_law_k"]
theorem sc__law_letters_of : FnScope ["_law_state", "_law_base", "_law_many", "_law_at", "_law_step", "_law_k"] ["_law_state"] (defScope s__law_letters_of) := ⟨rfl, rfl, rfl, by decide +kernel, rfl, by decide +kernel, by decide +kernel⟩
abbrev s__law_word_of : Stmt := top 17
abbrev N__law_word_of : List PySem.Str := ["_law_state", "_law_signs", "_law_size", "_law_shift", "_law_many", "_law_word", "_law_k", "_law_at"]
theorem sc__law_word_of : FnScope ["_law_state", "_law_signs", "_law_size", "_law_shift", "_law_many", "_law_word", "_law_k", "_law_at"] ["_law_state", "_law_signs", "_law_size", "_law_shift"] (defScope s__law_word_of) := ⟨rfl, rfl, rfl, by decide +kernel, rfl, by decide +kernel, by decide +kernel⟩
abbrev s__law_pure : Stmt := top 18
abbrev N__law_pure : List PySem.Str := ["_law_e", "_law_kinds", "_law_based"]
theorem sc__law_pure : FnScope ["_law_e", "_law_kinds", "_law_based"] ["_law_e"] (defScope s__law_pure) := ⟨rfl, rfl, rfl, by decide +kernel, rfl, by decide +kernel, by decide +kernel⟩
abbrev s__law_strange : Stmt := top 19
abbrev N__law_strange : List PySem.Str := ["_law_state", "_law_base"]
theorem sc__law_strange : FnScope ["_law_state", "_law_base"] ["_law_state"] (defScope s__law_strange) := ⟨rfl, rfl, rfl, by decide +kernel, rfl, by decide +kernel, by decide +kernel⟩
abbrev s__law_fault : Stmt := top 20
abbrev N__law_fault : List PySem.Str := ["_law_shown", "_law_closed", "_law_at"]
theorem sc__law_fault : FnScope ["_law_shown", "_law_closed", "_law_at"] ["_law_shown", "_law_closed"] (defScope s__law_fault) := ⟨rfl, rfl, rfl, by decide +kernel, rfl, by decide +kernel, by decide +kernel⟩
abbrev s__law_refused : Stmt := top 21
abbrev N__law_refused : List PySem.Str := ["_law_told", "_law_kind", "_law_number"]
theorem sc__law_refused : FnScope ["_law_told", "_law_kind", "_law_number"] ["_law_told", "_law_kind", "_law_number"] (defScope s__law_refused) := ⟨rfl, rfl, rfl, by decide +kernel, rfl, by decide +kernel, by decide +kernel⟩
abbrev s__law_equal : Stmt := top 22
abbrev N__law_equal : List PySem.Str := ["_law_text", "_law_other", "_law_due", "_law_same"]
theorem sc__law_equal : FnScope ["_law_text", "_law_other", "_law_due", "_law_same"] ["_law_text", "_law_other", "_law_due"] (defScope s__law_equal) := ⟨rfl, rfl, rfl, by decide +kernel, rfl, by decide +kernel, by decide +kernel⟩
abbrev s__law_is_text : Stmt := top 23
abbrev N__law_is_text : List PySem.Str := ["_law_told", "_law_shown", "_law_closed", "_law_written"]
theorem sc__law_is_text : FnScope ["_law_told", "_law_shown", "_law_closed", "_law_written"] ["_law_told", "_law_shown", "_law_closed"] (defScope s__law_is_text) := ⟨rfl, rfl, rfl, by decide +kernel, rfl, by decide +kernel, by decide +kernel⟩
abbrev s__law_new : Stmt := top 24
abbrev N__law_new : List PySem.Str := ["_law_way", "_law_shown", "_law_closed", "_law_e"]
theorem sc__law_new : FnScope ["_law_way", "_law_shown", "_law_closed", "_law_e"] ["_law_way", "_law_shown", "_law_closed"] (defScope s__law_new) := ⟨rfl, rfl, rfl, by decide +kernel, rfl, by decide +kernel, by decide +kernel⟩
abbrev s__law_makes : Stmt := top 25
abbrev N__law_makes : List PySem.Str := ["_law_way", "_law_written", "_law_shown", "_law_closed", "_law_due", "_law_told"]
theorem sc__law_makes : FnScope ["_law_way", "_law_written", "_law_shown", "_law_closed", "_law_due", "_law_told"] ["_law_way", "_law_written", "_law_shown", "_law_closed"] (defScope s__law_makes) := ⟨rfl, rfl, rfl, by decide +kernel, rfl, by decide +kernel, by decide +kernel⟩
abbrev s__law_reads : Stmt := top 26
abbrev N__law_reads : List PySem.Str := ["_law_written"]
theorem sc__law_reads : FnScope ["_law_written"] ["_law_written"] (defScope s__law_reads) := ⟨rfl, rfl, rfl, by decide +kernel, rfl, by decide +kernel, by decide +kernel⟩
abbrev s__law_do : Stmt := top 27
abbrev N__law_do : List PySem.Str := ["_law_text", "_law_what", "_law_thing", "_law_e"]
theorem sc__law_do : FnScope ["_law_text", "_law_what", "_law_thing", "_law_e"] ["_law_text", "_law_what", "_law_thing"] (defScope s__law_do) := ⟨rfl, rfl, rfl, by decide +kernel, rfl, by decide +kernel, by decide +kernel⟩
abbrev s__law_item : Stmt := top 28
abbrev N__law_item : List PySem.Str := ["_law_text", "_law_shown", "_law_at", "_law_told"]
theorem sc__law_item : FnScope ["_law_text", "_law_shown", "_law_at", "_law_told"] ["_law_text", "_law_shown", "_law_at"] (defScope s__law_item) := ⟨rfl, rfl, rfl, by decide +kernel, rfl, by decide +kernel, by decide +kernel⟩
abbrev s__law_halves : Stmt := top 29
abbrev N__law_halves : List PySem.Str := ["_law_text", "_law_shown", "_law_closed", "_law_at", "_law_told"]
theorem sc__law_halves : FnScope ["_law_text", "_law_shown", "_law_closed", "_law_at", "_law_told"] ["_law_text", "_law_shown", "_law_closed", "_law_at"] (defScope s__law_halves) := ⟨rfl, rfl, rfl, by decide +kernel, rfl, by decide +kernel, by decide +kernel⟩
abbrev s__law_cut : Stmt := top 30
abbrev N__law_cut : List PySem.Str := ["_law_text", "_law_shown", "_law_closed", "_law_at", "_law_told", "_law_row"]
theorem sc__law_cut : FnScope ["_law_text", "_law_shown", "_law_closed", "_law_at", "_law_told", "_law_row"] ["_law_text", "_law_shown", "_law_closed", "_law_at"] (defScope s__law_cut) := ⟨rfl, rfl, rfl, by decide +kernel, rfl, by decide +kernel, by decide +kernel⟩
abbrev s__law_turn : Stmt := top 31
abbrev N__law_turn : List PySem.Str := ["_law_text", "_law_shown", "_law_closed", "_law_by", "_law_told", "_law_at", "_law_row"]
theorem sc__law_turn : FnScope ["_law_text", "_law_shown", "_law_closed", "_law_by", "_law_told", "_law_at", "_law_row"] ["_law_text", "_law_shown", "_law_closed", "_law_by"] (defScope s__law_turn) := ⟨rfl, rfl, rfl, by decide +kernel, rfl, by decide +kernel, by decide +kernel⟩
abbrev s__law_sum : Stmt := top 32
abbrev N__law_sum : List PySem.Str := ["_law_one", "_law_two", "_law_shown", "_law_other", "_law_closed", "_law_told"]
theorem sc__law_sum : FnScope ["_law_one", "_law_two", "_law_shown", "_law_other", "_law_closed", "_law_told"] ["_law_one", "_law_two", "_law_shown", "_law_other", "_law_closed"] (defScope s__law_sum) := ⟨rfl, rfl, rfl, by decide +kernel, rfl, by decide +kernel, by decide +kernel⟩
abbrev s__law_parts : Stmt := top 33
abbrev N__law_parts : List PySem.Str := ["_law_state", "_law_shown", "_law_signs", "_law_many", "_law_parts_here", "_law_k", "_law_at", "_law_size", "_law_part", "_law_spot"]
theorem sc__law_parts : FnScope ["_law_state", "_law_shown", "_law_signs", "_law_many", "_law_parts_here", "_law_k", "_law_at", "_law_size", "_law_part", "_law_spot"] ["_law_state", "_law_shown", "_law_signs"] (defScope s__law_parts) := ⟨rfl, rfl, rfl, by decide +kernel, rfl, by decide +kernel, by decide +kernel⟩
abbrev s__law_stands : Stmt := top 34
abbrev N__law_stands : List PySem.Str := ["_law_shown", "_law_closed", "_law_part"]
theorem sc__law_stands : FnScope ["_law_shown", "_law_closed", "_law_part"] ["_law_shown", "_law_closed", "_law_part"] (defScope s__law_stands) := ⟨rfl, rfl, rfl, by decide +kernel, rfl, by decide +kernel, by decide +kernel⟩
abbrev s__law_loops : Stmt := top 35
abbrev N__law_loops : List PySem.Str := ["_law_state", "_law_text", "_law_shown", "_law_closed", "_law_signs", "_law_many", "_law_at", "_law_turned", "_law_spot", "_law_sign", "_law_changed", "_law_other", "_law_loop", "_law_twin", "_law_due", "_law_told"]
theorem sc__law_loops : FnScope ["_law_state", "_law_text", "_law_shown", "_law_closed", "_law_signs", "_law_many", "_law_at", "_law_turned", "_law_spot", "_law_sign", "_law_changed", "_law_other", "_law_loop", "_law_twin", "_law_due", "_law_told"] ["_law_state", "_law_text", "_law_shown", "_law_closed", "_law_signs"] (defScope s__law_loops) := ⟨rfl, rfl, rfl, by decide +kernel, rfl, by decide +kernel, by decide +kernel⟩
abbrev s__law_turns : Stmt := top 36
abbrev N__law_turns : List PySem.Str := ["_law_shown", "_law_fault_here", "_law_told", "_law_e", "_law_due", "_law_k"]
theorem sc__law_turns : FnScope ["_law_shown", "_law_fault_here", "_law_told", "_law_e", "_law_due", "_law_k"] ["_law_shown"] (defScope s__law_turns) := ⟨rfl, rfl, rfl, by decide +kernel, rfl, by decide +kernel, by decide +kernel⟩
abbrev s__law_one_sign : Stmt := top 37
abbrev N__law_one_sign : List PySem.Str := ["_law_word", "_law_told", "_law_due"]
theorem sc__law_one_sign : FnScope ["_law_word", "_law_told", "_law_due"] ["_law_word"] (defScope s__law_one_sign) := ⟨rfl, rfl, rfl, by decide +kernel, rfl, by decide +kernel, by decide +kernel⟩
abbrev s__law_strings : Stmt := top 38
abbrev N__law_strings : List PySem.Str := ["_law_state", "_law_shown", "_law_signs", "_law_spoilt", "_law_words", "_law_word", "_law_way", "_law_spot", "_law_closed"]
theorem sc__law_strings : FnScope ["_law_state", "_law_shown", "_law_signs", "_law_spoilt", "_law_words", "_law_word", "_law_way", "_law_spot", "_law_closed"] ["_law_state", "_law_shown", "_law_signs"] (defScope s__law_strings) := ⟨rfl, rfl, rfl, by decide +kernel, rfl, by decide +kernel, by decide +kernel⟩
abbrev s_law : Stmt := top 39
abbrev N_law : List PySem.Str := ["_law_script", "_law_state", "_law_kind", "_law_closed", "_law_signs", "_law_many", "_law_shown", "_law_text", "_law_places", "_law_at", "_law_part", "_law_small", "_law_by", "_law_loop", "_law_other", "_law_second", "_law_odd"]
theorem sc_law : FnScope ["_law_script", "_law_state", "_law_kind", "_law_closed", "_law_signs", "_law_many", "_law_shown", "_law_text", "_law_places", "_law_at", "_law_part", "_law_small", "_law_by", "_law_loop", "_law_other", "_law_second", "_law_odd"] ["_law_script"] (defScope s_law) := ⟨rfl, rfl, rfl, by decide +kernel, rfl, by decide +kernel, by decide +kernel⟩

/-! ### what the top has left -/
structure Ad where
  cClerkError : Addr
  cBadSign : Addr
  cBadText : Addr
  cNoPlace : Addr
  cClosedText : Addr
  cOpenText : Addr
  cText : Addr
inductive ExK where
  | sign | size | place | closed | opn
  deriving DecidableEq
def Ad.x (a : Ad) : ExK → Addr
  | .sign => a.cBadSign
  | .size => a.cBadText
  | .place => a.cNoPlace
  | .closed => a.cClosedText
  | .opn => a.cOpenText
def ExK.fld : ExK → Str
  | .sign => "at"
  | .size => "size"
  | .place => "at"
  | _ => "at"
structure Txt (K : PySem.W.Frag) (mg : Str → Option Value) (a : Ad) : Prop where
  f_len : mg "len" = none
  f_abs : mg "abs" = none
  f_int : mg "int" = none
  f_list : mg "list" = none
  f_str : mg "str" = none
  f_bool : mg "bool" = none
  f_tuple : mg "tuple" = none
  f_isinstance : mg "isinstance" = none
  f_iter : mg "iter" = none
  f_min : mg "min" = none
  f_range : mg "range" = none
  f_enumerate : mg "enumerate" = none
  f_ValueError : mg "ValueError" = none
  g_ClerkError : mg "ClerkError" = some (.ref a.cClerkError)
  g_BadSign : mg "BadSign" = some (.ref a.cBadSign)
  g_BadText : mg "BadText" = some (.ref a.cBadText)
  g_NoPlace : mg "NoPlace" = some (.ref a.cNoPlace)
  g_ClosedText : mg "ClosedText" = some (.ref a.cClosedText)
  g_OpenText : mg "OpenText" = some (.ref a.cOpenText)
  g_Text : mg "Text" = some (.ref a.cText)
  x0_ClosedText : Ex0 K mg "ClosedText" a.cClosedText
  x0_OpenText : Ex0 K mg "OpenText" a.cOpenText
  fS : FldOk K a.cText "signs"
  fC : FldOk K a.cText "closed"
  cv : CvOk K a.cText "MOST" (.int 120)
  ins : InsOk K a.cText
  selfF : PySem.W.selfFirst K a.cText = true
  binI : BinI K a.cText .RShift
  kTT : PySem.W.kitOne K (.ref a.cText) (.ref a.cText) = some true
  kST : PySem.W.kitOne K (.type "str") (.ref a.cText) = some false
  kIT : PySem.W.kitOne K (.type "int") (.ref a.cText) = some false
  kNT : PySem.W.kitOne K (.type "NoneType") (.ref a.cText) = some false
  nfT : PySem.W.notFirst K a.cText (.ref a.cText) = true
  nfS : PySem.W.notFirst K a.cText (.type "str") = true
  nfI : PySem.W.notFirst K a.cText (.type "int") = true
  nfN : PySem.W.notFirst K a.cText (.type "NoneType") = true
  exm : ∀ i j, PySem.W.exmOne K (.ref (a.x i)) (.ref (a.x j)) = some (decide (i = j))
  kit : ∀ i j, PySem.W.kitOne K (.ref (a.x i)) (.ref (a.x j)) = some (decide (i = j))
  kitE : ∀ i, PySem.W.kitOne K (.ref (a.x i)) (.ref a.cClerkError) = some true
  kitV : ∀ i, PySem.W.kitOne K (.ref (a.x i)) (.type "ValueError") = some true
  exT : ∀ i, ExcT K (a.x i)
  xf : ∀ i, XfC K (a.x i)
  nf : ∀ i, PySem.W.findIn K (.ref (a.x i)) i.fld = some none

/-! ### texts and answers -/
def TextAt (a : Ad) (H : Hp) (p : Addr) (z : Str) (c : Bool) : Prop := ∃ dx, H p = some (.ins a.cText dx [("signs", .str z), ("closed", .bl c)])
theorem TextAt.le {a : Ad} {H H' : Hp} {p : Addr} {z : Str} {c : Bool} (e : Le H H') (h : TextAt a H p z c) : TextAt a H' p z c := by
  obtain ⟨dx, h⟩ := h
  exact ⟨dx, e.keep h⟩
theorem TextAt.lw {a : Ad} {H H' : Hp} {p : Addr} {z : Str} {c : Bool} (e : Lw H H') (h : TextAt a H p z c) : TextAt a H' p z c := by
  obtain ⟨dx, h⟩ := h
  exact ⟨dx, e.keep h rfl⟩
theorem Le.trans' {H H1 H2 : Hp} (b : Le H1 H2) (a : Le H H1) : Le H H2 := a.trans b
theorem Lw.trans' {H H1 H2 : Hp} (b : Lw H1 H2) (a : Lw H H1) : Lw H H2 := a.trans b
section
variable {K : PySem.W.Frag} {mg : Str → Option Value} {a : Ad} {H : Hp} {p : Addr} {z : Str} {c : Bool} {Q : VK}
theorem lkS {v w : V} : List.lookup ("signs" : Str) [("signs", v), ("closed", w)] = some v := by
  have e : (("signs" : Str) == "signs") = true := beq_self_eq_true _
  simp only [List.lookup, e]
theorem lkC {v w : V} : List.lookup ("closed" : Str) [("signs", v), ("closed", w)] = some w := by
  have e : (("closed" : Str) == "closed") = true := beq_self_eq_true _
  have e2 : (("closed" : Str) == "signs") = false := by decide +kernel
  simp only [List.lookup, e, e2]
theorem x_fS (T : Txt K mg a) (h : TextAt a H p z c) (q : Q (.str z) H) : kFld K "signs" Q (.ref p) H := by
  obtain ⟨dx, h⟩ := h
  exact x_kFld h T.fS lkS q
theorem x_fC (T : Txt K mg a) (h : TextAt a H p z c) (q : Q (.bl c) H) : kFld K "closed" Q (.ref p) H := by
  obtain ⟨dx, h⟩ := h
  exact x_kFld h T.fC lkC q
end
inductive Ans where
  | val (v : V)
  | txt (z : Str) (c : Bool)
  | two (z w : Str)
  | exn (k : ExK) (i : Int)
/-- cls, d: an exception of the kind k that tells i -/
def ExcIs (a : Ad) (k : ExK) (i : Int) (cls : Value) (d : Option Addr) (H : Hp) : Prop := cls = .ref (a.x k) ∧ match k with
  | .closed => d = none
  | .opn => d = none
  | _ => ∃ dd, d = some dd ∧ H dd = some (.xd [(k.fld, .int i)])
def Tells (a : Ad) (r : Ans) (v : V) (H : Hp) : Prop := match r with
  | .val x => v = x
  | .txt z c => ∃ p, v = .ref p ∧ TextAt a H p z c
  | .two z w => ∃ p x y, v = .ref p ∧ H p = some (.tup [.ref x, .ref y]) ∧ TextAt a H x z false ∧ TextAt a H y w false
  | .exn _ _ => False
/-- a call that answers r -/
def Meets (a : Ad) (r : Ans) (H : Hp) (Q : VK) (E : XK) : Prop :=
  (∀ v H', Le H H' → Tells a r v H' → Q v H') ∧ ∀ k i, r = .exn k i → ∀ cls d H', Le H H' → ExcIs a k i cls d H' → E cls d H'
def sgOk (c : Nat) : Bool := decide (97 ≤ c) && decide (c ≤ 122)
def bad (z : Str) : Option Nat := z.cps.toList.findIdx? fun c => !sgOk c
def chk (z : Str) : Ans := match bad z with
  | some i => .exn .sign i
  | none => .val .non
def mk (z : Str) (c : Bool) : Ans := match bad z with
  | some i => .exn .sign i
  | none => if z.length > 120 ∨ (c = true ∧ z = "") then .exn .size z.length else .txt z c
def Good (z : Str) (c : Bool) : Prop := bad z = none ∧ z.length ≤ 120 ∧ (c = true → z ≠ "")
theorem Good.mk {z : Str} {c : Bool} (h : Good z c) : mk z c = .txt z c := by
  unfold K2.mk
  rw [h.1]
  refine if_neg fun q => ?_
  rcases q with q | ⟨q1, q2⟩
  · have := h.2.1; omega
  · exact h.2.2 q1 q2
def isSg (z : Str) : Bool := (z.length == 1) && sgOk (z.cps.getD 0 0)
def rot (z : Str) (k : Int) : Str := cutS z (some k) none ++ cutS z none (some k)
def lturn (z : Str) : Ans := match bad z with
  | some i => .exn .sign i
  | none => .val (.str (minS (z :: (List.range (z.length - 1)).map fun (k : Nat) => rot z ((1 : Int) + (k : Int)))))
def aItem (z : Str) (i : Int) : Ans := if 0 ≤ i ∧ i < z.length then .val (.str ⟨#[z.cps.getD i.toNat 0]⟩) else .exn .place i
def aHalves (z : Str) (c : Bool) (i : Int) : Ans := if c = true then .exn .closed 0 else if 0 ≤ i ∧ i ≤ z.length then .two (cutS z none (some i)) (cutS z (some i) none) else .exn .place i
def aCut (z : Str) (c : Bool) (i : Int) : Ans := if c = false then .exn .opn 0 else if 0 ≤ i ∧ i < z.length then .txt (rot z i) false else .exn .place i
def aTurn (z : Str) (c : Bool) (i : Int) : Ans := if c = false then .exn .opn 0 else .txt (rot z (i.fmod z.length)) true
def aSum (z : Str) (c : Bool) (w : Str) (d : Bool) : Ans := if c = true ∨ d = true then .exn .closed 0 else mk (z ++ w) false
def aRead (z : Str) : Ans := if 1 < z.length ∧ z.cps.getD 0 0 = 40 ∧ z.cps.getD (z.length - 1) 0 = 41 then mk (cutS z (some 1) (some (-1))) true else mk z false

/-! ### promises: the program -/
abbrev Sm (z : Str) : Prop := z.length ≤ 1000
def sp_is_sign (a : Ad) : Sp := fun vs H Q E => ∃ z, vs = [.str z] ∧ Sm z ∧ ∀ H', Le H H' → Q (.bl (isSg z)) H'
def sp__check_signs (a : Ad) : Sp := fun vs H Q E => ∃ z, vs = [.str z] ∧ Sm z ∧ Meets a (chk z) H Q E
def sp_least_turn (a : Ad) : Sp := fun vs H Q E => ∃ z, vs = [.str z] ∧ Sm z ∧ Meets a (lturn z) H Q E
def sp_Text___init__ (a : Ad) : Sp := fun vs H Q E => ∃ p z c dx, vs = [.ref p, .str z, .bl c] ∧ Sm z ∧ H p = some (.ins a.cText dx []) ∧
  (mk z c = .txt z c → ∀ H1, Le H H1 → Q .non (upd H1 p (.ins a.cText dx [("signs", .str z), ("closed", .bl c)]))) ∧ ∀ k i, mk z c = .exn k i → ∀ cls d H', Le H H' → ExcIs a k i cls d H' → E cls d H'
abbrev SpK := List V → List V → Hp → VK → XK → Prop
def spCt_Text_1 (a : Ad) : SpK := fun vs zs H Q E => ∃ z, (vs = [.str z] ∧ zs = []) ∧ Sm z ∧ Meets a (mk z false) H Q E
def spCt_Text_1_closed (a : Ad) : SpK := fun vs zs H Q E => ∃ z c, (vs = [.str z] ∧ zs = [.bl c]) ∧ Sm z ∧ Meets a (mk z c) H Q E
def spCt_Text_0_signs (a : Ad) : SpK := fun vs zs H Q E => ∃ z, (vs = [] ∧ zs = [.str z]) ∧ Sm z ∧ Meets a (mk z false) H Q E
def spCt_Text_0_closed_signs (a : Ad) : SpK := fun vs zs H Q E => ∃ z c, (vs = [] ∧ zs = [.bl c, .str z]) ∧ Sm z ∧ Meets a (mk z c) H Q E
def sp_Text_row (a : Ad) : Sp := fun vs H Q E => ∃ z, vs = [.ref a.cText, .str z] ∧ Sm z ∧ Meets a (mk z false) H Q E
def sp_Text_loop (a : Ad) : Sp := fun vs H Q E => ∃ z, vs = [.ref a.cText, .str z] ∧ Sm z ∧ Meets a (mk z true) H Q E
def sp_Text_read (a : Ad) : Sp := fun vs H Q E => ∃ z, vs = [.ref a.cText, .str z] ∧ Sm z ∧ Meets a (aRead z) H Q E
def sp_Text___len__ (a : Ad) : Sp := fun vs H Q E => ∃ p z c, vs = [.ref p] ∧ Sm z ∧ TextAt a H p z c ∧ ∀ H', Le H H' → Q (.int (z.length : Nat)) H'
def sp_Text___iter__ (a : Ad) : Sp := fun vs H Q E => ∃ p z c, vs = [.ref p] ∧ Sm z ∧ bad z = none ∧ TextAt a H p z c ∧ ∀ it, H it = none → Q (.ref it) (upd H it (strIt it z 0))
def sp_Text___eq__ (a : Ad) : Sp := fun vs H Q E => ∃ p z c y r, vs = [.ref p, y] ∧ TextAt a H p z c ∧ ((∃ q w d, y = .ref q ∧ TextAt a H q w d ∧ r = (decide (z = w) && (c == d))) ∨ ((y = .non ∨ (∃ i, y = .int i) ∨ ∃ w, y = .str w) ∧ r = false)) ∧ ∀ H', Le H H' → Q (.bl r) H'
def strOf (z : Str) (c : Bool) : Str := if c = true then Str.empty ++ "(" ++ z ++ ")" else z
def sp_Text___str__ (a : Ad) : Sp := fun vs H Q E => ∃ p z c, vs = [.ref p] ∧ Sm z ∧ TextAt a H p z c ∧ ∀ H', Le H H' → Q (.str (strOf z c)) H'
def sp_Text___getitem__ (a : Ad) : Sp := fun vs H Q E => ∃ p z c i, vs = [.ref p, .int i] ∧ Sm z ∧ TextAt a H p z c ∧ i.natAbs.log2 < 1000 ∧ Meets a (aItem z i) H Q E
def isPart (z : Str) (c : Bool) (w : Str) : Bool := if w.length > z.length then false else if c = true then isIn w (repS z 2) else isIn w z
def sp_Text___contains__ (a : Ad) : Sp := fun vs H Q E => ∃ p z c w, vs = [.ref p, .str w] ∧ Sm z ∧ Sm w ∧ TextAt a H p z c ∧ ∀ H', Le H H' → Q (.bl (isPart z c w)) H'
def sp_Text___add__ (a : Ad) : Sp := fun vs H Q E => ∃ p z c q w d, vs = [.ref p, .ref q] ∧ (z.length ≤ 400 ∧ w.length ≤ 400) ∧ TextAt a H p z c ∧ TextAt a H q w d ∧ Meets a (aSum z c w d) H Q E
def sp_Text___rshift__ (a : Ad) : Sp := fun vs H Q E => ∃ p z c i, vs = [.ref p, .int i] ∧ Good z c ∧ TextAt a H p z c ∧ Meets a (aTurn z c i) H Q E
def isLoop (z : Str) (c : Bool) (w : Str) (d : Bool) : Bool := c && d && decide (z.length = w.length) && isIn w (repS z 2)
def sp_Text_same_loop (a : Ad) : Sp := fun vs H Q E => ∃ p z c q w d, vs = [.ref p, .ref q] ∧ Sm z ∧ Sm w ∧ TextAt a H p z c ∧ TextAt a H q w d ∧ ∀ H', Le H H' → Q (.bl (isLoop z c w d)) H'
def sp_Text_mirrored (a : Ad) : Sp := fun vs H Q E => ∃ p z c, vs = [.ref p] ∧ Good z c ∧ TextAt a H p z c ∧ ∀ q H', Le H H' → TextAt a H' q (revS z) c → Q (.ref q) H'
def sp_Text_halves (a : Ad) : Sp := fun vs H Q E => ∃ p z c i, vs = [.ref p, .int i] ∧ Good z c ∧ TextAt a H p z c ∧ i.natAbs.log2 < 1000 ∧ Meets a (aHalves z c i) H Q E
def sp_Text_cut_at (a : Ad) : Sp := fun vs H Q E => ∃ p z c i, vs = [.ref p, .int i] ∧ Good z c ∧ TextAt a H p z c ∧ i.natAbs.log2 < 1000 ∧ Meets a (aCut z c i) H Q E
end K2
set_option maxHeartbeats 4000000
/-! K2M: the mathematics of texts, no program in sight -/
namespace K2
open PySem PySem.Spec PyProof.Rows L2 MC
/-! ### mathematics of one sign -/
theorem one_of_len {z : Str} (h : z.length = 1) : z = ⟨#[z.cps.getD 0 0]⟩ := by
  obtain ⟨c⟩ := z
  have h : c.size = 1 := h
  obtain ⟨l⟩ := c
  match l, h with
  | [x], _ => rfl
theorem isSg_eq (z : Str) : isSg z = (decide (((z.length : Nat) : Int) = 1) && (!decide (z.cps.toList < ("a" : Str).cps.toList) && !decide (("z" : Str).cps.toList < z.cps.toList))) := by
  by_cases h : z.length = 1
  · have e := one_of_len h
    generalize hc : z.cps.getD 0 0 = c at e
    subst e
    have h1 : ("a" : Str).cps.toList = [97] := by decide +kernel
    have h2 : ("z" : Str).cps.toList = [122] := by decide +kernel
    have h3 : (#[c] : Array Nat).getD 0 0 = c := rfl
    show ((#[c].size == 1) && sgOk ((#[c] : Array Nat).getD 0 0)) = _
    rw [h3, h1, h2]
    show (true && sgOk c) = (true && (!decide ([c] < [97]) && !decide ([122] < [c])))
    unfold sgOk
    have e1 : ([c] < [97]) ↔ c < 97 := by
      constructor
      · intro h
        cases h with
        | rel h => exact h
        | cons h => cases h
      · exact fun h => List.Lex.rel h
    have e2 : ([122] < [c]) ↔ 122 < c := by
      constructor
      · intro h
        cases h with
        | rel h => exact h
        | cons h => cases h
      · exact fun h => List.Lex.rel h
    have e3 : decide ([c] < [97]) = decide (c < 97) := decide_eq_decide.mpr e1
    have e4 : decide ([122] < [c]) = decide (122 < c) := decide_eq_decide.mpr e2
    rw [e3, e4]
    by_cases a1 : c < 97 <;> by_cases a2 : 122 < c <;> simp [a1, a2] <;> omega
  · have e1 : (z.length == 1) = false := by simpa using h
    have e2 : decide (((z.length : Nat) : Int) = 1) = false := decide_eq_false (by omega)
    unfold isSg
    rw [e1, e2]; rfl
theorem bad_none {z : Str} : bad z = none ↔ ∀ j, j < z.cps.size → sgOk (z.cps.getD j 0) = true := by
  unfold bad
  rw [List.findIdx?_eq_none_iff]
  constructor
  · intro h j hj
    have := h (z.cps.getD j 0) (by
      rw [Array.getD_eq_getD_getElem?, Array.getElem?_eq_getElem hj, Option.getD_some]
      exact Array.getElem_mem_toList hj)
    simpa using this
  · intro h x hx
    obtain ⟨j, hj, rfl⟩ := List.getElem_of_mem hx
    have hj' : j < z.cps.size := by simpa using hj
    have := h j hj'
    rw [Array.getD_eq_getD_getElem?, Array.getElem?_eq_getElem hj', Option.getD_some] at this
    simpa using this
theorem bad_some {z : Str} {i : Nat} (hi : i < z.cps.size) (h1 : sgOk (z.cps.getD i 0) = false) (h2 : ∀ j, j < i → sgOk (z.cps.getD j 0) = true) : bad z = some i := by
  unfold bad
  rw [List.findIdx?_eq_some_iff_getElem]
  refine ⟨by simpa using hi, ?_, fun j hj => ?_⟩
  · rw [Array.getD_eq_getD_getElem?, Array.getElem?_eq_getElem hi, Option.getD_some] at h1
    simpa using h1
  · have hj' : j < z.cps.size := by omega
    have := h2 j hj
    rw [Array.getD_eq_getD_getElem?, Array.getElem?_eq_getElem hj', Option.getD_some] at this
    simpa using this
theorem chk_none {z : Str} (h : bad z = none) : chk z = .val .non := by unfold chk; rw [h]
theorem chk_some {z : Str} {i : Nat} (h : bad z = some i) : chk z = .exn .sign i := by unfold chk; rw [h]
theorem isSg_one (c : Nat) : isSg ⟨#[c]⟩ = sgOk c := by unfold isSg; rfl
theorem log_small {i : Int} (h : i.natAbs < 2 ^ 100) : i.natAbs.log2 < 1000 := by
  by_cases h0 : i.natAbs = 0
  · rw [h0]; decide
  · exact Nat.lt_trans ((Nat.log2_lt h0).mpr h) (by decide)

/-! ### texts as lists -/
theorem str_ext {z w : Str} (h : z.cps.toList = w.cps.toList) : z = w := by
  obtain ⟨a⟩ := z
  obtain ⟨b⟩ := w
  have h : a.toList = b.toList := h
  rw [show a = b from by cases a; cases b; simpa using h]
theorem app_l (z w : Str) : (z ++ w).cps.toList = z.cps.toList ++ w.cps.toList := by
  show (z.cps ++ w.cps).toList = _
  simp
theorem len_l (z : Str) : z.cps.toList.length = z.length := by simp [Str.length]
theorem slen_app (z w : Str) : (z ++ w).length = z.length + w.length := by
  rw [← len_l, app_l, List.length_append, len_l, len_l]
theorem cut_l (z : Str) (lo hi : Option Int) : (cutS z lo hi).cps.toList = (z.cps.toList.drop (HT.sIx z.length 0 lo)).take (HT.sIx z.length z.length hi - HT.sIx z.length 0 lo) := by
  unfold cutS
  simp
theorem bad_l {z : Str} : bad z = none ↔ ∀ c ∈ z.cps.toList, sgOk c = true := by
  unfold bad
  rw [List.findIdx?_eq_none_iff]
  simp
theorem bad_app {z w : Str} (h1 : bad z = none) (h2 : bad w = none) : bad (z ++ w) = none := by
  rw [bad_l] at *
  intro c hc
  rw [app_l] at hc
  rcases List.mem_append.mp hc with hc | hc
  · exact h1 c hc
  · exact h2 c hc
theorem bad_cut {z : Str} {lo hi : Option Int} (h1 : bad z = none) : bad (cutS z lo hi) = none := by
  rw [bad_l] at *
  intro c hc
  rw [cut_l] at hc
  exact h1 c (List.mem_of_mem_drop (List.mem_of_mem_take hc))
theorem sIx_some (n d e : Nat) (k : Int) : HT.sIx n d (some k) = HT.sIx n e (some k) := rfl
theorem rot_l (z : Str) (k : Int) : (rot z k).cps.toList = z.cps.toList.drop (HT.sIx z.length 0 (some k)) ++ z.cps.toList.take (HT.sIx z.length 0 (some k)) := by
  unfold rot
  have hp : HT.sIx z.length 0 (some k) ≤ z.length := HT.sIx_le _ _ (Nat.zero_le _) _
  rw [app_l, cut_l, cut_l, HT.sIx_none, HT.sIx_none, sIx_some z.length z.length 0 k]
  rw [List.take_of_length_le (by rw [List.length_drop, len_l]; omega), List.drop_zero, Nat.sub_zero]
theorem rot_len (z : Str) (k : Int) : (rot z k).length = z.length := by
  have hp : HT.sIx z.length 0 (some k) ≤ z.length := HT.sIx_le _ _ (Nat.zero_le _) _
  rw [← len_l, rot_l, List.length_append, List.length_drop, List.length_take, len_l]
  omega
theorem empty_iff {z : Str} : z = "" ↔ z.length = 0 := by
  constructor
  · intro h; rw [h]; rfl
  · intro h
    apply str_ext
    have e : z.cps.toList = [] := List.eq_nil_of_length_eq_zero (by rw [len_l]; exact h)
    rw [e]; rfl
theorem Good.rot {z : Str} {c d : Bool} {k : Int} (h : Good z c) (hd : d = true → z ≠ "") : Good (K2.rot z k) d := by
  refine ⟨bad_app (bad_cut h.1) (bad_cut h.1), by rw [rot_len]; exact h.2.1, fun e q => hd e ?_⟩
  rw [empty_iff] at q ⊢
  rw [← q, rot_len]
theorem Good.cut {z : Str} {c : Bool} {lo hi : Option Int} (h : Good z c) : Good (cutS z lo hi) false :=
  ⟨bad_cut h.1, Nat.le_trans (cutS_length z lo hi) h.2.1, fun e => nomatch e⟩
theorem rev_l (z : Str) : (revS z).cps.toList = z.cps.toList.reverse := by unfold revS; simp
theorem rev_len (z : Str) : (revS z).length = z.length := by rw [← len_l, rev_l, List.length_reverse, len_l]
theorem Good.rev {z : Str} {c : Bool} (h : Good z c) : Good (revS z) c := by
  refine ⟨bad_l.mpr fun x hx => ?_, by rw [rev_len]; exact h.2.1, fun e q => h.2.2 e ?_⟩
  · rw [rev_l, List.mem_reverse] at hx
    exact bad_l.mp h.1 x hx
  · rw [empty_iff] at q ⊢
    rw [← q, rev_len]
theorem atI_get {z : Str} {i : Int} (h : 0 ≤ i ∧ i < z.length) : atI z.cps.toList i = some (z.cps.getD i.toNat 0) := by
  unfold atI ixN
  rw [if_pos h.1, len_l, if_pos h.2]
  show z.cps.toList[i.toNat]? = _
  have hi : i.toNat < z.cps.size := by have := h.2; show _ < z.length; omega
  rw [Array.getElem?_toList, Array.getElem?_eq_getElem hi, Array.getD_eq_getD_getElem?, Array.getElem?_eq_getElem hi]
  rfl
theorem atI_last {z : Str} (h : 0 < z.length) : atI z.cps.toList (-1) = some (z.cps.getD (z.length - 1) 0) := by
  unfold atI ixN
  rw [if_neg (by decide), len_l, if_pos (by omega)]
  show z.cps.toList[((-1 : Int) + (z.length : Int)).toNat]? = _
  have e : ((-1 : Int) + (z.length : Int)).toNat = z.length - 1 := by omega
  rw [e]
  have hi : z.length - 1 < z.cps.size := by show _ < z.length; omega
  rw [Array.getElem?_toList, Array.getElem?_eq_getElem hi, Array.getD_eq_getD_getElem?, Array.getElem?_eq_getElem hi]
  rfl
theorem one_eq {c d : Nat} : decide ((⟨#[c]⟩ : Str) = ⟨#[d]⟩) = decide (c = d) := decide_eq_decide.mpr ⟨fun h => by cases h; rfl, fun h => by rw [h]⟩
theorem all128 {z : Str} (h : bad z = none) : z.cps.all (· < 128) = true := by
  rw [Array.all_eq_true]
  intro i hi
  have h1 : sgOk (z.cps[i]) = true := bad_l.mp h _ (Array.getElem_mem_toList hi)
  unfold sgOk at h1
  simp at h1 ⊢
  omega
theorem mk_len {z : Str} {c : Bool} {z' : Str} {c' : Bool} (h : K2.mk z c = .txt z' c') : Good z c ∧ z' = z ∧ c' = c := by
  unfold K2.mk at h
  cases hb : bad z with
  | some i => rw [hb] at h; cases h
  | none =>
    rw [hb] at h
    by_cases q : z.length > 120 ∨ (c = true ∧ z = "")
    · dsimp only at h
      rw [if_pos q] at h
      cases h
    · dsimp only at h
      rw [if_neg q] at h
      cases h
      exact ⟨⟨hb, by omega, fun e z => q (.inr ⟨e, z⟩)⟩, rfl, rfl⟩
theorem meets_txt {a : Ad} {z : Str} {c : Bool} {H : Hp} {Q : VK} {E : XK} (q : ∀ p H', Le H H' → TextAt a H' p z c → Q (.ref p) H') : Meets a (.txt z c) H Q E :=
  ⟨fun v H' e h => by obtain ⟨p, rfl, h⟩ := h; exact q p H' e h, fun k i h => nomatch h⟩
theorem meets_good {a : Ad} {z : Str} {c : Bool} {H : Hp} {Q : VK} {E : XK} (g : Good z c) (q : ∀ p H', Le H H' → TextAt a H' p z c → Q (.ref p) H') : Meets a (K2.mk z c) H Q E := by
  rw [g.mk]; exact meets_txt q
theorem Meets.le {a : Ad} {r : Ans} {H H1 : Hp} {Q : VK} {E : XK} (e : Le H H1) (h : Meets a r H Q E) : Meets a r H1 Q E :=
  ⟨fun v H' e' t => h.1 v H' (e.trans e') t, fun k i r cls d H' e' x => h.2 k i r cls d H' (e.trans e') x⟩
theorem Meets.is {a : Ad} {r r' : Ans} {H : Hp} {Q : VK} {E : XK} (e : r = r') (h : Meets a r H Q E) : Meets a r' H Q E := e ▸ h
section
variable {K : PySem.W.Frag} {mg : Str → Option Value} {a : Ad} {H : Hp} {p : Addr} {z w : Str} {c : Bool} {Q : VK} {i : Int}
theorem x_ixN (hz : z.length ≤ 1000000) (hi : 0 ≤ i ∧ i < z.length) (q : Q (.str ⟨#[z.cps.getD i.toNat 0]⟩) H) : rIx K (.str z) (.int i) H Q := x_ixS hz (atI_get hi) q
theorem x_ixZ (hz : z.length ≤ 1000000) (hi : 0 < z.length) (q : Q (.str ⟨#[z.cps.getD (z.length - 1) 0]⟩) H) : rIx K (.str z) (.int (-1)) H Q := x_ixS hz (atI_last hi) q
theorem x_kCVT (T : Txt K mg a) (q : Q (.int 120) H) : kCV K "MOST" Q (.ref a.cText) H := x_kCV T.cv q
theorem x_isText (T : Txt K mg a) (h : TextAt a H p z c) (q : Q (.bl true) H) : rIsi K [.ref p, .ref a.cText] H Q := by
  obtain ⟨dx, h⟩ := h
  exact x_isO h T.ins T.kTT q
theorem x_isTextS (T : Txt K mg a) (q : Q (.bl false) H) : rIsi K [.str z, .ref a.cText] H Q := x_isi (.own _) (.base (.str z)) T.kST q
theorem x_isTextI (T : Txt K mg a) (q : Q (.bl false) H) : rIsi K [.int i, .ref a.cText] H Q := x_isi (.own _) (.base (.int i)) T.kIT q
theorem x_isTextN (T : Txt K mg a) (q : Q (.bl false) H) : rIsi K [.non, .ref a.cText] H Q := x_isi (.own _) (.base .non) T.kNT q
end
theorem put1 {v : V} : putF ("signs" : Str) v [] = ([(("signs" : Str), v)] : List (Str × V)) := rfl
theorem put2 {v w : V} : putF ("closed" : Str) w ([(("signs" : Str), v)] : List (Str × V)) = ([(("signs" : Str), v), (("closed" : Str), w)] : List (Str × V)) := by
  have h : ¬ (("signs" : Str) = ("closed" : Str)) := by decide +kernel
  show (if ("signs" : Str) = ("closed" : Str) then (("signs" : Str), w) :: ([] : List (Str × V)) else (("signs" : Str), v) :: putF ("closed" : Str) w []) = _
  rw [if_neg h]
  rfl
end K2
set_option maxHeartbeats 4000000
/-! K2B: the program's defs -/
namespace K2
open PySem PySem.Spec PyProof.Rows L2 MC
local macro_rules | `(tactic| walk_at "hp") => `(tactic| first | assumption | (apply Le.keep; assumption; walk_at "hp") | (apply TextAt.le; assumption; walk_at "hp") | (apply Lw.keep; assumption; walk_at "hp"; first | rfl | exact sh_str _ | exact sh_ints _ | exact sh_sgns _) | (apply TextAt.lw; assumption; walk_at "hp"))
local macro_rules | `(tactic| walk_at "le") => `(tactic| first | exact Le.refl _ | assumption | (apply Le.trans'; assumption; walk_at "le"))
local macro_rules | `(tactic| walk_at "lw") => `(tactic| first | exact Lw.refl _ | assumption | exact Le.w (by assumption) | (apply Lw.trans'; (first | assumption | exact Le.w (by assumption)); walk_at "lw"))
local macro_rules | `(tactic| walk_at "sz") => `(tactic| first | omega | (simp only [slen_app]; omega) | (simp only [List.length_cons, List.length_nil, List.length_map, List.length_range]; omega) | omega | (simp; omega) | decide)
local macro_rules | `(tactic| walk_at "x") => `(tactic| first
  | with_reducible refine x_seq ?_ | with_reducible refine x_asg ?_ | with_reducible refine x_ret ?_ | with_reducible refine x_drop ?_
  | ((with_reducible apply x_var); exact rfl) | with_reducible refine x_c ?_ | with_reducible refine x_op ?_ | with_reducible refine x_opS ?_ | with_reducible refine x_un ?_ | with_reducible refine x_neg ?_
  | with_reducible refine x_test ?_ | with_reducible refine x_tB ?_ | with_reducible refine x_kB ?_
  | with_reducible refine x_nil ?_ | with_reducible refine x_cons ?_ | with_reducible refine x_tup ?_ | with_reducible refine x_lst ?_
  | ((with_reducible refine x_kTup ?_ ?_); (walk_at "sz"); (intro _ _ _ _ _)) | ((with_reducible refine x_kLst ?_ ?_); (walk_at "sz"); (intro _ _ _ _ _))
  | with_reducible refine x_fld ?_ | ((with_reducible apply x_fS); assumption; (walk_at "hp")) | ((with_reducible apply x_fC); assumption; (walk_at "hp"))
  | with_reducible refine x_cb ?_ | with_reducible refine x_call ?_ | with_reducible refine x_callE ?_ | with_reducible refine x_bm ?_ | with_reducible refine x_cv ?_
  | with_reducible refine x_meth ?_ | with_reducible refine x_cm ?_ | with_reducible refine x_kCM ?_ | with_reducible refine x_mk ?_ | with_reducible refine x_kMk ?_
  | with_reducible refine x_np ?_ | with_reducible refine x_part ?_ | with_reducible refine x_kPart ?_ | with_reducible refine x_sl ?_ | with_reducible refine x_rev ?_
  | with_reducible refine x_addI ?_ | ((with_reducible refine x_addS ?_ ?_); (walk_at "sz")) | with_reducible refine x_I0 ?_
  | with_reducible refine x_eqS ?_ | with_reducible refine x_eqI ?_ | with_reducible refine x_eqB ?_ | with_reducible refine x_neS ?_ | with_reducible refine x_neI ?_ | with_reducible refine x_neB ?_
  | with_reducible refine x_eqFS ?_ | with_reducible refine x_eqFI ?_
  | with_reducible refine x_ltI ?_ | with_reducible refine x_ltS ?_ | with_reducible refine x_leI ?_ | with_reducible refine x_leS ?_ | with_reducible refine x_inT ?_ | with_reducible refine x_notInT ?_
  | ((with_reducible refine x_slS ?_ ?_); (walk_at "sz")) | ((with_reducible refine x_kRev ?_ ?_); (walk_at "sz"))
  | ((with_reducible refine x_lenS ?_ ?_); (walk_at "sz")) | ((with_reducible apply x_lenT); (walk_at "hp"))
  | ((with_reducible apply x_ixT); (walk_at "hp"); exact rfl)
  | with_reducible refine x_abs ?_ | with_reducible refine x_int ?_ | with_reducible refine x_strS ?_
  | ((with_reducible apply x_isB); (first | exact kit_ty (r := true) (by decide +kernel) | exact kit_ty (r := false) (by decide +kernel))) | ((with_reducible apply x_isI); (first | exact kit_ty (r := true) (by decide +kernel) | exact kit_ty (r := false) (by decide +kernel))) | ((with_reducible apply x_isS); (first | exact kit_ty (r := true) (by decide +kernel) | exact kit_ty (r := false) (by decide +kernel)))
  | ((with_reducible apply x_isT); (walk_at "hp"); (first | exact kit_ty (r := true) (by decide +kernel) | exact kit_ty (r := false) (by decide +kernel)))
  | ((with_reducible apply x_isText); assumption; (walk_at "hp")) | ((with_reducible apply x_isTextS); assumption) | ((with_reducible apply x_isTextI); assumption) | ((with_reducible apply x_isTextN); assumption) | ((with_reducible apply x_kCVT); assumption)
  | ((with_reducible apply x_addL); (walk_at "hp"); (walk_at "hp"); (walk_at "sz"); (intro _ _ _ _ _)) | ((with_reducible apply x_tyL); (walk_at "hp")) | with_reducible refine x_tyS ?_
  | with_reducible refine x_joined ?_ | with_reducible refine x_js ?_ | with_reducible refine x_js0 ?_ | ((with_reducible refine x_kJs ?_ ?_); (walk_at "sz")) | with_reducible refine x_fmt ?_ | ((with_reducible refine x_fmtS ?_ ?_); (walk_at "sz")) | ((with_reducible refine x_fmtI ?_ ?_); omega)
  | with_reducible refine x_rse ?_ | with_reducible refine x_ex ?_ | with_reducible refine x_ex0 ?_ | with_reducible refine x_xf ?_
  | with_reducible refine x_for ?_ | with_reducible refine x_r1 ?_ | with_reducible refine x_r2 ?_ | with_reducible refine x_il ?_ | with_reducible refine x_en ?_ | with_reducible refine x_lc ?_ | with_reducible refine x_next ?_ | dsimp only)
local macro_rules | `(tactic| walk_at "xs") => `(tactic| repeat walk_at "x")
local macro_rules | `(tactic| walk_at "ev0") => `(tactic| (refine ev_run ?_; intro _ _ _ q; walk_at "xs"; refine q _ ?_; walk_at "le"))
local macro_rules | `(tactic| walk_at "ch") => `(tactic| (intro _ _ _ q; walk_at "xs"; refine q _ ?_; walk_at "le"))
local macro_rules | `(tactic| walk_at "ev") => `(tactic| first
  | (focus ((with_reducible refine ev_andV ?_ (fun _ => ?_)); (all_goals walk_at "ev"))) | (focus ((with_reducible refine ev_orV ?_ (fun _ => ?_)); (all_goals walk_at "ev")))
  | ((with_reducible refine ev_notV ?_); walk_at "ev")
  | (focus ((with_reducible apply ev_chain); (focus walk_at "ch"); (focus walk_at "ch"); (focus walk_at "ch"); (focus (intro _ _ _ q; walk_at "x"; exact q)); (focus (intro _ _ _ q; walk_at "x"; exact q))))
  | walk_at "ev0" | skip)
local macro_rules | `(tactic| walk_at "et") => `(tactic| first
  | (focus ((with_reducible refine et_and ?_ (fun _ => ?_)); (all_goals walk_at "et"))) | (focus ((with_reducible refine et_or ?_ (fun _ => ?_)); (all_goals walk_at "et")))
  | ((with_reducible refine et_not ?_); walk_at "et") | ((with_reducible refine et_B ?_); walk_at "ev") | ((with_reducible refine et_T ?_); walk_at "ev"))
theorem ok_is_sign {P : Program} {w : World} {K : PySem.W.Frag} {mg : Str → Option Value} {base : Heap} {a : Ad} {f : Addr} {fd : FuncData} (F : FnP K "is_sign" "is_sign" s_is_sign f fd) (T : Txt K mg a)  :
    FnOk P w K mg base (L2.CX P w) 1 f fd ["word"] (sp_is_sign a) := by
  refine F.ok sc_is_sign (fun vs H Q E h => by obtain ⟨z, rfl, hz, q⟩ := h; rfl) (fun cdv A outer s H vs Q E hr h => ?_)
  refine ⟨_, (pss_one (ps_ret (pe_and (pe_cmpR (op_eqU hr) (pe_callB call_lenU (by rfl) T.f_len (by decide +kernel) (pa_cons (pv 0) pa_nil)) pe_int (nomark _)) (pe_one (pe_chain op_leU op_leU pe_str (pv 0) pe_str))))), ?_⟩
  obtain ⟨z, rfl, hz, q⟩ := h
  walk_at "xs"
  refine x_andV (b := isSg z) (ev_is ?_ (isSg_eq z).symm) q
  walk_at "ev"

theorem ok__check_signs {P : Program} {w : World} {K : PySem.W.Frag} {mg : Str → Option Value} {base : Heap} {a : Ad} {f : Addr} {fd : FuncData} (F : FnP K "_check_signs" "_check_signs" s__check_signs f fd) (T : Txt K mg a) (G_is_sign : FnG P w K mg base 1 "is_sign" (sp_is_sign a)) (X_BadSign : ExG P w K mg base 1 "BadSign" a.cBadSign "at") :
    FnOk P w K mg base (L2.CX P w) 3 f fd ["signs"] (sp__check_signs a) := by
  refine F.ok sc__check_signs (fun vs H Q E h => by obtain ⟨z, rfl, hz, hm⟩ := h; rfl) (fun cdv A outer s H vs Q E hr h => ?_)
  refine ⟨_, (pss_one (ps_for (by first | exact po | exact PassesOwn.never | exact passes_of rfl) rfl (pi_enumS (by rfl) T.f_enumerate (pa_cons (pv 0) pa_nil)) (pg_tup rfl (pgs_cons (pg_name (i := 1) sc__check_signs.nd rfl (Or.inl rfl)) (pgs_cons (pg_name (i := 2) sc__check_signs.nd rfl (Or.inl rfl)) pgs_nil))) (pss_one (ps_if (pt_not (pt_val (pe_callG G_is_sign (hr.mono (by decide)) passN rfl (pa_cons (pv 2) pa_nil)))) (pss_one (ps_rse rfl (takes_of rfl rfl rfl rfl) (pmk_exG X_BadSign (hr.mono (by decide)) rfl (pa_cons (pv 1) pa_nil)))) pss_nil)))), ?_⟩
  obtain ⟨z, rfl, hz, hm⟩ := h
  walk_at "xs"
  refine x_forE (fun i σ' H' => (∃ v1 v2, σ' = [some (V.str z), v1, v2]) ∧ Le H H' ∧ ∀ j, j < i → sgOk (z.cps.getD j 0) = true) ⟨⟨_, _, rfl⟩, Le.refl H, fun j hj => absurd hj (Nat.not_lt_zero j)⟩ ?_ ?_
  · rintro i t σ' H1 H2 hi ⟨⟨v1, v2, rfl⟩, e1, hj⟩ e2 hT
    refine ⟨t, _, rfl, sqt hT, rfl, ?_⟩
    refine ⟨_, _, rfl, ?_⟩
    refine ⟨_, _, rfl, ?_⟩
    refine ⟨rfl, ?_⟩
    refine x_if (b := !sgOk (z.cps.getD i 0)) (et_not (et_B (ev_run fun H3 e3 Q3 q3 => ?_))) (fun hb H3 e3 => ?_) (fun hb H3 e3 => ?_)
    · walk_at "xs"
      refine ⟨_, rfl, ?_, fun H4 e4 => ?_⟩
      · show #[z.cps.getD i 0].size ≤ 1000
        simp
      · rw [isSg_one]; exact q3 H4 e4
    · walk_at "xs"
      have hb2 : sgOk (z.cps.getD i 0) = false := by simpa using hb
      refine x_kEx (log_small (by show i < _; have : z.cps.size ≤ 1000 := hz; omega)) fun d H4 e4 hd => ?_
      exact hm.2 .sign i (chk_some (bad_some hi hb2 hj)) _ _ _ (((e1.trans e2).trans e3).trans e4) ⟨rfl, d, rfl, hd⟩
    · walk_at "xs"
      have hb2 : sgOk (z.cps.getD i 0) = true := by simpa using hb
      refine ⟨⟨_, _, rfl⟩, (e1.trans e2).trans e3, fun j h => ?_⟩
      rcases Nat.lt_succ_iff_lt_or_eq.mp h with h | h
      · exact hj j h
      · rw [h]; exact hb2
  · rintro σ' H1 ⟨⟨v1, v2, rfl⟩, e1, hj⟩
    exact hm.1 _ _ e1 (by rw [chk_none (bad_none.mpr hj)]; rfl)
end K2
set_option maxHeartbeats 4000000
/-! K2C: the program's class -/
namespace K2
open PySem PySem.Spec PyProof.Rows L2 MC
local macro_rules | `(tactic| walk_at "hp") => `(tactic| first | assumption | (apply Le.keep; assumption; walk_at "hp") | (apply TextAt.le; assumption; walk_at "hp") | (apply Lw.keep; assumption; walk_at "hp"; first | rfl | exact sh_str _ | exact sh_ints _ | exact sh_sgns _) | (apply TextAt.lw; assumption; walk_at "hp"))
local macro_rules | `(tactic| walk_at "le") => `(tactic| first | exact Le.refl _ | assumption | (apply Le.trans'; assumption; walk_at "le"))
local macro_rules | `(tactic| walk_at "lw") => `(tactic| first | exact Lw.refl _ | assumption | exact Le.w (by assumption) | (apply Lw.trans'; (first | assumption | exact Le.w (by assumption)); walk_at "lw"))
local macro_rules | `(tactic| walk_at "sz") => `(tactic| first | omega | (simp only [slen_app]; omega) | (simp only [List.length_cons, List.length_nil, List.length_map, List.length_range]; omega) | omega | (simp; omega) | decide)
local macro_rules | `(tactic| walk_at "x") => `(tactic| first
  | with_reducible refine x_seq ?_ | with_reducible refine x_asg ?_ | with_reducible refine x_ret ?_ | with_reducible refine x_drop ?_
  | ((with_reducible apply x_var); exact rfl) | with_reducible refine x_c ?_ | with_reducible refine x_op ?_ | with_reducible refine x_opS ?_ | with_reducible refine x_un ?_ | with_reducible refine x_neg ?_
  | with_reducible refine x_test ?_ | with_reducible refine x_tB ?_ | with_reducible refine x_kB ?_
  | with_reducible refine x_nil ?_ | with_reducible refine x_cons ?_ | with_reducible refine x_tup ?_ | with_reducible refine x_lst ?_
  | ((with_reducible refine x_kTup ?_ ?_); (walk_at "sz"); (intro _ _ _ _ _)) | ((with_reducible refine x_kLst ?_ ?_); (walk_at "sz"); (intro _ _ _ _ _))
  | with_reducible refine x_fld ?_ | ((with_reducible apply x_fS); assumption; (walk_at "hp")) | ((with_reducible apply x_fC); assumption; (walk_at "hp"))
  | with_reducible refine x_cb ?_ | with_reducible refine x_call ?_ | with_reducible refine x_callE ?_ | with_reducible refine x_bm ?_ | with_reducible refine x_cv ?_
  | with_reducible refine x_meth ?_ | with_reducible refine x_cm ?_ | with_reducible refine x_kCM ?_ | with_reducible refine x_mk ?_ | with_reducible refine x_kMk ?_
  | with_reducible refine x_np ?_ | with_reducible refine x_part ?_ | with_reducible refine x_kPart ?_ | with_reducible refine x_sl ?_ | with_reducible refine x_rev ?_
  | with_reducible refine x_addI ?_ | ((with_reducible refine x_addS ?_ ?_); (walk_at "sz")) | with_reducible refine x_I0 ?_
  | with_reducible refine x_eqS ?_ | with_reducible refine x_eqI ?_ | with_reducible refine x_eqB ?_ | with_reducible refine x_neS ?_ | with_reducible refine x_neI ?_ | with_reducible refine x_neB ?_
  | with_reducible refine x_eqFS ?_ | with_reducible refine x_eqFI ?_
  | with_reducible refine x_ltI ?_ | with_reducible refine x_ltS ?_ | with_reducible refine x_leI ?_ | with_reducible refine x_leS ?_ | with_reducible refine x_inT ?_ | with_reducible refine x_notInT ?_
  | ((with_reducible refine x_slS ?_ ?_); (walk_at "sz")) | ((with_reducible refine x_kRev ?_ ?_); (walk_at "sz"))
  | ((with_reducible refine x_lenS ?_ ?_); (walk_at "sz")) | ((with_reducible apply x_lenT); (walk_at "hp"))
  | ((with_reducible apply x_ixT); (walk_at "hp"); exact rfl)
  | with_reducible refine x_abs ?_ | with_reducible refine x_int ?_ | with_reducible refine x_strS ?_
  | ((with_reducible apply x_isB); (first | exact kit_ty (r := true) (by decide +kernel) | exact kit_ty (r := false) (by decide +kernel))) | ((with_reducible apply x_isI); (first | exact kit_ty (r := true) (by decide +kernel) | exact kit_ty (r := false) (by decide +kernel))) | ((with_reducible apply x_isS); (first | exact kit_ty (r := true) (by decide +kernel) | exact kit_ty (r := false) (by decide +kernel)))
  | ((with_reducible apply x_isT); (walk_at "hp"); (first | exact kit_ty (r := true) (by decide +kernel) | exact kit_ty (r := false) (by decide +kernel)))
  | ((with_reducible apply x_isText); assumption; (walk_at "hp")) | ((with_reducible apply x_isTextS); assumption) | ((with_reducible apply x_isTextI); assumption) | ((with_reducible apply x_isTextN); assumption) | ((with_reducible apply x_kCVT); assumption)
  | ((with_reducible apply x_addL); (walk_at "hp"); (walk_at "hp"); (walk_at "sz"); (intro _ _ _ _ _)) | ((with_reducible apply x_tyL); (walk_at "hp")) | with_reducible refine x_tyS ?_
  | with_reducible refine x_joined ?_ | with_reducible refine x_js ?_ | with_reducible refine x_js0 ?_ | ((with_reducible refine x_kJs ?_ ?_); (walk_at "sz")) | with_reducible refine x_fmt ?_ | ((with_reducible refine x_fmtS ?_ ?_); (walk_at "sz")) | ((with_reducible refine x_fmtI ?_ ?_); omega)
  | with_reducible refine x_rse ?_ | with_reducible refine x_ex ?_ | with_reducible refine x_ex0 ?_ | with_reducible refine x_xf ?_
  | with_reducible refine x_for ?_ | with_reducible refine x_r1 ?_ | with_reducible refine x_r2 ?_ | with_reducible refine x_il ?_ | with_reducible refine x_en ?_ | with_reducible refine x_lc ?_ | with_reducible refine x_next ?_ | dsimp only)
local macro_rules | `(tactic| walk_at "xs") => `(tactic| repeat walk_at "x")
local macro_rules | `(tactic| walk_at "ev0") => `(tactic| (refine ev_run ?_; intro _ _ _ q; walk_at "xs"; refine q _ ?_; walk_at "le"))
local macro_rules | `(tactic| walk_at "ch") => `(tactic| (intro _ _ _ q; walk_at "xs"; refine q _ ?_; walk_at "le"))
local macro_rules | `(tactic| walk_at "ev") => `(tactic| first
  | (focus ((with_reducible refine ev_andV ?_ (fun _ => ?_)); (all_goals walk_at "ev"))) | (focus ((with_reducible refine ev_orV ?_ (fun _ => ?_)); (all_goals walk_at "ev")))
  | ((with_reducible refine ev_notV ?_); walk_at "ev")
  | (focus ((with_reducible apply ev_chain); (focus walk_at "ch"); (focus walk_at "ch"); (focus walk_at "ch"); (focus (intro _ _ _ q; walk_at "x"; exact q)); (focus (intro _ _ _ q; walk_at "x"; exact q))))
  | walk_at "ev0" | skip)
local macro_rules | `(tactic| walk_at "et") => `(tactic| first
  | (focus ((with_reducible refine et_and ?_ (fun _ => ?_)); (all_goals walk_at "et"))) | (focus ((with_reducible refine et_or ?_ (fun _ => ?_)); (all_goals walk_at "et")))
  | ((with_reducible refine et_not ?_); walk_at "et") | ((with_reducible refine et_B ?_); walk_at "ev") | ((with_reducible refine et_T ?_); walk_at "ev"))
theorem ok_Text___init__ {P : Program} {w : World} {K : PySem.W.Frag} {mg : Str → Option Value} {base : Heap} {a : Ad} {f : Addr} {fd : FuncData} (F : FunD K "__init__" "Text.__init__" (defArgs s_Text___init__) (defBody s_Text___init__) (defScope s_Text___init__) [] [("closed", .bl false)] f fd) (T : Txt K mg a) (X_BadText : ExG P w K mg base 1 "BadText" a.cBadText "size") (G__check_signs : FnG P w K mg base 3 "_check_signs" (sp__check_signs a)) :
    FnOk P w K mg base (L2.CX P w) 4 f fd ["self", "signs", "closed"] (sp_Text___init__ a) := by
  refine F.ok sc_Text___init__ (fun vs H Q E h => by obtain ⟨p, z, c, dx, rfl, hz, hp, hm, hx⟩ := h; rfl) (fun cdv A outer s H vs Q E hr h => ?_)
  refine ⟨_, (pss_cons (ps_expr (pe_callG G__check_signs (hr.mono (by decide)) (passW (takes_of rfl rfl rfl rfl)) rfl (pa_cons (pv 1) pa_nil)))
    (pss_cons (ps_if (PW.pt (pw_or (pt_cmpR op_gt (pe_callB call_lenU (by rfl) T.f_len (by decide +kernel) (pa_cons (pv 1) pa_nil)) (ClX.pe_cval (pe_glob (v := .ref a.cText) rfl T.g_Text rfl)) (nomark _)) (pw_or1 (PW.pt (pw_and (pt_val (pv 2)) (pw_and1 (pt_cmpR (op_eqU hr) (pv 1) pe_str (nomark _)))))))) (pss_one (ps_rse rfl (takes_of rfl rfl rfl rfl) (pmk_exG X_BadText (hr.mono (by decide)) rfl (pa_cons (pe_callB call_lenU (by rfl) T.f_len (by decide +kernel) (pa_cons (pv 1) pa_nil)) pa_nil)))) pss_nil)
    (pss_cons (ps_fld (pv 0) (pv 1) rfl)
    (pss_one (ps_fld (pv 0) (pv 2) rfl))))), ?_⟩
  obtain ⟨p, z, c, dx, rfl, hz, hp, hm, hx⟩ := h
  walk_at "xs"
  have hz2 : z.length ≤ 1000 := hz
  refine ⟨z, rfl, hz, fun v H1 e1 ht => ?_, fun k i hk cls d H1 e1 hX => ?_⟩
  case refine_2 =>
    refine hx k i ?_ cls d H1 e1 hX
    unfold chk at hk
    unfold mk
    cases hb : bad z with
    | some j => rw [hb] at hk; exact hk
    | none => rw [hb] at hk; cases hk
  have hb : bad z = none := by
    cases hb : bad z with
    | none => rfl
    | some i => rw [chk_some hb] at ht; exact ht.elim
  walk_at "xs"
  refine x_if (b := decide ((120 : Int) < z.length) || (c && decide (z = ""))) ?_ (fun hb2 H2 e2 => ?_) (fun hb2 H2 e2 => ?_)
  · walk_at "et"
  · walk_at "xs"
    refine x_kEx (log_small (by omega)) fun d H4 e4 hd => ?_
    refine hx .size z.length ?_ _ _ _ ((e1.trans e2).trans e4) ⟨rfl, d, rfl, hd⟩
    unfold mk
    rw [hb]
    refine if_pos ?_
    simp only [Bool.or_eq_true, Bool.and_eq_true, decide_eq_true_eq] at hb2
    rcases hb2 with h | h
    · left; omega
    · right; exact h
  · have hg : mk z c = .txt z c := by
      unfold mk
      rw [hb]
      refine if_neg fun q => ?_
      simp only [Bool.or_eq_false_iff, Bool.and_eq_false_iff, decide_eq_false_iff_not] at hb2
      rcases q with q | ⟨q1, q2⟩
      · omega
      · rcases hb2.2 with h | h
        · rw [q1] at h; cases h
        · exact h q2
    walk_at "xs"
    refine ⟨_, rfl, _, rfl, p, a.cText, dx, [], rfl, (e1.trans e2).keep hp, T.fS.1, T.fS.2, by show 0 < 1000; decide, ?_⟩
    refine ⟨_, rfl, _, rfl, p, a.cText, dx, _, rfl, upd_same, T.fC.1, T.fC.2, by show 1 < 1000; decide, ?_⟩
    rw [upd_upd]
    have := hm hg H2 (e1.trans e2)
    rw [put1, put2]
    exact this
theorem le_made {H H' : Hp} {x dx : Addr} {C : Addr} (hx : H x = none) (hd : H dx = none) (e : Le (upd (upd H dx (.own x)) x (.ins C dx [])) H') : Le H H' := by
  have h1 : Le H (upd H dx (.own x)) := Le.new hd
  by_cases q : x = dx
  · refine Le.trans ?_ e
    rw [q, upd_upd]
    exact Le.new hd
  · exact (h1.trans (Le.new (by rw [upd_ne q]; exact hx))).trans e
theorem le_set {H H1 : Hp} {x dx : Addr} {C : Addr} {o : HO} (hx : H x = none) (hd : H dx = none) (e : Le (upd (upd H dx (.own x)) x (.ins C dx [])) H1) : Le H (upd H1 x o) := le_own (le_made hx hd e) hx
section
variable {P : Program} {w : World} {K : PySem.W.Frag} {mg : Str → Option Value} {base : Heap} {a : Ad} {f : Addr} {fd : FuncData}
abbrev FI (K : PySem.W.Frag) (f : Addr) (fd : FuncData) : Prop := FunD K "__init__" "Text.__init__" (defArgs s_Text___init__) (defBody s_Text___init__) (defScope s_Text___init__) [] [("closed", .bl false)] f fd
/-- __init__'s promise from the class's -/
theorem init_of {z : Str} {c : Bool} {H : Hp} {Q : VK} {E : XK} (hz : Sm z) (hm : Meets a (mk z c) H Q E) {x dx : Addr} (hx : H x = none) (hd : H dx = none) (hne : dx ≠ x) :
    sp_Text___init__ a [.ref x, .str z, .bl c] (upd (upd H dx (.own x)) x (.ins a.cText dx [])) (fun v H2 => v = .non ∧ Q (.ref x) H2) E :=
  ⟨x, z, c, dx, rfl, hz, upd_same, fun hg H1 e => ⟨rfl, hm.1 _ _ (le_set hx hd e) (by rw [hg]; exact ⟨x, rfl, dx, upd_same⟩)⟩, fun k i hk cls d H1 e hX => hm.2 k i hk cls d H1 (le_made hx hd e) hX⟩
theorem ct_Text_1 (F : FI K f fd) (G : FnOk P w K mg base (L2.CX P w) 4 f fd ["self", "signs", "closed"] (sp_Text___init__ a)) (M : Mk K a.cText f) : CtG P w K mg base 4 a.cText 1 [] (spCt_Text_1 a) := by
  obtain ⟨mv, kb⟩ := F.kbinds0 (ps := ["self", "signs", "closed"]) 2 [] [("closed", .bl false)] (fun us mv ws => us ++ mv ++ ws) (by simp) (fun q h => h) (fun r1 r2 r3 => (r1.append r2).append r3)
    (fun D doc pm an cdv ct us mv ws hu hmv hw => match us, mv, ws, hu, hmv, hw with | [_, _], [_], [], _, _, _ => ⟨_, _, _, _, _, _, rfl, rfl, rfl⟩)
  refine ⟨⟨f, fd, _, _, _, _, M, G, kb, ?_⟩⟩
  rintro vs zs H Q E ⟨z, ⟨rfl, rfl⟩, hz, hm⟩
  exact ⟨rfl, rfl, fun x dx hx hd hne => init_of hz hm hx hd hne⟩
theorem ct_Text_1_closed (F : FI K f fd) (G : FnOk P w K mg base (L2.CX P w) 4 f fd ["self", "signs", "closed"] (sp_Text___init__ a)) (M : Mk K a.cText f) : CtG P w K mg base 4 a.cText 1 ["closed"] (spCt_Text_1_closed a) := by
  obtain ⟨mv, kb⟩ := F.kbinds0 (ps := ["self", "signs", "closed"]) 2 ["closed"] [] (fun us mv ws => us ++ mv ++ ws) (by simp) (fun q h => by cases h) (fun r1 r2 r3 => (r1.append r2).append r3)
    (fun D doc pm an cdv ct us mv ws hu hmv hw => match us, mv, ws, hu, hmv, hw with | [_, _], [], [_], _, _, _ => rfl)
  refine ⟨⟨f, fd, _, _, _, _, M, G, kb, ?_⟩⟩
  rintro vs zs H Q E ⟨z, c, ⟨rfl, rfl⟩, hz, hm⟩
  exact ⟨rfl, rfl, fun x dx hx hd hne => init_of hz hm hx hd hne⟩
theorem ct_Text_0_signs (F : FI K f fd) (G : FnOk P w K mg base (L2.CX P w) 4 f fd ["self", "signs", "closed"] (sp_Text___init__ a)) (M : Mk K a.cText f) : CtG P w K mg base 4 a.cText 0 ["signs"] (spCt_Text_0_signs a) := by
  obtain ⟨mv, kb⟩ := F.kbinds0 (ps := ["self", "signs", "closed"]) 1 ["signs"] [("closed", .bl false)] (fun us mv ws => us ++ ws ++ mv) (by simp) (fun q h => h) (fun r1 r2 r3 => (r1.append r3).append r2)
    (fun D doc pm an cdv ct us mv ws hu hmv hw => match us, mv, ws, hu, hmv, hw with | [_], [_], [_], _, _, _ => ⟨_, _, _, _, _, _, rfl, rfl, rfl⟩)
  refine ⟨⟨f, fd, _, _, _, _, M, G, kb, ?_⟩⟩
  rintro vs zs H Q E ⟨z, ⟨rfl, rfl⟩, hz, hm⟩
  exact ⟨rfl, rfl, fun x dx hx hd hne => init_of hz hm hx hd hne⟩
theorem vals_rev : ∀ {vs : List V} {us : List Value}, Vals vs us → Vals vs.reverse us.reverse
  | _, _, .nil => .nil
  | _, _, .cons r t => by
    rw [List.reverse_cons, List.reverse_cons]
    exact (vals_rev t).append (.cons r .nil)
theorem ct_Text_0_closed_signs (F : FI K f fd) (G : FnOk P w K mg base (L2.CX P w) 4 f fd ["self", "signs", "closed"] (sp_Text___init__ a)) (M : Mk K a.cText f) : CtG P w K mg base 4 a.cText 0 ["closed", "signs"] (spCt_Text_0_closed_signs a) := by
  obtain ⟨mv, kb⟩ := F.kbinds0 (ps := ["self", "signs", "closed"]) 1 ["closed", "signs"] [] (fun us mv ws => us ++ ws.reverse ++ mv) (by simp) (fun q h => by cases h) (fun r1 r2 r3 => (r1.append (vals_rev r3)).append r2)
    (fun D doc pm an cdv ct us mv ws hu hmv hw => match us, mv, ws, hu, hmv, hw with | [_], [], [_, _], _, _, _ => rfl)
  refine ⟨⟨f, fd, _, _, _, _, M, G, kb, ?_⟩⟩
  rintro vs zs H Q E ⟨z, c, ⟨rfl, rfl⟩, hz, hm⟩
  exact ⟨rfl, rfl, fun x dx hx hd hne => init_of hz hm hx hd hne⟩
end
theorem ok_Text_row {P : Program} {w : World} {K : PySem.W.Frag} {mg : Str → Option Value} {base : Heap} {a : Ad} {f : Addr} {fd : FuncData} (F : FnP K "row" "Text.row" s_Text_row f fd) (T : Txt K mg a) (Ct_Text_1 : CtG P w K mg base 4 a.cText 1 [] (spCt_Text_1 a)) :
    FnOk P w K mg base (L2.CX P w) 6 f fd ["cls", "signs"] (sp_Text_row a) := by
  refine F.ok sc_Text_row (fun vs H Q E h => by obtain ⟨z, rfl, hz, hm⟩ := h; rfl) (fun cdv A outer s H vs Q E hr h => ?_)
  refine ⟨_, (pss_one (ps_ret (pe_mkG Ct_Text_1 (hr.mono (by decide)) (passW (takes_of rfl rfl rfl rfl)) (pv 0) (pa_cons (pv 1) pa_nil) pk_nil))), ?_⟩
  obtain ⟨z, rfl, hz, hm⟩ := h
  walk_at "xs"
  exact ⟨z, ⟨rfl, rfl⟩, hz, hm⟩
theorem ok_Text_loop {P : Program} {w : World} {K : PySem.W.Frag} {mg : Str → Option Value} {base : Heap} {a : Ad} {f : Addr} {fd : FuncData} (F : FnP K "loop" "Text.loop" s_Text_loop f fd) (T : Txt K mg a) (Ct_Text_1_closed : CtG P w K mg base 4 a.cText 1 ["closed"] (spCt_Text_1_closed a)) :
    FnOk P w K mg base (L2.CX P w) 6 f fd ["cls", "signs"] (sp_Text_loop a) := by
  refine F.ok sc_Text_loop (fun vs H Q E h => by obtain ⟨z, rfl, hz, hm⟩ := h; rfl) (fun cdv A outer s H vs Q E hr h => ?_)
  refine ⟨_, (pss_one (ps_ret (pe_mkG Ct_Text_1_closed (hr.mono (by decide)) (passW (takes_of rfl rfl rfl rfl)) (pv 0) (pa_cons (pv 1) pa_nil) (pk_cons pe_bl pk_nil)))), ?_⟩
  obtain ⟨z, rfl, hz, hm⟩ := h
  walk_at "xs"
  exact ⟨z, true, ⟨rfl, rfl⟩, hz, hm⟩
theorem ok_Text___len__ {P : Program} {w : World} {K : PySem.W.Frag} {mg : Str → Option Value} {base : Heap} {a : Ad} {f : Addr} {fd : FuncData} (F : FnP K "__len__" "Text.__len__" s_Text___len__ f fd) (T : Txt K mg a)  :
    FnOk P w K mg base (L2.CX P w) 1 f fd ["self"] (sp_Text___len__ a) := by
  refine F.ok sc_Text___len__ (fun vs H Q E h => by obtain ⟨p, z, c, rfl, hz, ht, q⟩ := h; rfl) (fun cdv A outer s H vs Q E hr h => ?_)
  refine ⟨_, (pss_one (ps_ret (pe_callB call_lenU (by rfl) T.f_len (by decide +kernel) (pa_cons (pe_fld (pv 0) rfl) pa_nil)))), ?_⟩
  obtain ⟨p, z, c, rfl, hz, ht, q⟩ := h
  walk_at "xs"
  exact q _ (Le.refl _)
theorem ok_Text___iter__ {P : Program} {w : World} {K : PySem.W.Frag} {mg : Str → Option Value} {base : Heap} {a : Ad} {f : Addr} {fd : FuncData} (F : FnP K "__iter__" "Text.__iter__" s_Text___iter__ f fd) (T : Txt K mg a)  :
    FnOk P w K mg base (L2.CX P w) 1 f fd ["self"] (sp_Text___iter__ a) := by
  refine F.ok sc_Text___iter__ (fun vs H Q E h => by obtain ⟨p, z, c, rfl, hz, hb, ht, q⟩ := h; rfl) (fun cdv A outer s H vs Q E hr h => ?_)
  refine ⟨_, (pss_one (ps_ret (pe_callB call_iterS (by rfl) T.f_iter (by decide +kernel) (pa_cons (pe_fld (pv 0) rfl) pa_nil)))), ?_⟩
  obtain ⟨p, z, c, rfl, hz, hb, ht, q⟩ := h
  walk_at "xs"
  exact ⟨z, rfl, all128 hb, q⟩
theorem ok_Text___str__ {P : Program} {w : World} {K : PySem.W.Frag} {mg : Str → Option Value} {base : Heap} {a : Ad} {f : Addr} {fd : FuncData} (F : FnP K "__str__" "Text.__str__" s_Text___str__ f fd) (T : Txt K mg a)  :
    FnOk P w K mg base (L2.CX P w) 1 f fd ["self"] (sp_Text___str__ a) := by
  refine F.ok sc_Text___str__ (fun vs H Q E h => by obtain ⟨p, z, c, rfl, hz, ht, q⟩ := h; rfl) (fun cdv A outer s H vs Q E hr h => ?_)
  refine ⟨_, (pss_cons (ps_if (pt_val (pe_fld (pv 0) rfl)) (pss_one (ps_ret (pe_joinedU (.cons pe_str (.cons (pe_fmt (pe_fld (pv 0) rfl)) (.cons pe_str .nil)))))) pss_nil)
    (pss_one (ps_ret (pe_callTy call_strS (by rfl) T.f_str (by decide +kernel) (pa_cons (pe_fld (pv 0) rfl) pa_nil))))), ?_⟩
  obtain ⟨p, z, c, rfl, hz, ht, q⟩ := h
  walk_at "xs"
  have l1 : ("(" : Str).length = 1 := rfl
  have l2 : (")" : Str).length = 1 := rfl
  have l3 : Str.empty.length = 0 := rfl
  have hz2 : z.length ≤ 1000 := hz
  refine x_if (b := c) (by walk_at "et") (fun hc H1 e1 => ?_) (fun hc H1 e1 => ?_)
  · walk_at "xs"
    have := q H1 e1
    unfold strOf at this
    rw [if_pos hc] at this
    exact this
  · walk_at "xs"
    have := q H1 e1
    unfold strOf at this
    rw [if_neg (by rw [hc]; decide)] at this
    exact this
theorem ok_Text___getitem__ {P : Program} {w : World} {K : PySem.W.Frag} {mg : Str → Option Value} {base : Heap} {a : Ad} {f : Addr} {fd : FuncData} (F : FnP K "__getitem__" "Text.__getitem__" s_Text___getitem__ f fd) (T : Txt K mg a) (X_NoPlace : ExG P w K mg base 1 "NoPlace" a.cNoPlace "at") :
    FnOk P w K mg base (L2.CX P w) 3 f fd ["self", "at"] (sp_Text___getitem__ a) := by
  refine F.ok sc_Text___getitem__ (fun vs H Q E h => by obtain ⟨p, z, c, i, rfl, hz, ht, hi, hm⟩ := h; rfl) (fun cdv A outer s H vs Q E hr h => ?_)
  refine ⟨_, (pss_cons (ps_if (pt_not (pt_chain op_leU op_ltU pe_int (pv 1) (pe_callB call_lenU (by rfl) T.f_len (by decide +kernel) (pa_cons (pe_fld (pv 0) rfl) pa_nil)))) (pss_one (ps_rse rfl (takes_of rfl rfl rfl rfl) (pmk_exG X_NoPlace (hr.mono (by decide)) rfl (pa_cons (pv 1) pa_nil)))) pss_nil)
    (pss_one (ps_ret (pe_ix ix_seq (pe_fld (pv 0) rfl) (pv 1) (fun _ _ => rfl))))), ?_⟩
  obtain ⟨p, z, c, i, rfl, hz, ht, hi, hm⟩ := h
  walk_at "xs"
  have hz2 : z.length ≤ 1000 := hz
  refine x_if (b := !(decide (0 ≤ i) && decide (i < z.length))) (by walk_at "et") (fun hb H1 e1 => ?_) (fun hb H1 e1 => ?_)
  · walk_at "xs"
    refine x_kEx hi fun d H4 e4 hd => ?_
    refine hm.2 .place i ?_ _ _ _ (e1.trans e4) ⟨rfl, d, rfl, hd⟩
    refine if_neg fun q => ?_
    simp [q.1, q.2] at hb
  · simp only [Bool.not_eq_false', Bool.and_eq_true, decide_eq_true_eq] at hb
    walk_at "xs"
    refine x_ixN (by omega) hb ?_
    refine hm.1 _ _ e1 ?_
    unfold aItem
    rw [if_pos hb]
    rfl
theorem ok_Text___contains__ {P : Program} {w : World} {K : PySem.W.Frag} {mg : Str → Option Value} {base : Heap} {a : Ad} {f : Addr} {fd : FuncData} (F : FnP K "__contains__" "Text.__contains__" s_Text___contains__ f fd) (T : Txt K mg a)  :
    FnOk P w K mg base (L2.CX P w) 1 f fd ["self", "part"] (sp_Text___contains__ a) := by
  refine F.ok sc_Text___contains__ (fun vs H Q E h => by obtain ⟨p, z, c, w, rfl, hz, hw, ht, q⟩ := h; rfl) (fun cdv A outer s H vs Q E hr h => ?_)
  refine ⟨_, (pss_cons (ps_if (pt_cmpR op_gt (pe_callB call_lenU (by rfl) T.f_len (by decide +kernel) (pa_cons (pv 1) pa_nil)) (pe_callB call_lenU (by rfl) T.f_len (by decide +kernel) (pa_cons (pe_fld (pv 0) rfl) pa_nil)) (nomark _)) (pss_one (ps_ret pe_bl)) pss_nil)
    (pss_cons (ps_if (pt_val (pe_fld (pv 0) rfl)) (pss_one (ps_ret (pe_cmpR op_inT (pv 1) (pe_op op_mulU (pe_fld (pv 0) rfl) pe_int) (by rfl)))) pss_nil)
    (pss_one (ps_ret (pe_cmpR op_inT (pv 1) (pe_fld (pv 0) rfl) (by rfl)))))), ?_⟩
  obtain ⟨p, z, c, w, rfl, hz, hw, ht, q⟩ := h
  walk_at "xs"
  have hz2 : z.length ≤ 1000 := hz
  have hw2 : w.length ≤ 1000 := hw
  refine x_if (b := decide ((z.length : Int) < w.length)) (by walk_at "et") (fun hb H1 e1 => ?_) (fun hb H1 e1 => ?_)
  · walk_at "xs"
    have := q H1 e1
    unfold isPart at this
    rw [if_pos (by simpa using hb)] at this
    exact this
  · walk_at "xs"
    refine x_if (b := c) (by walk_at "et") (fun hc H2 e2 => ?_) (fun hc H2 e2 => ?_)
    · walk_at "xs"
      refine x_mulS (by decide) (by decide) (by omega) ?_
      walk_at "xs"
      have := q H2 (e1.trans e2)
      unfold isPart at this
      rw [if_neg (by simpa using hb), if_pos hc] at this
      exact this
    · walk_at "xs"
      have := q H2 (e1.trans e2)
      unfold isPart at this
      rw [if_neg (by simpa using hb), if_neg (by rw [hc]; decide)] at this
      exact this
end K2
set_option maxHeartbeats 4000000
/-! K2D: the rest of the program's class, least_turn -/
namespace K2
open PySem PySem.Spec PyProof.Rows L2 MC
local macro_rules | `(tactic| walk_at "hp") => `(tactic| first | assumption | (apply Le.keep; assumption; walk_at "hp") | (apply TextAt.le; assumption; walk_at "hp") | (apply Lw.keep; assumption; walk_at "hp"; first | rfl | exact sh_str _ | exact sh_ints _ | exact sh_sgns _) | (apply TextAt.lw; assumption; walk_at "hp"))
local macro_rules | `(tactic| walk_at "le") => `(tactic| first | exact Le.refl _ | assumption | (apply Le.trans'; assumption; walk_at "le"))
local macro_rules | `(tactic| walk_at "lw") => `(tactic| first | exact Lw.refl _ | assumption | exact Le.w (by assumption) | (apply Lw.trans'; (first | assumption | exact Le.w (by assumption)); walk_at "lw"))
local macro_rules | `(tactic| walk_at "sz") => `(tactic| first | omega | (simp only [slen_app]; omega) | (simp only [List.length_cons, List.length_nil, List.length_map, List.length_range]; omega) | omega | (simp; omega) | decide)
local macro_rules | `(tactic| walk_at "x") => `(tactic| first
  | with_reducible refine x_seq ?_ | with_reducible refine x_asg ?_ | with_reducible refine x_ret ?_ | with_reducible refine x_drop ?_
  | ((with_reducible apply x_var); exact rfl) | with_reducible refine x_c ?_ | with_reducible refine x_op ?_ | with_reducible refine x_opS ?_ | with_reducible refine x_un ?_ | with_reducible refine x_neg ?_
  | with_reducible refine x_test ?_ | with_reducible refine x_tB ?_ | with_reducible refine x_kB ?_
  | with_reducible refine x_nil ?_ | with_reducible refine x_cons ?_ | with_reducible refine x_tup ?_ | with_reducible refine x_lst ?_
  | ((with_reducible refine x_kTup ?_ ?_); (walk_at "sz"); (intro _ _ _ _ _)) | ((with_reducible refine x_kLst ?_ ?_); (walk_at "sz"); (intro _ _ _ _ _))
  | with_reducible refine x_fld ?_ | ((with_reducible apply x_fS); assumption; (walk_at "hp")) | ((with_reducible apply x_fC); assumption; (walk_at "hp"))
  | with_reducible refine x_cb ?_ | with_reducible refine x_call ?_ | with_reducible refine x_callE ?_ | with_reducible refine x_bm ?_ | with_reducible refine x_cv ?_
  | with_reducible refine x_meth ?_ | with_reducible refine x_cm ?_ | with_reducible refine x_kCM ?_ | with_reducible refine x_mk ?_ | with_reducible refine x_kMk ?_
  | with_reducible refine x_np ?_ | with_reducible refine x_part ?_ | with_reducible refine x_kPart ?_ | with_reducible refine x_sl ?_ | with_reducible refine x_rev ?_
  | with_reducible refine x_addI ?_ | ((with_reducible refine x_addS ?_ ?_); (walk_at "sz")) | with_reducible refine x_I0 ?_
  | with_reducible refine x_eqS ?_ | with_reducible refine x_eqI ?_ | with_reducible refine x_eqB ?_ | with_reducible refine x_neS ?_ | with_reducible refine x_neI ?_ | with_reducible refine x_neB ?_
  | with_reducible refine x_eqFS ?_ | with_reducible refine x_eqFI ?_
  | with_reducible refine x_ltI ?_ | with_reducible refine x_ltS ?_ | with_reducible refine x_leI ?_ | with_reducible refine x_leS ?_ | with_reducible refine x_inT ?_ | with_reducible refine x_notInT ?_
  | ((with_reducible refine x_slS ?_ ?_); (walk_at "sz")) | ((with_reducible refine x_kRev ?_ ?_); (walk_at "sz"))
  | ((with_reducible refine x_lenS ?_ ?_); (walk_at "sz")) | ((with_reducible apply x_lenT); (walk_at "hp"))
  | ((with_reducible apply x_ixT); (walk_at "hp"); exact rfl)
  | with_reducible refine x_abs ?_ | with_reducible refine x_int ?_ | with_reducible refine x_strS ?_
  | ((with_reducible apply x_isB); (first | exact kit_ty (r := true) (by decide +kernel) | exact kit_ty (r := false) (by decide +kernel))) | ((with_reducible apply x_isI); (first | exact kit_ty (r := true) (by decide +kernel) | exact kit_ty (r := false) (by decide +kernel))) | ((with_reducible apply x_isS); (first | exact kit_ty (r := true) (by decide +kernel) | exact kit_ty (r := false) (by decide +kernel)))
  | ((with_reducible apply x_isT); (walk_at "hp"); (first | exact kit_ty (r := true) (by decide +kernel) | exact kit_ty (r := false) (by decide +kernel)))
  | ((with_reducible apply x_isText); assumption; (walk_at "hp")) | ((with_reducible apply x_isTextS); assumption) | ((with_reducible apply x_isTextI); assumption) | ((with_reducible apply x_isTextN); assumption) | ((with_reducible apply x_kCVT); assumption)
  | ((with_reducible apply x_addL); (walk_at "hp"); (walk_at "hp"); (walk_at "sz"); (intro _ _ _ _ _)) | ((with_reducible apply x_tyL); (walk_at "hp")) | with_reducible refine x_tyS ?_
  | with_reducible refine x_joined ?_ | with_reducible refine x_js ?_ | with_reducible refine x_js0 ?_ | ((with_reducible refine x_kJs ?_ ?_); (walk_at "sz")) | with_reducible refine x_fmt ?_ | ((with_reducible refine x_fmtS ?_ ?_); (walk_at "sz")) | ((with_reducible refine x_fmtI ?_ ?_); omega)
  | with_reducible refine x_rse ?_ | with_reducible refine x_ex ?_ | with_reducible refine x_ex0 ?_ | with_reducible refine x_xf ?_
  | with_reducible refine x_for ?_ | with_reducible refine x_r1 ?_ | with_reducible refine x_r2 ?_ | with_reducible refine x_il ?_ | with_reducible refine x_en ?_ | with_reducible refine x_lc ?_ | with_reducible refine x_next ?_ | dsimp only)
local macro_rules | `(tactic| walk_at "xs") => `(tactic| repeat walk_at "x")
local macro_rules | `(tactic| walk_at "ev0") => `(tactic| (refine ev_run ?_; intro _ _ _ q; walk_at "xs"; refine q _ ?_; walk_at "le"))
local macro_rules | `(tactic| walk_at "ch") => `(tactic| (intro _ _ _ q; walk_at "xs"; refine q _ ?_; walk_at "le"))
local macro_rules | `(tactic| walk_at "ev") => `(tactic| first
  | (focus ((with_reducible refine ev_andV ?_ (fun _ => ?_)); (all_goals walk_at "ev"))) | (focus ((with_reducible refine ev_orV ?_ (fun _ => ?_)); (all_goals walk_at "ev")))
  | ((with_reducible refine ev_notV ?_); walk_at "ev")
  | (focus ((with_reducible apply ev_chain); (focus walk_at "ch"); (focus walk_at "ch"); (focus walk_at "ch"); (focus (intro _ _ _ q; walk_at "x"; exact q)); (focus (intro _ _ _ q; walk_at "x"; exact q))))
  | walk_at "ev0" | skip)
local macro_rules | `(tactic| walk_at "et") => `(tactic| first
  | (focus ((with_reducible refine et_and ?_ (fun _ => ?_)); (all_goals walk_at "et"))) | (focus ((with_reducible refine et_or ?_ (fun _ => ?_)); (all_goals walk_at "et")))
  | ((with_reducible refine et_not ?_); walk_at "et") | ((with_reducible refine et_B ?_); walk_at "ev") | ((with_reducible refine et_T ?_); walk_at "ev"))
theorem str_par1 : ("(" : Str) = ⟨#[40]⟩ := by decide +kernel
theorem str_par2 : (")" : Str) = ⟨#[41]⟩ := by decide +kernel
theorem ok_Text_read {P : Program} {w : World} {K : PySem.W.Frag} {mg : Str → Option Value} {base : Heap} {a : Ad} {f : Addr} {fd : FuncData} (F : FnP K "read" "Text.read" s_Text_read f fd) (T : Txt K mg a) (Ct_Text_1 : CtG P w K mg base 4 a.cText 1 [] (spCt_Text_1 a)) (Ct_Text_1_closed : CtG P w K mg base 4 a.cText 1 ["closed"] (spCt_Text_1_closed a)) :
    FnOk P w K mg base (L2.CX P w) 6 f fd ["cls", "written"] (sp_Text_read a) := by
  refine F.ok sc_Text_read (fun vs H Q E h => by obtain ⟨z, rfl, hz, hm⟩ := h; rfl) (fun cdv A outer s H vs Q E hr h => ?_)
  refine ⟨_, (pss_cons (ps_if (PW.pt (pw_and (pt_cmpR op_gt (pe_callB call_lenU (by rfl) T.f_len (by decide +kernel) (pa_cons (pv 1) pa_nil)) pe_int (nomark _)) (pw_and (pt_cmpR (op_eqU hr) (pe_ix ix_seq (pv 1) pe_int (fun _ _ => rfl)) pe_str (nomark _)) (pw_and1 (pt_cmpR (op_eqU hr) (pe_ix ix_seq (pv 1) (pe_un un_neg pe_int) (fun _ _ => rfl)) pe_str (nomark _)))))) (pss_one (ps_ret (pe_mkG Ct_Text_1_closed (hr.mono (by decide)) (passW (takes_of rfl rfl rfl rfl)) (pv 0) (pa_cons (pe_slice sl_U (pv 1) (po_some pe_int) (po_some (pe_un un_neg pe_int))) pa_nil) (pk_cons pe_bl pk_nil)))) pss_nil)
    (pss_one (ps_ret (pe_mkG Ct_Text_1 (hr.mono (by decide)) (passW (takes_of rfl rfl rfl rfl)) (pv 0) (pa_cons (pv 1) pa_nil) pk_nil)))), ?_⟩
  obtain ⟨z, rfl, hz, hm⟩ := h
  walk_at "xs"
  have hz2 : z.length ≤ 1000 := hz
  refine x_if (b := decide ((1 : Int) < z.length) && (decide ((⟨#[z.cps.getD 0 0]⟩ : Str) = "(") && decide ((⟨#[z.cps.getD (z.length - 1) 0]⟩ : Str) = ")"))) (et_and ?_ (fun h1 => et_and ?_ (fun h2 => ?_))) (fun hb H1 e1 => ?_) (fun hb H1 e1 => ?_)
  · walk_at "et"
  · have h1 := of_decide_eq_true h1
    refine et_T (ev_run fun H1 e1 Q1 q1 => ?_)
    walk_at "xs"
    refine x_ixN (by omega) (by omega) ?_
    walk_at "xs"
    exact q1 _ (Le.refl _)
  · have h1 := of_decide_eq_true h1
    refine et_T (ev_run fun H1 e1 Q1 q1 => ?_)
    walk_at "xs"
    refine x_ixZ (by omega) (by omega) ?_
    walk_at "xs"
    exact q1 _ (Le.refl _)
  · rw [str_par1, str_par2, one_eq, one_eq] at hb
    simp only [Bool.and_eq_true, decide_eq_true_eq] at hb
    walk_at "xs"
    refine ⟨_, true, ⟨rfl, rfl⟩, Nat.le_trans (cutS_length z _ _) hz, ?_⟩
    refine Meets.le e1 ?_
    have : aRead z = mk (cutS z (some 1) (some (-1))) true := if_pos ⟨by omega, hb.2.1, hb.2.2⟩
    rw [this] at hm
    exact hm
  · rw [str_par1, str_par2, one_eq, one_eq] at hb
    walk_at "xs"
    refine ⟨_, ⟨rfl, rfl⟩, hz, ?_⟩
    refine Meets.le e1 ?_
    have : aRead z = mk z false := if_neg fun q => by
      simp [q.2.1, q.2.2] at hb
      omega
    rw [this] at hm
    exact hm
theorem ok_Text___eq__ {P : Program} {w : World} {K : PySem.W.Frag} {mg : Str → Option Value} {base : Heap} {a : Ad} {f : Addr} {fd : FuncData} (F : FnP K "__eq__" "Text.__eq__" s_Text___eq__ f fd) (T : Txt K mg a)  :
    FnOk P w K mg base (L2.CX P w) 1 f fd ["self", "other"] (sp_Text___eq__ a) := by
  refine F.ok sc_Text___eq__ (fun vs H Q E h => by obtain ⟨p, z, c, y, r, rfl, ht, hy, q⟩ := h; rfl) (fun cdv A outer s H vs Q E hr h => ?_)
  refine ⟨_, (pss_one (ps_ret (pe_and (pe_callB call_isi (by rfl) T.f_isinstance (by decide +kernel) (pa_cons (pv 1) (pa_cons (pe_glob (v := .ref a.cText) rfl T.g_Text rfl) pa_nil))) (pe_and (pe_cmpR (op_eqU hr) (pe_fld (pv 0) rfl) (pe_fld (pv 1) rfl) (nomark _)) (pe_one (pe_cmpR (op_eqU hr) (pe_fld (pv 0) rfl) (pe_fld (pv 1) rfl) (nomark _))))))), ?_⟩
  obtain ⟨p, z, c, y, r, rfl, ht, hy, q⟩ := h
  walk_at "xs"
  rcases hy with ⟨p2, w, d, rfl, ht2, rfl⟩ | ⟨hy, rfl⟩
  · refine x_andV (b := decide (z = w) && (c == d)) (ev_is (ev_andV (b := true) ?_ (fun _ => ?_)) (Bool.true_and _)) q
    · walk_at "ev"
    · walk_at "ev"
  · refine x_andV (b := false) (ev_is (ev_andV (b := false) (c := true) ?_ (fun z => nomatch z)) rfl) q
    rcases hy with rfl | ⟨i, rfl⟩ | ⟨w, rfl⟩
    · walk_at "ev"
    · walk_at "ev"
    · walk_at "ev"
theorem ok_Text___add__ {P : Program} {w : World} {K : PySem.W.Frag} {mg : Str → Option Value} {base : Heap} {a : Ad} {f : Addr} {fd : FuncData} (F : FnP K "__add__" "Text.__add__" s_Text___add__ f fd) (T : Txt K mg a) (Ct_Text_1 : CtG P w K mg base 4 a.cText 1 [] (spCt_Text_1 a)) :
    FnOk P w K mg base (L2.CX P w) 6 f fd ["self", "other"] (sp_Text___add__ a) := by
  refine F.ok sc_Text___add__ (fun vs H Q E h => by obtain ⟨p, z, c, p2, w, d, rfl, hz, ht, ht2, hm⟩ := h; rfl) (fun cdv A outer s H vs Q E hr h => ?_)
  refine ⟨_, (pss_cons (ps_if (PW.pt (pw_or (pt_val (pe_fld (pv 0) rfl)) (pw_or1 (pt_val (pe_fld (pv 1) rfl))))) (pss_one (ps_rse rfl (takes_of rfl rfl rfl rfl) (pmk_ex0 T.x0_ClosedText rfl))) pss_nil)
    (pss_one (ps_ret (pe_mkG Ct_Text_1 (hr.mono (by decide)) (passW (takes_of rfl rfl rfl rfl)) (pe_glob (v := .ref a.cText) rfl T.g_Text rfl) (pa_cons (pe_op op_addU (pe_fld (pv 0) rfl) (pe_fld (pv 1) rfl)) pa_nil) pk_nil)))), ?_⟩
  obtain ⟨p, z, c, p2, w, d, rfl, hz, ht, ht2, hm⟩ := h
  walk_at "xs"
  have hz1 := hz.1
  have hz2 := hz.2
  refine x_if (b := c || d) (by walk_at "et") (fun hb H1 e1 => ?_) (fun hb H1 e1 => ?_)
  · walk_at "xs"
    exact hm.2 .closed 0 (if_pos (by simpa using hb)) _ _ _ e1 ⟨rfl, rfl⟩
  · walk_at "xs"
    refine ⟨_, ⟨rfl, rfl⟩, by show (z ++ w).length ≤ 1000; rw [slen_app]; omega, Meets.le e1 ?_⟩
    have : aSum z c w d = mk (z ++ w) false := if_neg (by simpa using hb)
    rw [this] at hm
    exact hm
theorem ok_Text___rshift__ {P : Program} {w : World} {K : PySem.W.Frag} {mg : Str → Option Value} {base : Heap} {a : Ad} {f : Addr} {fd : FuncData} (F : FnP K "__rshift__" "Text.__rshift__" s_Text___rshift__ f fd) (T : Txt K mg a) (Ct_Text_1_closed : CtG P w K mg base 4 a.cText 1 ["closed"] (spCt_Text_1_closed a)) :
    FnOk P w K mg base (L2.CX P w) 6 f fd ["self", "by"] (sp_Text___rshift__ a) := by
  refine F.ok sc_Text___rshift__ (fun vs H Q E h => by obtain ⟨p, z, c, i, rfl, hg, ht, hm⟩ := h; rfl) (fun cdv A outer s H vs Q E hr h => ?_)
  refine ⟨_, (pss_cons (ps_if (pt_not (pt_val (pe_fld (pv 0) rfl))) (pss_one (ps_rse rfl (takes_of rfl rfl rfl rfl) (pmk_ex0 T.x0_OpenText rfl))) pss_nil)
    (pss_cons (ps_set (i := 2) sc_Text___rshift__.nd rfl (Or.inl rfl) (pe_op op_modN (pv 1) (pe_callB call_lenU (by rfl) T.f_len (by decide +kernel) (pa_cons (pe_fld (pv 0) rfl) pa_nil))))
    (pss_one (ps_ret (pe_mkG Ct_Text_1_closed (hr.mono (by decide)) (passW (takes_of rfl rfl rfl rfl)) (pe_glob (v := .ref a.cText) rfl T.g_Text rfl) (pa_cons (pe_op op_addU (pe_slice sl_U (pe_fld (pv 0) rfl) (po_some (pv 2)) po_none) (pe_slice sl_U (pe_fld (pv 0) rfl) po_none (po_some (pv 2)))) pa_nil) (pk_cons pe_bl pk_nil)))))), ?_⟩
  obtain ⟨p, z, c, i, rfl, hg, ht, hm⟩ := h
  walk_at "xs"
  have hz2 : z.length ≤ 120 := hg.2.1
  refine x_if (b := !c) (by walk_at "et") (fun hb H1 e1 => ?_) (fun hb H1 e1 => ?_)
  · walk_at "xs"
    exact hm.2 .opn 0 (if_pos (by simpa using hb)) _ _ _ e1 ⟨rfl, rfl⟩
  · have hc : c = true := by simpa using hb
    have hne : z.length ≠ 0 := fun q => hg.2.2 hc (empty_iff.mpr q)
    walk_at "xs"
    refine x_I (by show ((z.length : Nat) : Int) ≠ 0; omega) ?_
    have l1 := cutS_length z (some (i.fmod z.length)) none
    have l2 := cutS_length z none (some (i.fmod z.length))
    walk_at "xs"
    refine ⟨_, true, ⟨rfl, rfl⟩, by show (cutS z _ _ ++ cutS z _ _).length ≤ 1000; rw [slen_app]; omega, Meets.le e1 ?_⟩
    have : aTurn z c i = .txt (rot z (i.fmod z.length)) true := if_neg (by rw [hc]; decide)
    rw [this] at hm
    rw [show cutS z (some (i.fmod z.length)) none ++ cutS z none (some (i.fmod z.length)) = rot z (i.fmod z.length) from rfl, (hg.rot (fun _ => hg.2.2 hc)).mk]
    exact hm
theorem ok_Text_same_loop {P : Program} {w : World} {K : PySem.W.Frag} {mg : Str → Option Value} {base : Heap} {a : Ad} {f : Addr} {fd : FuncData} (F : FnP K "same_loop" "Text.same_loop" s_Text_same_loop f fd) (T : Txt K mg a)  :
    FnOk P w K mg base (L2.CX P w) 1 f fd ["self", "other"] (sp_Text_same_loop a) := by
  refine F.ok sc_Text_same_loop (fun vs H Q E h => by obtain ⟨p, z, c, p2, w, d, rfl, hz, hw, ht, ht2, q⟩ := h; rfl) (fun cdv A outer s H vs Q E hr h => ?_)
  refine ⟨_, (pss_cons (ps_if (PW.pt (pw_or (pt_not (pt_val (pe_fld (pv 0) rfl))) (pw_or (pt_not (pt_val (pe_fld (pv 1) rfl))) (pw_or1 (pt_cmpR (op_neU hr) (pe_callB call_lenU (by rfl) T.f_len (by decide +kernel) (pa_cons (pe_fld (pv 0) rfl) pa_nil)) (pe_callB call_lenU (by rfl) T.f_len (by decide +kernel) (pa_cons (pe_fld (pv 1) rfl) pa_nil)) (nomark _)))))) (pss_one (ps_ret pe_bl)) pss_nil)
    (pss_one (ps_ret (pe_cmpR op_inT (pe_fld (pv 1) rfl) (pe_op op_mulU (pe_fld (pv 0) rfl) pe_int) (by rfl))))), ?_⟩
  obtain ⟨p, z, c, p2, w, d, rfl, hz, hw, ht, ht2, q⟩ := h
  walk_at "xs"
  have hz2 : z.length ≤ 1000 := hz
  have hw2 : w.length ≤ 1000 := hw
  refine x_if (b := !c || (!d || !decide ((z.length : Int) = w.length))) (by walk_at "et") (fun hb H1 e1 => ?_) (fun hb H1 e1 => ?_)
  · walk_at "xs"
    have := q H1 e1
    have e2 : isLoop z c w d = false := by
      unfold isLoop
      have e3 : decide ((z.length : Int) = w.length) = decide (z.length = w.length) := decide_eq_decide.mpr (by omega)
      rw [e3] at hb
      cases c <;> cases d <;> simp_all
    rw [e2] at this
    exact this
  · walk_at "xs"
    refine x_mulS (by decide) (by decide) (by omega) ?_
    walk_at "xs"
    have := q H1 e1
    have e2 : isLoop z c w d = isIn w (repS z 2) := by
      unfold isLoop
      have e3 : decide ((z.length : Int) = w.length) = decide (z.length = w.length) := decide_eq_decide.mpr (by omega)
      rw [e3] at hb
      cases c <;> cases d <;> simp_all
    rw [e2] at this
    exact this
theorem ok_Text_mirrored {P : Program} {w : World} {K : PySem.W.Frag} {mg : Str → Option Value} {base : Heap} {a : Ad} {f : Addr} {fd : FuncData} (F : FnP K "mirrored" "Text.mirrored" s_Text_mirrored f fd) (T : Txt K mg a) (Ct_Text_1_closed : CtG P w K mg base 4 a.cText 1 ["closed"] (spCt_Text_1_closed a)) :
    FnOk P w K mg base (L2.CX P w) 6 f fd ["self"] (sp_Text_mirrored a) := by
  refine F.ok sc_Text_mirrored (fun vs H Q E h => by obtain ⟨p, z, c, rfl, hg, ht, q⟩ := h; rfl) (fun cdv A outer s H vs Q E hr h => ?_)
  refine ⟨_, (pss_one (ps_ret (pe_mkG Ct_Text_1_closed (hr.mono (by decide)) (passW (takes_of rfl rfl rfl rfl)) (pe_glob (v := .ref a.cText) rfl T.g_Text rfl) (pa_cons (pe_revS (pe_fld (pv 0) rfl)) pa_nil) (pk_cons (pe_fld (pv 0) rfl) pk_nil)))), ?_⟩
  obtain ⟨p, z, c, rfl, hg, ht, q⟩ := h
  walk_at "xs"
  have hz2 : z.length ≤ 120 := hg.2.1
  walk_at "xs"
  refine ⟨_, c, ⟨rfl, rfl⟩, by show (revS z).length ≤ 1000; rw [rev_len]; omega, meets_good hg.rev q⟩
theorem ok_Text_halves {P : Program} {w : World} {K : PySem.W.Frag} {mg : Str → Option Value} {base : Heap} {a : Ad} {f : Addr} {fd : FuncData} (F : FnP K "halves" "Text.halves" s_Text_halves f fd) (T : Txt K mg a) (Ct_Text_1 : CtG P w K mg base 4 a.cText 1 [] (spCt_Text_1 a)) (X_NoPlace : ExG P w K mg base 1 "NoPlace" a.cNoPlace "at") :
    FnOk P w K mg base (L2.CX P w) 6 f fd ["self", "at"] (sp_Text_halves a) := by
  refine F.ok sc_Text_halves (fun vs H Q E h => by obtain ⟨p, z, c, i, rfl, hg, ht, hi, hm⟩ := h; rfl) (fun cdv A outer s H vs Q E hr h => ?_)
  refine ⟨_, (pss_cons (ps_if (pt_val (pe_fld (pv 0) rfl)) (pss_one (ps_rse rfl (takes_of rfl rfl rfl rfl) (pmk_ex0 T.x0_ClosedText rfl))) pss_nil)
    (pss_cons (ps_if (pt_not (pt_chain op_leU op_leU pe_int (pv 1) (pe_callB call_lenU (by rfl) T.f_len (by decide +kernel) (pa_cons (pe_fld (pv 0) rfl) pa_nil)))) (pss_one (ps_rse rfl (takes_of rfl rfl rfl rfl) (pmk_exG X_NoPlace (hr.mono (by decide)) rfl (pa_cons (pv 1) pa_nil)))) pss_nil)
    (pss_one (ps_ret (pe_tup (pa_cons (pe_mkG Ct_Text_1 (hr.mono (by decide)) (passW (takes_of rfl rfl rfl rfl)) (pe_glob (v := .ref a.cText) rfl T.g_Text rfl) (pa_cons (pe_slice sl_U (pe_fld (pv 0) rfl) po_none (po_some (pv 1))) pa_nil) pk_nil) (pa_cons (pe_mkG Ct_Text_1 (hr.mono (by decide)) (passW (takes_of rfl rfl rfl rfl)) (pe_glob (v := .ref a.cText) rfl T.g_Text rfl) (pa_cons (pe_slice sl_U (pe_fld (pv 0) rfl) (po_some (pv 1)) po_none) pa_nil) pk_nil) pa_nil))))))), ?_⟩
  obtain ⟨p, z, c, i, rfl, hg, ht, hi, hm⟩ := h
  walk_at "xs"
  have hz2 : z.length ≤ 120 := hg.2.1
  refine x_if (b := c) (by walk_at "et") (fun hb H1 e1 => ?_) (fun hb H1 e1 => ?_)
  · walk_at "xs"
    exact hm.2 .closed 0 (if_pos hb) _ _ _ e1 ⟨rfl, rfl⟩
  · walk_at "xs"
    refine x_if (b := !(decide (0 ≤ i) && decide (i ≤ z.length))) (by walk_at "et") (fun hb2 H2 e2 => ?_) (fun hb2 H2 e2 => ?_)
    · walk_at "xs"
      refine x_kEx hi fun d H4 e4 hd => ?_
      refine hm.2 .place i ?_ _ _ _ ((e1.trans e2).trans e4) ⟨rfl, d, rfl, hd⟩
      unfold aHalves
      rw [if_neg (by rw [hb]; decide)]
      exact if_neg fun q => by simp [q.1, q.2] at hb2
    · simp only [Bool.not_eq_false', Bool.and_eq_true, decide_eq_true_eq] at hb2
      have l1 := cutS_length z (some i) none
      have l2 := cutS_length z none (some i)
      walk_at "xs"
      refine ⟨_, ⟨rfl, rfl⟩, by show (cutS z _ _).length ≤ 1000; omega, meets_good hg.cut fun x H3 e3 hx => ?_⟩
      walk_at "xs"
      refine ⟨_, ⟨rfl, rfl⟩, by show (cutS z _ _).length ≤ 1000; omega, meets_good hg.cut fun y H4 e4 hy => ?_⟩
      walk_at "xs"
      rename_i p5 H5 e5n e5 hp5
      refine hm.1 _ _ (by walk_at "le") ?_
      have : aHalves z c i = .two (cutS z none (some i)) (cutS z (some i) none) := by
        unfold aHalves
        rw [if_neg (by rw [hb]; decide)]
        exact if_pos hb2
      rw [this]
      exact ⟨p5, x, y, rfl, hp5, by walk_at "hp", by walk_at "hp"⟩
theorem ok_Text_cut_at {P : Program} {w : World} {K : PySem.W.Frag} {mg : Str → Option Value} {base : Heap} {a : Ad} {f : Addr} {fd : FuncData} (F : FnP K "cut_at" "Text.cut_at" s_Text_cut_at f fd) (T : Txt K mg a) (Ct_Text_1 : CtG P w K mg base 4 a.cText 1 [] (spCt_Text_1 a)) (X_NoPlace : ExG P w K mg base 1 "NoPlace" a.cNoPlace "at") :
    FnOk P w K mg base (L2.CX P w) 6 f fd ["self", "at"] (sp_Text_cut_at a) := by
  refine F.ok sc_Text_cut_at (fun vs H Q E h => by obtain ⟨p, z, c, i, rfl, hg, ht, hi, hm⟩ := h; rfl) (fun cdv A outer s H vs Q E hr h => ?_)
  refine ⟨_, (pss_cons (ps_if (pt_not (pt_val (pe_fld (pv 0) rfl))) (pss_one (ps_rse rfl (takes_of rfl rfl rfl rfl) (pmk_ex0 T.x0_OpenText rfl))) pss_nil)
    (pss_cons (ps_if (pt_not (pt_chain op_leU op_ltU pe_int (pv 1) (pe_callB call_lenU (by rfl) T.f_len (by decide +kernel) (pa_cons (pe_fld (pv 0) rfl) pa_nil)))) (pss_one (ps_rse rfl (takes_of rfl rfl rfl rfl) (pmk_exG X_NoPlace (hr.mono (by decide)) rfl (pa_cons (pv 1) pa_nil)))) pss_nil)
    (pss_one (ps_ret (pe_mkG Ct_Text_1 (hr.mono (by decide)) (passW (takes_of rfl rfl rfl rfl)) (pe_glob (v := .ref a.cText) rfl T.g_Text rfl) (pa_cons (pe_op op_addU (pe_slice sl_U (pe_fld (pv 0) rfl) (po_some (pv 1)) po_none) (pe_slice sl_U (pe_fld (pv 0) rfl) po_none (po_some (pv 1)))) pa_nil) pk_nil))))), ?_⟩
  obtain ⟨p, z, c, i, rfl, hg, ht, hi, hm⟩ := h
  walk_at "xs"
  have hz2 : z.length ≤ 120 := hg.2.1
  refine x_if (b := !c) (by walk_at "et") (fun hb H1 e1 => ?_) (fun hb H1 e1 => ?_)
  · walk_at "xs"
    exact hm.2 .opn 0 (if_pos (by simpa using hb)) _ _ _ e1 ⟨rfl, rfl⟩
  · have hc : c = true := by simpa using hb
    walk_at "xs"
    refine x_if (b := !(decide (0 ≤ i) && decide (i < z.length))) (by walk_at "et") (fun hb2 H2 e2 => ?_) (fun hb2 H2 e2 => ?_)
    · walk_at "xs"
      refine x_kEx hi fun d H4 e4 hd => ?_
      refine hm.2 .place i ?_ _ _ _ ((e1.trans e2).trans e4) ⟨rfl, d, rfl, hd⟩
      unfold aCut
      rw [if_neg (by rw [hc]; decide)]
      exact if_neg fun q => by simp [q.1, q.2] at hb2
    · simp only [Bool.not_eq_false', Bool.and_eq_true, decide_eq_true_eq] at hb2
      have l1 := cutS_length z (some i) none
      have l2 := cutS_length z none (some i)
      walk_at "xs"
      refine ⟨_, ⟨rfl, rfl⟩, by show (cutS z _ _ ++ cutS z _ _).length ≤ 1000; rw [slen_app]; omega, Meets.le (e1.trans e2) ?_⟩
      have : aCut z c i = .txt (rot z i) false := by
        unfold aCut
        rw [if_neg (by rw [hc]; decide)]
        exact if_pos hb2
      rw [this] at hm
      rw [show cutS z (some i) none ++ cutS z none (some i) = rot z i from rfl, (hg.rot (d := false) (fun q => nomatch q)).mk]
      exact hm
theorem minS_snoc (z : Str) (l : List Str) (x : Str) : minS (z :: (l ++ [x])) = if x.cps.toList < (minS (z :: l)).cps.toList then x else minS (z :: l) := by
  show (l ++ [x]).foldl _ z = _
  rw [List.foldl_append]
  rfl
theorem lturn_none {z : Str} (h : bad z = none) : lturn z = .val (.str (minS (z :: (List.range (z.length - 1)).map fun (k : Nat) => rot z ((1 : Int) + (k : Int))))) := by unfold lturn; rw [h]
theorem minS_len {z : Str} {l : List Str} {n : Nat} (h0 : z.length = n) (h : ∀ x ∈ l, x.length = n) : (minS (z :: l)).length = n := by
  show (l.foldl _ z).length = n
  induction l generalizing z with
  | nil => exact h0
  | cons x r ih =>
    rw [List.foldl_cons]
    refine ih ?_ fun y hy => h y (List.mem_cons_of_mem _ hy)
    by_cases q : x.cps.toList < z.cps.toList
    · rw [if_pos q]; exact h x List.mem_cons_self
    · rw [if_neg q]; exact h0
theorem ok_least_turn {P : Program} {w : World} {K : PySem.W.Frag} {mg : Str → Option Value} {base : Heap} {a : Ad} {f : Addr} {fd : FuncData} (F : FnP K "least_turn" "least_turn" s_least_turn f fd) (T : Txt K mg a) (G__check_signs : FnG P w K mg base 3 "_check_signs" (sp__check_signs a)) :
    FnOk P w K mg base (L2.CX P w) 4 f fd ["signs"] (sp_least_turn a) := by
  refine F.ok sc_least_turn (fun vs H Q E h => by obtain ⟨z, rfl, hz, hm⟩ := h; rfl) (fun cdv A outer s H vs Q E hr h => ?_)
  refine ⟨_, (pss_cons (ps_expr (pe_callG G__check_signs (hr.mono (by decide)) (passW (takes_of rfl rfl rfl rfl)) rfl (pa_cons (pv 0) pa_nil)))
    (pss_cons (ps_set (i := 1) sc_least_turn.nd rfl (Or.inl rfl) (pv 0))
    (pss_cons (ps_for (by first | exact po | exact PassesOwn.never | exact passes_of rfl) rfl (pi_range2 (by rfl) T.f_range (pa_cons pe_int (pa_cons (pe_callB call_lenU (by rfl) T.f_len (by decide +kernel) (pa_cons (pv 0) pa_nil)) pa_nil))) (pg_name (i := 2) sc_least_turn.nd rfl (Or.inl rfl)) (pss_cons (ps_set (i := 3) sc_least_turn.nd rfl (Or.inl rfl) (pe_op op_addU (pe_slice sl_U (pv 0) (po_some (pv 2)) po_none) (pe_slice sl_U (pv 0) po_none (po_some (pv 2)))))
    (pss_one (ps_if (pt_cmpR op_ltU (pv 3) (pv 1) (nomark _)) (pss_one (ps_set (i := 1) sc_least_turn.nd rfl (Or.inl rfl) (pv 3))) pss_nil))))
    (pss_one (ps_ret (pv 1)))))), ?_⟩
  obtain ⟨z, rfl, hz, hm⟩ := h
  walk_at "xs"
  have hz2 : z.length ≤ 1000 := hz
  refine ⟨z, rfl, hz, fun v H1 e1 ht => ?_, fun k i hk cls d H1 e1 hX => ?_⟩
  case refine_2 =>
    refine hm.2 k i ?_ cls d H1 e1 hX
    unfold chk at hk
    unfold lturn
    cases hb : bad z with
    | some j => rw [hb] at hk; exact hk
    | none => rw [hb] at hk; cases hk
  have hb : bad z = none := by
    cases hb : bad z with
    | none => rfl
    | some i => rw [chk_some hb] at ht; exact ht.elim
  walk_at "xs"
  refine x_for2 (by omega) (fun i σ' H' => (∃ v1 v2, σ' = [some (V.str z), some (V.str (minS (z :: (List.range i).map fun (k : Nat) => rot z ((1 : Int) + (k : Int))))), v1, v2]) ∧ Le H H') ⟨⟨_, _, rfl⟩, e1⟩ ?_ ?_
  · rintro i σ' H2 hi ⟨⟨v1, v2, rfl⟩, e2⟩
    have l1 := cutS_length z (some (1 + (i : Int))) none
    have l2 := cutS_length z none (some (1 + (i : Int)))
    walk_at "xs"
    refine x_if (b := decide ((rot z (1 + (i : Int))).cps.toList < (minS (z :: (List.range i).map fun (k : Nat) => rot z ((1 : Int) + (k : Int)))).cps.toList)) (by walk_at "et") (fun hb H3 e3 => ?_) (fun hb H3 e3 => ?_)
    · walk_at "xs"
      refine ⟨⟨some (V.int (1 + (i : Int))), some (V.str (rot z (1 + (i : Int)))), ?_⟩, e2.trans e3⟩
      rw [List.range_succ, List.map_append]
      rw [show List.map (fun (k : Nat) => rot z ((1 : Int) + (k : Int))) [i] = [rot z (1 + (i : Int))] from rfl, minS_snoc, if_pos (of_decide_eq_true hb)]
      rfl
    · walk_at "xs"
      refine ⟨⟨some (V.int (1 + (i : Int))), some (V.str (rot z (1 + (i : Int)))), ?_⟩, e2.trans e3⟩
      rw [List.range_succ, List.map_append]
      rw [show List.map (fun (k : Nat) => rot z ((1 : Int) + (k : Int))) [i] = [rot z (1 + (i : Int))] from rfl, minS_snoc, if_neg (of_decide_eq_false hb)]
      rfl
  · rintro σ' H2 ⟨⟨v1, v2, rfl⟩, e2⟩
    walk_at "xs"
    refine hm.1 _ _ e2 ?_
    rw [lturn_none hb]
    have : ((z.length : Int) - 1).toNat = z.length - 1 := by omega
    rw [this]
    rfl
end K2
set_option maxHeartbeats 4000000
/-! K2E: the exceptions' __init__; the law's small defs -/
namespace K2
open PySem PySem.Spec PyProof.Rows L2 MC
local macro_rules | `(tactic| walk_at "hp") => `(tactic| first | assumption | (apply Le.keep; assumption; walk_at "hp") | (apply TextAt.le; assumption; walk_at "hp") | (apply Lw.keep; assumption; walk_at "hp"; first | rfl | exact sh_str _ | exact sh_ints _ | exact sh_sgns _) | (apply TextAt.lw; assumption; walk_at "hp"))
local macro_rules | `(tactic| walk_at "le") => `(tactic| first | exact Le.refl _ | assumption | (apply Le.trans'; assumption; walk_at "le"))
local macro_rules | `(tactic| walk_at "lw") => `(tactic| first | exact Lw.refl _ | assumption | exact Le.w (by assumption) | (apply Lw.trans'; (first | assumption | exact Le.w (by assumption)); walk_at "lw"))
local macro_rules | `(tactic| walk_at "sz") => `(tactic| first | omega | (simp only [slen_app]; omega) | (simp only [List.length_cons, List.length_nil, List.length_map, List.length_range]; omega) | omega | (simp; omega) | decide)
local macro_rules | `(tactic| walk_at "x") => `(tactic| first
  | with_reducible refine x_seq ?_ | with_reducible refine x_asg ?_ | with_reducible refine x_ret ?_ | with_reducible refine x_drop ?_
  | ((with_reducible apply x_var); exact rfl) | with_reducible refine x_c ?_ | with_reducible refine x_op ?_ | with_reducible refine x_opS ?_ | with_reducible refine x_un ?_ | with_reducible refine x_neg ?_
  | with_reducible refine x_test ?_ | with_reducible refine x_tB ?_ | with_reducible refine x_kB ?_
  | with_reducible refine x_nil ?_ | with_reducible refine x_cons ?_ | with_reducible refine x_tup ?_ | with_reducible refine x_lst ?_
  | ((with_reducible refine x_kTup ?_ ?_); (walk_at "sz"); (intro _ _ _ _ _)) | ((with_reducible refine x_kLst ?_ ?_); (walk_at "sz"); (intro _ _ _ _ _))
  | with_reducible refine x_fld ?_ | ((with_reducible apply x_fS); assumption; (walk_at "hp")) | ((with_reducible apply x_fC); assumption; (walk_at "hp"))
  | with_reducible refine x_cb ?_ | with_reducible refine x_call ?_ | with_reducible refine x_callE ?_ | with_reducible refine x_bm ?_ | with_reducible refine x_cv ?_
  | with_reducible refine x_meth ?_ | with_reducible refine x_cm ?_ | with_reducible refine x_kCM ?_ | with_reducible refine x_mk ?_ | with_reducible refine x_kMk ?_
  | with_reducible refine x_np ?_ | with_reducible refine x_part ?_ | with_reducible refine x_kPart ?_ | with_reducible refine x_sl ?_ | with_reducible refine x_rev ?_
  | with_reducible refine x_addI ?_ | ((with_reducible refine x_addS ?_ ?_); (walk_at "sz")) | with_reducible refine x_I0 ?_
  | with_reducible refine x_eqS ?_ | with_reducible refine x_eqI ?_ | with_reducible refine x_eqB ?_ | with_reducible refine x_neS ?_ | with_reducible refine x_neI ?_ | with_reducible refine x_neB ?_
  | with_reducible refine x_eqFS ?_ | with_reducible refine x_eqFI ?_
  | with_reducible refine x_ltI ?_ | with_reducible refine x_ltS ?_ | with_reducible refine x_leI ?_ | with_reducible refine x_leS ?_ | with_reducible refine x_inT ?_ | with_reducible refine x_notInT ?_
  | ((with_reducible refine x_slS ?_ ?_); (walk_at "sz")) | ((with_reducible refine x_kRev ?_ ?_); (walk_at "sz"))
  | ((with_reducible refine x_lenS ?_ ?_); (walk_at "sz")) | ((with_reducible apply x_lenT); (walk_at "hp"))
  | ((with_reducible apply x_ixT); (walk_at "hp"); exact rfl)
  | with_reducible refine x_abs ?_ | with_reducible refine x_int ?_ | with_reducible refine x_strS ?_
  | ((with_reducible apply x_isB); (first | exact kit_ty (r := true) (by decide +kernel) | exact kit_ty (r := false) (by decide +kernel))) | ((with_reducible apply x_isI); (first | exact kit_ty (r := true) (by decide +kernel) | exact kit_ty (r := false) (by decide +kernel))) | ((with_reducible apply x_isS); (first | exact kit_ty (r := true) (by decide +kernel) | exact kit_ty (r := false) (by decide +kernel)))
  | ((with_reducible apply x_isT); (walk_at "hp"); (first | exact kit_ty (r := true) (by decide +kernel) | exact kit_ty (r := false) (by decide +kernel)))
  | ((with_reducible apply x_isText); assumption; (walk_at "hp")) | ((with_reducible apply x_isTextS); assumption) | ((with_reducible apply x_isTextI); assumption) | ((with_reducible apply x_isTextN); assumption) | ((with_reducible apply x_kCVT); assumption)
  | ((with_reducible apply x_addL); (walk_at "hp"); (walk_at "hp"); (walk_at "sz"); (intro _ _ _ _ _)) | ((with_reducible apply x_tyL); (walk_at "hp")) | with_reducible refine x_tyS ?_
  | with_reducible refine x_joined ?_ | with_reducible refine x_js ?_ | with_reducible refine x_js0 ?_ | ((with_reducible refine x_kJs ?_ ?_); (walk_at "sz")) | with_reducible refine x_fmt ?_ | ((with_reducible refine x_fmtS ?_ ?_); (walk_at "sz")) | ((with_reducible refine x_fmtI ?_ ?_); omega)
  | with_reducible refine x_rse ?_ | with_reducible refine x_ex ?_ | with_reducible refine x_ex0 ?_ | with_reducible refine x_xf ?_
  | with_reducible refine x_for ?_ | with_reducible refine x_r1 ?_ | with_reducible refine x_r2 ?_ | with_reducible refine x_il ?_ | with_reducible refine x_en ?_ | with_reducible refine x_lc ?_ | with_reducible refine x_next ?_ | dsimp only)
local macro_rules | `(tactic| walk_at "xs") => `(tactic| repeat walk_at "x")
local macro_rules | `(tactic| walk_at "ev0") => `(tactic| (refine ev_run ?_; intro _ _ _ q; walk_at "xs"; refine q _ ?_; walk_at "le"))
local macro_rules | `(tactic| walk_at "ch") => `(tactic| (intro _ _ _ q; walk_at "xs"; refine q _ ?_; walk_at "le"))
local macro_rules | `(tactic| walk_at "ev") => `(tactic| first
  | (focus ((with_reducible refine ev_andV ?_ (fun _ => ?_)); (all_goals walk_at "ev"))) | (focus ((with_reducible refine ev_orV ?_ (fun _ => ?_)); (all_goals walk_at "ev")))
  | ((with_reducible refine ev_notV ?_); walk_at "ev")
  | (focus ((with_reducible apply ev_chain); (focus walk_at "ch"); (focus walk_at "ch"); (focus walk_at "ch"); (focus (intro _ _ _ q; walk_at "x"; exact q)); (focus (intro _ _ _ q; walk_at "x"; exact q))))
  | walk_at "ev0" | skip)
local macro_rules | `(tactic| walk_at "et") => `(tactic| first
  | (focus ((with_reducible refine et_and ?_ (fun _ => ?_)); (all_goals walk_at "et"))) | (focus ((with_reducible refine et_or ?_ (fun _ => ?_)); (all_goals walk_at "et")))
  | ((with_reducible refine et_not ?_); walk_at "et") | ((with_reducible refine et_B ?_); walk_at "ev") | ((with_reducible refine et_T ?_); walk_at "ev"))
theorem int_len {i : Int} (hi : i.natAbs.log2 < 1000) : ((toString i : String) : Str).length ≤ 1001 := by
  have e := int_text_length_le (k := 1000) (by decide) hi
  rw [PySem.ofString_length]; exact e
section
variable {P : Program} {w : World} {K : PySem.W.Frag} {mg : Str → Option Value} {base : Heap} {a : Ad} {f cc : Addr} {fd : FuncData}
theorem ini_BadSign {C : Addr} (F : SupF P K "__init__" "BadSign.__init__" (defArgs s_BadSign___init__) (defBody s_BadSign___init__) (defScope s_BadSign___init__) f fd C cc) (T : SupC P K mg C) (no : PySem.W.findIn K (.ref C) "at" = some none) :
    FnOk P w K mg base (L2.CX P w) 1 f fd ["self", "at"] (sp_exi C "at") := by
  refine fn_sup (N := ["self", "at"]) F ⟨rfl, rfl, rfl, by decide +kernel, rfl, by decide +kernel, by decide +kernel, by decide +kernel, rfl, rfl⟩ rfl rfl (by decide) T (fun vs H Q E h => by obtain ⟨e, i, rfl, _⟩ := h; rfl) (fun cd A outer s H vs Q E hr h => ?_)
  obtain ⟨e, i, rfl, hi, he, q⟩ := h
  have hl := int_len hi
  have l1 : ("the character at index " : Str).length = 23 := by decide +kernel
  have l2 : (" is not a sign" : Str).length = 14 := by decide +kernel
  have l3 : Str.empty.length = 0 := by decide +kernel
  have hi2 : i.natAbs.log2 < 1920 := by omega
  refine ⟨_, _, e, pa_cons (pe_joinedU (.cons pe_str (.cons (pe_fmt (pv 1)) (.cons pe_str .nil)))) pa_nil, pss_one (ps_ost (pv 0) (pv 1)), rfl, he, ?_⟩
  walk_at "xs"
  refine ⟨by show 1 ≤ 1000; decide, he, ?_⟩
  refine x_ost ?_
  walk_at "xs"
  exact ⟨e, C, rfl, T.oex, no, Or.inl ⟨he, fun dx hdx hne => q dx hdx hne⟩⟩
theorem ini_BadText {C : Addr} (F : SupF P K "__init__" "BadText.__init__" (defArgs s_BadText___init__) (defBody s_BadText___init__) (defScope s_BadText___init__) f fd C cc) (T : SupC P K mg C) (no : PySem.W.findIn K (.ref C) "size" = some none) :
    FnOk P w K mg base (L2.CX P w) 1 f fd ["self", "size"] (sp_exi C "size") := by
  refine fn_sup (N := ["self", "size"]) F ⟨rfl, rfl, rfl, by decide +kernel, rfl, by decide +kernel, by decide +kernel, by decide +kernel, rfl, rfl⟩ rfl rfl (by decide) T (fun vs H Q E h => by obtain ⟨e, i, rfl, _⟩ := h; rfl) (fun cd A outer s H vs Q E hr h => ?_)
  obtain ⟨e, i, rfl, hi, he, q⟩ := h
  have hl := int_len hi
  have l1 : ("a text cannot have " : Str).length = 19 := by decide +kernel
  have l2 : (" signs" : Str).length = 6 := by decide +kernel
  have l3 : Str.empty.length = 0 := by decide +kernel
  have hi2 : i.natAbs.log2 < 1920 := by omega
  refine ⟨_, _, e, pa_cons (pe_joinedU (.cons pe_str (.cons (pe_fmt (pv 1)) (.cons pe_str .nil)))) pa_nil, pss_one (ps_ost (pv 0) (pv 1)), rfl, he, ?_⟩
  walk_at "xs"
  refine ⟨by show 1 ≤ 1000; decide, he, ?_⟩
  refine x_ost ?_
  walk_at "xs"
  exact ⟨e, C, rfl, T.oex, no, Or.inl ⟨he, fun dx hdx hne => q dx hdx hne⟩⟩
theorem ini_NoPlace {C : Addr} (F : SupF P K "__init__" "NoPlace.__init__" (defArgs s_NoPlace___init__) (defBody s_NoPlace___init__) (defScope s_NoPlace___init__) f fd C cc) (T : SupC P K mg C) (no : PySem.W.findIn K (.ref C) "at" = some none) :
    FnOk P w K mg base (L2.CX P w) 1 f fd ["self", "at"] (sp_exi C "at") := by
  refine fn_sup (N := ["self", "at"]) F ⟨rfl, rfl, rfl, by decide +kernel, rfl, by decide +kernel, by decide +kernel, by decide +kernel, rfl, rfl⟩ rfl rfl (by decide) T (fun vs H Q E h => by obtain ⟨e, i, rfl, _⟩ := h; rfl) (fun cd A outer s H vs Q E hr h => ?_)
  obtain ⟨e, i, rfl, hi, he, q⟩ := h
  have hl := int_len hi
  have l1 : ("there is no place " : Str).length = 18 := by decide +kernel
  have l3 : Str.empty.length = 0 := by decide +kernel
  have hi2 : i.natAbs.log2 < 1920 := by omega
  refine ⟨_, _, e, pa_cons (pe_joinedU (.cons pe_str (.cons (pe_fmt (pv 1)) .nil))) pa_nil, pss_one (ps_ost (pv 0) (pv 1)), rfl, he, ?_⟩
  walk_at "xs"
  refine ⟨by show 1 ≤ 1000; decide, he, ?_⟩
  refine x_ost ?_
  walk_at "xs"
  exact ⟨e, C, rfl, T.oex, no, Or.inl ⟨he, fun dx hdx hne => q dx hdx hne⟩⟩
end
/-! ### promises of the law's small defs -/
def ExK.nm : ExK → Str
  | .sign => "sign"
  | .size => "size"
  | .place => "place"
  | .closed => "closed"
  | .opn => "open"
def faultV : Ans → List V
  | .exn k i => [.str k.nm, .int i]
  | _ => [.str "good", .int 0]
def sE__law_pure (a : Ad) : SpE := fun e c d vs H Q E => vs = [.ref e] ∧ (∃ k i, ExcIs a k i c d H) ∧ ∀ H', Le H H' → Q (.bl true) H'
def sE__law_whole (a : Ad) : SpE := fun e c d vs H Q E => ∃ i, vs = [.int i] ∧ ∀ H', Le H H' → Q (.bl true) H'
def sp__law_whole (a : Ad) : Sp := fun vs H Q E => ∃ i, vs = [.int i] ∧ ∀ H', Le H H' → Q (.bl true) H'
def sp__law_fault (a : Ad) : Sp := fun vs H Q E => ∃ z c, vs = [.str z, .bl c] ∧ Sm z ∧ ∀ p H', Le H H' → H' p = some (.tup (faultV (mk z c))) → Q (.ref p) H'
def sp__law_refused (a : Ad) : Sp := fun vs H Q E => ∃ p n i, vs = [.ref p, .str n, .int i] ∧ H p = some (.tup [.str n, .int i, .bl true]) ∧ ∀ H', Le H H' → Q (.bl true) H'
def EqR (a : Ad) (H : Hp) (z : Str) (c : Bool) (y : V) (r : Bool) : Prop := (∃ q w d, y = .ref q ∧ TextAt a H q w d ∧ r = (decide (z = w) && (c == d))) ∨ ((y = .non ∨ (∃ i, y = .int i) ∨ ∃ w, y = .str w) ∧ r = false)
def sp__law_equal (a : Ad) : Sp := fun vs H Q E => ∃ p z c y r, vs = [.ref p, y, .bl r] ∧ TextAt a H p z c ∧ EqR a H z c y r ∧ ∀ H', Le H H' → Q (.bl true) H'
def sp__law_is_text (a : Ad) : Sp := fun vs H Q E => ∃ p z c, vs = [.ref p, .str z, .bl c] ∧ Good z c ∧ TextAt a H p z c ∧ ∀ H', Le H H' → Q (.bl true) H'
def stands (z : Str) (c : Bool) (w : Str) : Bool := if w.length > z.length then false else if c = true ∧ w ≠ "" then isIn w (z ++ cutS z none (some ((w.length : Int) - 1))) else isIn w z
def sp__law_stands (a : Ad) : Sp := fun vs H Q E => ∃ z c w, vs = [.str z, .bl c, .str w] ∧ Sm z ∧ Sm w ∧ ∀ H', Le H H' → Q (.bl (stands z c w)) H'
def sp__law_one_sign (a : Ad) : Sp := fun vs H Q E => ∃ z, vs = [.str z] ∧ Sm z ∧ ∀ H', Le H H' → Q (.bl true) H'
theorem ok__law_whole {P : Program} {w : World} {K : PySem.W.Frag} {mg : Str → Option Value} {base : Heap} {a : Ad} {f : Addr} {fd : FuncData} (F : FnP K "_law_whole" "_law_whole" s__law_whole f fd) (T : Txt K mg a)  :
    FnOk P w K mg base (L2.CX P w) 1 f fd ["_law_told"] (sp__law_whole a) := by
  refine F.ok sc__law_whole (fun vs H Q E h => by obtain ⟨i, rfl, q⟩ := h; rfl) (fun cdv A outer s H vs Q E hr h => ?_)
  refine ⟨_, (pss_one (ps_ret (pe_and (pe_callB call_isi (by rfl) T.f_isinstance (by decide +kernel) (pa_cons (pv 0) (pa_cons (pe_bltn (v := .ty "int") (by rfl) T.f_int (by decide +kernel) rfl) pa_nil))) (pe_one (pe_not (pe_callB call_isi (by rfl) T.f_isinstance (by decide +kernel) (pa_cons (pv 0) (pa_cons (pe_bltn (v := .ty "bool") (by rfl) T.f_bool (by decide +kernel) rfl) pa_nil)))))))), ?_⟩
  obtain ⟨i, rfl, q⟩ := h
  walk_at "xs"
  refine x_andV (b := true) (ev_is (ev_andV (b := true) ?_ (fun _ => ev_notV (b := false) ?_)) rfl) q
  · walk_at "ev"
  · walk_at "ev"
theorem okE__law_whole {P : Program} {w : World} {K : PySem.W.Frag} {mg : Str → Option Value} {base : Heap} {a : Ad} {f : Addr} {fd : FuncData} (F : FnP K "_law_whole" "_law_whole" s__law_whole f fd) (T : Txt K mg a)  :
    FnE P w K mg base 1 f fd ["_law_told"] (sE__law_whole a) := by
  refine fn_ofE F sc__law_whole (fun e c d vs H Q E h => by obtain ⟨i, rfl, q⟩ := h; rfl) (fun cdv A outer s H vs Q p c d hr hz hf h => ?_)
  obtain ⟨e, oe⟩ := p
  obtain ⟨i, rfl, q⟩ := h
  refine ⟨_, (pss_one (ps_ret (pe_and (pe_callB call_isi (by rfl) T.f_isinstance (by decide +kernel) (pa_cons (pv 0) (pa_cons (pe_bltn (v := .ty "int") (by rfl) T.f_int (by decide +kernel) rfl) pa_nil))) (pe_one (pe_not (pe_callB call_isi (by rfl) T.f_isinstance (by decide +kernel) (pa_cons (pv 0) (pa_cons (pe_bltn (v := .ty "bool") (by rfl) T.f_bool (by decide +kernel) rfl) pa_nil)))))))), ?_⟩
  walk_at "xs"
  refine x_andV (b := true) (ev_is (ev_andV (b := true) ?_ (fun _ => ev_notV (b := false) ?_)) rfl) q
  · walk_at "ev"
  · walk_at "ev"
theorem okE__law_pure {P : Program} {w : World} {K : PySem.W.Frag} {mg : Str → Option Value} {base : Heap} {a : Ad} {f : Addr} {fd : FuncData} (F : FnP K "_law_pure" "_law_pure" s__law_pure f fd) (T : Txt K mg a)  :
    FnE P w K mg base 1 f fd ["_law_e"] (sE__law_pure a) := by
  refine fn_ofE F sc__law_pure (fun e c d vs H Q E h => by obtain ⟨rfl, ⟨k, i, rfl, hx⟩, q⟩ := h; rfl) (fun cdv A outer s H vs Q p c d hr hz hf h => ?_)
  obtain ⟨e, oe⟩ := p
  obtain ⟨rfl, ⟨k, i, rfl, hx⟩, q⟩ := h
  have hT := T.exT k
  have hp : (e, oe) ∈ [(e, oe)] := List.mem_cons_self
  have hd : ∀ H', Le H H' → ∀ dd, d = some dd → ∃ fs, H' dd = some (.xd fs) := by
    intro H' le dd hdd
    cases k <;> first | (obtain ⟨d2, e2, h2⟩ := hx; rw [hdd] at e2; cases e2; exact ⟨_, le.keep h2⟩) | (rw [hdd] at hx; cases hx)
  refine ⟨_, (pss_cons (ps_set (i := 1) sc__law_pure.nd rfl (Or.inl rfl) (pe_lst (pa_cons (pe_callB (call_isP hT hp hz hf) (by rfl) T.f_isinstance (by decide +kernel) (pa_cons (pv 0) (pa_cons (pe_glob (v := .ref a.cBadSign) rfl T.g_BadSign rfl) pa_nil))) (pa_cons (pe_callB (call_isP hT hp hz hf) (by rfl) T.f_isinstance (by decide +kernel) (pa_cons (pv 0) (pa_cons (pe_glob (v := .ref a.cBadText) rfl T.g_BadText rfl) pa_nil))) (pa_cons (pe_callB (call_isP hT hp hz hf) (by rfl) T.f_isinstance (by decide +kernel) (pa_cons (pv 0) (pa_cons (pe_glob (v := .ref a.cClosedText) rfl T.g_ClosedText rfl) pa_nil))) pa_nil)))))
    (pss_cons (ps_set (i := 1) sc__law_pure.nd rfl (Or.inl rfl) (pe_op op_addU (pv 1) (pe_lst (pa_cons (pe_callB (call_isP hT hp hz hf) (by rfl) T.f_isinstance (by decide +kernel) (pa_cons (pv 0) (pa_cons (pe_glob (v := .ref a.cNoPlace) rfl T.g_NoPlace rfl) pa_nil))) (pa_cons (pe_callB (call_isP hT hp hz hf) (by rfl) T.f_isinstance (by decide +kernel) (pa_cons (pv 0) (pa_cons (pe_glob (v := .ref a.cOpenText) rfl T.g_OpenText rfl) pa_nil))) pa_nil)))))
    (pss_cons (ps_set (i := 2) sc__law_pure.nd rfl (Or.inl rfl) (pe_and (pe_callB (call_isP hT hp hz hf) (by rfl) T.f_isinstance (by decide +kernel) (pa_cons (pv 0) (pa_cons (pe_glob (v := .ref a.cClerkError) rfl T.g_ClerkError rfl) pa_nil))) (pe_one (pe_callB (call_isP hT hp hz hf) (by rfl) T.f_isinstance (by decide +kernel) (pa_cons (pv 0) (pa_cons (pe_bltn (v := .ty "ValueError") (by rfl) T.f_ValueError (by decide +kernel) rfl) pa_nil))))))
    (pss_one (ps_ret (pe_and (pv 2) (pe_one (pe_cmpR op_eq (pe_bm PySem.F.plainAttrs_list PySem.F.slot_list_count PySem.F.type_list_count mt_cntF (pv 1) (pa_cons pe_bl pa_nil)) pe_int (nomark _))))))))), ?_⟩
  walk_at "xs"
  refine x_isp (fun u h => h) (hd _ (by walk_at "le")) (T.kit k .sign) ?_
  walk_at "xs"
  refine x_isp (fun u h => h) (hd _ (by walk_at "le")) (T.kit k .size) ?_
  walk_at "xs"
  refine x_isp (fun u h => h) (hd _ (by walk_at "le")) (T.kit k .closed) ?_
  walk_at "xs"
  refine x_isp (fun u h => h) (hd _ (by walk_at "le")) (T.kit k .place) ?_
  walk_at "xs"
  refine x_isp (fun u h => h) (hd _ (by walk_at "le")) (T.kit k .opn) ?_
  walk_at "xs"
  refine x_andV (b := true) (ev_is (ev_andV (b := true) (ev_run fun H1 e1 Q1 q1 => ?_) (fun _ => ev_run fun H1 e1 Q1 q1 => ?_)) rfl) fun H1 e1 => ?_
  · walk_at "xs"
    refine x_isp (fun u h => h) (hd _ (by walk_at "le")) (T.kitE k) ?_
    exact q1 _ (Le.refl _)
  · walk_at "xs"
    refine x_isp (fun u h => h) (hd _ (by walk_at "le")) (T.kitV k) ?_
    exact q1 _ (Le.refl _)
  · walk_at "xs"
    refine x_andV (b := true) (ev_is (ev_andV (b := true) (ev_run fun H2 e2 Q2 q2 => ?_) (fun _ => ev_run fun H2 e2 Q2 q2 => ?_)) rfl) fun H2 e2 => q _ (by walk_at "le")
    · walk_at "xs"
      exact q2 _ (Le.refl _)
    · walk_at "xs"
      refine x_cnt (by walk_at "hp") rfl rfl ?_
      walk_at "xs"
      have e : (([V.bl (decide (k = .sign)), V.bl (decide (k = .size)), V.bl (decide (k = .closed))] ++ [V.bl (decide (k = .place)), V.bl (decide (k = .opn))]).countP fun z => eqV z (.bl true)) = 1 := by
        cases k <;> decide +kernel
      rw [e]
      exact q2 _ (Le.refl _)
end K2
set_option maxHeartbeats 4000000
/-! K2F: the law's checks of one text -/
namespace K2
open PySem PySem.Spec PyProof.Rows L2 MC
local macro_rules | `(tactic| walk_at "hp") => `(tactic| first | assumption | (apply Le.keep; assumption; walk_at "hp") | (apply TextAt.le; assumption; walk_at "hp") | (apply Lw.keep; assumption; walk_at "hp"; first | rfl | exact sh_str _ | exact sh_ints _ | exact sh_sgns _) | (apply TextAt.lw; assumption; walk_at "hp"))
local macro_rules | `(tactic| walk_at "le") => `(tactic| first | exact Le.refl _ | assumption | (apply Le.trans'; assumption; walk_at "le"))
local macro_rules | `(tactic| walk_at "lw") => `(tactic| first | exact Lw.refl _ | assumption | exact Le.w (by assumption) | (apply Lw.trans'; (first | assumption | exact Le.w (by assumption)); walk_at "lw"))
local macro_rules | `(tactic| walk_at "sz") => `(tactic| first | omega | (simp only [slen_app]; omega) | (simp only [List.length_cons, List.length_nil, List.length_map, List.length_range]; omega) | omega | (simp; omega) | decide)
local macro_rules | `(tactic| walk_at "x") => `(tactic| first
  | with_reducible refine x_seq ?_ | with_reducible refine x_asg ?_ | with_reducible refine x_ret ?_ | with_reducible refine x_drop ?_
  | ((with_reducible apply x_var); exact rfl) | with_reducible refine x_c ?_ | with_reducible refine x_op ?_ | with_reducible refine x_opS ?_ | with_reducible refine x_un ?_ | with_reducible refine x_neg ?_
  | with_reducible refine x_test ?_ | with_reducible refine x_tB ?_ | with_reducible refine x_kB ?_
  | with_reducible refine x_nil ?_ | with_reducible refine x_cons ?_ | with_reducible refine x_tup ?_ | with_reducible refine x_lst ?_
  | ((with_reducible refine x_kTup ?_ ?_); (walk_at "sz"); (intro _ _ _ _ _)) | ((with_reducible refine x_kLst ?_ ?_); (walk_at "sz"); (intro _ _ _ _ _))
  | with_reducible refine x_fld ?_ | ((with_reducible apply x_fS); assumption; (walk_at "hp")) | ((with_reducible apply x_fC); assumption; (walk_at "hp"))
  | with_reducible refine x_cb ?_ | with_reducible refine x_call ?_ | with_reducible refine x_callE ?_ | with_reducible refine x_bm ?_ | with_reducible refine x_cv ?_
  | with_reducible refine x_meth ?_ | with_reducible refine x_cm ?_ | with_reducible refine x_kCM ?_ | with_reducible refine x_mk ?_ | with_reducible refine x_kMk ?_
  | with_reducible refine x_np ?_ | with_reducible refine x_part ?_ | with_reducible refine x_kPart ?_ | with_reducible refine x_sl ?_ | with_reducible refine x_rev ?_
  | with_reducible refine x_addI ?_ | ((with_reducible refine x_addS ?_ ?_); (walk_at "sz")) | with_reducible refine x_I0 ?_
  | with_reducible refine x_eqS ?_ | with_reducible refine x_eqI ?_ | with_reducible refine x_eqB ?_ | with_reducible refine x_neS ?_ | with_reducible refine x_neI ?_ | with_reducible refine x_neB ?_
  | with_reducible refine x_eqFS ?_ | with_reducible refine x_eqFI ?_
  | with_reducible refine x_ltI ?_ | with_reducible refine x_ltS ?_ | with_reducible refine x_leI ?_ | with_reducible refine x_leS ?_ | with_reducible refine x_inT ?_ | with_reducible refine x_notInT ?_
  | ((with_reducible refine x_slS ?_ ?_); (walk_at "sz")) | ((with_reducible refine x_kRev ?_ ?_); (walk_at "sz"))
  | ((with_reducible refine x_lenS ?_ ?_); (walk_at "sz")) | ((with_reducible apply x_lenT); (walk_at "hp"))
  | ((with_reducible apply x_ixT); (walk_at "hp"); exact rfl)
  | with_reducible refine x_abs ?_ | with_reducible refine x_int ?_ | with_reducible refine x_strS ?_
  | ((with_reducible apply x_isB); (first | exact kit_ty (r := true) (by decide +kernel) | exact kit_ty (r := false) (by decide +kernel))) | ((with_reducible apply x_isI); (first | exact kit_ty (r := true) (by decide +kernel) | exact kit_ty (r := false) (by decide +kernel))) | ((with_reducible apply x_isS); (first | exact kit_ty (r := true) (by decide +kernel) | exact kit_ty (r := false) (by decide +kernel)))
  | ((with_reducible apply x_isT); (walk_at "hp"); (first | exact kit_ty (r := true) (by decide +kernel) | exact kit_ty (r := false) (by decide +kernel)))
  | ((with_reducible apply x_isText); assumption; (walk_at "hp")) | ((with_reducible apply x_isTextS); assumption) | ((with_reducible apply x_isTextI); assumption) | ((with_reducible apply x_isTextN); assumption) | ((with_reducible apply x_kCVT); assumption)
  | ((with_reducible apply x_addL); (walk_at "hp"); (walk_at "hp"); (walk_at "sz"); (intro _ _ _ _ _)) | ((with_reducible apply x_tyL); (walk_at "hp")) | with_reducible refine x_tyS ?_
  | with_reducible refine x_joined ?_ | with_reducible refine x_js ?_ | with_reducible refine x_js0 ?_ | ((with_reducible refine x_kJs ?_ ?_); (walk_at "sz")) | with_reducible refine x_fmt ?_ | ((with_reducible refine x_fmtS ?_ ?_); (walk_at "sz")) | ((with_reducible refine x_fmtI ?_ ?_); omega)
  | with_reducible refine x_rse ?_ | with_reducible refine x_ex ?_ | with_reducible refine x_ex0 ?_ | with_reducible refine x_xf ?_
  | with_reducible refine x_for ?_ | with_reducible refine x_r1 ?_ | with_reducible refine x_r2 ?_ | with_reducible refine x_il ?_ | with_reducible refine x_en ?_ | with_reducible refine x_lc ?_ | with_reducible refine x_next ?_ | dsimp only)
local macro_rules | `(tactic| walk_at "xs") => `(tactic| repeat walk_at "x")
local macro_rules | `(tactic| walk_at "ev0") => `(tactic| (refine ev_run ?_; intro _ _ _ q; walk_at "xs"; refine q _ ?_; walk_at "le"))
local macro_rules | `(tactic| walk_at "ch") => `(tactic| (intro _ _ _ q; walk_at "xs"; refine q _ ?_; walk_at "le"))
local macro_rules | `(tactic| walk_at "ev") => `(tactic| first
  | (focus ((with_reducible refine ev_andV ?_ (fun _ => ?_)); (all_goals walk_at "ev"))) | (focus ((with_reducible refine ev_orV ?_ (fun _ => ?_)); (all_goals walk_at "ev")))
  | ((with_reducible refine ev_notV ?_); walk_at "ev")
  | (focus ((with_reducible apply ev_chain); (focus walk_at "ch"); (focus walk_at "ch"); (focus walk_at "ch"); (focus (intro _ _ _ q; walk_at "x"; exact q)); (focus (intro _ _ _ q; walk_at "x"; exact q))))
  | walk_at "ev0" | skip)
local macro_rules | `(tactic| walk_at "et") => `(tactic| first
  | (focus ((with_reducible refine et_and ?_ (fun _ => ?_)); (all_goals walk_at "et"))) | (focus ((with_reducible refine et_or ?_ (fun _ => ?_)); (all_goals walk_at "et")))
  | ((with_reducible refine et_not ?_); walk_at "et") | ((with_reducible refine et_B ?_); walk_at "ev") | ((with_reducible refine et_T ?_); walk_at "ev"))
/-! ### one text in another -/
theorem isIn_iff {p z : Str} : isIn p z = true ↔ ∃ i, i + p.length ≤ z.length ∧ ((z.cps.toList.drop i).take p.length) = p.cps.toList := by
  unfold isIn
  rw [PySem.StrLaws.found_iff]
  constructor
  · rintro ⟨i, h1, h2⟩
    refine ⟨i, h1, ?_⟩
    rw [PySem.StrLaws.subAt_eq] at h2
    exact beq_iff_eq.mp h2
  · rintro ⟨i, h1, h2⟩
    refine ⟨i, h1, ?_⟩
    rw [PySem.StrLaws.subAt_eq]
    exact beq_iff_eq.mpr h2
theorem rep2 (z : Str) : repS z 2 = z ++ z := by
  apply str_ext
  unfold repS
  rw [if_neg (by decide), app_l]
  show ((List.replicate 2 z.cps.toList).flatten.toArray).toList = _
  simp
theorem alpha_l : ("abcdefghijklmnopqrstuvwxyz" : Str).cps.toList = List.range' 97 26 := by decide +kernel
theorem isIn_alpha (c : Nat) : isIn ⟨#[c]⟩ "abcdefghijklmnopqrstuvwxyz" = sgOk c := by
  unfold isIn
  rw [PySem.StrLaws.found_one, alpha_l]
  unfold sgOk
  rw [← Bool.decide_and]
  apply decide_eq_decide.mpr
  rw [List.mem_range'_1]
  omega
theorem isIn_app_left {w z v : Str} (h : isIn w z = true) : isIn w (z ++ v) = true := by
  rw [isIn_iff] at *
  obtain ⟨i, h1, h2⟩ := h
  refine ⟨i, by rw [slen_app]; omega, ?_⟩
  rw [app_l, List.drop_append_of_le_length (by rw [len_l]; omega), List.take_append_of_le_length (by rw [List.length_drop, len_l]; omega)]
  exact h2
theorem take_left {A B : List Nat} {i n : Nat} (h : i + n ≤ A.length) : ((A ++ B).drop i).take n = (A.drop i).take n := by
  rw [List.drop_append_of_le_length (by omega), List.take_append_of_le_length (by rw [List.length_drop]; omega)]
theorem take_right {A B : List Nat} {i : Nat} (h : A.length ≤ i) : (A ++ B).drop i = B.drop (i - A.length) := by
  rw [List.drop_append, List.drop_eq_nil_of_le h, List.nil_append]
theorem stands_eq {z : Str} {c : Bool} {w : Str} : stands z c w = isPart z c w := by
  unfold stands isPart
  by_cases h1 : w.length > z.length
  · rw [if_pos h1, if_pos h1]
  · rw [if_neg h1, if_neg h1]
    cases c with
    | false => rw [if_neg (by simp), if_neg (by decide)]
    | true =>
      rw [if_pos (show true = true from rfl), rep2]
      by_cases h2 : w = ""
      · rw [if_neg (fun q => q.2 h2)]
        have e0 : w.cps.toList = [] := by rw [h2]; rfl
        have e1 : w.length = 0 := empty_iff.mp h2
        have k1 : isIn w z = true := isIn_iff.mpr ⟨0, by omega, by rw [e0, e1]; simp⟩
        rw [k1, isIn_app_left k1]
      · rw [if_pos ⟨rfl, h2⟩]
        have hw : 0 < w.length := Nat.pos_of_ne_zero fun q => h2 (empty_iff.mpr q)
        have hl : (cutS z none (some ((w.length : Int) - 1))).cps.toList = z.cps.toList.take (w.length - 1) := by
          rw [cut_l, HT.sIx_none, List.drop_zero, Nat.sub_zero]
          have : (w.length : Int) - 1 = ((w.length - 1 : Nat) : Int) := by omega
          rw [this, HT.sIx_nat, Nat.min_eq_left (by omega)]
        have hcl : (cutS z none (some ((w.length : Int) - 1))).length = w.length - 1 := by
          rw [← len_l, hl, List.length_take, len_l]; omega
        apply Bool.eq_iff_iff.mpr
        constructor
        · intro h
          rw [isIn_iff] at h
          obtain ⟨i, h1, h2⟩ := h
          rw [slen_app, hcl] at h1
          rw [app_l, hl] at h2
          refine isIn_iff.mpr ⟨i, by rw [slen_app]; omega, ?_⟩
          rw [app_l, ← h2]
          have e : z.cps.toList ++ z.cps.toList = (z.cps.toList ++ z.cps.toList.take (w.length - 1)) ++ z.cps.toList.drop (w.length - 1) := by
            rw [List.append_assoc, List.take_append_drop]
          rw [e, List.drop_append_of_le_length (by rw [List.length_append, List.length_take, len_l]; omega), List.take_append_of_le_length (by rw [List.length_drop, List.length_append, List.length_take, len_l]; omega)]
        · intro h
          rw [isIn_iff] at h
          obtain ⟨i, h1, h2⟩ := h
          rw [slen_app] at h1
          rw [app_l] at h2
          by_cases hi : i < z.length
          · refine isIn_iff.mpr ⟨i, by rw [slen_app, hcl]; omega, ?_⟩
            rw [app_l, hl, ← h2]
            have e : z.cps.toList ++ z.cps.toList = (z.cps.toList ++ z.cps.toList.take (w.length - 1)) ++ z.cps.toList.drop (w.length - 1) := by
              rw [List.append_assoc, List.take_append_drop]
            rw [e, take_left (A := z.cps.toList ++ z.cps.toList.take (w.length - 1)) (by rw [List.length_append, List.length_take, len_l]; omega)]
          · have hle : i - z.length + w.length ≤ z.length := by omega
            refine isIn_app_left (isIn_iff.mpr ⟨i - z.length, hle, ?_⟩)
            rw [← h2, take_right (A := z.cps.toList) (B := z.cps.toList) (by rw [len_l]; omega), len_l]
/-! ### the checks -/
theorem c_whole {a : Ad} {H : Hp} {Q : VK} {E : XK} {i : Int} (q : ∀ H', Le H H' → Q (.bl true) H') : sp__law_whole a [.int i] H Q E := ⟨i, rfl, q⟩
theorem c_refused {a : Ad} {H : Hp} {Q : VK} {E : XK} {p : Addr} {n : Str} {i : Int} (h : H p = some (.tup [.str n, .int i, .bl true])) (q : ∀ H', Le H H' → Q (.bl true) H') : sp__law_refused a [.ref p, .str n, .int i] H Q E := ⟨p, n, i, rfl, h, q⟩
theorem c_is_text {a : Ad} {H : Hp} {Q : VK} {E : XK} {p : Addr} {z : Str} {c : Bool} (h : TextAt a H p z c) (g : Good z c) (q : ∀ H', Le H H' → Q (.bl true) H') : sp__law_is_text a [.ref p, .str z, .bl c] H Q E := ⟨p, z, c, rfl, g, h, q⟩
theorem c_is_sign {a : Ad} {H : Hp} {Q : VK} {E : XK} {z : Str} (hz : z.length ≤ 1000) (q : ∀ H', Le H H' → Q (.bl (isSg z)) H') : sp_is_sign a [.str z] H Q E := ⟨z, rfl, hz, q⟩
theorem c_fault {a : Ad} {H : Hp} {Q : VK} {E : XK} {z : Str} {c : Bool} (hz : z.length ≤ 1000) (q : ∀ p H', Le H H' → H' p = some (.tup (faultV (mk z c))) → Q (.ref p) H') : sp__law_fault a [.str z, .bl c] H Q E := ⟨z, c, rfl, hz, q⟩
local macro_rules | `(tactic| walk_at "x") => `(tactic| first | ((with_reducible refine c_whole ?_); (intro _ _)) | ((with_reducible refine c_is_sign ?_ ?_); (walk_at "sz"); (intro _ _)) | ((with_reducible refine c_refused ?_ ?_); (walk_at "hp"); (intro _ _)) | ((with_reducible refine c_is_text ?_ ?_ ?_); (walk_at "hp"); assumption; (intro _ _)))
theorem ok__law_fault {P : Program} {w : World} {K : PySem.W.Frag} {mg : Str → Option Value} {base : Heap} {a : Ad} {f : Addr} {fd : FuncData} (F : FnP K "_law_fault" "_law_fault" s__law_fault f fd) (T : Txt K mg a)  :
    FnOk P w K mg base (L2.CX P w) 1 f fd ["_law_shown", "_law_closed"] (sp__law_fault a) := by
  refine F.ok sc__law_fault (fun vs H Q E h => by obtain ⟨z, c, rfl, hz, q⟩ := h; rfl) (fun cdv A outer s H vs Q E hr h => ?_)
  refine ⟨_, (pss_cons (ps_for (by first | exact po | exact PassesOwn.never | exact passes_of rfl) rfl (pi_range1 (by rfl) T.f_range (pa_cons (pe_callB call_lenU (by rfl) T.f_len (by decide +kernel) (pa_cons (pv 0) pa_nil)) pa_nil)) (pg_name (i := 2) sc__law_fault.nd rfl (Or.inl rfl)) (pss_one (ps_if (pt_cmpR op_notInT (pe_ix ix_seq (pv 0) (pv 2) (fun _ _ => rfl)) pe_str (by rfl)) (pss_one (ps_ret (pe_tup (pa_cons pe_str (pa_cons (pv 2) pa_nil))))) pss_nil)))
    (pss_cons (ps_if (PW.pt (pw_or (pt_cmpR op_gt (pe_callB call_lenU (by rfl) T.f_len (by decide +kernel) (pa_cons (pv 0) pa_nil)) pe_int (nomark _)) (pw_or1 (PW.pt (pw_and (pt_val (pv 1)) (pw_and1 (pt_cmpR (op_eqU hr) (pv 0) pe_str (nomark _)))))))) (pss_one (ps_ret (pe_tup (pa_cons pe_str (pa_cons (pe_callB call_lenU (by rfl) T.f_len (by decide +kernel) (pa_cons (pv 0) pa_nil)) pa_nil))))) pss_nil)
    (pss_one (ps_ret (pe_tup (pa_cons pe_str (pa_cons pe_int pa_nil))))))), ?_⟩
  obtain ⟨z, c, rfl, hz, q⟩ := h
  have hz2 : z.length ≤ 1000 := hz
  walk_at "xs"
  refine x_for1 (by omega) (fun i σ' H' => (∃ v, σ' = [some (V.str z), some (V.bl c), v]) ∧ Le H H' ∧ ∀ j, j < i → sgOk (z.cps.getD j 0) = true) ⟨⟨_, rfl⟩, Le.refl H, fun j hj => absurd hj (Nat.not_lt_zero j)⟩ ?_ ?_
  · rintro i σ' H1 hi ⟨⟨v, rfl⟩, e1, hj⟩
    refine x_if (b := !sgOk (z.cps.getD i 0)) (et_T (ev_run fun H3 e3 Q3 q3 => ?_)) (fun hb H3 e3 => ?_) (fun hb H3 e3 => ?_)
    · walk_at "xs"
      refine x_ixN (by omega) (by omega) ?_
      rw [Int.toNat_natCast]
      walk_at "xs"
      rw [isIn_alpha]
      exact q3 _ (Le.refl _)
    · have hb2 : sgOk (z.cps.getD i 0) = false := by simpa using hb
      walk_at "xs"
      rename_i p5 H5 e5n e5 hp5
      refine q _ _ (by walk_at "le") ?_
      have : mk z c = .exn .sign i := by unfold mk; rw [bad_some (by show i < z.length; omega) hb2 hj]
      rw [this]
      exact hp5
    · have hb2 : sgOk (z.cps.getD i 0) = true := by simpa using hb
      walk_at "xs"
      refine ⟨⟨_, rfl⟩, e1.trans e3, fun j h => ?_⟩
      rcases Nat.lt_succ_iff_lt_or_eq.mp h with h | h
      · exact hj j h
      · rw [h]; exact hb2
  · rintro σ' H1 ⟨⟨v, rfl⟩, e1, hj⟩
    have hb : bad z = none := bad_none.mpr fun j h => hj j (by have : z.cps.size = z.length := rfl; omega)
    walk_at "xs"
    refine x_if (b := decide ((120 : Int) < z.length) || (c && decide (z = ""))) (by walk_at "et") (fun hb2 H2 e2 => ?_) (fun hb2 H2 e2 => ?_)
    · walk_at "xs"
      rename_i p5 H5 e5n e5 hp5
      refine q _ _ (by walk_at "le") ?_
      have : mk z c = .exn .size z.length := by
        unfold mk
        rw [hb]
        refine if_pos ?_
        simp only [Bool.or_eq_true, Bool.and_eq_true, decide_eq_true_eq] at hb2
        rcases hb2 with h | h
        · left; omega
        · right; exact h
      rw [this]
      exact hp5
    · walk_at "xs"
      rename_i p5 H5 e5n e5 hp5
      refine q _ _ (by walk_at "le") ?_
      have : mk z c = .txt z c := by
        unfold mk
        rw [hb]
        refine if_neg fun q => ?_
        simp only [Bool.or_eq_false_iff, Bool.and_eq_false_iff, decide_eq_false_iff_not] at hb2
        rcases q with q | ⟨q1, q2⟩
        · omega
        · rcases hb2.2 with h | h
          · rw [q1] at h; cases h
          · exact h q2
      rw [this]
      exact hp5
theorem ok__law_refused {P : Program} {w : World} {K : PySem.W.Frag} {mg : Str → Option Value} {base : Heap} {a : Ad} {f : Addr} {fd : FuncData} (F : FnP K "_law_refused" "_law_refused" s__law_refused f fd) (T : Txt K mg a) (G__law_whole : FnG P w K mg base 1 "_law_whole" (sp__law_whole a)) :
    FnOk P w K mg base (L2.CX P w) 2 f fd ["_law_told", "_law_kind", "_law_number"] (sp__law_refused a) := by
  refine F.ok sc__law_refused (fun vs H Q E h => by obtain ⟨p, n, i, rfl, hp, q⟩ := h; rfl) (fun cdv A outer s H vs Q E hr h => ?_)
  refine ⟨_, (pss_one (ps_ret (pe_and (pe_cmpR (op_eqU hr) (pe_ix ix_seq (pv 0) pe_int (fun _ _ => rfl)) (pv 1) (nomark _)) (pe_and (pe_ix ix_seq (pv 0) pe_int (fun _ _ => rfl)) (pe_and (pe_callG G__law_whole (hr.mono (by decide)) passN rfl (pa_cons (pe_ix ix_seq (pv 0) pe_int (fun _ _ => rfl)) pa_nil)) (pe_one (pe_cmpR (op_eqU hr) (pe_ix ix_seq (pv 0) pe_int (fun _ _ => rfl)) (pv 2) (nomark _)))))))), ?_⟩
  obtain ⟨p, n, i, rfl, hp, q⟩ := h
  walk_at "xs"
  refine x_andV (b := true) (ev_is (b := decide (n = n) && (true && (true && decide (i = i)))) ?_ (by simp)) q
  walk_at "ev"
theorem ok__law_stands {P : Program} {w : World} {K : PySem.W.Frag} {mg : Str → Option Value} {base : Heap} {a : Ad} {f : Addr} {fd : FuncData} (F : FnP K "_law_stands" "_law_stands" s__law_stands f fd) (T : Txt K mg a)  :
    FnOk P w K mg base (L2.CX P w) 1 f fd ["_law_shown", "_law_closed", "_law_part"] (sp__law_stands a) := by
  refine F.ok sc__law_stands (fun vs H Q E h => by obtain ⟨z, c, w, rfl, hz, hw, q⟩ := h; rfl) (fun cdv A outer s H vs Q E hr h => ?_)
  refine ⟨_, (pss_cons (ps_if (pt_cmpR op_gt (pe_callB call_lenU (by rfl) T.f_len (by decide +kernel) (pa_cons (pv 2) pa_nil)) (pe_callB call_lenU (by rfl) T.f_len (by decide +kernel) (pa_cons (pv 0) pa_nil)) (nomark _)) (pss_one (ps_ret pe_bl)) pss_nil)
    (pss_cons (ps_if (PW.pt (pw_and (pt_val (pv 1)) (pw_and1 (pt_cmpR (op_neU hr) (pv 2) pe_str (nomark _))))) (pss_one (ps_ret (pe_cmpR op_inT (pv 2) (pe_op op_addU (pv 0) (pe_slice sl_U (pv 0) po_none (po_some (pe_op op_sub (pe_callB call_lenU (by rfl) T.f_len (by decide +kernel) (pa_cons (pv 2) pa_nil)) pe_int)))) (by rfl)))) pss_nil)
    (pss_one (ps_ret (pe_cmpR op_inT (pv 2) (pv 0) (by rfl)))))), ?_⟩
  obtain ⟨z, c, w, rfl, hz, hw, q⟩ := h
  have hz2 : z.length ≤ 1000 := hz
  have hw2 : w.length ≤ 1000 := hw
  walk_at "xs"
  refine x_if (b := decide ((z.length : Int) < w.length)) (by walk_at "et") (fun hb H1 e1 => ?_) (fun hb H1 e1 => ?_)
  · walk_at "xs"
    have := q H1 e1
    unfold stands at this
    rw [if_pos (by simpa using hb)] at this
    exact this
  · walk_at "xs"
    refine x_if (b := c && !decide (w = "")) (by walk_at "et") (fun hc H2 e2 => ?_) (fun hc H2 e2 => ?_)
    · have l1 := cutS_length z none (some ((w.length : Int) - 1))
      walk_at "xs"
      have := q H2 (e1.trans e2)
      unfold stands at this
      rw [if_neg (by simpa using hb), if_pos (by simpa using hc)] at this
      exact this
    · walk_at "xs"
      have := q H2 (e1.trans e2)
      unfold stands at this
      rw [if_neg (by simpa using hb), if_neg (by simpa using hc)] at this
      exact this
theorem ok__law_one_sign {P : Program} {w : World} {K : PySem.W.Frag} {mg : Str → Option Value} {base : Heap} {a : Ad} {f : Addr} {fd : FuncData} (F : FnP K "_law_one_sign" "_law_one_sign" s__law_one_sign f fd) (T : Txt K mg a) (G_is_sign : FnG P w K mg base 1 "is_sign" (sp_is_sign a)) :
    FnOk P w K mg base (L2.CX P w) 2 f fd ["_law_word"] (sp__law_one_sign a) := by
  refine F.ok sc__law_one_sign (fun vs H Q E h => by obtain ⟨z, rfl, hz, q⟩ := h; rfl) (fun cdv A outer s H vs Q E hr h => ?_)
  refine ⟨_, (pss_cons (ps_set (i := 1) sc__law_one_sign.nd rfl (Or.inl rfl) (pe_callG G_is_sign (hr.mono (by decide)) passN rfl (pa_cons (pv 0) pa_nil)))
    (pss_cons (ps_set (i := 2) sc__law_one_sign.nd rfl (Or.inl rfl) (pe_and (pe_cmpR (op_eqU hr) (pe_callB call_lenU (by rfl) T.f_len (by decide +kernel) (pa_cons (pv 0) pa_nil)) pe_int (nomark _)) (pe_one (pe_cmpR op_inT (pv 0) pe_str (by rfl)))))
    (pss_one (ps_ret (pe_and (pe_callB call_isi (by rfl) T.f_isinstance (by decide +kernel) (pa_cons (pv 1) (pa_cons (pe_bltn (v := .ty "bool") (by rfl) T.f_bool (by decide +kernel) rfl) pa_nil))) (pe_one (pe_cmpR (op_eqU hr) (pv 1) (pv 2) (nomark _)))))))), ?_⟩
  obtain ⟨z, rfl, hz, q⟩ := h
  have hz2 : z.length ≤ 1000 := hz
  walk_at "xs"
  refine x_andV (b := decide ((z.length : Int) = 1) && isIn z "abcdefghijklmnopqrstuvwxyz") (by walk_at "ev") fun H1 e1 => ?_
  walk_at "xs"
  have key : isSg z = (decide ((z.length : Int) = 1) && isIn z "abcdefghijklmnopqrstuvwxyz") := by
    unfold isSg
    by_cases h : z.length = 1
    · have e := one_of_len h
      rw [show decide ((z.length : Int) = 1) = true from decide_eq_true (by omega), show (z.length == 1) = true from by rw [h]; rfl]
      conv => rhs; rw [e, isIn_alpha]
    · rw [show decide ((z.length : Int) = 1) = false from decide_eq_false (by omega), show (z.length == 1) = false from beq_false_of_ne h]
      rfl
  refine x_andV (b := true) (ev_is (b := true && (isSg z == (decide ((z.length : Int) = 1) && isIn z "abcdefghijklmnopqrstuvwxyz"))) ?_ (by rw [key]; simp)) fun H2 e2 => q _ (by walk_at "le")
  walk_at "ev"
theorem ok__law_equal {P : Program} {w : World} {K : PySem.W.Frag} {mg : Str → Option Value} {base : Heap} {a : Ad} {f : Addr} {fd : FuncData} (F : FnP K "_law_equal" "_law_equal" s__law_equal f fd) (T : Txt K mg a) (O_Text___eq__ : OpG P w K mg base 1 a.cText "__eq__" (sp_Text___eq__ a)) :
    FnOk P w K mg base (L2.CX P w) 2 f fd ["_law_text", "_law_other", "_law_due"] (sp__law_equal a) := by
  refine F.ok sc__law_equal (fun vs H Q E h => by obtain ⟨p, z, c, y, r, rfl, ht, hy, q⟩ := h; rfl) (fun cdv A outer s H vs Q E hr h => ?_)
  refine ⟨_, (pss_cons (ps_set (i := 3) sc__law_equal.nd rfl (Or.inl rfl) (pe_cmpR (op_eqG O_Text___eq__ (hr.mono (by decide))) (pv 0) (pv 1) (nomark _)))
    (pss_one (ps_ret (pe_and (pe_callB call_isi (by rfl) T.f_isinstance (by decide +kernel) (pa_cons (pv 3) (pa_cons (pe_bltn (v := .ty "bool") (by rfl) T.f_bool (by decide +kernel) rfl) pa_nil))) (pe_one (pe_cmpR (op_eqU hr) (pv 3) (pv 2) (nomark _))))))), ?_⟩
  obtain ⟨p, z, c, y, r, rfl, ht, hy, q⟩ := h
  walk_at "xs"
  have go : ∀ {Q1 : VK}, (∀ H1, Le H H1 → Q1 (.bl r) H1) → rEqO K a.cText (sp_Text___eq__ a) (.ref p) y H Q1 := by
    intro Q1 q1
    obtain ⟨dx, hp⟩ := id ht
    have fin : sp_Text___eq__ a [.ref p, y] H (fun v H' => ∃ b : Bool, v = .bl b ∧ Q1 (.bl b) H') XE0 := ⟨p, z, c, y, r, rfl, ht, hy, fun H' e => ⟨r, rfl, q1 H' e⟩⟩
    rcases id hy with ⟨p2, w, d, rfl, ⟨dx2, ht2⟩, _⟩ | ⟨hy2, _⟩
    · exact x_eqO hp (T.ins ht2) T.nfT fin
    · rcases hy2 with rfl | ⟨i, rfl⟩ | ⟨w, rfl⟩
      · exact x_eqO hp .non T.nfN fin
      · exact x_eqO hp (.int i) T.nfI fin
      · exact x_eqO hp (.str w) T.nfS fin
  refine go fun H1 e1 => ?_
  walk_at "xs"
  refine x_andV (b := true) (ev_is (b := true && (r == r)) ?_ (by simp)) fun H2 e2 => q _ (by walk_at "le")
  walk_at "ev"
end K2
set_option maxHeartbeats 4000000
/-! K2G: the law's checks: a text, what is made, what is done -/
namespace K2
open PySem PySem.Spec PyProof.Rows L2 MC
local macro_rules | `(tactic| walk_at "hp") => `(tactic| first | assumption | (apply Le.keep; assumption; walk_at "hp") | (apply TextAt.le; assumption; walk_at "hp") | (apply Lw.keep; assumption; walk_at "hp"; first | rfl | exact sh_str _ | exact sh_ints _ | exact sh_sgns _) | (apply TextAt.lw; assumption; walk_at "hp"))
local macro_rules | `(tactic| walk_at "le") => `(tactic| first | exact Le.refl _ | assumption | (apply Le.trans'; assumption; walk_at "le"))
local macro_rules | `(tactic| walk_at "lw") => `(tactic| first | exact Lw.refl _ | assumption | exact Le.w (by assumption) | (apply Lw.trans'; (first | assumption | exact Le.w (by assumption)); walk_at "lw"))
local macro_rules | `(tactic| walk_at "sz") => `(tactic| first | omega | (simp only [slen_app]; omega) | (simp only [List.length_cons, List.length_nil, List.length_map, List.length_range]; omega) | omega | (simp; omega) | decide)
local macro_rules | `(tactic| walk_at "x") => `(tactic| first
  | with_reducible refine x_seq ?_ | with_reducible refine x_asg ?_ | with_reducible refine x_ret ?_ | with_reducible refine x_drop ?_
  | ((with_reducible apply x_var); exact rfl) | with_reducible refine x_c ?_ | with_reducible refine x_op ?_ | with_reducible refine x_opS ?_ | with_reducible refine x_un ?_ | with_reducible refine x_neg ?_
  | with_reducible refine x_test ?_ | with_reducible refine x_tB ?_ | with_reducible refine x_kB ?_
  | with_reducible refine x_nil ?_ | with_reducible refine x_cons ?_ | with_reducible refine x_tup ?_ | with_reducible refine x_lst ?_
  | ((with_reducible refine x_kTup ?_ ?_); (walk_at "sz"); (intro _ _ _ _ _)) | ((with_reducible refine x_kLst ?_ ?_); (walk_at "sz"); (intro _ _ _ _ _))
  | with_reducible refine x_fld ?_ | ((with_reducible apply x_fS); assumption; (walk_at "hp")) | ((with_reducible apply x_fC); assumption; (walk_at "hp"))
  | with_reducible refine x_cb ?_ | with_reducible refine x_call ?_ | with_reducible refine x_callE ?_ | with_reducible refine x_bm ?_ | with_reducible refine x_cv ?_
  | with_reducible refine x_meth ?_ | with_reducible refine x_cm ?_ | with_reducible refine x_kCM ?_ | with_reducible refine x_mk ?_ | with_reducible refine x_kMk ?_
  | with_reducible refine x_np ?_ | with_reducible refine x_part ?_ | with_reducible refine x_kPart ?_ | with_reducible refine x_sl ?_ | with_reducible refine x_rev ?_
  | with_reducible refine x_addI ?_ | ((with_reducible refine x_addS ?_ ?_); (walk_at "sz")) | with_reducible refine x_I0 ?_
  | with_reducible refine x_eqS ?_ | with_reducible refine x_eqI ?_ | with_reducible refine x_eqB ?_ | with_reducible refine x_neS ?_ | with_reducible refine x_neI ?_ | with_reducible refine x_neB ?_
  | with_reducible refine x_eqFS ?_ | with_reducible refine x_eqFI ?_
  | with_reducible refine x_ltI ?_ | with_reducible refine x_ltS ?_ | with_reducible refine x_leI ?_ | with_reducible refine x_leS ?_ | with_reducible refine x_inT ?_ | with_reducible refine x_notInT ?_
  | ((with_reducible refine x_slS ?_ ?_); (walk_at "sz")) | ((with_reducible refine x_kRev ?_ ?_); (walk_at "sz"))
  | ((with_reducible refine x_lenS ?_ ?_); (walk_at "sz")) | ((with_reducible apply x_lenT); (walk_at "hp"))
  | ((with_reducible apply x_ixT); (walk_at "hp"); exact rfl)
  | with_reducible refine x_abs ?_ | with_reducible refine x_int ?_ | with_reducible refine x_strS ?_
  | ((with_reducible apply x_isB); (first | exact kit_ty (r := true) (by decide +kernel) | exact kit_ty (r := false) (by decide +kernel))) | ((with_reducible apply x_isI); (first | exact kit_ty (r := true) (by decide +kernel) | exact kit_ty (r := false) (by decide +kernel))) | ((with_reducible apply x_isS); (first | exact kit_ty (r := true) (by decide +kernel) | exact kit_ty (r := false) (by decide +kernel)))
  | ((with_reducible apply x_isT); (walk_at "hp"); (first | exact kit_ty (r := true) (by decide +kernel) | exact kit_ty (r := false) (by decide +kernel)))
  | ((with_reducible apply x_isText); assumption; (walk_at "hp")) | ((with_reducible apply x_isTextS); assumption) | ((with_reducible apply x_isTextI); assumption) | ((with_reducible apply x_isTextN); assumption) | ((with_reducible apply x_kCVT); assumption)
  | ((with_reducible apply x_addL); (walk_at "hp"); (walk_at "hp"); (walk_at "sz"); (intro _ _ _ _ _)) | ((with_reducible apply x_tyL); (walk_at "hp")) | with_reducible refine x_tyS ?_
  | with_reducible refine x_joined ?_ | with_reducible refine x_js ?_ | with_reducible refine x_js0 ?_ | ((with_reducible refine x_kJs ?_ ?_); (walk_at "sz")) | with_reducible refine x_fmt ?_ | ((with_reducible refine x_fmtS ?_ ?_); (walk_at "sz")) | ((with_reducible refine x_fmtI ?_ ?_); omega)
  | with_reducible refine x_rse ?_ | with_reducible refine x_ex ?_ | with_reducible refine x_ex0 ?_ | with_reducible refine x_xf ?_
  | with_reducible refine x_for ?_ | with_reducible refine x_r1 ?_ | with_reducible refine x_r2 ?_ | with_reducible refine x_il ?_ | with_reducible refine x_en ?_ | with_reducible refine x_lc ?_ | with_reducible refine x_next ?_ | dsimp only)
local macro_rules | `(tactic| walk_at "xs") => `(tactic| repeat walk_at "x")
local macro_rules | `(tactic| walk_at "ev0") => `(tactic| (refine ev_run ?_; intro _ _ _ q; walk_at "xs"; refine q _ ?_; walk_at "le"))
local macro_rules | `(tactic| walk_at "ch") => `(tactic| (intro _ _ _ q; walk_at "xs"; refine q _ ?_; walk_at "le"))
local macro_rules | `(tactic| walk_at "ev") => `(tactic| first
  | (focus ((with_reducible refine ev_andV ?_ (fun _ => ?_)); (all_goals walk_at "ev"))) | (focus ((with_reducible refine ev_orV ?_ (fun _ => ?_)); (all_goals walk_at "ev")))
  | ((with_reducible refine ev_notV ?_); walk_at "ev")
  | (focus ((with_reducible apply ev_chain); (focus walk_at "ch"); (focus walk_at "ch"); (focus walk_at "ch"); (focus (intro _ _ _ q; walk_at "x"; exact q)); (focus (intro _ _ _ q; walk_at "x"; exact q))))
  | walk_at "ev0" | skip)
local macro_rules | `(tactic| walk_at "et") => `(tactic| first
  | (focus ((with_reducible refine et_and ?_ (fun _ => ?_)); (all_goals walk_at "et"))) | (focus ((with_reducible refine et_or ?_ (fun _ => ?_)); (all_goals walk_at "et")))
  | ((with_reducible refine et_not ?_); walk_at "et") | ((with_reducible refine et_B ?_); walk_at "ev") | ((with_reducible refine et_T ?_); walk_at "ev"))
local macro_rules | `(tactic| walk_at "x") => `(tactic| first | ((with_reducible refine c_whole ?_); (intro _ _)) | ((with_reducible refine c_is_sign ?_ ?_); (walk_at "sz"); (intro _ _)) | ((with_reducible refine c_refused ?_ ?_); (walk_at "hp"); (intro _ _)) | ((with_reducible refine c_is_text ?_ ?_ ?_); (walk_at "hp"); assumption; (intro _ _)))
/-! ### list(text), compared -/
theorem dpAll_sgns {K : PySem.W.Frag} {H : Hp} : ∀ l : List Nat, DpAll K H (l.map fun c => V.str ⟨#[c]⟩) (l.map fun c => PyData.str ⟨#[c]⟩)
  | [] => .nil
  | c :: r => .cons (.str _) (dpAll_sgns r)
theorem canLay_sgns : ∀ l : List Nat, (∀ c ∈ l, sgOk c = true) → PyData.canLayAll0 (l.map fun c => PyData.str ⟨#[c]⟩) = true
  | [], _ => rfl
  | c :: r, h => by
    have h1 := h c List.mem_cons_self
    have h2 := canLay_sgns r fun x hx => h x (List.mem_cons_of_mem _ hx)
    show (PyData.canLay0 (.str ⟨#[c]⟩) && PyData.canLayAll0 (r.map fun c => PyData.str ⟨#[c]⟩)) = true
    rw [h2, Bool.and_true]
    show (#[c] : Array Nat).all (· < 0x110000) = true
    unfold sgOk at h1
    simp at h1 ⊢
    omega
theorem depth_sgns : ∀ l : List Nat, PyData.depthAll (l.map fun c => PyData.str ⟨#[c]⟩) = 0
  | [] => rfl
  | c :: r => by
    show max 0 (PyData.depthAll (r.map fun c => PyData.str ⟨#[c]⟩)) = 0
    rw [depth_sgns r]
    rfl
theorem canLay_list {z : Str} (h : bad z = none) : PyData.canLay0 (.list (z.cps.toList.map fun c => PyData.str ⟨#[c]⟩)) = true := canLay_sgns _ (bad_l.mp h)
theorem shaped_list {z : Str} (h : bad z = none) : SeqAt.shaped (.list (z.cps.toList.map fun c => PyData.str ⟨#[c]⟩)) = true := by
  unfold SeqAt.shaped
  rw [canLay_list h, Bool.true_and]
  apply decide_eq_true
  show PyData.depthAll (z.cps.toList.map fun c => PyData.str ⟨#[c]⟩) + 1 ≤ 64
  rw [depth_sgns]
  decide
theorem x_neSgns {K : PySem.W.Frag} {H : Hp} {Q : VK} {p q : Addr} {z : Str} (hb : bad z = none) (h1 : H p = some (.lst (sgns z))) (h2 : H q = some (.lst (sgns z))) (k : Q (.bl false) H) : rNeU K (.ref p) (.ref q) H Q := by
  refine x_neD (d := .list (z.cps.toList.map fun c => PyData.str ⟨#[c]⟩)) (e := .list (z.cps.toList.map fun c => PyData.str ⟨#[c]⟩)) (.lst (sql h1) (dpAll_sgns _)) (.lst (sql h2) (dpAll_sgns _)) (shaped_list hb) (shaped_list hb) ?_
  rw [show PyData.eqv (.list (z.cps.toList.map fun c => PyData.str ⟨#[c]⟩)) (.list (z.cps.toList.map fun c => PyData.str ⟨#[c]⟩)) = true from by
    exact PySem.SeqAt.eqv_refl _ (canLay_list hb)]
  exact k
theorem x_listText {a : Ad} {H : Hp} {Q : VK} {p : Addr} {z : Str} {c : Bool} (ht : TextAt a H p z c) (hz : Sm z) (hb : bad z = none) (q : ∀ l H1, Le H H1 → H1 l = some (.lst (sgns z)) → Q (.ref l) H1) :
    rListO a.cText (sp_Text___iter__ a) (sp_Text___len__ a) [.ref p] H Q := by
  obtain ⟨dx, hp⟩ := id ht
  have hz2 : z.length ≤ 1000 := hz
  refine ⟨p, dx, _, rfl, hp, fun l hl => ?_⟩
  have e1 : Le H (upd H l (.lst [])) := Le.new hl
  refine ⟨p, z, c, rfl, hz, hb, ht.le e1, fun it hit => ?_⟩
  have e2 := Le.new (o := strIt it z 0) hit
  have hli : l ≠ it := fun q => by rw [q, upd_same] at hit; cases hit
  refine ⟨it, z, rfl, by rw [sizeLine_eq]; show z.length ≤ _; omega, e2.keep upd_same, upd_same, ⟨_, _, (e1.trans e2).keep hp⟩, ?_⟩
  refine ⟨p, z, c, rfl, hz, (ht.le e1).le e2, fun H2 e3 => ⟨(z.length : Nat), rfl, ⟨by omega, by rw [sizeLine_eq]; omega⟩, (e2.trans e3).keep upd_same, e3.keep upd_same, fun H3 h3 h4 => ?_⟩⟩
  have hitH : H it = none := by rwa [upd_ne (Ne.symm hli)] at hit
  refine q l H3 ⟨fun b o hbo => ?_, fun b hbn => ?_⟩ h4
  · have n1 : b ≠ l := ne_of_none hbo hl
    have n2 : b ≠ it := ne_of_none hbo hitH
    rw [h3 b n1 n2]
    exact ((e1.trans e2).trans e3).keep hbo
  · by_cases n1 : b = l
    · rw [n1]; exact hl
    · by_cases n2 : b = it
      · rw [n2]; exact hitH
      · rw [h3 b n1 n2] at hbn
        exact ((e1.trans e2).trans e3).fr b hbn
theorem strOf_t (z : Str) : strOf z true = ("(" ++ z) ++ ")" := by
  unfold strOf
  rw [if_pos rfl]
  apply str_ext
  rw [app_l, app_l, app_l, app_l, app_l]
  rfl
theorem ok__law_is_text {P : Program} {w : World} {K : PySem.W.Frag} {mg : Str → Option Value} {base : Heap} {a : Ad} {f : Addr} {fd : FuncData} (F : FnP K "_law_is_text" "_law_is_text" s__law_is_text f fd) (T : Txt K mg a) (G__law_equal : FnG P w K mg base 2 "_law_equal" (sp__law_equal a)) (Ct_Text_1_closed : CtG P w K mg base 4 a.cText 1 ["closed"] (spCt_Text_1_closed a)) (O_Text___str__ : OpG P w K mg base 1 a.cText "__str__" (sp_Text___str__ a)) (O_Text___len__ : OpG P w K mg base 1 a.cText "__len__" (sp_Text___len__ a)) (O_Text___iter__ : OpG P w K mg base 1 a.cText "__iter__" (sp_Text___iter__ a)) :
    FnOk P w K mg base (L2.CX P w) 6 f fd ["_law_told", "_law_shown", "_law_closed"] (sp__law_is_text a) := by
  refine F.ok sc__law_is_text (fun vs H Q E h => by obtain ⟨p, z, c, rfl, hg, ht, q⟩ := h; rfl) (fun cdv A outer s H vs Q E hr h => ?_)
  refine ⟨_, (pss_cons (ps_if (PW.pt (pw_or (pt_not (pt_val (pe_callB call_isi (by rfl) T.f_isinstance (by decide +kernel) (pa_cons (pv 0) (pa_cons (pe_glob (v := .ref a.cText) rfl T.g_Text rfl) pa_nil))))) (pw_or1 (pt_not (pt_val (pe_callB call_isi (by rfl) T.f_isinstance (by decide +kernel) (pa_cons (pe_fld (pv 0) rfl) (pa_cons (pe_bltn (v := .ty "str") (by rfl) T.f_str (by decide +kernel) rfl) pa_nil)))))))) (pss_one (ps_ret pe_bl)) pss_nil)
    (pss_cons (ps_if (PW.pt (pw_or (pt_not (pt_val (pe_callB call_isi (by rfl) T.f_isinstance (by decide +kernel) (pa_cons (pe_fld (pv 0) rfl) (pa_cons (pe_bltn (v := .ty "bool") (by rfl) T.f_bool (by decide +kernel) rfl) pa_nil))))) (pw_or (pt_cmpR (op_neU hr) (pe_fld (pv 0) rfl) (pv 2) (nomark _)) (pw_or1 (pt_cmpR (op_neU hr) (pe_fld (pv 0) rfl) (pv 1) (nomark _)))))) (pss_one (ps_ret pe_bl)) pss_nil)
    (pss_cons (ps_if (PW.pt (pw_or (pt_cmpR (op_neU hr) (pe_callB (call_lenG O_Text___len__ (hr.mono (by decide))) (by rfl) T.f_len (by decide +kernel) (pa_cons (pv 0) pa_nil)) (pe_callB call_lenU (by rfl) T.f_len (by decide +kernel) (pa_cons (pv 1) pa_nil)) (nomark _)) (pw_or1 (pt_cmpR (op_neU hr) (pe_callTy (call_listG O_Text___iter__ O_Text___len__ rfl (hr.mono (by decide))) (by rfl) T.f_list (by decide +kernel) (pa_cons (pv 0) pa_nil)) (pe_callTy (call_listU rfl) (by rfl) T.f_list (by decide +kernel) (pa_cons (pv 1) pa_nil)) (nomark _))))) (pss_one (ps_ret pe_bl)) pss_nil)
    (pss_cons (ps_set (i := 3) sc__law_is_text.nd rfl (Or.inl rfl) (pe_callTy (call_strG O_Text___str__ (hr.mono (by decide))) (by rfl) T.f_str (by decide +kernel) (pa_cons (pv 0) pa_nil)))
    (pss_cons (ps_if (PW.pt (pw_or (PW.pt (pw_and (pt_val (pv 2)) (pw_and1 (pt_cmpR (op_neU hr) (pv 3) (pe_op op_addU (pe_op op_addU pe_str (pv 1)) pe_str) (nomark _))))) (pw_or1 (PW.pt (pw_and (pt_not (pt_val (pv 2))) (pw_and1 (pt_cmpR (op_neU hr) (pv 3) (pv 1) (nomark _)))))))) (pss_one (ps_ret pe_bl)) pss_nil)
    (pss_one (ps_ret (pe_callG G__law_equal (hr.mono (by decide)) passN rfl (pa_cons (pv 0) (pa_cons (pe_mkG Ct_Text_1_closed (hr.mono (by decide)) (passW (takes_of rfl rfl rfl rfl)) (pe_glob (v := .ref a.cText) rfl T.g_Text rfl) (pa_cons (pv 1) pa_nil) (pk_cons (pv 2) pk_nil)) (pa_cons pe_bl pa_nil))))))))))), ?_⟩
  obtain ⟨p, z, c, rfl, hg, ht, q⟩ := h
  have hz2 : z.length ≤ 120 := hg.2.1
  have l1 : ("(" : Str).length = 1 := by decide +kernel
  have l2 : (")" : Str).length = 1 := by decide +kernel
  walk_at "xs"
  refine x_no (et_is (b := !true || !true) (by walk_at "et") rfl) fun H1 e1 => ?_
  walk_at "xs"
  refine x_no (et_is (b := !true || (!(c == c) || !decide (z = z))) (by walk_at "et") (by simp)) fun H2 e2 => ?_
  walk_at "xs"
  refine x_no (et_is (b := !decide ((z.length : Int) = z.length) || false) (et_or (et_T (ev_run fun H3 e3 Q3 q3 => ?_)) (fun _ => et_T (ev_run fun H3 e3 Q3 q3 => ?_))) (by simp)) fun H3 e3 => ?_
  · walk_at "xs"
    obtain ⟨dx, hp⟩ := ht.le ((e1.trans e2).trans e3)
    refine x_lenO hp ⟨p, z, c, rfl, by show z.length ≤ 1000; omega, ⟨dx, hp⟩, fun H4 e4 => ⟨_, rfl, by omega, ?_⟩⟩
    walk_at "xs"
    exact q3 _ e4
  · walk_at "xs"
    refine x_listText (ht.le ((e1.trans e2).trans e3)) (by show z.length ≤ 1000; omega) hg.1 fun l H4 e4 hl => ?_
    walk_at "xs"
    refine x_listS (by show z.length ≤ _; omega) fun l2 H5 e5n e5 hl2 => ?_
    refine x_neSgns hg.1 (e5.keep hl) hl2 ?_
    exact q3 _ (e4.trans e5)
  · walk_at "xs"
    obtain ⟨dx, hp⟩ := ht.le ((e1.trans e2).trans e3)
    refine x_strO hp ⟨p, z, c, rfl, by show z.length ≤ 1000; omega, ⟨dx, hp⟩, fun H4 e4 => ⟨_, rfl, ?_⟩⟩
    walk_at "xs"
    refine x_no (et_is (b := (c && !decide (strOf z c = ("(" ++ z) ++ ")")) || (!c && !decide (strOf z c = z))) (by walk_at "et") ?_) fun H5 e5 => ?_
    · cases c with
      | true => rw [strOf_t]; simp
      | false => rw [show strOf z false = z from if_neg (by decide)]; simp
    · walk_at "xs"
      refine ⟨_, _, ⟨rfl, rfl⟩, by show z.length ≤ 1000; omega, meets_good hg fun p6 H6 e6 h6 => ?_⟩
      walk_at "xs"
      exact ⟨p, z, c, _, true, rfl, by walk_at "hp", .inl ⟨p6, z, c, rfl, h6, by simp⟩, fun H7 e7 => q _ (by walk_at "le")⟩
/-! ### what is made -/
def newAns (way : Int) (z : Str) (c : Bool) : Ans := if way = 3 then aRead z else mk z c
def ToldAt (a : Ad) (H : Hp) (p : Addr) (r : Ans) : Prop := match r with
  | .exn k i => H p = some (.tup [.str k.nm, .int i, .bl true])
  | r => ∃ v, H p = some (.tup [.str "good", v, .bl true]) ∧ Tells a r v H
def sp__law_new (a : Ad) : Sp := fun vs H Q E => ∃ way z c, vs = [.int way, .str z, .bl c] ∧ Sm z ∧ (0 ≤ way ∧ way ≤ 3) ∧ ∀ p H', Le H H' → ToldAt a H' p (newAns way z c) → Q (.ref p) H'
theorem mk_kinds {z : Str} {c : Bool} {k : ExK} {i : Int} (h : mk z c = .exn k i) : k = .sign ∨ k = .size := by
  unfold mk at h
  cases hb : bad z with
  | some j => rw [hb] at h; cases h; exact .inl rfl
  | none =>
    rw [hb] at h
    dsimp only at h
    by_cases q : z.length > 120 ∨ (c = true ∧ z = "")
    · rw [if_pos q] at h; cases h; exact .inr rfl
    · rw [if_neg q] at h; cases h
theorem new_kinds {way : Int} {z : Str} {c : Bool} {k : ExK} {i : Int} (h : newAns way z c = .exn k i) : k = .sign ∨ k = .size := by
  unfold newAns aRead at h
  split at h
  · split at h <;> exact mk_kinds h
  · exact mk_kinds h
theorem x_tryC {K : PySem.W.Frag} {Wout : WX} {l : List Cl} {tb : WX → TS} {D : Ends} {σ : L2.St} {H : Hp} (C : WX → Prop) (hW : C (wAsL K Wout D l)) (h : ∀ W, C W → tb W D σ H) : tTryAs K Wout l tb D σ H := h _ hW
theorem lk1 {f : Str} {v : V} : List.lookup f [(f, v)] = some v := by
  have e : (f == f) = true := beq_self_eq_true f
  simp only [List.lookup, e]
theorem c_pure {a : Ad} {e : Addr} {k : ExK} {i : Int} {d : Option Addr} {H : Hp} {Q : VK} {E : XK} (hx : ExcIs a k i (.ref (a.x k)) d H) (q : ∀ H', Le H H' → Q (.bl true) H') : sE__law_pure a e (.ref (a.x k)) d [.ref e] H Q E := ⟨rfl, ⟨k, i, hx⟩, q⟩
theorem ExcIs.le {a : Ad} {k : ExK} {i : Int} {c : Value} {d : Option Addr} {H H' : Hp} (e : Le H H') (h : ExcIs a k i c d H) : ExcIs a k i c d H' := by
  obtain ⟨h1, h2⟩ := h
  refine ⟨h1, ?_⟩
  cases k <;> first | (obtain ⟨dd, h3, h4⟩ := h2; exact ⟨dd, h3, e.keep h4⟩) | exact h2
/-- the good end of a call's tuple -/
theorem told_good {a : Ad} {H : Hp} {p : Addr} {r : Ans} {v : V} (h : H p = some (.tup [.str "good", v, .bl true])) (t : Tells a r v H) : ToldAt a H p r := by
  cases r with
  | exn k i => exact t.elim
  | _ => exact ⟨v, h, t⟩
theorem Tells.le {a : Ad} {H H' : Hp} {r : Ans} {v : V} (e : Le H H') (t : Tells a r v H) : Tells a r v H' := by
  cases r with
  | exn k i => exact t.elim
  | val x => exact t
  | txt z c =>
    obtain ⟨p, h1, h2⟩ := t
    exact ⟨p, h1, h2.le e⟩
  | two z w =>
    obtain ⟨p, x, y, h1, h2, h3, h4⟩ := t
    exact ⟨p, x, y, h1, e.keep h2, h3.le e, h4.le e⟩
theorem ok__law_new {P : Program} {w : World} {K : PySem.W.Frag} {mg : Str → Option Value} {base : Heap} {a : Ad} {f : Addr} {fd : FuncData} (F : FnP K "_law_new" "_law_new" s__law_new f fd) (T : Txt K mg a) (C_Text_read : CmG P w K mg base 6 a.cText "read" (sp_Text_read a)) (Ct_Text_0_signs : CtG P w K mg base 4 a.cText 0 ["signs"] (spCt_Text_0_signs a)) (Ct_Text_0_closed_signs : CtG P w K mg base 4 a.cText 0 ["closed", "signs"] (spCt_Text_0_closed_signs a)) (C_Text_row : CmG P w K mg base 6 a.cText "row" (sp_Text_row a)) (C_Text_loop : CmG P w K mg base 6 a.cText "loop" (sp_Text_loop a)) (Ct_Text_1_closed : CtG P w K mg base 4 a.cText 1 ["closed"] (spCt_Text_1_closed a)) (E__law_pure : FnEG P w K mg base 1 "_law_pure" (sE__law_pure a)) :
    FnOk P w K mg base (L2.CX P w) 7 f fd ["_law_way", "_law_shown", "_law_closed"] (sp__law_new a) := by
  refine F.ok sc__law_new (fun vs H Q E h => by obtain ⟨way, z, c, rfl, hz, hw, q⟩ := h; rfl) (fun cdv A outer s H vs Q E hr h => ?_)
  refine ⟨_, (pss_one (ps_try_asL rfl rfl sc__law_new.nd (takes_of rfl rfl rfl rfl) (fun W pn xe tk po => (pss_cons (ps_if (pt_cmpR (op_eqUk K rfl hr) (pv 0) pe_int (nomark _)) (pss_one (ps_ret (pe_tup (pa_cons pe_str (pa_cons (pe_mkG Ct_Text_1_closed (hr.mono (by decide)) (passW tk) (pe_glob (v := .ref a.cText) rfl T.g_Text rfl) (pa_cons (pv 1) pa_nil) (pk_cons (pv 2) pk_nil)) (pa_cons pe_bl pa_nil)))))) pss_nil)
    (pss_cons (ps_if (PW.pt (pw_and (pt_cmpR (op_eqUk K rfl hr) (pv 0) pe_int (nomark _)) (pw_and1 (pt_val (pv 2))))) (pss_one (ps_ret (pe_tup (pa_cons pe_str (pa_cons (pe_cmethG C_Text_loop (hr.mono (by decide)) (passW tk) (pe_glob (v := .ref a.cText) rfl T.g_Text rfl) (pa_cons (pv 1) pa_nil)) (pa_cons pe_bl pa_nil)))))) pss_nil)
    (pss_cons (ps_if (pt_cmpR (op_eqUk K rfl hr) (pv 0) pe_int (nomark _)) (pss_one (ps_ret (pe_tup (pa_cons pe_str (pa_cons (pe_cmethG C_Text_row (hr.mono (by decide)) (passW tk) (pe_glob (v := .ref a.cText) rfl T.g_Text rfl) (pa_cons (pv 1) pa_nil)) (pa_cons pe_bl pa_nil)))))) pss_nil)
    (pss_cons (ps_if (PW.pt (pw_and (pt_cmpR (op_eqUk K rfl hr) (pv 0) pe_int (nomark _)) (pw_and1 (pt_val (pv 2))))) (pss_one (ps_ret (pe_tup (pa_cons pe_str (pa_cons (pe_mkG0 Ct_Text_0_closed_signs (hr.mono (by decide)) (passW tk) (pe_glob (v := .ref a.cText) rfl T.g_Text rfl) (pk_cons pe_bl (pk_cons (pv 1) pk_nil))) (pa_cons pe_bl pa_nil)))))) pss_nil)
    (pss_cons (ps_if (pt_cmpR (op_eqUk K rfl hr) (pv 0) pe_int (nomark _)) (pss_one (ps_ret (pe_tup (pa_cons pe_str (pa_cons (pe_mkG0 Ct_Text_0_signs (hr.mono (by decide)) (passW tk) (pe_glob (v := .ref a.cText) rfl T.g_Text rfl) (pk_cons (pv 1) pk_nil)) (pa_cons pe_bl pa_nil)))))) pss_nil)
    (pss_one (ps_ret (pe_tup (pa_cons pe_str (pa_cons (pe_cmethG C_Text_read (hr.mono (by decide)) (passW tk) (pe_glob (v := .ref a.cText) rfl T.g_Text rfl) (pa_cons (pv 1) pa_nil)) (pa_cons pe_bl pa_nil)))))))))))) (.cons (i := 3) ⟨rfl, by decide, .inl T.g_BadSign⟩ rfl rfl (fun a0 oe cls d pn hz hf => (pss_one (ps_ret (pe_tup (pa_cons pe_str (pa_cons (pe_xf (T.xf .sign) (T.nf .sign) hz hf (pv 3)) (pa_cons (pe_callEG E__law_pure ((roomS hr).mono (by decide)) hz hf (by rfl) (pa_cons (pv 3) pa_nil)) pa_nil))))))) (.cons (i := 3) ⟨rfl, by decide, .inl T.g_BadText⟩ rfl rfl (fun a0 oe cls d pn hz hf => (pss_one (ps_ret (pe_tup (pa_cons pe_str (pa_cons (pe_xf (T.xf .size) (T.nf .size) hz hf (pv 3)) (pa_cons (pe_callEG E__law_pure ((roomS hr).mono (by decide)) hz hf (by rfl) (pa_cons (pv 3) pa_nil)) pa_nil))))))) .nil)))), ?_⟩
  obtain ⟨way, z, c, rfl, hz, hw, q⟩ := h
  have hz2 : z.length ≤ 1000 := hz
  refine x_tryC (fun W => ∀ k i cls d H', newAns way z c = .exn k i → Le H H' → ExcIs a k i cls d H' → W cls d (L2.start ["_law_way", "_law_shown", "_law_closed", "_law_e"] [V.int way, V.str z, V.bl c]) H') ?_ fun W hW => ?_
  · intro k i cls d H' hk le hx
    obtain ⟨rfl, hx2⟩ := id hx
    rcases new_kinds hk with rfl | rfl
    · obtain ⟨dd, rfl, hdd⟩ := hx2
      refine ⟨true, T.exm .sign .sign, fun _ a0 ha => ?_, fun q => nomatch q⟩
      walk_at "xs"
      refine x_kXf (C := a.x .sign) hdd lk1 ?_
      walk_at "xs"
      refine c_pure hx fun H1 e1 => ?_
      walk_at "xs"
      rename_i p5 H5 e5n e5 hp5
      refine q _ _ (by walk_at "le") ?_
      rw [hk]; exact hp5
    · obtain ⟨dd, rfl, hdd⟩ := hx2
      refine ⟨false, T.exm .size .sign, (fun q => nomatch q), fun _ => ⟨true, T.exm .size .size, fun _ a0 ha => ?_, fun q => nomatch q⟩⟩
      walk_at "xs"
      refine x_kXf (C := a.x .size) hdd lk1 ?_
      walk_at "xs"
      refine c_pure hx fun H1 e1 => ?_
      walk_at "xs"
      rename_i p5 H5 e5n e5 hp5
      refine q _ _ (by walk_at "le") ?_
      rw [hk]; exact hp5
  · have fin : ∀ {H1 : Hp} {Q1 : VK} {r : Ans}, newAns way z c = r → Le H H1 → (∀ v H2, Le H1 H2 → Tells a r v H2 → Q1 v H2) → Meets a r H1 Q1 (WE W (L2.start ["_law_way", "_law_shown", "_law_closed", "_law_e"] [V.int way, V.str z, V.bl c])) := by
      intro H1 Q1 r hr le h
      exact ⟨h, fun k i hk cls d H2 e2 hx => hW k i cls d H2 (hr.trans hk) (le.trans e2) hx⟩
    walk_at "xs"
    refine x_if (b := decide (way = 0)) (by walk_at "et") (fun hb1 H1 e1 => ?_) (fun hb1 H1 e1 => ?_)
    · have hr : newAns way z c = mk z c := if_neg (by have := of_decide_eq_true hb1; omega)
      walk_at "xs"
      refine ⟨_, _, ⟨rfl, rfl⟩, hz, fin hr (by walk_at "le") fun v H2 e2 t2 => ?_⟩
      walk_at "xs"
      rename_i p5 H5 e5n e5 hp5
      exact q _ _ (by walk_at "le") (by rw [hr]; exact told_good hp5 (t2.le e5))
    · walk_at "xs"
      refine x_if (b := decide (way = 1) && c) (by walk_at "et") (fun hb2 H2 e2 => ?_) (fun hb2 H2 e2 => ?_)
      · simp only [Bool.and_eq_true, decide_eq_true_eq] at hb2
        have hr : newAns way z c = mk z true := by unfold newAns; rw [if_neg (by omega), hb2.2]
        walk_at "xs"
        refine ⟨_, rfl, hz, fin hr (by walk_at "le") fun v H3 e3 t3 => ?_⟩
        walk_at "xs"
        rename_i p5 H5 e5n e5 hp5
        exact q _ _ (by walk_at "le") (by rw [hr]; exact told_good hp5 (t3.le e5))
      · walk_at "xs"
        refine x_if (b := decide (way = 1)) (by walk_at "et") (fun hb3 H3 e3 => ?_) (fun hb3 H3 e3 => ?_)
        · have h3 := of_decide_eq_true hb3
          have hc : c = false := by rw [hb3] at hb2; simpa using hb2
          have hr : newAns way z c = mk z false := by unfold newAns; rw [if_neg (by omega), hc]
          walk_at "xs"
          refine ⟨_, rfl, hz, fin hr (by walk_at "le") fun v H4 e4 t4 => ?_⟩
          walk_at "xs"
          rename_i p5 H5 e5n e5 hp5
          exact q _ _ (by walk_at "le") (by rw [hr]; exact told_good hp5 (t4.le e5))
        · walk_at "xs"
          refine x_if (b := decide (way = 2) && c) (by walk_at "et") (fun hb4 H4 e4 => ?_) (fun hb4 H4 e4 => ?_)
          · simp only [Bool.and_eq_true, decide_eq_true_eq] at hb4
            have hr : newAns way z c = mk z true := by unfold newAns; rw [if_neg (by omega), hb4.2]
            walk_at "xs"
            refine ⟨_, _, ⟨rfl, rfl⟩, hz, fin hr (by walk_at "le") fun v H5 e5 t5 => ?_⟩
            walk_at "xs"
            rename_i p5 H6 e6n e6 hp5
            exact q _ _ (by walk_at "le") (by rw [hr]; exact told_good hp5 (t5.le e6))
          · walk_at "xs"
            refine x_if (b := decide (way = 2)) (by walk_at "et") (fun hb5 H5 e5 => ?_) (fun hb5 H5 e5 => ?_)
            · have h5 := of_decide_eq_true hb5
              have hc : c = false := by rw [hb5] at hb4; simpa using hb4
              have hr : newAns way z c = mk z false := by unfold newAns; rw [if_neg (by omega), hc]
              walk_at "xs"
              refine ⟨_, ⟨rfl, rfl⟩, hz, fin hr (by walk_at "le") fun v H6 e6 t6 => ?_⟩
              walk_at "xs"
              rename_i p5 H7 e7n e7 hp5
              exact q _ _ (by walk_at "le") (by rw [hr]; exact told_good hp5 (t6.le e7))
            · have h0 := of_decide_eq_false hb1
              have h1 := of_decide_eq_false hb3
              have h2 := of_decide_eq_false hb5
              have hr : newAns way z c = aRead z := if_pos (by omega)
              walk_at "xs"
              refine ⟨_, rfl, hz, fin hr (by walk_at "le") fun v H6 e6 t6 => ?_⟩
              walk_at "xs"
              rename_i p5 H7 e7n e7 hp5
              exact q _ _ (by walk_at "le") (by rw [hr]; exact told_good hp5 (t6.le e7))
end K2
set_option maxHeartbeats 4000000
/-! K2H: the law's checks of what is made and done -/
namespace K2
open PySem PySem.Spec PyProof.Rows L2 MC
local macro_rules | `(tactic| walk_at "hp") => `(tactic| first | assumption | (apply Le.keep; assumption; walk_at "hp") | (apply TextAt.le; assumption; walk_at "hp") | (apply Lw.keep; assumption; walk_at "hp"; first | rfl | exact sh_str _ | exact sh_ints _ | exact sh_sgns _) | (apply TextAt.lw; assumption; walk_at "hp"))
local macro_rules | `(tactic| walk_at "le") => `(tactic| first | exact Le.refl _ | assumption | (apply Le.trans'; assumption; walk_at "le"))
local macro_rules | `(tactic| walk_at "lw") => `(tactic| first | exact Lw.refl _ | assumption | exact Le.w (by assumption) | (apply Lw.trans'; (first | assumption | exact Le.w (by assumption)); walk_at "lw"))
local macro_rules | `(tactic| walk_at "sz") => `(tactic| first | omega | (simp only [slen_app]; omega) | (simp only [List.length_cons, List.length_nil, List.length_map, List.length_range]; omega) | omega | (simp; omega) | decide)
local macro_rules | `(tactic| walk_at "x") => `(tactic| first
  | with_reducible refine x_seq ?_ | with_reducible refine x_asg ?_ | with_reducible refine x_ret ?_ | with_reducible refine x_drop ?_
  | ((with_reducible apply x_var); exact rfl) | with_reducible refine x_c ?_ | with_reducible refine x_op ?_ | with_reducible refine x_opS ?_ | with_reducible refine x_un ?_ | with_reducible refine x_neg ?_
  | with_reducible refine x_test ?_ | with_reducible refine x_tB ?_ | with_reducible refine x_kB ?_
  | with_reducible refine x_nil ?_ | with_reducible refine x_cons ?_ | with_reducible refine x_tup ?_ | with_reducible refine x_lst ?_
  | ((with_reducible refine x_kTup ?_ ?_); (walk_at "sz"); (intro _ _ _ _ _)) | ((with_reducible refine x_kLst ?_ ?_); (walk_at "sz"); (intro _ _ _ _ _))
  | with_reducible refine x_fld ?_ | ((with_reducible apply x_fS); assumption; (walk_at "hp")) | ((with_reducible apply x_fC); assumption; (walk_at "hp"))
  | with_reducible refine x_cb ?_ | with_reducible refine x_call ?_ | with_reducible refine x_callE ?_ | with_reducible refine x_bm ?_ | with_reducible refine x_cv ?_
  | with_reducible refine x_meth ?_ | with_reducible refine x_cm ?_ | with_reducible refine x_kCM ?_ | with_reducible refine x_mk ?_ | with_reducible refine x_kMk ?_
  | with_reducible refine x_np ?_ | with_reducible refine x_part ?_ | with_reducible refine x_kPart ?_ | with_reducible refine x_sl ?_ | with_reducible refine x_rev ?_
  | with_reducible refine x_addI ?_ | ((with_reducible refine x_addS ?_ ?_); (walk_at "sz")) | with_reducible refine x_I0 ?_
  | with_reducible refine x_eqS ?_ | with_reducible refine x_eqI ?_ | with_reducible refine x_eqB ?_ | with_reducible refine x_neS ?_ | with_reducible refine x_neI ?_ | with_reducible refine x_neB ?_
  | with_reducible refine x_eqFS ?_ | with_reducible refine x_eqFI ?_
  | with_reducible refine x_ltI ?_ | with_reducible refine x_ltS ?_ | with_reducible refine x_leI ?_ | with_reducible refine x_leS ?_ | with_reducible refine x_inT ?_ | with_reducible refine x_notInT ?_
  | ((with_reducible refine x_slS ?_ ?_); (walk_at "sz")) | ((with_reducible refine x_kRev ?_ ?_); (walk_at "sz"))
  | ((with_reducible refine x_lenS ?_ ?_); (walk_at "sz")) | ((with_reducible apply x_lenT); (walk_at "hp"))
  | ((with_reducible apply x_ixT); (walk_at "hp"); exact rfl)
  | with_reducible refine x_abs ?_ | with_reducible refine x_int ?_ | with_reducible refine x_strS ?_
  | ((with_reducible apply x_isB); (first | exact kit_ty (r := true) (by decide +kernel) | exact kit_ty (r := false) (by decide +kernel))) | ((with_reducible apply x_isI); (first | exact kit_ty (r := true) (by decide +kernel) | exact kit_ty (r := false) (by decide +kernel))) | ((with_reducible apply x_isS); (first | exact kit_ty (r := true) (by decide +kernel) | exact kit_ty (r := false) (by decide +kernel)))
  | ((with_reducible apply x_isT); (walk_at "hp"); (first | exact kit_ty (r := true) (by decide +kernel) | exact kit_ty (r := false) (by decide +kernel)))
  | ((with_reducible apply x_isText); assumption; (walk_at "hp")) | ((with_reducible apply x_isTextS); assumption) | ((with_reducible apply x_isTextI); assumption) | ((with_reducible apply x_isTextN); assumption) | ((with_reducible apply x_kCVT); assumption)
  | ((with_reducible apply x_addL); (walk_at "hp"); (walk_at "hp"); (walk_at "sz"); (intro _ _ _ _ _)) | ((with_reducible apply x_tyL); (walk_at "hp")) | with_reducible refine x_tyS ?_
  | with_reducible refine x_joined ?_ | with_reducible refine x_js ?_ | with_reducible refine x_js0 ?_ | ((with_reducible refine x_kJs ?_ ?_); (walk_at "sz")) | with_reducible refine x_fmt ?_ | ((with_reducible refine x_fmtS ?_ ?_); (walk_at "sz")) | ((with_reducible refine x_fmtI ?_ ?_); omega)
  | with_reducible refine x_rse ?_ | with_reducible refine x_ex ?_ | with_reducible refine x_ex0 ?_ | with_reducible refine x_xf ?_
  | with_reducible refine x_for ?_ | with_reducible refine x_r1 ?_ | with_reducible refine x_r2 ?_ | with_reducible refine x_il ?_ | with_reducible refine x_en ?_ | with_reducible refine x_lc ?_ | with_reducible refine x_next ?_ | dsimp only)
local macro_rules | `(tactic| walk_at "xs") => `(tactic| repeat walk_at "x")
local macro_rules | `(tactic| walk_at "ev0") => `(tactic| (refine ev_run ?_; intro _ _ _ q; walk_at "xs"; refine q _ ?_; walk_at "le"))
local macro_rules | `(tactic| walk_at "ch") => `(tactic| (intro _ _ _ q; walk_at "xs"; refine q _ ?_; walk_at "le"))
local macro_rules | `(tactic| walk_at "ev") => `(tactic| first
  | (focus ((with_reducible refine ev_andV ?_ (fun _ => ?_)); (all_goals walk_at "ev"))) | (focus ((with_reducible refine ev_orV ?_ (fun _ => ?_)); (all_goals walk_at "ev")))
  | ((with_reducible refine ev_notV ?_); walk_at "ev")
  | (focus ((with_reducible apply ev_chain); (focus walk_at "ch"); (focus walk_at "ch"); (focus walk_at "ch"); (focus (intro _ _ _ q; walk_at "x"; exact q)); (focus (intro _ _ _ q; walk_at "x"; exact q))))
  | walk_at "ev0" | skip)
local macro_rules | `(tactic| walk_at "et") => `(tactic| first
  | (focus ((with_reducible refine et_and ?_ (fun _ => ?_)); (all_goals walk_at "et"))) | (focus ((with_reducible refine et_or ?_ (fun _ => ?_)); (all_goals walk_at "et")))
  | ((with_reducible refine et_not ?_); walk_at "et") | ((with_reducible refine et_B ?_); walk_at "ev") | ((with_reducible refine et_T ?_); walk_at "ev"))
local macro_rules | `(tactic| walk_at "x") => `(tactic| first | ((with_reducible refine c_whole ?_); (intro _ _)) | ((with_reducible refine c_is_sign ?_ ?_); (walk_at "sz"); (intro _ _)) | ((with_reducible refine c_refused ?_ ?_); (walk_at "hp"); (intro _ _)) | ((with_reducible refine c_is_text ?_ ?_ ?_); (walk_at "hp"); assumption; (intro _ _)))
def sp__law_makes (a : Ad) : Sp := fun vs H Q E => ∃ way w z c, vs = [.int way, .str w, .str z, .bl c] ∧ Sm w ∧ Sm z ∧ (0 ≤ way ∧ way ≤ 3) ∧ newAns way w c = mk z c ∧ ∀ H', Le H H' → Q (.bl true) H'
def sp__law_reads (a : Ad) : Sp := fun vs H Q E => ∃ w, vs = [.str w] ∧ Sm w ∧ ∀ H', Le H H' → Q (.bl true) H'
theorem mk_cases (z : Str) (c : Bool) : (∃ k i, mk z c = .exn k i) ∨ (Good z c ∧ mk z c = .txt z c) := by
  cases h : mk z c with
  | exn k i => exact .inl ⟨k, i, rfl⟩
  | txt z' c' =>
    obtain ⟨g, rfl, rfl⟩ := mk_len h
    exact .inr ⟨g, rfl⟩
  | val v =>
    exfalso
    unfold mk at h
    cases hb : bad z with
    | some j => rw [hb] at h; cases h
    | none =>
      rw [hb] at h
      dsimp only at h
      split at h <;> cases h
  | two z1 z2 =>
    exfalso
    unfold mk at h
    cases hb : bad z with
    | some j => rw [hb] at h; cases h
    | none =>
      rw [hb] at h
      dsimp only at h
      split at h <;> cases h
theorem nm_good (k : ExK) : decide (k.nm = "good") = false := by cases k <;> decide +kernel
theorem ok__law_makes {P : Program} {w : World} {K : PySem.W.Frag} {mg : Str → Option Value} {base : Heap} {a : Ad} {f : Addr} {fd : FuncData} (F : FnP K "_law_makes" "_law_makes" s__law_makes f fd) (T : Txt K mg a) (G__law_refused : FnG P w K mg base 2 "_law_refused" (sp__law_refused a)) (G__law_is_text : FnG P w K mg base 6 "_law_is_text" (sp__law_is_text a)) (G__law_new : FnG P w K mg base 7 "_law_new" (sp__law_new a)) (G__law_fault : FnG P w K mg base 1 "_law_fault" (sp__law_fault a)) :
    FnOk P w K mg base (L2.CX P w) 8 f fd ["_law_way", "_law_written", "_law_shown", "_law_closed"] (sp__law_makes a) := by
  refine F.ok sc__law_makes (fun vs H Q E h => by obtain ⟨way, w, z, c, rfl, hw, hz, hway, he, q⟩ := h; rfl) (fun cdv A outer s H vs Q E hr h => ?_)
  refine ⟨_, (pss_cons (ps_set (i := 4) sc__law_makes.nd rfl (Or.inl rfl) (pe_callG G__law_fault (hr.mono (by decide)) passN rfl (pa_cons (pv 2) (pa_cons (pv 3) pa_nil))))
    (pss_cons (ps_set (i := 5) sc__law_makes.nd rfl (Or.inl rfl) (pe_callG G__law_new (hr.mono (by decide)) passN rfl (pa_cons (pv 0) (pa_cons (pv 1) (pa_cons (pv 3) pa_nil)))))
    (pss_cons (ps_if (pt_cmpR (op_eqU hr) (pe_ix ix_seq (pv 4) pe_int (fun _ _ => rfl)) pe_str (nomark _)) (pss_one (ps_ret (pe_and (pe_cmpR (op_eqU hr) (pe_ix ix_seq (pv 5) pe_int (fun _ _ => rfl)) pe_str (nomark _)) (pe_one (pe_callG G__law_is_text (hr.mono (by decide)) passN rfl (pa_cons (pe_ix ix_seq (pv 5) pe_int (fun _ _ => rfl)) (pa_cons (pv 2) (pa_cons (pv 3) pa_nil)))))))) pss_nil)
    (pss_one (ps_ret (pe_callG G__law_refused (hr.mono (by decide)) passN rfl (pa_cons (pv 5) (pa_cons (pe_ix ix_seq (pv 4) pe_int (fun _ _ => rfl)) (pa_cons (pe_ix ix_seq (pv 4) pe_int (fun _ _ => rfl)) pa_nil))))))))), ?_⟩
  obtain ⟨way, w, z, c, rfl, hw, hz, hway, he, q⟩ := h
  walk_at "xs"
  refine c_fault hz fun p1 H1 e1 h1 => ?_
  walk_at "xs"
  refine ⟨way, w, c, rfl, hw, hway, fun p2 H2 e2 h2 => ?_⟩
  walk_at "xs"
  rw [he] at h2
  rcases mk_cases z c with ⟨k, i, hk⟩ | ⟨hg, hk⟩
  · rw [hk] at h1 h2
    have h1' : H1 p1 = some (.tup [.str k.nm, .int i]) := h1
    have h2' : H2 p2 = some (.tup [.str k.nm, .int i, .bl true]) := h2
    refine x_no (et_is (b := decide (k.nm = "good")) (by walk_at "et") (nm_good k)) fun H3 e3 => ?_
    walk_at "xs"
    exact q _ (by walk_at "le")
  · rw [hk] at h1 h2
    have h1' : H1 p1 = some (.tup [.str "good", .int 0]) := h1
    obtain ⟨v, h2', p3, rfl, ht⟩ := h2
    refine x_yes (et_is (b := decide (("good" : Str) = "good")) (by walk_at "et") (by simp)) fun H3 e3 => ?_
    walk_at "xs"
    refine x_andV (b := true) (ev_is (b := decide (("good" : Str) = "good") && true) ?_ (by simp)) fun H4 e4 => q _ (by walk_at "le")
    walk_at "ev"
theorem ok__law_reads {P : Program} {w : World} {K : PySem.W.Frag} {mg : Str → Option Value} {base : Heap} {a : Ad} {f : Addr} {fd : FuncData} (F : FnP K "_law_reads" "_law_reads" s__law_reads f fd) (T : Txt K mg a) (G__law_makes : FnG P w K mg base 8 "_law_makes" (sp__law_makes a)) :
    FnOk P w K mg base (L2.CX P w) 9 f fd ["_law_written"] (sp__law_reads a) := by
  refine F.ok sc__law_reads (fun vs H Q E h => by obtain ⟨z, rfl, hz, q⟩ := h; rfl) (fun cdv A outer s H vs Q E hr h => ?_)
  refine ⟨_, (pss_cons (ps_if (PW.pt (pw_and (pt_cmpR op_gt (pe_callB call_lenU (by rfl) T.f_len (by decide +kernel) (pa_cons (pv 0) pa_nil)) pe_int (nomark _)) (pw_and (pt_cmpR (op_eqU hr) (pe_ix ix_seq (pv 0) pe_int (fun _ _ => rfl)) pe_str (nomark _)) (pw_and1 (pt_cmpR (op_eqU hr) (pe_ix ix_seq (pv 0) (pe_un un_neg pe_int) (fun _ _ => rfl)) pe_str (nomark _)))))) (pss_one (ps_ret (pe_callG G__law_makes (hr.mono (by decide)) passN rfl (pa_cons pe_int (pa_cons (pv 0) (pa_cons (pe_slice sl_U (pv 0) (po_some pe_int) (po_some (pe_un un_neg pe_int))) (pa_cons pe_bl pa_nil))))))) pss_nil)
    (pss_one (ps_ret (pe_callG G__law_makes (hr.mono (by decide)) passN rfl (pa_cons pe_int (pa_cons (pv 0) (pa_cons (pv 0) (pa_cons pe_bl pa_nil)))))))), ?_⟩
  obtain ⟨z, rfl, hz, q⟩ := h
  walk_at "xs"
  have hz2 : z.length ≤ 1000 := hz
  refine x_if (b := decide ((1 : Int) < z.length) && (decide ((⟨#[z.cps.getD 0 0]⟩ : Str) = "(") && decide ((⟨#[z.cps.getD (z.length - 1) 0]⟩ : Str) = ")"))) (et_and ?_ (fun h1 => et_and ?_ (fun h2 => ?_))) (fun hb H1 e1 => ?_) (fun hb H1 e1 => ?_)
  · walk_at "et"
  · have h1 := of_decide_eq_true h1
    refine et_T (ev_run fun H1 e1 Q1 q1 => ?_)
    walk_at "xs"
    refine x_ixN (by omega) (by omega) ?_
    walk_at "xs"
    exact q1 _ (Le.refl _)
  · have h1 := of_decide_eq_true h1
    refine et_T (ev_run fun H1 e1 Q1 q1 => ?_)
    walk_at "xs"
    refine x_ixZ (by omega) (by omega) ?_
    walk_at "xs"
    exact q1 _ (Le.refl _)
  · rw [str_par1, str_par2, one_eq, one_eq] at hb
    simp only [Bool.and_eq_true, decide_eq_true_eq] at hb
    have l1 := cutS_length z (some 1) (some (-1))
    walk_at "xs"
    refine ⟨3, z, _, true, rfl, hz, by show (cutS z _ _).length ≤ 1000; omega, by omega, ?_, fun H2 e2 => q _ (by walk_at "le")⟩
    show (if (3 : Int) = 3 then aRead z else mk z true) = _
    rw [if_pos rfl]
    exact if_pos ⟨by omega, hb.2.1, hb.2.2⟩
  · rw [str_par1, str_par2, one_eq, one_eq] at hb
    walk_at "xs"
    refine ⟨3, z, z, false, rfl, hz, hz, by omega, ?_, fun H2 e2 => q _ (by walk_at "le")⟩
    show (if (3 : Int) = 3 then aRead z else mk z false) = _
    rw [if_pos rfl]
    refine if_neg fun q => ?_
    simp [q.2.1, q.2.2] at hb
    omega
/-! ### what is done -/
def small (i : Int) : Prop := -100000 < i ∧ i < 100000
theorem small_log {i : Int} (h : small i) : i.natAbs.log2 < 1000 := by
  obtain ⟨h1, h2⟩ := h
  have h3 : i.natAbs < 100000 := by omega
  exact log_small (Nat.lt_trans h3 (by decide))
inductive DoAns (a : Ad) (H : Hp) (z : Str) (c : Bool) : Str → V → Ans → Prop where
  | item (i : Int) (h : small i) : DoAns a H z c "item" (.int i) (aItem z i)
  | halves (i : Int) (h : small i) : DoAns a H z c "halves" (.int i) (aHalves z c i)
  | cut (i : Int) (h : small i) : DoAns a H z c "cut" (.int i) (aCut z c i)
  | turn (i : Int) : DoAns a H z c "turn" (.int i) (aTurn z c i)
  | sum (q : Addr) (w : Str) (d : Bool) (h : TextAt a H q w d) (g : Good w d) : DoAns a H z c "sum" (.ref q) (aSum z c w d)
def sp__law_do (a : Ad) : Sp := fun vs H Q E => ∃ p z c n y r, vs = [.ref p, .str n, y] ∧ Good z c ∧ TextAt a H p z c ∧ DoAns a H z c n y r ∧ ∀ t H', Le H H' → ToldAt a H' t r → Q (.ref t) H'
/-- every kind but sign -/
theorem do_kinds {a : Ad} {H : Hp} {z : Str} {c : Bool} {n : Str} {y : V} {r : Ans} (hg : Good z c) (h : DoAns a H z c n y r) {k : ExK} {i : Int} (hk : r = .exn k i) : k ≠ .sign ∧ (k = .closed ∨ k = .opn → i = 0) := by
  cases h with
  | item i h => unfold aItem at hk; split at hk <;> cases hk; exact ⟨by decide, fun q => by rcases q with q | q <;> cases q⟩
  | halves i h =>
    unfold aHalves at hk
    split at hk
    · cases hk; exact ⟨by decide, fun _ => rfl⟩
    · split at hk <;> cases hk
      exact ⟨by decide, fun q => by rcases q with q | q <;> cases q⟩
  | cut i h =>
    unfold aCut at hk
    split at hk
    · cases hk; exact ⟨by decide, fun _ => rfl⟩
    · split at hk <;> cases hk
      exact ⟨by decide, fun q => by rcases q with q | q <;> cases q⟩
  | turn i =>
    unfold aTurn at hk
    split at hk <;> cases hk
    exact ⟨by decide, fun _ => rfl⟩
  | sum q w d h g =>
    unfold aSum at hk
    split at hk
    · cases hk; exact ⟨by decide, fun _ => rfl⟩
    · have hb : bad (z ++ w) = none := bad_app hg.1 g.1
      unfold mk at hk
      rw [hb] at hk
      dsimp only at hk
      split at hk <;> cases hk
      exact ⟨by decide, fun q => by rcases q with q | q <;> cases q⟩
theorem ok__law_do {P : Program} {w : World} {K : PySem.W.Frag} {mg : Str → Option Value} {base : Heap} {a : Ad} {f : Addr} {fd : FuncData} (F : FnP K "_law_do" "_law_do" s__law_do f fd) (T : Txt K mg a) (O_Text___add__ : OpG P w K mg base 6 a.cText "__add__" (sp_Text___add__ a)) (O_Text___rshift__ : OpG P w K mg base 6 a.cText "__rshift__" (sp_Text___rshift__ a)) (M_Text_cut_at : MeG P w K mg base 6 a.cText "cut_at" (sp_Text_cut_at a)) (M_Text_halves : MeG P w K mg base 6 a.cText "halves" (sp_Text_halves a)) (O_Text___getitem__ : OpG P w K mg base 3 a.cText "__getitem__" (sp_Text___getitem__ a)) (E__law_pure : FnEG P w K mg base 1 "_law_pure" (sE__law_pure a)) :
    FnOk P w K mg base (L2.CX P w) 7 f fd ["_law_text", "_law_what", "_law_thing"] (sp__law_do a) := by
  refine F.ok sc__law_do (fun vs H Q E h => by obtain ⟨p, z, c, n, y, r, rfl, hg, ht, hdo, q⟩ := h; rfl) (fun cdv A outer s H vs Q E hr h => ?_)
  refine ⟨_, (pss_one (ps_try_asL rfl rfl sc__law_do.nd (takes_of rfl rfl rfl rfl) (fun W pn xe tk po => (pss_cons (ps_if (pt_cmpR (op_eqUk K rfl hr) (pv 1) pe_str (nomark _)) (pss_one (ps_ret (pe_tup (pa_cons pe_str (pa_cons (pe_subG O_Text___getitem__ (hr.mono (by decide)) tk (pv 0) (pv 2)) (pa_cons pe_bl pa_nil)))))) pss_nil)
    (pss_cons (ps_if (pt_cmpR (op_eqUk K rfl hr) (pv 1) pe_str (nomark _)) (pss_one (ps_ret (pe_tup (pa_cons pe_str (pa_cons (pe_methG M_Text_halves (hr.mono (by decide)) (passW tk) (pv 0) (pa_cons (pv 2) pa_nil)) (pa_cons pe_bl pa_nil)))))) pss_nil)
    (pss_cons (ps_if (pt_cmpR (op_eqUk K rfl hr) (pv 1) pe_str (nomark _)) (pss_one (ps_ret (pe_tup (pa_cons pe_str (pa_cons (pe_methG M_Text_cut_at (hr.mono (by decide)) (passW tk) (pv 0) (pa_cons (pv 2) pa_nil)) (pa_cons pe_bl pa_nil)))))) pss_nil)
    (pss_cons (ps_if (pt_cmpR (op_eqUk K rfl hr) (pv 1) pe_str (nomark _)) (pss_one (ps_ret (pe_tup (pa_cons pe_str (pa_cons (pe_opS (op_shrG O_Text___rshift__ T.binI (hr.mono (by decide)) tk) (pv 0) (pv 2)) (pa_cons pe_bl pa_nil)))))) pss_nil)
    (pss_one (ps_ret (pe_tup (pa_cons pe_str (pa_cons (pe_opS (op_addG O_Text___add__ T.selfF (hr.mono (by decide)) tk) (pv 0) (pv 2)) (pa_cons pe_bl pa_nil))))))))))) (.cons (i := 3) ⟨rfl, by decide, .inl T.g_NoPlace⟩ rfl rfl (fun a0 oe cls d pn hz hf => (pss_one (ps_ret (pe_tup (pa_cons pe_str (pa_cons (pe_xf (T.xf .place) (T.nf .place) hz hf (pv 3)) (pa_cons (pe_callEG E__law_pure ((roomS hr).mono (by decide)) hz hf (by rfl) (pa_cons (pv 3) pa_nil)) pa_nil))))))) (.cons (i := 3) ⟨rfl, by decide, .inl T.g_ClosedText⟩ rfl rfl (fun a0 oe cls d pn hz hf => (pss_one (ps_ret (pe_tup (pa_cons pe_str (pa_cons pe_int (pa_cons (pe_callEG E__law_pure ((roomS hr).mono (by decide)) hz hf (by rfl) (pa_cons (pv 3) pa_nil)) pa_nil))))))) (.cons (i := 3) ⟨rfl, by decide, .inl T.g_OpenText⟩ rfl rfl (fun a0 oe cls d pn hz hf => (pss_one (ps_ret (pe_tup (pa_cons pe_str (pa_cons pe_int (pa_cons (pe_callEG E__law_pure ((roomS hr).mono (by decide)) hz hf (by rfl) (pa_cons (pv 3) pa_nil)) pa_nil))))))) (.cons (i := 3) ⟨rfl, by decide, .inl T.g_BadText⟩ rfl rfl (fun a0 oe cls d pn hz hf => (pss_one (ps_ret (pe_tup (pa_cons pe_str (pa_cons (pe_xf (T.xf .size) (T.nf .size) hz hf (pv 3)) (pa_cons (pe_callEG E__law_pure ((roomS hr).mono (by decide)) hz hf (by rfl) (pa_cons (pv 3) pa_nil)) pa_nil))))))) .nil)))))), ?_⟩
  obtain ⟨p, z, c, n, y, r, rfl, hg, ht, hdo, q⟩ := h
  have hz2 : z.length ≤ 120 := hg.2.1
  refine x_tryC (fun W => ∀ k i cls d H', r = .exn k i → Le H H' → ExcIs a k i cls d H' → W cls d (L2.start ["_law_text", "_law_what", "_law_thing", "_law_e"] [V.ref p, V.str n, y]) H') ?_ fun W hW => ?_
  · intro k i cls d H' hk le hx
    obtain ⟨rfl, hx2⟩ := id hx
    obtain ⟨n1, n2⟩ := do_kinds hg hdo hk
    cases k with
    | sign => exact absurd rfl n1
    | place =>
      obtain ⟨dd, rfl, hdd⟩ := hx2
      refine ⟨true, T.exm .place .place, fun _ a0 ha => ?_, fun q => nomatch q⟩
      walk_at "xs"
      refine x_kXf (C := a.x .place) hdd lk1 ?_
      walk_at "xs"
      refine c_pure hx fun H1 e1 => ?_
      walk_at "xs"
      rename_i p5 H5 e5n e5 hp5
      refine q _ _ (by walk_at "le") ?_
      rw [hk]; exact hp5
    | closed =>
      refine ⟨false, T.exm .closed .place, (fun q => nomatch q), fun _ => ⟨true, T.exm .closed .closed, fun _ a0 ha => ?_, fun q => nomatch q⟩⟩
      walk_at "xs"
      refine c_pure hx fun H1 e1 => ?_
      walk_at "xs"
      rename_i p5 H5 e5n e5 hp5
      refine q _ _ (by walk_at "le") ?_
      rw [hk, n2 (.inl rfl)]; exact hp5
    | opn =>
      refine ⟨false, T.exm .opn .place, (fun q => nomatch q), fun _ => ⟨false, T.exm .opn .closed, (fun q => nomatch q), fun _ => ⟨true, T.exm .opn .opn, fun _ a0 ha => ?_, fun q => nomatch q⟩⟩⟩
      walk_at "xs"
      refine c_pure hx fun H1 e1 => ?_
      walk_at "xs"
      rename_i p5 H5 e5n e5 hp5
      refine q _ _ (by walk_at "le") ?_
      rw [hk, n2 (.inr rfl)]; exact hp5
    | size =>
      obtain ⟨dd, rfl, hdd⟩ := hx2
      refine ⟨false, T.exm .size .place, (fun q => nomatch q), fun _ => ⟨false, T.exm .size .closed, (fun q => nomatch q), fun _ => ⟨false, T.exm .size .opn, (fun q => nomatch q), fun _ => ⟨true, T.exm .size .size, fun _ a0 ha => ?_, fun q => nomatch q⟩⟩⟩⟩
      walk_at "xs"
      refine x_kXf (C := a.x .size) hdd lk1 ?_
      walk_at "xs"
      refine c_pure hx fun H1 e1 => ?_
      walk_at "xs"
      rename_i p5 H5 e5n e5 hp5
      refine q _ _ (by walk_at "le") ?_
      rw [hk]; exact hp5
  · have fin : ∀ {H1 : Hp} {Q1 : VK}, Le H H1 → (∀ v H2, Le H1 H2 → Tells a r v H2 → Q1 v H2) → Meets a r H1 Q1 (WE W (L2.start ["_law_text", "_law_what", "_law_thing", "_law_e"] [V.ref p, V.str n, y])) := by
      intro H1 Q1 le h
      exact ⟨h, fun k i hk cls d H2 e2 hx => hW k i cls d H2 hk (le.trans e2) hx⟩
    walk_at "xs"
    cases hdo with
    | item i h =>
      refine x_yes (et_is (b := decide (("item" : Str) = "item")) (by walk_at "et") (by decide +kernel)) fun H1 e1 => ?_
      walk_at "xs"
      obtain ⟨dx, hp⟩ := ht.le e1
      refine x_subO hp ⟨p, z, c, i, rfl, by show z.length ≤ 1000; omega, ⟨dx, hp⟩, small_log h, fin (by walk_at "le") fun v H2 e2 t2 => ?_⟩
      walk_at "xs"
      rename_i p5 H5 e5n e5 hp5
      exact q _ _ (by walk_at "le") (told_good hp5 (t2.le e5))
    | halves i h =>
      refine x_no (et_is (b := decide (("halves" : Str) = "item")) (by walk_at "et") (by decide +kernel)) fun H1 e1 => ?_
      walk_at "xs"
      refine x_yes (et_is (b := decide (("halves" : Str) = "halves")) (by walk_at "et") (by decide +kernel)) fun H2 e2 => ?_
      walk_at "xs"
      obtain ⟨dx, hp⟩ := ht.le (e1.trans e2)
      refine x_kMeth hp rfl ?_
      walk_at "xs"
      refine ⟨p, z, c, i, rfl, hg, ⟨dx, hp⟩, small_log h, fin (by walk_at "le") fun v H3 e3 t3 => ?_⟩
      walk_at "xs"
      rename_i p5 H5 e5n e5 hp5
      exact q _ _ (by walk_at "le") (told_good hp5 (t3.le e5))
    | cut i h =>
      refine x_no (et_is (b := decide (("cut" : Str) = "item")) (by walk_at "et") (by decide +kernel)) fun H1 e1 => ?_
      walk_at "xs"
      refine x_no (et_is (b := decide (("cut" : Str) = "halves")) (by walk_at "et") (by decide +kernel)) fun H2 e2 => ?_
      walk_at "xs"
      refine x_yes (et_is (b := decide (("cut" : Str) = "cut")) (by walk_at "et") (by decide +kernel)) fun H3 e3 => ?_
      walk_at "xs"
      obtain ⟨dx, hp⟩ := ht.le ((e1.trans e2).trans e3)
      refine x_kMeth hp rfl ?_
      walk_at "xs"
      refine ⟨p, z, c, i, rfl, hg, ⟨dx, hp⟩, small_log h, fin (by walk_at "le") fun v H4 e4 t4 => ?_⟩
      walk_at "xs"
      rename_i p5 H5 e5n e5 hp5
      exact q _ _ (by walk_at "le") (told_good hp5 (t4.le e5))
    | turn i =>
      refine x_no (et_is (b := decide (("turn" : Str) = "item")) (by walk_at "et") (by decide +kernel)) fun H1 e1 => ?_
      walk_at "xs"
      refine x_no (et_is (b := decide (("turn" : Str) = "halves")) (by walk_at "et") (by decide +kernel)) fun H2 e2 => ?_
      walk_at "xs"
      refine x_no (et_is (b := decide (("turn" : Str) = "cut")) (by walk_at "et") (by decide +kernel)) fun H3 e3 => ?_
      walk_at "xs"
      refine x_yes (et_is (b := decide (("turn" : Str) = "turn")) (by walk_at "et") (by decide +kernel)) fun H4 e4 => ?_
      walk_at "xs"
      obtain ⟨dx, hp⟩ := ht.le (((e1.trans e2).trans e3).trans e4)
      refine x_binI hp ⟨p, z, c, i, rfl, hg, ⟨dx, hp⟩, fin (by walk_at "le") fun v H5 e5 t5 => ?_⟩
      walk_at "xs"
      rename_i p5 H6 e6n e6 hp5
      exact q _ _ (by walk_at "le") (told_good hp5 (t5.le e6))
    | sum p2 w d h2 g2 =>
      refine x_no (et_is (b := decide (("sum" : Str) = "item")) (by walk_at "et") (by decide +kernel)) fun H1 e1 => ?_
      walk_at "xs"
      refine x_no (et_is (b := decide (("sum" : Str) = "halves")) (by walk_at "et") (by decide +kernel)) fun H2 e2 => ?_
      walk_at "xs"
      refine x_no (et_is (b := decide (("sum" : Str) = "cut")) (by walk_at "et") (by decide +kernel)) fun H3 e3 => ?_
      walk_at "xs"
      refine x_no (et_is (b := decide (("sum" : Str) = "turn")) (by walk_at "et") (by decide +kernel)) fun H4 e4 => ?_
      walk_at "xs"
      obtain ⟨dx, hp⟩ := ht.le (((e1.trans e2).trans e3).trans e4)
      obtain ⟨dx2, hp2⟩ := h2.le (((e1.trans e2).trans e3).trans e4)
      have hw2 : w.length ≤ 120 := g2.2.1
      refine x_binO hp hp2 ⟨p, z, c, p2, w, d, rfl, ⟨by omega, by omega⟩, ⟨dx, hp⟩, ⟨dx2, hp2⟩, fin (by walk_at "le") fun v H5 e5 t5 => ⟨?_, ?_⟩⟩
      · rintro rfl
        unfold aSum at t5
        split at t5
        · exact t5.elim
        · rcases mk_cases (z ++ w) false with ⟨k, i, hk⟩ | ⟨g, hk⟩
          · rw [hk] at t5; exact t5.elim
          · rw [hk] at t5
            obtain ⟨_, e, _⟩ := t5
            cases e
      · walk_at "xs"
        rename_i p5 H6 e6n e6 hp5
        exact q _ _ (by walk_at "le") (told_good hp5 (t5.le e6))
end K2
set_option maxHeartbeats 4000000
/-! K2I: the law's checks of each act; least_turn's -/
namespace K2
open PySem PySem.Spec PyProof.Rows L2 MC
local macro_rules | `(tactic| walk_at "hp") => `(tactic| first | assumption | (apply Le.keep; assumption; walk_at "hp") | (apply TextAt.le; assumption; walk_at "hp") | (apply Lw.keep; assumption; walk_at "hp"; first | rfl | exact sh_str _ | exact sh_ints _ | exact sh_sgns _) | (apply TextAt.lw; assumption; walk_at "hp"))
local macro_rules | `(tactic| walk_at "le") => `(tactic| first | exact Le.refl _ | assumption | (apply Le.trans'; assumption; walk_at "le"))
local macro_rules | `(tactic| walk_at "lw") => `(tactic| first | exact Lw.refl _ | assumption | exact Le.w (by assumption) | (apply Lw.trans'; (first | assumption | exact Le.w (by assumption)); walk_at "lw"))
local macro_rules | `(tactic| walk_at "sz") => `(tactic| first | omega | (simp only [slen_app]; omega) | (simp only [List.length_cons, List.length_nil, List.length_map, List.length_range]; omega) | omega | (simp; omega) | decide)
local macro_rules | `(tactic| walk_at "x") => `(tactic| first
  | with_reducible refine x_seq ?_ | with_reducible refine x_asg ?_ | with_reducible refine x_ret ?_ | with_reducible refine x_drop ?_
  | ((with_reducible apply x_var); exact rfl) | with_reducible refine x_c ?_ | with_reducible refine x_op ?_ | with_reducible refine x_opS ?_ | with_reducible refine x_un ?_ | with_reducible refine x_neg ?_
  | with_reducible refine x_test ?_ | with_reducible refine x_tB ?_ | with_reducible refine x_kB ?_
  | with_reducible refine x_nil ?_ | with_reducible refine x_cons ?_ | with_reducible refine x_tup ?_ | with_reducible refine x_lst ?_
  | ((with_reducible refine x_kTup ?_ ?_); (walk_at "sz"); (intro _ _ _ _ _)) | ((with_reducible refine x_kLst ?_ ?_); (walk_at "sz"); (intro _ _ _ _ _))
  | with_reducible refine x_fld ?_ | ((with_reducible apply x_fS); assumption; (walk_at "hp")) | ((with_reducible apply x_fC); assumption; (walk_at "hp"))
  | with_reducible refine x_cb ?_ | with_reducible refine x_call ?_ | with_reducible refine x_callE ?_ | with_reducible refine x_bm ?_ | with_reducible refine x_cv ?_
  | with_reducible refine x_meth ?_ | with_reducible refine x_cm ?_ | with_reducible refine x_kCM ?_ | with_reducible refine x_mk ?_ | with_reducible refine x_kMk ?_
  | with_reducible refine x_np ?_ | with_reducible refine x_part ?_ | with_reducible refine x_kPart ?_ | with_reducible refine x_sl ?_ | with_reducible refine x_rev ?_
  | with_reducible refine x_addI ?_ | ((with_reducible refine x_addS ?_ ?_); (walk_at "sz")) | with_reducible refine x_I0 ?_
  | with_reducible refine x_eqS ?_ | with_reducible refine x_eqI ?_ | with_reducible refine x_eqB ?_ | with_reducible refine x_neS ?_ | with_reducible refine x_neI ?_ | with_reducible refine x_neB ?_
  | with_reducible refine x_eqFS ?_ | with_reducible refine x_eqFI ?_
  | with_reducible refine x_ltI ?_ | with_reducible refine x_ltS ?_ | with_reducible refine x_leI ?_ | with_reducible refine x_leS ?_ | with_reducible refine x_inT ?_ | with_reducible refine x_notInT ?_
  | ((with_reducible refine x_slS ?_ ?_); (walk_at "sz")) | ((with_reducible refine x_kRev ?_ ?_); (walk_at "sz"))
  | ((with_reducible refine x_lenS ?_ ?_); (walk_at "sz")) | ((with_reducible apply x_lenT); (walk_at "hp"))
  | ((with_reducible apply x_ixT); (walk_at "hp"); exact rfl)
  | with_reducible refine x_abs ?_ | with_reducible refine x_int ?_ | with_reducible refine x_strS ?_
  | ((with_reducible apply x_isB); (first | exact kit_ty (r := true) (by decide +kernel) | exact kit_ty (r := false) (by decide +kernel))) | ((with_reducible apply x_isI); (first | exact kit_ty (r := true) (by decide +kernel) | exact kit_ty (r := false) (by decide +kernel))) | ((with_reducible apply x_isS); (first | exact kit_ty (r := true) (by decide +kernel) | exact kit_ty (r := false) (by decide +kernel)))
  | ((with_reducible apply x_isT); (walk_at "hp"); (first | exact kit_ty (r := true) (by decide +kernel) | exact kit_ty (r := false) (by decide +kernel)))
  | ((with_reducible apply x_isText); assumption; (walk_at "hp")) | ((with_reducible apply x_isTextS); assumption) | ((with_reducible apply x_isTextI); assumption) | ((with_reducible apply x_isTextN); assumption) | ((with_reducible apply x_kCVT); assumption)
  | ((with_reducible apply x_addL); (walk_at "hp"); (walk_at "hp"); (walk_at "sz"); (intro _ _ _ _ _)) | ((with_reducible apply x_tyL); (walk_at "hp")) | with_reducible refine x_tyS ?_
  | with_reducible refine x_joined ?_ | with_reducible refine x_js ?_ | with_reducible refine x_js0 ?_ | ((with_reducible refine x_kJs ?_ ?_); (walk_at "sz")) | with_reducible refine x_fmt ?_ | ((with_reducible refine x_fmtS ?_ ?_); (walk_at "sz")) | ((with_reducible refine x_fmtI ?_ ?_); omega)
  | with_reducible refine x_rse ?_ | with_reducible refine x_ex ?_ | with_reducible refine x_ex0 ?_ | with_reducible refine x_xf ?_
  | with_reducible refine x_for ?_ | with_reducible refine x_r1 ?_ | with_reducible refine x_r2 ?_ | with_reducible refine x_il ?_ | with_reducible refine x_en ?_ | with_reducible refine x_lc ?_ | with_reducible refine x_next ?_ | dsimp only)
local macro_rules | `(tactic| walk_at "xs") => `(tactic| repeat walk_at "x")
local macro_rules | `(tactic| walk_at "ev0") => `(tactic| (refine ev_run ?_; intro _ _ _ q; walk_at "xs"; refine q _ ?_; walk_at "le"))
local macro_rules | `(tactic| walk_at "ch") => `(tactic| (intro _ _ _ q; walk_at "xs"; refine q _ ?_; walk_at "le"))
local macro_rules | `(tactic| walk_at "ev") => `(tactic| first
  | (focus ((with_reducible refine ev_andV ?_ (fun _ => ?_)); (all_goals walk_at "ev"))) | (focus ((with_reducible refine ev_orV ?_ (fun _ => ?_)); (all_goals walk_at "ev")))
  | ((with_reducible refine ev_notV ?_); walk_at "ev")
  | (focus ((with_reducible apply ev_chain); (focus walk_at "ch"); (focus walk_at "ch"); (focus walk_at "ch"); (focus (intro _ _ _ q; walk_at "x"; exact q)); (focus (intro _ _ _ q; walk_at "x"; exact q))))
  | walk_at "ev0" | skip)
local macro_rules | `(tactic| walk_at "et") => `(tactic| first
  | (focus ((with_reducible refine et_and ?_ (fun _ => ?_)); (all_goals walk_at "et"))) | (focus ((with_reducible refine et_or ?_ (fun _ => ?_)); (all_goals walk_at "et")))
  | ((with_reducible refine et_not ?_); walk_at "et") | ((with_reducible refine et_B ?_); walk_at "ev") | ((with_reducible refine et_T ?_); walk_at "ev"))
local macro_rules | `(tactic| walk_at "x") => `(tactic| first | ((with_reducible refine c_whole ?_); (intro _ _)) | ((with_reducible refine c_is_sign ?_ ?_); (walk_at "sz"); (intro _ _)) | ((with_reducible refine c_refused ?_ ?_); (walk_at "hp"); (intro _ _)) | ((with_reducible refine c_is_text ?_ ?_ ?_); (walk_at "hp"); assumption; (intro _ _)))
def sp__law_item (a : Ad) : Sp := fun vs H Q E => ∃ p z c i, vs = [.ref p, .str z, .int i] ∧ Good z c ∧ TextAt a H p z c ∧ small i ∧ ∀ H', Le H H' → Q (.bl true) H'
def sp__law_halves (a : Ad) : Sp := fun vs H Q E => ∃ p z c i, vs = [.ref p, .str z, .bl c, .int i] ∧ Good z c ∧ TextAt a H p z c ∧ small i ∧ ∀ H', Le H H' → Q (.bl true) H'
def sp__law_cut (a : Ad) : Sp := fun vs H Q E => ∃ p z c i, vs = [.ref p, .str z, .bl c, .int i] ∧ Good z c ∧ TextAt a H p z c ∧ small i ∧ ∀ H', Le H H' → Q (.bl true) H'
def sp__law_turn (a : Ad) : Sp := fun vs H Q E => ∃ p z c i, vs = [.ref p, .str z, .bl c, .int i] ∧ Good z c ∧ TextAt a H p z c ∧ ∀ H', Le H H' → Q (.bl true) H'
def sp__law_sum (a : Ad) : Sp := fun vs H Q E => ∃ p z c q w d, vs = [.ref p, .ref q, .str z, .str w, .bl (c || d)] ∧ Good z c ∧ TextAt a H p z c ∧ Good w d ∧ TextAt a H q w d ∧ ∀ H', Le H H' → Q (.bl true) H'
def sp__law_turns (a : Ad) : Sp := fun vs H Q E => ∃ z, vs = [.str z] ∧ Sm z ∧ ∀ H', Le H H' → Q (.bl true) H'
theorem ok__law_item {P : Program} {w : World} {K : PySem.W.Frag} {mg : Str → Option Value} {base : Heap} {a : Ad} {f : Addr} {fd : FuncData} (F : FnP K "_law_item" "_law_item" s__law_item f fd) (T : Txt K mg a) (G__law_refused : FnG P w K mg base 2 "_law_refused" (sp__law_refused a)) (G__law_do : FnG P w K mg base 7 "_law_do" (sp__law_do a)) :
    FnOk P w K mg base (L2.CX P w) 8 f fd ["_law_text", "_law_shown", "_law_at"] (sp__law_item a) := by
  refine F.ok sc__law_item (fun vs H Q E h => by obtain ⟨p, z, c, i, rfl, hg, ht, hi, q⟩ := h; rfl) (fun cdv A outer s H vs Q E hr h => ?_)
  refine ⟨_, (pss_cons (ps_set (i := 3) sc__law_item.nd rfl (Or.inl rfl) (pe_callG G__law_do (hr.mono (by decide)) passN rfl (pa_cons (pv 0) (pa_cons pe_str (pa_cons (pv 2) pa_nil)))))
    (pss_cons (ps_if (pt_chain op_leU op_ltU pe_int (pv 2) (pe_callB call_lenU (by rfl) T.f_len (by decide +kernel) (pa_cons (pv 1) pa_nil))) (pss_one (ps_ret (pe_and (pe_cmpR (op_eqU hr) (pe_ix ix_seq (pv 3) pe_int (fun _ _ => rfl)) pe_str (nomark _)) (pe_and (pe_callB call_isi (by rfl) T.f_isinstance (by decide +kernel) (pa_cons (pe_ix ix_seq (pv 3) pe_int (fun _ _ => rfl)) (pa_cons (pe_bltn (v := .ty "str") (by rfl) T.f_str (by decide +kernel) rfl) pa_nil))) (pe_one (pe_cmpR (op_eqU hr) (pe_ix ix_seq (pv 3) pe_int (fun _ _ => rfl)) (pe_ix ix_seq (pv 1) (pv 2) (fun _ _ => rfl)) (nomark _))))))) pss_nil)
    (pss_one (ps_ret (pe_callG G__law_refused (hr.mono (by decide)) passN rfl (pa_cons (pv 3) (pa_cons pe_str (pa_cons (pv 2) pa_nil)))))))), ?_⟩
  obtain ⟨p, z, c, i, rfl, hg, ht, hi, q⟩ := h
  have hz2 : z.length ≤ 120 := hg.2.1
  walk_at "xs"
  refine ⟨p, z, c, "item", .int i, aItem z i, rfl, hg, ht, .item i hi, fun t H1 e1 h1 => ?_⟩
  walk_at "xs"
  refine x_if (b := decide (0 ≤ i) && decide (i < z.length)) (by walk_at "et") (fun hb H2 e2 => ?_) (fun hb H2 e2 => ?_)
  · simp only [Bool.and_eq_true, decide_eq_true_eq] at hb
    rw [show aItem z i = .val (.str ⟨#[z.cps.getD i.toNat 0]⟩) from if_pos hb] at h1
    obtain ⟨v, h1, rfl⟩ := h1
    walk_at "xs"
    refine x_andV (b := true) (ev_is (b := decide (("good" : Str) = "good") && (true && decide ((⟨#[z.cps.getD i.toNat 0]⟩ : Str) = ⟨#[z.cps.getD i.toNat 0]⟩))) (ev_andV ?_ (fun _ => ev_andV ?_ (fun _ => ev_run fun H3 e3 Q3 q3 => ?_))) (by simp)) fun H4 e4 => q _ (by walk_at "le")
    · walk_at "ev"
    · walk_at "ev"
    · walk_at "xs"
      refine x_ixN (by omega) hb ?_
      walk_at "xs"
      exact q3 _ (Le.refl _)
  · rw [show aItem z i = .exn .place i from if_neg fun q => by simp [q.1, q.2] at hb] at h1
    have h1' : H1 t = some (.tup [.str "place", .int i, .bl true]) := h1
    walk_at "xs"
    exact q _ (by walk_at "le")
theorem ok__law_halves {P : Program} {w : World} {K : PySem.W.Frag} {mg : Str → Option Value} {base : Heap} {a : Ad} {f : Addr} {fd : FuncData} (F : FnP K "_law_halves" "_law_halves" s__law_halves f fd) (T : Txt K mg a) (G__law_is_text : FnG P w K mg base 6 "_law_is_text" (sp__law_is_text a)) (G__law_refused : FnG P w K mg base 2 "_law_refused" (sp__law_refused a)) (G__law_do : FnG P w K mg base 7 "_law_do" (sp__law_do a)) :
    FnOk P w K mg base (L2.CX P w) 8 f fd ["_law_text", "_law_shown", "_law_closed", "_law_at"] (sp__law_halves a) := by
  refine F.ok sc__law_halves (fun vs H Q E h => by obtain ⟨p, z, c, i, rfl, hg, ht, hi, q⟩ := h; rfl) (fun cdv A outer s H vs Q E hr h => ?_)
  refine ⟨_, (pss_cons (ps_set (i := 4) sc__law_halves.nd rfl (Or.inl rfl) (pe_callG G__law_do (hr.mono (by decide)) passN rfl (pa_cons (pv 0) (pa_cons pe_str (pa_cons (pv 3) pa_nil)))))
    (pss_cons (ps_if (pt_val (pv 2)) (pss_one (ps_ret (pe_callG G__law_refused (hr.mono (by decide)) passN rfl (pa_cons (pv 4) (pa_cons pe_str (pa_cons pe_int pa_nil)))))) pss_nil)
    (pss_cons (ps_if (pt_not (pt_chain op_leU op_leU pe_int (pv 3) (pe_callB call_lenU (by rfl) T.f_len (by decide +kernel) (pa_cons (pv 1) pa_nil)))) (pss_one (ps_ret (pe_callG G__law_refused (hr.mono (by decide)) passN rfl (pa_cons (pv 4) (pa_cons pe_str (pa_cons (pv 3) pa_nil)))))) pss_nil)
    (pss_cons (ps_if (PW.pt (pw_or (pt_cmpR (op_neU hr) (pe_ix ix_seq (pv 4) pe_int (fun _ _ => rfl)) pe_str (nomark _)) (pw_or (pt_not (pt_val (pe_callB call_isi (by rfl) T.f_isinstance (by decide +kernel) (pa_cons (pe_ix ix_seq (pv 4) pe_int (fun _ _ => rfl)) (pa_cons (pe_bltn (v := .ty "tuple") (by rfl) T.f_tuple (by decide +kernel) rfl) pa_nil))))) (pw_or1 (pt_cmpR (op_neU hr) (pe_callB call_lenU (by rfl) T.f_len (by decide +kernel) (pa_cons (pe_ix ix_seq (pv 4) pe_int (fun _ _ => rfl)) pa_nil)) pe_int (nomark _)))))) (pss_one (ps_ret pe_bl)) pss_nil)
    (pss_cons (ps_if (pt_not (pt_val (pe_callG G__law_is_text (hr.mono (by decide)) passN rfl (pa_cons (pe_ix ix_seq (pe_ix ix_seq (pv 4) pe_int (fun _ _ => rfl)) pe_int (fun _ _ => rfl)) (pa_cons (pe_slice sl_U (pv 1) po_none (po_some (pv 3))) (pa_cons pe_bl pa_nil)))))) (pss_one (ps_ret pe_bl)) pss_nil)
    (pss_one (ps_ret (pe_callG G__law_is_text (hr.mono (by decide)) passN rfl (pa_cons (pe_ix ix_seq (pe_ix ix_seq (pv 4) pe_int (fun _ _ => rfl)) pe_int (fun _ _ => rfl)) (pa_cons (pe_slice sl_U (pv 1) (po_some (pv 3)) po_none) (pa_cons pe_bl pa_nil))))))))))), ?_⟩
  obtain ⟨p, z, c, i, rfl, hg, ht, hi, q⟩ := h
  have hz2 : z.length ≤ 120 := hg.2.1
  have l1 := cutS_length z (some i) none
  have l2 := cutS_length z none (some i)
  walk_at "xs"
  refine ⟨p, z, c, "halves", .int i, aHalves z c i, rfl, hg, ht, .halves i hi, fun t H1 e1 h1 => ?_⟩
  walk_at "xs"
  refine x_if (b := c) (by walk_at "et") (fun hb H2 e2 => ?_) (fun hb H2 e2 => ?_)
  · rw [show aHalves z c i = .exn .closed 0 from if_pos hb] at h1
    have h1' : H1 t = some (.tup [.str "closed", .int 0, .bl true]) := h1
    walk_at "xs"
    exact q _ (by walk_at "le")
  · walk_at "xs"
    have hc : ¬ c = true := by rw [hb]; decide
    refine x_if (b := !(decide (0 ≤ i) && decide (i ≤ z.length))) (by walk_at "et") (fun hb2 H3 e3 => ?_) (fun hb2 H3 e3 => ?_)
    · rw [show aHalves z c i = .exn .place i from by unfold aHalves; rw [if_neg hc]; exact if_neg fun q => by simp [q.1, q.2] at hb2] at h1
      have h1' : H1 t = some (.tup [.str "place", .int i, .bl true]) := h1
      walk_at "xs"
      exact q _ (by walk_at "le")
    · simp only [Bool.not_eq_false', Bool.and_eq_true, decide_eq_true_eq] at hb2
      rw [show aHalves z c i = .two (cutS z none (some i)) (cutS z (some i) none) from by unfold aHalves; rw [if_neg hc]; exact if_pos hb2] at h1
      obtain ⟨v, h1, p1, x1, y1, rfl, hp1, hx1, hy1⟩ := h1
      walk_at "xs"
      refine x_no (et_is (b := !decide (("good" : Str) = "good") || (!true || !decide (((List.length [V.ref x1, V.ref y1] : Nat) : Int) = 2))) (by walk_at "et") (by simp)) fun H4 e4 => ?_
      have g1 : Good (cutS z none (some i)) false := hg.cut
      have g2 : Good (cutS z (some i) none) false := hg.cut
      walk_at "xs"
      refine x_no (et_is (b := !true) (by walk_at "et") rfl) fun H5 e5 => ?_
      walk_at "xs"
      exact q _ (by walk_at "le")
theorem ok__law_cut {P : Program} {w : World} {K : PySem.W.Frag} {mg : Str → Option Value} {base : Heap} {a : Ad} {f : Addr} {fd : FuncData} (F : FnP K "_law_cut" "_law_cut" s__law_cut f fd) (T : Txt K mg a) (G__law_is_text : FnG P w K mg base 6 "_law_is_text" (sp__law_is_text a)) (G__law_refused : FnG P w K mg base 2 "_law_refused" (sp__law_refused a)) (G__law_do : FnG P w K mg base 7 "_law_do" (sp__law_do a)) :
    FnOk P w K mg base (L2.CX P w) 8 f fd ["_law_text", "_law_shown", "_law_closed", "_law_at"] (sp__law_cut a) := by
  refine F.ok sc__law_cut (fun vs H Q E h => by obtain ⟨p, z, c, i, rfl, hg, ht, hi, q⟩ := h; rfl) (fun cdv A outer s H vs Q E hr h => ?_)
  refine ⟨_, (pss_cons (ps_set (i := 4) sc__law_cut.nd rfl (Or.inl rfl) (pe_callG G__law_do (hr.mono (by decide)) passN rfl (pa_cons (pv 0) (pa_cons pe_str (pa_cons (pv 3) pa_nil)))))
    (pss_cons (ps_if (pt_not (pt_val (pv 2))) (pss_one (ps_ret (pe_callG G__law_refused (hr.mono (by decide)) passN rfl (pa_cons (pv 4) (pa_cons pe_str (pa_cons pe_int pa_nil)))))) pss_nil)
    (pss_cons (ps_if (pt_not (pt_chain op_leU op_ltU pe_int (pv 3) (pe_callB call_lenU (by rfl) T.f_len (by decide +kernel) (pa_cons (pv 1) pa_nil)))) (pss_one (ps_ret (pe_callG G__law_refused (hr.mono (by decide)) passN rfl (pa_cons (pv 4) (pa_cons pe_str (pa_cons (pv 3) pa_nil)))))) pss_nil)
    (pss_cons (ps_set (i := 5) sc__law_cut.nd rfl (Or.inl rfl) (pe_op op_addU (pe_slice sl_U (pv 1) (po_some (pv 3)) po_none) (pe_slice sl_U (pv 1) po_none (po_some (pv 3)))))
    (pss_one (ps_ret (pe_and (pe_cmpR (op_eqU hr) (pe_ix ix_seq (pv 4) pe_int (fun _ _ => rfl)) pe_str (nomark _)) (pe_one (pe_callG G__law_is_text (hr.mono (by decide)) passN rfl (pa_cons (pe_ix ix_seq (pv 4) pe_int (fun _ _ => rfl)) (pa_cons (pv 5) (pa_cons pe_bl pa_nil)))))))))))), ?_⟩
  obtain ⟨p, z, c, i, rfl, hg, ht, hi, q⟩ := h
  have hz2 : z.length ≤ 120 := hg.2.1
  have l1 := cutS_length z (some i) none
  have l2 := cutS_length z none (some i)
  walk_at "xs"
  refine ⟨p, z, c, "cut", .int i, aCut z c i, rfl, hg, ht, .cut i hi, fun t H1 e1 h1 => ?_⟩
  walk_at "xs"
  refine x_if (b := !c) (by walk_at "et") (fun hb H2 e2 => ?_) (fun hb H2 e2 => ?_)
  · rw [show aCut z c i = .exn .opn 0 from if_pos (by simpa using hb)] at h1
    have h1' : H1 t = some (.tup [.str "open", .int 0, .bl true]) := h1
    walk_at "xs"
    exact q _ (by walk_at "le")
  · walk_at "xs"
    have hc : ¬ c = false := by simpa using hb
    refine x_if (b := !(decide (0 ≤ i) && decide (i < z.length))) (by walk_at "et") (fun hb2 H3 e3 => ?_) (fun hb2 H3 e3 => ?_)
    · rw [show aCut z c i = .exn .place i from by unfold aCut; rw [if_neg hc]; exact if_neg fun q => by simp [q.1, q.2] at hb2] at h1
      have h1' : H1 t = some (.tup [.str "place", .int i, .bl true]) := h1
      walk_at "xs"
      exact q _ (by walk_at "le")
    · simp only [Bool.not_eq_false', Bool.and_eq_true, decide_eq_true_eq] at hb2
      rw [show aCut z c i = .txt (rot z i) false from by unfold aCut; rw [if_neg hc]; exact if_pos hb2] at h1
      obtain ⟨v, h1, p1, rfl, hp1⟩ := h1
      have g1 : Good (rot z i) false := hg.rot (d := false) (fun q => nomatch q)
      have er : cutS z (some i) none ++ cutS z none (some i) = rot z i := rfl
      walk_at "xs"
      rw [er]
      refine x_andV (b := true) (ev_is (b := decide (("good" : Str) = "good") && true) ?_ (by simp)) fun H4 e4 => q _ (by walk_at "le")
      walk_at "ev"
theorem ok__law_turn {P : Program} {w : World} {K : PySem.W.Frag} {mg : Str → Option Value} {base : Heap} {a : Ad} {f : Addr} {fd : FuncData} (F : FnP K "_law_turn" "_law_turn" s__law_turn f fd) (T : Txt K mg a) (G__law_is_text : FnG P w K mg base 6 "_law_is_text" (sp__law_is_text a)) (G__law_refused : FnG P w K mg base 2 "_law_refused" (sp__law_refused a)) (G__law_do : FnG P w K mg base 7 "_law_do" (sp__law_do a)) :
    FnOk P w K mg base (L2.CX P w) 8 f fd ["_law_text", "_law_shown", "_law_closed", "_law_by"] (sp__law_turn a) := by
  refine F.ok sc__law_turn (fun vs H Q E h => by obtain ⟨p, z, c, i, rfl, hg, ht, q⟩ := h; rfl) (fun cdv A outer s H vs Q E hr h => ?_)
  refine ⟨_, (pss_cons (ps_set (i := 4) sc__law_turn.nd rfl (Or.inl rfl) (pe_callG G__law_do (hr.mono (by decide)) passN rfl (pa_cons (pv 0) (pa_cons pe_str (pa_cons (pv 3) pa_nil)))))
    (pss_cons (ps_if (pt_not (pt_val (pv 2))) (pss_one (ps_ret (pe_callG G__law_refused (hr.mono (by decide)) passN rfl (pa_cons (pv 4) (pa_cons pe_str (pa_cons pe_int pa_nil)))))) pss_nil)
    (pss_cons (ps_set (i := 5) sc__law_turn.nd rfl (Or.inl rfl) (pe_op op_modN (pe_callTy call_intU (by rfl) T.f_int (by decide +kernel) (pa_cons (pv 3) pa_nil)) (pe_callB call_lenU (by rfl) T.f_len (by decide +kernel) (pa_cons (pv 1) pa_nil))))
    (pss_cons (ps_set (i := 6) sc__law_turn.nd rfl (Or.inl rfl) (pe_op op_addU (pe_slice sl_U (pv 1) (po_some (pv 5)) po_none) (pe_slice sl_U (pv 1) po_none (po_some (pv 5)))))
    (pss_one (ps_ret (pe_and (pe_cmpR (op_eqU hr) (pe_ix ix_seq (pv 4) pe_int (fun _ _ => rfl)) pe_str (nomark _)) (pe_one (pe_callG G__law_is_text (hr.mono (by decide)) passN rfl (pa_cons (pe_ix ix_seq (pv 4) pe_int (fun _ _ => rfl)) (pa_cons (pv 6) (pa_cons pe_bl pa_nil)))))))))))), ?_⟩
  obtain ⟨p, z, c, i, rfl, hg, ht, q⟩ := h
  have hz2 : z.length ≤ 120 := hg.2.1
  walk_at "xs"
  refine ⟨p, z, c, "turn", .int i, aTurn z c i, rfl, hg, ht, .turn i, fun t H1 e1 h1 => ?_⟩
  walk_at "xs"
  refine x_if (b := !c) (by walk_at "et") (fun hb H2 e2 => ?_) (fun hb H2 e2 => ?_)
  · rw [show aTurn z c i = .exn .opn 0 from if_pos (by simpa using hb)] at h1
    have h1' : H1 t = some (.tup [.str "open", .int 0, .bl true]) := h1
    walk_at "xs"
    exact q _ (by walk_at "le")
  · have hc : c = true := by simpa using hb
    have hne : z.length ≠ 0 := fun q => hg.2.2 hc (empty_iff.mpr q)
    rw [show aTurn z c i = .txt (rot z (i.fmod z.length)) true from if_neg (by rw [hc]; decide)] at h1
    obtain ⟨v, h1, p1, rfl, hp1⟩ := h1
    walk_at "xs"
    refine x_I (by show ((z.length : Nat) : Int) ≠ 0; omega) ?_
    have l1 := cutS_length z (some (i.fmod z.length)) none
    have l2 := cutS_length z none (some (i.fmod z.length))
    have g1 : Good (rot z (i.fmod z.length)) true := hg.rot (d := true) (fun _ => hg.2.2 hc)
    have er : cutS z (some (i.fmod z.length)) none ++ cutS z none (some (i.fmod z.length)) = rot z (i.fmod z.length) := rfl
    walk_at "xs"
    rw [er]
    refine x_andV (b := true) (ev_is (b := decide (("good" : Str) = "good") && true) ?_ (by simp)) fun H4 e4 => q _ (by walk_at "le")
    walk_at "ev"
theorem ok__law_sum {P : Program} {w : World} {K : PySem.W.Frag} {mg : Str → Option Value} {base : Heap} {a : Ad} {f : Addr} {fd : FuncData} (F : FnP K "_law_sum" "_law_sum" s__law_sum f fd) (T : Txt K mg a) (G__law_is_text : FnG P w K mg base 6 "_law_is_text" (sp__law_is_text a)) (G__law_refused : FnG P w K mg base 2 "_law_refused" (sp__law_refused a)) (G__law_do : FnG P w K mg base 7 "_law_do" (sp__law_do a)) :
    FnOk P w K mg base (L2.CX P w) 8 f fd ["_law_one", "_law_two", "_law_shown", "_law_other", "_law_closed"] (sp__law_sum a) := by
  refine F.ok sc__law_sum (fun vs H Q E h => by obtain ⟨p, z, c, p2, w, d, rfl, hg, ht, hg2, ht2, q⟩ := h; rfl) (fun cdv A outer s H vs Q E hr h => ?_)
  refine ⟨_, (pss_cons (ps_set (i := 5) sc__law_sum.nd rfl (Or.inl rfl) (pe_callG G__law_do (hr.mono (by decide)) passN rfl (pa_cons (pv 0) (pa_cons pe_str (pa_cons (pv 1) pa_nil)))))
    (pss_cons (ps_if (pt_val (pv 4)) (pss_one (ps_ret (pe_callG G__law_refused (hr.mono (by decide)) passN rfl (pa_cons (pv 5) (pa_cons pe_str (pa_cons pe_int pa_nil)))))) pss_nil)
    (pss_cons (ps_if (pt_cmpR op_gt (pe_op op_addU (pe_callB call_lenU (by rfl) T.f_len (by decide +kernel) (pa_cons (pv 2) pa_nil)) (pe_callB call_lenU (by rfl) T.f_len (by decide +kernel) (pa_cons (pv 3) pa_nil))) pe_int (nomark _)) (pss_one (ps_ret (pe_callG G__law_refused (hr.mono (by decide)) passN rfl (pa_cons (pv 5) (pa_cons pe_str (pa_cons (pe_op op_addU (pe_callB call_lenU (by rfl) T.f_len (by decide +kernel) (pa_cons (pv 2) pa_nil)) (pe_callB call_lenU (by rfl) T.f_len (by decide +kernel) (pa_cons (pv 3) pa_nil))) pa_nil)))))) pss_nil)
    (pss_one (ps_ret (pe_and (pe_cmpR (op_eqU hr) (pe_ix ix_seq (pv 5) pe_int (fun _ _ => rfl)) pe_str (nomark _)) (pe_one (pe_callG G__law_is_text (hr.mono (by decide)) passN rfl (pa_cons (pe_ix ix_seq (pv 5) pe_int (fun _ _ => rfl)) (pa_cons (pe_op op_addU (pv 2) (pv 3)) (pa_cons pe_bl pa_nil))))))))))), ?_⟩
  obtain ⟨p, z, c, p2, w, d, rfl, hg, ht, hg2, ht2, q⟩ := h
  have hz2 : z.length ≤ 120 := hg.2.1
  have hw2 : w.length ≤ 120 := hg2.2.1
  walk_at "xs"
  refine ⟨p, z, c, "sum", .ref p2, aSum z c w d, rfl, hg, ht, .sum p2 w d ht2 hg2, fun t H1 e1 h1 => ?_⟩
  walk_at "xs"
  refine x_if (b := c || d) (by walk_at "et") (fun hb H2 e2 => ?_) (fun hb H2 e2 => ?_)
  · rw [show aSum z c w d = .exn .closed 0 from if_pos (by simpa using hb)] at h1
    have h1' : H1 t = some (.tup [.str "closed", .int 0, .bl true]) := h1
    walk_at "xs"
    exact q _ (by walk_at "le")
  · walk_at "xs"
    rw [show aSum z c w d = mk (z ++ w) false from if_neg (by simpa using hb)] at h1
    have hbd : bad (z ++ w) = none := bad_app hg.1 hg2.1
    refine x_if (b := decide ((120 : Int) < (z.length : Int) + (w.length : Int))) (by walk_at "et") (fun hb2 H3 e3 => ?_) (fun hb2 H3 e3 => ?_)
    · have hb2 := of_decide_eq_true hb2
      rw [show mk (z ++ w) false = .exn .size ((z ++ w).length) from by unfold mk; rw [hbd]; exact if_pos (.inl (by rw [slen_app]; omega)), slen_app] at h1
      have h1' : H1 t = some (.tup [.str "size", .int ((z.length : Int) + (w.length : Int)), .bl true]) := by
        rw [show ((z.length : Int) + (w.length : Int)) = ((z.length + w.length : Nat) : Int) from by omega]
        exact h1
      walk_at "xs"
      exact q _ (by walk_at "le")
    · have hb2 := of_decide_eq_false hb2
      have g : Good (z ++ w) false := ⟨hbd, by rw [slen_app]; omega, fun q => nomatch q⟩
      rw [g.mk] at h1
      obtain ⟨v, h1, p1, rfl, hp1⟩ := h1
      walk_at "xs"
      refine x_andV (b := true) (ev_is (b := decide (("good" : Str) = "good") && true) ?_ (by simp)) fun H4 e4 => q _ (by walk_at "le")
      walk_at "ev"
/-! ### the least turn -/
theorem minS_le (z : Str) : ∀ l : List Str, ¬ z.cps.toList < (minS (z :: l)).cps.toList := by
  have key : ∀ (l : List Str) (b : Str), ¬ z.cps.toList < b.cps.toList → ¬ z.cps.toList < (l.foldl (fun b x => if x.cps.toList < b.cps.toList then x else b) b).cps.toList := by
    intro l
    induction l with
    | nil => exact fun b h => h
    | cons x r ih =>
      intro b h
      rw [List.foldl_cons]
      refine ih _ ?_
      by_cases q : x.cps.toList < b.cps.toList
      · rw [if_pos q]
        exact fun k => h (List.lt_trans k q)
      · rw [if_neg q]; exact h
  exact fun l => key l z (List.lt_irrefl _)
theorem rot_end {z : Str} {k : Int} (h : k = 0 ∨ k = z.length) : rot z k = z := by
  apply str_ext
  rw [rot_l]
  rcases h with h | h
  · subst h
    rw [show HT.sIx z.length 0 (some 0) = 0 from by rw [show (0 : Int) = ((0 : Nat) : Int) from rfl, HT.sIx_nat]; omega]
    simp
  · subst h
    rw [HT.sIx_nat, Nat.min_self, List.drop_eq_nil_of_le (by rw [len_l]; exact Nat.le_refl _), List.take_of_length_le (by rw [len_l]; exact Nat.le_refl _)]
    rfl
theorem minS_rots (z : Str) : minS (z :: (List.range (z.length - 1)).map fun (k : Nat) => rot z ((1 : Int) + (k : Int))) = minS ((List.range (z.length + 1)).map fun (k : Nat) => rot z (k : Int)) := by
  rw [List.range_succ_eq_map, List.map_cons, List.map_map]
  rw [show rot z ((0 : Nat) : Int) = z from rot_end (.inl rfl)]
  have e : (List.range z.length).map ((fun (k : Nat) => rot z (k : Int)) ∘ Nat.succ) = (List.range z.length).map fun (k : Nat) => rot z ((1 : Int) + (k : Int)) := by
    apply List.map_congr_left
    intro k _
    show rot z ((k + 1 : Nat) : Int) = _
    congr 1
    omega
  rw [e]
  cases hn : z.length with
  | zero => rfl
  | succ n =>
    rw [List.range_succ, List.map_append]
    show minS (z :: (List.range (n + 1 - 1)).map _) = minS (z :: (_ ++ [rot z ((1 : Int) + (n : Int))]))
    rw [minS_snoc, show rot z ((1 : Int) + (n : Int)) = z from rot_end (.inr (by omega)), if_neg (minS_le z _)]
    rfl
theorem ok__law_turns {P : Program} {w : World} {K : PySem.W.Frag} {mg : Str → Option Value} {base : Heap} {a : Ad} {f : Addr} {fd : FuncData} (F : FnP K "_law_turns" "_law_turns" s__law_turns f fd) (T : Txt K mg a) (G_least_turn : FnG P w K mg base 4 "least_turn" (sp_least_turn a)) (E__law_pure : FnEG P w K mg base 1 "_law_pure" (sE__law_pure a)) (E__law_whole : FnEG P w K mg base 1 "_law_whole" (sE__law_whole a)) (G__law_fault : FnG P w K mg base 1 "_law_fault" (sp__law_fault a)) :
    FnOk P w K mg base (L2.CX P w) 5 f fd ["_law_shown"] (sp__law_turns a) := by
  refine F.ok sc__law_turns (fun vs H Q E h => by obtain ⟨z, rfl, hz, q⟩ := h; rfl) (fun cdv A outer s H vs Q E hr h => ?_)
  refine ⟨_, (pss_cons (ps_set (i := 1) sc__law_turns.nd rfl (Or.inl rfl) (pe_callG G__law_fault (hr.mono (by decide)) passN rfl (pa_cons (pv 0) (pa_cons pe_bl pa_nil))))
    (pss_cons (ps_try_asL rfl rfl sc__law_turns.nd (takes_of rfl rfl rfl rfl) (fun W pn xe tk po => (pss_one (ps_set (i := 2) sc__law_turns.nd rfl (Or.inl rfl) (pe_callG G_least_turn (hr.mono (by decide)) (passW tk) rfl (pa_cons (pv 0) pa_nil))))) (.cons (i := 3) ⟨rfl, by decide, .inl T.g_BadSign⟩ rfl rfl (fun a0 oe cls d pn hz hf => (pss_cons (ps_set (i := 4) sc__law_turns.nd rfl (Or.inl rfl) (pe_and (pe_cmpR op_eq (pe_ix (ix_seqk K rfl) (pv 1) pe_int (fun _ _ => rfl)) pe_str (nomark _)) (pe_and (pe_callEG E__law_whole ((roomS hr).mono (by decide)) hz hf (by rfl) (pa_cons (pe_xf (T.xf .sign) (T.nf .sign) hz hf (pv 3)) pa_nil)) (pe_one (pe_cmpR op_eq (pe_xf (T.xf .sign) (T.nf .sign) hz hf (pv 3)) (pe_ix (ix_seqk K rfl) (pv 1) pe_int (fun _ _ => rfl)) (nomark _))))))
    (pss_one (ps_ret (pe_and (pv 4) (pe_one (pe_callEG E__law_pure ((roomS hr).mono (by decide)) hz hf (by rfl) (pa_cons (pv 3) pa_nil)))))))) .nil))
    (pss_cons (ps_if (PW.pt (pw_or (pt_cmpR (op_eqU hr) (pe_ix ix_seq (pv 1) pe_int (fun _ _ => rfl)) pe_str (nomark _)) (pw_or1 (pt_not (pt_val (pe_callB call_isi (by rfl) T.f_isinstance (by decide +kernel) (pa_cons (pv 2) (pa_cons (pe_bltn (v := .ty "str") (by rfl) T.f_str (by decide +kernel) rfl) pa_nil)))))))) (pss_one (ps_ret pe_bl)) pss_nil)
    (pss_one (ps_ret (pe_cmpR (op_eqU hr) (pv 2) (pe_callB (call_minS rfl) (by rfl) T.f_min (by decide +kernel) (pa_cons (pe_lc (own := [("_law_k", 5)]) (g := gName 5) (tt := tYes) rfl sc__law_turns.nd (pi_range1 (by rfl) T.f_range (pa_cons (pe_op op_addU (pe_callB call_lenU (by rfl) T.f_len (by decide +kernel) (pa_cons (pv 0) pa_nil)) pe_int) pa_nil)) (blkOk_by (N := ["_law_shown", "_law_fault_here", "_law_told", "_law_e", "_law_due", "_law_k"]) (sc := defScope s__law_turns) (by decide +kernel)) (fun _ _ _ _ _ => pg_name (i := 5) sc__law_turns.nd rfl (Or.inl rfl)) (fun _ _ _ _ _ => pts_nil) (fun _ _ _ _ _ => (pe_op op_addU (pe_slice (sl_Uk K rfl) (pv 0) (po_some (pv 5)) po_none) (pe_slice (sl_Uk K rfl) (pv 0) po_none (po_some (pv 5)))))) pa_nil)) (nomark _))))))), ?_⟩
  obtain ⟨z, rfl, hz, q⟩ := h
  have hz2 : z.length ≤ 1000 := hz
  walk_at "xs"
  refine c_fault hz fun p1 H1 e1 h1 => ?_
  walk_at "xs"
  refine x_tryC (fun W => ∀ i cls d H', bad z = some i → Le H1 H' → ExcIs a .sign i cls d H' → W cls d ((L2.start ["_law_shown", "_law_fault_here", "_law_told", "_law_e", "_law_due", "_law_k"] [V.str z]).set 1 (some (.ref p1))) H') ?_ fun W hW => ?_
  · intro i cls d H' hk le hx
    obtain ⟨rfl, hx2⟩ := id hx
    obtain ⟨dd, rfl, hdd⟩ := hx2
    rw [show mk z false = .exn .sign i from by unfold mk; rw [hk]] at h1
    have h1' : H1 p1 = some (.tup [.str "sign", .int i]) := h1
    refine ⟨true, T.exm .sign .sign, fun _ a0 ha => ?_, fun q => nomatch q⟩
    walk_at "xs"
    refine x_andV (b := true) (ev_is (b := decide (("sign" : Str) = "sign") && (true && decide ((i : Int) = (i : Int)))) (ev_andV (ev_run fun H2 e2 Q2 q2 => ?_) (fun _ => ev_andV (ev_run fun H2 e2 Q2 q2 => ?_) (fun _ => ev_run fun H2 e2 Q2 q2 => ?_))) (by simp)) fun H2 e2 => ?_
    · walk_at "xs"
      exact q2 _ (Le.refl _)
    · walk_at "xs"
      refine x_kXf (C := a.x .sign) (e2.keep hdd) lk1 ?_
      walk_at "xs"
      exact ⟨i, rfl, q2⟩
    · walk_at "xs"
      refine x_kXf (C := a.x .sign) (e2.keep hdd) lk1 ?_
      walk_at "xs"
      exact q2 _ (Le.refl _)
    · walk_at "xs"
      refine x_andV (b := true) (ev_is (b := true && true) (ev_andV (ev_run fun H3 e3 Q3 q3 => ?_) (fun _ => ev_run fun H3 e3 Q3 q3 => ?_)) rfl) fun H3 e3 => q _ (by walk_at "le")
      · walk_at "xs"
        exact q3 _ (Le.refl _)
      · walk_at "xs"
        exact c_pure (ExcIs.le (e2.trans e3) hx) q3
  · walk_at "xs"
    refine ⟨z, rfl, hz, fun v H2 e2 t2 => ?_, fun k i hk cls d H2 e2 hx => ?_⟩
    · cases hb : bad z with
      | some i =>
        unfold lturn at t2
        rw [hb] at t2
        exact t2.elim
      | none =>
        rw [lturn_none hb, minS_rots] at t2
        obtain rfl : v = _ := t2
        have hkind : ∃ n i, H1 p1 = some (.tup [.str n, .int i]) ∧ decide (n = ("sign" : Str)) = false := by
          rcases mk_cases z false with ⟨k, i, hk⟩ | ⟨_, hk⟩
          · rw [hk] at h1
            refine ⟨k.nm, i, h1, ?_⟩
            unfold mk at hk
            rw [hb] at hk
            dsimp only at hk
            split at hk <;> cases hk
            decide +kernel
          · rw [hk] at h1
            exact ⟨"good", 0, h1, by decide +kernel⟩
        obtain ⟨n, i, h1', hn⟩ := hkind
        walk_at "xs"
        refine x_no (et_is (b := decide (n = ("sign" : Str)) || !true) (by walk_at "et") (by rw [hn]; rfl)) fun H3 e3 => ?_
        walk_at "xs"
        refine x_lcR (f := fun (k : Nat) => rot z (k : Int)) (by omega) (fun _ => rfl) (fun i H4 hi e4 Qe qe => ?_) fun l H4 e4n e4 hl => ?_
        · have l1 := cutS_length z (some (i : Int)) none
          have l2 := cutS_length z none (some (i : Int))
          walk_at "xs"
          exact qe _ (Le.refl _)
        · walk_at "xs"
          refine x_min hl (by rw [List.length_map, List.length_range]; omega) ?_
          walk_at "xs"
          have e : ((z.length : Int) + 1).toNat = z.length + 1 := by omega
          rw [e, decide_eq_true rfl]
          exact q _ (by walk_at "le")
    · refine hW i.toNat cls d H2 ?_ e2 ?_
      · unfold lturn at hk
        cases hb : bad z with
        | some j => rw [hb] at hk; cases hk; rfl
        | none => rw [hb] at hk; cases hk
      · unfold lturn at hk
        cases hb : bad z with
        | some j => rw [hb] at hk; cases hk; exact hx
        | none => rw [hb] at hk; cases hk
end K2
set_option maxHeartbeats 4000000
/-! K2J: what is drawn -/
namespace K2
open PySem PySem.Spec PyProof.Rows L2 MC
local macro_rules | `(tactic| walk_at "hp") => `(tactic| first | assumption | (apply Le.keep; assumption; walk_at "hp") | (apply TextAt.le; assumption; walk_at "hp") | (apply Lw.keep; assumption; walk_at "hp"; first | rfl | exact sh_str _ | exact sh_ints _ | exact sh_sgns _) | (apply TextAt.lw; assumption; walk_at "hp"))
local macro_rules | `(tactic| walk_at "le") => `(tactic| first | exact Le.refl _ | assumption | (apply Le.trans'; assumption; walk_at "le"))
local macro_rules | `(tactic| walk_at "lw") => `(tactic| first | exact Lw.refl _ | assumption | exact Le.w (by assumption) | (apply Lw.trans'; (first | assumption | exact Le.w (by assumption)); walk_at "lw"))
local macro_rules | `(tactic| walk_at "sz") => `(tactic| first | omega | (simp only [slen_app]; omega) | (simp only [List.length_cons, List.length_nil, List.length_map, List.length_range]; omega) | omega | (simp; omega) | decide)
local macro_rules | `(tactic| walk_at "x") => `(tactic| first
  | with_reducible refine x_seq ?_ | with_reducible refine x_asg ?_ | with_reducible refine x_ret ?_ | with_reducible refine x_drop ?_
  | ((with_reducible apply x_var); exact rfl) | with_reducible refine x_c ?_ | with_reducible refine x_op ?_ | with_reducible refine x_opS ?_ | with_reducible refine x_un ?_ | with_reducible refine x_neg ?_
  | with_reducible refine x_test ?_ | with_reducible refine x_tB ?_ | with_reducible refine x_kB ?_
  | with_reducible refine x_nil ?_ | with_reducible refine x_cons ?_ | with_reducible refine x_tup ?_ | with_reducible refine x_lst ?_
  | ((with_reducible refine x_kTup ?_ ?_); (walk_at "sz"); (intro _ _ _ _ _)) | ((with_reducible refine x_kLst ?_ ?_); (walk_at "sz"); (intro _ _ _ _ _))
  | with_reducible refine x_fld ?_ | ((with_reducible apply x_fS); assumption; (walk_at "hp")) | ((with_reducible apply x_fC); assumption; (walk_at "hp"))
  | with_reducible refine x_cb ?_ | with_reducible refine x_call ?_ | with_reducible refine x_callE ?_ | with_reducible refine x_bm ?_ | with_reducible refine x_cv ?_
  | with_reducible refine x_meth ?_ | with_reducible refine x_cm ?_ | with_reducible refine x_kCM ?_ | with_reducible refine x_mk ?_ | with_reducible refine x_kMk ?_
  | with_reducible refine x_np ?_ | with_reducible refine x_part ?_ | with_reducible refine x_kPart ?_ | with_reducible refine x_sl ?_ | with_reducible refine x_rev ?_
  | with_reducible refine x_addI ?_ | ((with_reducible refine x_addS ?_ ?_); (walk_at "sz")) | with_reducible refine x_I0 ?_
  | with_reducible refine x_eqS ?_ | with_reducible refine x_eqI ?_ | with_reducible refine x_eqB ?_ | with_reducible refine x_neS ?_ | with_reducible refine x_neI ?_ | with_reducible refine x_neB ?_
  | with_reducible refine x_eqFS ?_ | with_reducible refine x_eqFI ?_
  | with_reducible refine x_ltI ?_ | with_reducible refine x_ltS ?_ | with_reducible refine x_leI ?_ | with_reducible refine x_leS ?_ | with_reducible refine x_inT ?_ | with_reducible refine x_notInT ?_
  | ((with_reducible refine x_slS ?_ ?_); (walk_at "sz")) | ((with_reducible refine x_kRev ?_ ?_); (walk_at "sz"))
  | ((with_reducible refine x_lenS ?_ ?_); (walk_at "sz")) | ((with_reducible apply x_lenT); (walk_at "hp"))
  | ((with_reducible apply x_ixT); (walk_at "hp"); exact rfl)
  | with_reducible refine x_abs ?_ | with_reducible refine x_int ?_ | with_reducible refine x_strS ?_
  | ((with_reducible apply x_isB); (first | exact kit_ty (r := true) (by decide +kernel) | exact kit_ty (r := false) (by decide +kernel))) | ((with_reducible apply x_isI); (first | exact kit_ty (r := true) (by decide +kernel) | exact kit_ty (r := false) (by decide +kernel))) | ((with_reducible apply x_isS); (first | exact kit_ty (r := true) (by decide +kernel) | exact kit_ty (r := false) (by decide +kernel)))
  | ((with_reducible apply x_isT); (walk_at "hp"); (first | exact kit_ty (r := true) (by decide +kernel) | exact kit_ty (r := false) (by decide +kernel)))
  | ((with_reducible apply x_isText); assumption; (walk_at "hp")) | ((with_reducible apply x_isTextS); assumption) | ((with_reducible apply x_isTextI); assumption) | ((with_reducible apply x_isTextN); assumption) | ((with_reducible apply x_kCVT); assumption)
  | ((with_reducible apply x_addL); (walk_at "hp"); (walk_at "hp"); (walk_at "sz"); (intro _ _ _ _ _)) | ((with_reducible apply x_tyL); (walk_at "hp")) | with_reducible refine x_tyS ?_
  | with_reducible refine x_joined ?_ | with_reducible refine x_js ?_ | with_reducible refine x_js0 ?_ | ((with_reducible refine x_kJs ?_ ?_); (walk_at "sz")) | with_reducible refine x_fmt ?_ | ((with_reducible refine x_fmtS ?_ ?_); (walk_at "sz")) | ((with_reducible refine x_fmtI ?_ ?_); omega)
  | with_reducible refine x_rse ?_ | with_reducible refine x_ex ?_ | with_reducible refine x_ex0 ?_ | with_reducible refine x_xf ?_
  | with_reducible refine x_for ?_ | with_reducible refine x_r1 ?_ | with_reducible refine x_r2 ?_ | with_reducible refine x_il ?_ | with_reducible refine x_en ?_ | with_reducible refine x_lc ?_ | with_reducible refine x_next ?_ | dsimp only)
local macro_rules | `(tactic| walk_at "xs") => `(tactic| repeat walk_at "x")
local macro_rules | `(tactic| walk_at "ev0") => `(tactic| (refine ev_run ?_; intro _ _ _ q; walk_at "xs"; refine q _ ?_; walk_at "le"))
local macro_rules | `(tactic| walk_at "ch") => `(tactic| (intro _ _ _ q; walk_at "xs"; refine q _ ?_; walk_at "le"))
local macro_rules | `(tactic| walk_at "ev") => `(tactic| first
  | (focus ((with_reducible refine ev_andV ?_ (fun _ => ?_)); (all_goals walk_at "ev"))) | (focus ((with_reducible refine ev_orV ?_ (fun _ => ?_)); (all_goals walk_at "ev")))
  | ((with_reducible refine ev_notV ?_); walk_at "ev")
  | (focus ((with_reducible apply ev_chain); (focus walk_at "ch"); (focus walk_at "ch"); (focus walk_at "ch"); (focus (intro _ _ _ q; walk_at "x"; exact q)); (focus (intro _ _ _ q; walk_at "x"; exact q))))
  | walk_at "ev0" | skip)
local macro_rules | `(tactic| walk_at "et") => `(tactic| first
  | (focus ((with_reducible refine et_and ?_ (fun _ => ?_)); (all_goals walk_at "et"))) | (focus ((with_reducible refine et_or ?_ (fun _ => ?_)); (all_goals walk_at "et")))
  | ((with_reducible refine et_not ?_); walk_at "et") | ((with_reducible refine et_B ?_); walk_at "ev") | ((with_reducible refine et_T ?_); walk_at "ev"))
/-! ### the drawing list -/
def St (H : Hp) (s : Addr) : Prop := ∃ l ns pos rest, H s = some (.lst [.ref l, .int pos, .int rest]) ∧ H l = some (.lst ((ns : List Int).map V.int)) ∧ (0 : Int) ≤ pos ∧ (0 : Int) ≤ rest
theorem St.le {H H' : Hp} {s : Addr} (e : Le H H') (h : St H s) : St H' s := by
  obtain ⟨l, ns, pos, rest, h1, h2, h3, h4⟩ := h
  exact ⟨l, ns, pos, rest, e.keep h1, e.keep h2, h3, h4⟩
theorem St.own {H : Hp} {s p : Addr} {o : HO} {xs : List V} (h : St H s) (hp : H p = some (.lst xs)) (hx : stSh (.lst xs) = false) (hy : ∀ ns : List Int, xs ≠ ns.map V.int) : St (upd H p o) s := by
  obtain ⟨l, ns, pos, rest, h1, h2, h3, h4⟩ := h
  refine ⟨l, ns, pos, rest, ?_, ?_, h3, h4⟩
  · rw [upd_ne]
    · exact h1
    · intro q
      rw [q, hp] at h1
      cases h1
      cases hx
  · rw [upd_ne]
    · exact h2
    · intro q
      rw [q, hp] at h2
      cases h2
      exact hy ns rfl
theorem lw_own {H H' : Hp} {p : Addr} {o : HO} (e : Lw H H') (h : H p = none) : Lw H (upd H' p o) := ⟨fun a u ha hs => by
  rw [upd_ne (ne_of_none ha h)]
  exact e.at_ a u ha hs, fun a ha => by
  by_cases hb : a = p
  · rw [hb]; exact h
  · rw [upd_ne hb] at ha; exact e.fr a ha⟩
theorem x_rSetSt {H : Hp} {s : Addr} {xs : List V} {i : Int} {n : Nat} {v : V} {QH : Hp → Prop} (h : H s = some (.lst xs)) (hs : stSh (.lst xs) = true) (hn : ixN xs.length i = some n) (q : ∀ H2, Lw H H2 → (∀ b, b ≠ s → H2 b = H b) → H2 s = some (.lst (xs.set n v)) → QH H2) : rSetL (.ref s) (.int i) v H QH :=
  x_rSetL h hn (q _ (Lw.st h hs) (fun b hb => upd_ne hb) upd_same)
theorem x_ixL2 {K : PySem.W.Frag} {H : Hp} {Q : VK} {p : Addr} {xs : List V} {i : Int} {v : V} (h : H p = some (.lst xs)) (ha : atI xs i = some v) (q : Q v H) : rIx K (.ref p) (.int i) H Q := x_ixL (sql h) ha q
theorem x_lenL2 {K : PySem.W.Frag} {H : Hp} {Q : VK} {p : Addr} {xs : List V} (h : H p = some (.lst xs)) (q : Q (.int (xs.length : Nat)) H) : rLenU K [.ref p] H Q := x_lenL (sql h) q
def sp__law_next (a : Ad) : Sp := fun vs H Q E => ∃ s n, vs = [.ref s, .int n] ∧ St H s ∧ (0 < n ∧ n < 1000) ∧ ∀ r H', 0 ≤ r → r < n → Lw H H' → St H' s → Q (.int r) H'
theorem c_next {a : Ad} {H : Hp} {Q : VK} {E : XK} {s : Addr} {n : Int} (hs : St H s) (hn : 0 < n ∧ n < 1000) (q : ∀ r H', 0 ≤ r → r < n → Lw H H' → St H' s → Q (.int r) H') : sp__law_next a [.ref s, .int n] H Q E := ⟨s, n, rfl, hs, hn, q⟩
local macro_rules | `(tactic| walk_at "st") => `(tactic| first | assumption | (apply St.le; assumption; walk_at "st"))
local macro_rules | `(tactic| walk_at "x") => `(tactic| first | ((with_reducible apply x_ixL2); (walk_at "hp"); exact rfl) | ((with_reducible apply x_lenL2); (walk_at "hp")))
theorem ok__law_next {P : Program} {w : World} {K : PySem.W.Frag} {mg : Str → Option Value} {base : Heap} {a : Ad} {f : Addr} {fd : FuncData} (F : FnP K "_law_next" "_law_next" s__law_next f fd) (T : Txt K mg a)  :
    FnOk P w K mg base (L2.CX P w) 1 f fd ["_law_state", "_law_many"] (sp__law_next a) := by
  refine F.ok sc__law_next (fun vs H Q E h => by obtain ⟨s, n, rfl, hs, hn, q⟩ := h; rfl) (fun cdv A outer s H vs Q E hr h => ?_)
  refine ⟨_, (pss_cons (ps_if (PW.pt (pw_and (pt_cmpR (op_eqU hr) (pe_ix ix_seq (pv 0) pe_int (fun _ _ => rfl)) pe_int (nomark _)) (pw_and1 (pt_cmpR op_ltU (pe_ix ix_seq (pv 0) pe_int (fun _ _ => rfl)) (pe_callB call_lenU (by rfl) T.f_len (by decide +kernel) (pa_cons (pe_ix ix_seq (pv 0) pe_int (fun _ _ => rfl)) pa_nil)) (nomark _))))) (pss_cons (ps_asg (pe_callB call_absU (by rfl) T.f_abs (by decide +kernel) (pa_cons (pe_ix ix_seq (pe_ix ix_seq (pv 0) pe_int (fun _ _ => rfl)) (pe_ix ix_seq (pv 0) pe_int (fun _ _ => rfl)) (fun _ _ => rfl)) pa_nil)) (pg_sub (pv 0) pe_int set_list))
    (pss_one (ps_asg (pe_op op_addU (pe_ix ix_seq (pv 0) pe_int (fun _ _ => rfl)) pe_int) (pg_sub (pv 0) pe_int set_list)))) pss_nil)
    (pss_cons (ps_set (i := 2) sc__law_next.nd rfl (Or.inl rfl) (pe_op op_modN (pe_callTy call_intU (by rfl) T.f_int (by decide +kernel) (pa_cons (pe_ix ix_seq (pv 0) pe_int (fun _ _ => rfl)) pa_nil)) (pv 1)))
    (pss_cons (ps_asg (pe_op op_fdivN (pe_callTy call_intU (by rfl) T.f_int (by decide +kernel) (pa_cons (pe_ix ix_seq (pv 0) pe_int (fun _ _ => rfl)) pa_nil)) (pv 1)) (pg_sub (pv 0) pe_int set_list))
    (pss_one (ps_ret (pv 2)))))), ?_⟩
  obtain ⟨s, n, rfl, hs, hn, q⟩ := h
  obtain ⟨l, ns, pos, rest, h1, h2, hp, hr⟩ := hs
  have hls : l ≠ s := by
    intro q
    rw [q, h1] at h2
    cases ns <;> cases h2
  walk_at "xs"
  refine x_if (b := decide (rest = 0) && decide (pos < ns.length)) (et_and (et_T (ev_run fun H1 e1 Q1 q1 => ?_)) (fun hb => et_T (ev_run fun H1 e1 Q1 q1 => ?_))) (fun hb H1 e1 => ?_) (fun hb H1 e1 => ?_)
  · walk_at "xs"
    exact q1 _ (Le.refl _)
  · walk_at "xs"
    rw [List.length_map]
    exact q1 _ (Le.refl _)
  · simp only [Bool.and_eq_true, decide_eq_true_eq] at hb
    walk_at "xs"
    refine x_setL ?_
    walk_at "xs"
    refine x_ixL2 (v := .int (ns.getD pos.toNat 0)) (by walk_at "hp") ?_ ?_
    · unfold atI ixN
      rw [if_pos hp, List.length_map, if_pos hb.2]
      show (ns.map V.int)[pos.toNat]? = _
      have hi : pos.toNat < ns.length := by omega
      rw [List.getElem?_map, List.getElem?_eq_getElem hi, List.getD_eq_getElem?_getD, List.getElem?_eq_getElem hi]
      rfl
    walk_at "xs"
    refine x_rSetSt (by walk_at "hp") rfl rfl fun H2 e2 k2 hs2 => ?_
    have hl2 : H2 l = some (.lst (ns.map V.int)) := (k2 l hls).trans (e1.keep h2)
    walk_at "xs"
    refine x_setL ?_
    walk_at "xs"
    refine x_rSetSt (by walk_at "hp") rfl rfl fun H3 e3 k3 hs3 => ?_
    have hl3 : H3 l = some (.lst (ns.map V.int)) := (k3 l hls).trans hl2
    walk_at "xs"
    refine x_I (by show n ≠ 0; omega) ?_
    walk_at "xs"
    refine x_setL ?_
    walk_at "xs"
    refine x_I ⟨by omega, by omega⟩ ?_
    walk_at "xs"
    refine x_rSetSt (by walk_at "hp") rfl rfl fun H4 e4 k4 hs4 => ?_
    have hl4 : H4 l = some (.lst (ns.map V.int)) := (k4 l hls).trans hl3
    walk_at "xs"
    refine q _ _ (Int.fmod_nonneg_of_pos _ hn.1) (Int.fmod_lt_of_pos _ hn.1) (by walk_at "lw") ⟨l, ns, _, _, hs4, hl4, by omega, Int.fdiv_nonneg ?_ (by omega)⟩
    split <;> omega
  · walk_at "xs"
    refine x_I (by show n ≠ 0; omega) ?_
    walk_at "xs"
    refine x_setL ?_
    walk_at "xs"
    refine x_I ⟨by omega, by omega⟩ ?_
    walk_at "xs"
    refine x_rSetSt (by walk_at "hp") rfl rfl fun H4 e4 k4 hs4 => ?_
    have hl4 : H4 l = some (.lst (ns.map V.int)) := (k4 l hls).trans (e1.keep h2)
    walk_at "xs"
    exact q _ _ (Int.fmod_nonneg_of_pos _ hn.1) (Int.fmod_lt_of_pos _ hn.1) (by walk_at "lw") ⟨l, ns, _, _, hs4, hl4, hp, Int.fdiv_nonneg hr (by omega)⟩
/-! ### letters, words, strange signs -/
def sp__law_letters_of (a : Ad) : Sp := fun vs H Q E => ∃ s, vs = [.ref s] ∧ St H s ∧ ∀ z H', bad z = none → 2 ≤ z.length → z.length ≤ 4 → Lw H H' → St H' s → Q (.str z) H'
def sp__law_word_of (a : Ad) : Sp := fun vs H Q E => ∃ s w n k, vs = [.ref s, .str w, .int n, .int k] ∧ St H s ∧ bad w = none ∧ (0 < w.length ∧ w.length ≤ 100) ∧ (0 ≤ n ∧ n ≤ 200) ∧ ∀ z H', bad z = none → (z.length : Int) = n → Lw H H' → St H' s → Q (.str z) H'
def sp__law_strange (a : Ad) : Sp := fun vs H Q E => ∃ s, vs = [.ref s] ∧ St H s ∧ ∀ z H', z.length = 1 → Lw H H' → St H' s → Q (.str z) H'
theorem alpha_n : ("abcdefghijklmnopqrstuvwxyz" : Str).length = 26 := by decide +kernel
theorem alpha_bad : bad "abcdefghijklmnopqrstuvwxyz" = none := by decide +kernel
theorem join_l : ∀ ys : List Str, (Str.join "" ys).cps.toList = (ys.map (·.cps.toList)).flatten
  | [] => rfl
  | [x] => by simp [Str.join]
  | x :: y :: r => by
    have ih := join_l (y :: r)
    have e : Str.join "" (x :: y :: r) = x ++ "" ++ Str.join "" (y :: r) := by first | rfl | simp [Str.join]
    rw [e, app_l, app_l, ih, show ("" : Str).cps.toList = [] from rfl]
    simp
theorem bad_one {z : Str} {i : Nat} (h : bad z = none) (hi : i < z.length) : bad ⟨#[z.cps.getD i 0]⟩ = none := by
  rw [bad_l]
  intro c hc
  have : c = z.cps.getD i 0 := by simpa using hc
  rw [this]
  exact bad_none.mp h i hi
theorem join_ok {ys : List Str} (h : ∀ y ∈ ys, bad y = none ∧ y.length = 1) : bad (Txt.join "" ys) = none ∧ (Txt.join "" ys).length = ys.length := by
  have e : (Txt.join "" ys).cps.toList = (ys.map (·.cps.toList)).flatten := by
    rw [show Txt.join "" ys = Str.join "" ys from PySem.StrLaws.glued_eq_join _ _]
    exact join_l ys
  constructor
  · rw [bad_l]
    intro c hc
    rw [e] at hc
    obtain ⟨l, hl, hc⟩ := List.mem_flatten.mp hc
    obtain ⟨y, hy, rfl⟩ := List.mem_map.mp hl
    exact bad_l.mp (h y hy).1 c hc
  · rw [← len_l, e]
    clear e
    induction ys with
    | nil => rfl
    | cons y r ih =>
      rw [List.map_cons, List.flatten_cons, List.length_append, ih fun x hx => h x (List.mem_cons_of_mem _ hx), len_l, (h y List.mem_cons_self).2, List.length_cons]
      omega
theorem sum_ones : ∀ ys : List Str, (∀ y ∈ ys, y.length = 1) → (ys.map (·.length)).sum = ys.length
  | [], _ => rfl
  | y :: r, h => by
    rw [List.map_cons, List.sum_cons, sum_ones r fun x hx => h x (List.mem_cons_of_mem _ hx), h y List.mem_cons_self, List.length_cons]
    omega
theorem atI_ints {ns : List Int} {i : Int} (h : 0 ≤ i ∧ i < ns.length) : atI (ns.map V.int) i = some (.int (ns.getD i.toNat 0)) := by
  unfold atI ixN
  rw [if_pos h.1, List.length_map, if_pos h.2]
  show (ns.map V.int)[i.toNat]? = _
  have hi : i.toNat < ns.length := by have := h.2; have := h.1; omega
  rw [List.getElem?_map, List.getElem?_eq_getElem hi, List.getD_eq_getElem?_getD, List.getElem?_eq_getElem hi]
  rfl
theorem ok__law_letters_of {P : Program} {w : World} {K : PySem.W.Frag} {mg : Str → Option Value} {base : Heap} {a : Ad} {f : Addr} {fd : FuncData} (F : FnP K "_law_letters_of" "_law_letters_of" s__law_letters_of f fd) (T : Txt K mg a) (G__law_next : FnG P w K mg base 1 "_law_next" (sp__law_next a)) :
    FnOk P w K mg base (L2.CX P w) 2 f fd ["_law_state"] (sp__law_letters_of a) := by
  refine F.ok sc__law_letters_of (fun vs H Q E h => by obtain ⟨s, rfl, hs, q⟩ := h; rfl) (fun cdv A outer s H vs Q E hr h => ?_)
  refine ⟨_, (pss_cons (ps_set (i := 1) sc__law_letters_of.nd rfl (Or.inr rfl) pe_str)
    (pss_cons (ps_set (i := 2) sc__law_letters_of.nd rfl (Or.inl rfl) (pe_op op_addU pe_int (pe_callG G__law_next (hr.mono (by decide)) passN rfl (pa_cons (pv 0) (pa_cons pe_int pa_nil)))))
    (pss_cons (ps_set (i := 3) sc__law_letters_of.nd rfl (Or.inr rfl) (pe_callG G__law_next (hr.mono (by decide)) passN rfl (pa_cons (pv 0) (pa_cons pe_int pa_nil))))
    (pss_cons (ps_set (i := 4) sc__law_letters_of.nd rfl (Or.inr rfl) (pe_ix ix_seq (pe_lst (pa_cons pe_int (pa_cons pe_int (pa_cons pe_int (pa_cons pe_int (pa_cons pe_int (pa_cons pe_int (pa_cons pe_int (pa_cons pe_int (pa_cons pe_int (pa_cons pe_int (pa_cons pe_int (pa_cons pe_int pa_nil))))))))))))) (pe_callG G__law_next (hr.mono (by decide)) passN rfl (pa_cons (pv 0) (pa_cons pe_int pa_nil))) (fun _ _ => rfl)))
    (pss_one (ps_ret (pe_bm PySem.F.plainAttrs_str PySem.F.slot_str_join PySem.F.type_str_join mt_joinU pe_str (pa_cons (pe_lc (own := [("_law_k", 5)]) (g := gName 5) (tt := tYes) rfl sc__law_letters_of.nd (pi_range1 (by rfl) T.f_range (pa_cons (pv 2) pa_nil)) (blkOk_by (N := ["_law_state", "_law_base", "_law_many", "_law_at", "_law_step", "_law_k"]) (sc := defScope s__law_letters_of) (by decide +kernel)) (fun _ _ _ _ _ => pg_name (i := 5) sc__law_letters_of.nd rfl (Or.inl rfl)) (fun _ _ _ _ _ => pts_nil) (fun _ _ _ _ _ => (pe_ix (ix_seqk K rfl) (pv 1) (pe_op op_modN (pe_callTy call_intU (by rfl) T.f_int (by decide +kernel) (pa_cons (pe_op op_addU (pv 3) (pe_op op_mulU (pv 5) (pv 4))) pa_nil)) pe_int) (fun _ _ => rfl)))) pa_nil)))))))), ?_⟩
  obtain ⟨s, rfl, hs, q⟩ := h
  have l0 : ("" : Str).length = 0 := rfl
  have l26 := alpha_n
  walk_at "xs"
  refine c_next (by walk_at "st") (by omega) fun r1 H1 hr1 hr1' e1 s1 => ?_
  walk_at "xs"
  refine c_next (by walk_at "st") (by omega) fun r2 H2 hr2 hr2' e2 s2 => ?_
  walk_at "xs"
  rename_i p3 H3 n3 e3 h3
  refine c_next (by walk_at "st") (by omega) fun r4 H4 hr4 hr4' e4 s4 => ?_
  walk_at "xs"
  refine x_ixL2 (xs := ([1, 3, 5, 7, 9, 11, 15, 17, 19, 21, 23, 25] : List Int).map V.int) (e4.keep h3 rfl) (atI_ints ⟨hr4, hr4'⟩) ?_
  generalize ([1, 3, 5, 7, 9, 11, 15, 17, 19, 21, 23, 25] : List Int).getD r4.toNat 0 = st
  walk_at "xs"
  refine x_lcR (f := fun (k : Nat) => ⟨#[("abcdefghijklmnopqrstuvwxyz" : Str).cps.getD ((r2 + (k : Int) * st).fmod 26).toNat 0]⟩) (by omega) (fun _ => rfl) (fun i H5 hi e5 Qe qe => ?_) fun p H5 n5 e5 h5 => ?_
  · walk_at "xs"
    refine x_mulI (by omega) ?_
    walk_at "xs"
    refine x_I (by decide) ?_
    walk_at "xs"
    have f1 := Int.fmod_nonneg_of_pos (r2 + (i : Int) * st) (show (0 : Int) < 26 by decide)
    have f2 := Int.fmod_lt_of_pos (r2 + (i : Int) * st) (show (0 : Int) < 26 by decide)
    refine x_ixN (by rw [l26]; omega) (by rw [l26]; omega) ?_
    exact qe _ (Le.refl _)
  · have hy : ∀ y ∈ (List.range (2 + r1).toNat).map (fun (k : Nat) => (⟨#[("abcdefghijklmnopqrstuvwxyz" : Str).cps.getD ((r2 + (k : Int) * st).fmod 26).toNat 0]⟩ : Str)), bad y = none ∧ y.length = 1 := by
      intro y hy
      obtain ⟨k, _, rfl⟩ := List.mem_map.mp hy
      have f1 := Int.fmod_nonneg_of_pos (r2 + (k : Int) * st) (show (0 : Int) < 26 by decide)
      have f2 := Int.fmod_lt_of_pos (r2 + (k : Int) * st) (show (0 : Int) < 26 by decide)
      exact ⟨bad_one alpha_bad (by rw [l26]; omega), rfl⟩
    obtain ⟨j1, j2⟩ := join_ok hy
    rw [List.length_map, List.length_range] at j2
    refine x_join h5 ?_ ?_
    · rw [sum_ones _ fun y h => (hy y h).2, List.length_map, List.length_range, l0]
      omega
    · exact q _ _ j1 (by omega) (by omega) (by walk_at "lw") (by walk_at "st")
theorem ok__law_word_of {P : Program} {w : World} {K : PySem.W.Frag} {mg : Str → Option Value} {base : Heap} {a : Ad} {f : Addr} {fd : FuncData} (F : FnP K "_law_word_of" "_law_word_of" s__law_word_of f fd) (T : Txt K mg a) (G__law_next : FnG P w K mg base 1 "_law_next" (sp__law_next a)) :
    FnOk P w K mg base (L2.CX P w) 2 f fd ["_law_state", "_law_signs", "_law_size", "_law_shift"] (sp__law_word_of a) := by
  refine F.ok sc__law_word_of (fun vs H Q E h => by obtain ⟨s, w, n, k, rfl, hs, hb, hw, hn, q⟩ := h; rfl) (fun cdv A outer s H vs Q E hr h => ?_)
  refine ⟨_, (pss_cons (ps_set (i := 4) sc__law_word_of.nd rfl (Or.inl rfl) (pe_callB call_lenU (by rfl) T.f_len (by decide +kernel) (pa_cons (pv 1) pa_nil)))
    (pss_cons (ps_set (i := 5) sc__law_word_of.nd rfl (Or.inl rfl) pe_str)
    (pss_cons (ps_for (by first | exact po | exact PassesOwn.never | exact passes_of rfl) rfl (pi_range1 (by rfl) T.f_range (pa_cons (pv 2) pa_nil)) (pg_name (i := 6) sc__law_word_of.nd rfl (Or.inl rfl)) (pss_cons (ps_set (i := 7) sc__law_word_of.nd rfl (Or.inl rfl) (pe_op op_modN (pe_callTy call_intU (by rfl) T.f_int (by decide +kernel) (pa_cons (pe_op op_addU (pe_op op_addU (pe_callG G__law_next (hr.mono (by decide)) passN rfl (pa_cons (pv 0) (pa_cons (pv 4) pa_nil))) (pv 3)) (pv 6)) pa_nil)) (pv 4)))
    (pss_one (ps_set (i := 5) sc__law_word_of.nd rfl (Or.inl rfl) (pe_op op_addU (pv 5) (pe_ix ix_seq (pv 1) (pv 7) (fun _ _ => rfl)))))))
    (pss_one (ps_ret (pv 5)))))), ?_⟩
  obtain ⟨s, w, n, k, rfl, hs, hb, hw, hn, q⟩ := h
  have l0 : ("" : Str).length = 0 := rfl
  walk_at "xs"
  refine x_for1 (by omega) (fun i σ' H' => (∃ z v1 v2, σ' = [some (V.ref s), some (V.str w), some (V.int n), some (V.int k), some (V.int (w.length : Nat)), some (V.str z), v1, v2] ∧ bad z = none ∧ z.length = i) ∧ Lw H H' ∧ St H' s) ⟨⟨"", _, _, rfl, rfl, rfl⟩, Lw.refl H, hs⟩ ?_ ?_
  · rintro i σ' H1 hi ⟨⟨z, v1, v2, rfl, hz, hl⟩, e1, s1⟩
    walk_at "xs"
    refine c_next (by walk_at "st") (by omega) fun r2 H2 hr2 hr2' e2 s2 => ?_
    walk_at "xs"
    refine x_I (by show ((w.length : Nat) : Int) ≠ 0; omega) ?_
    have f1 := Int.fmod_nonneg_of_pos (r2 + k + (i : Int)) (show (0 : Int) < (w.length : Nat) by omega)
    have f2 := Int.fmod_lt_of_pos (r2 + k + (i : Int)) (show (0 : Int) < (w.length : Nat) by omega)
    walk_at "xs"
    refine x_ixN (by omega) ⟨f1, f2⟩ ?_
    have l1 : (⟨#[w.cps.getD ((r2 + k + (i : Int)).fmod (w.length : Nat)).toNat 0]⟩ : Str).length = 1 := rfl
    walk_at "xs"
    exact ⟨⟨_, _, _, rfl, bad_app hz (bad_one hb (by omega)), by rw [slen_app, l1]; omega⟩, e1.trans e2, s2⟩
  · rintro σ' H1 ⟨⟨z, v1, v2, rfl, hz, hl⟩, e1, s1⟩
    walk_at "xs"
    exact q z _ hz (by omega) e1 s1
theorem ok__law_strange {P : Program} {w : World} {K : PySem.W.Frag} {mg : Str → Option Value} {base : Heap} {a : Ad} {f : Addr} {fd : FuncData} (F : FnP K "_law_strange" "_law_strange" s__law_strange f fd) (T : Txt K mg a) (G__law_next : FnG P w K mg base 1 "_law_next" (sp__law_next a)) :
    FnOk P w K mg base (L2.CX P w) 2 f fd ["_law_state"] (sp__law_strange a) := by
  refine F.ok sc__law_strange (fun vs H Q E h => by obtain ⟨s, rfl, hs, q⟩ := h; rfl) (fun cdv A outer s H vs Q E hr h => ?_)
  refine ⟨_, (pss_cons (ps_set (i := 1) sc__law_strange.nd rfl (Or.inl rfl) pe_str)
    (pss_cons (ps_set (i := 1) sc__law_strange.nd rfl (Or.inl rfl) (pe_op op_addU (pv 1) pe_str))
    (pss_one (ps_ret (pe_ix ix_seq (pv 1) (pe_callG G__law_next (hr.mono (by decide)) passN rfl (pa_cons (pv 0) (pa_cons (pe_callB call_lenU (by rfl) T.f_len (by decide +kernel) (pa_cons (pv 1) pa_nil)) pa_nil))) (fun _ _ => rfl)))))), ?_⟩
  obtain ⟨s, rfl, hs, q⟩ := h
  have l1 : (" !\"#$&'()*+,-./0123456789:;<=>?@ABCDEFGHIJKLMNOPQRSTUVWXYZ[\\]^_`" : Str).length = 64 := by decide +kernel
  have l2 : ("abcdefghijklmnopqrstuvwxyz{|}~\n" : Str).length = 31 := by decide +kernel
  generalize hb1 : (" !\"#$&'()*+,-./0123456789:;<=>?@ABCDEFGHIJKLMNOPQRSTUVWXYZ[\\]^_`" : Str) = b1 at *
  generalize hb2 : ("abcdefghijklmnopqrstuvwxyz{|}~\n" : Str) = b2 at *
  walk_at "xs"
  have l3 := slen_app b1 b2
  walk_at "xs"
  refine c_next (by walk_at "st") (by omega) fun r2 H2 hr2 hr2' e2 s2 => ?_
  refine x_ixN (by omega) ⟨hr2, hr2'⟩ ?_
  exact q _ _ rfl e2 s2
end K2
set_option maxHeartbeats 4000000
/-! K2K: parts, loops, strings -/
namespace K2
open PySem PySem.Spec PyProof.Rows L2 MC
local macro_rules | `(tactic| walk_at "hp") => `(tactic| first | assumption | (apply Le.keep; assumption; walk_at "hp") | (apply TextAt.le; assumption; walk_at "hp") | (apply Lw.keep; assumption; walk_at "hp"; first | rfl | exact sh_str _ | exact sh_ints _ | exact sh_sgns _) | (apply TextAt.lw; assumption; walk_at "hp"))
local macro_rules | `(tactic| walk_at "le") => `(tactic| first | exact Le.refl _ | assumption | (apply Le.trans'; assumption; walk_at "le"))
local macro_rules | `(tactic| walk_at "lw") => `(tactic| first | exact Lw.refl _ | assumption | exact Le.w (by assumption) | (apply Lw.trans'; (first | assumption | exact Le.w (by assumption)); walk_at "lw"))
local macro_rules | `(tactic| walk_at "sz") => `(tactic| first | omega | (simp only [slen_app]; omega) | (simp only [List.length_cons, List.length_nil, List.length_map, List.length_range]; omega) | omega | (simp; omega) | decide)
local macro_rules | `(tactic| walk_at "x") => `(tactic| first
  | with_reducible refine x_seq ?_ | with_reducible refine x_asg ?_ | with_reducible refine x_ret ?_ | with_reducible refine x_drop ?_
  | ((with_reducible apply x_var); exact rfl) | with_reducible refine x_c ?_ | with_reducible refine x_op ?_ | with_reducible refine x_opS ?_ | with_reducible refine x_un ?_ | with_reducible refine x_neg ?_
  | with_reducible refine x_test ?_ | with_reducible refine x_tB ?_ | with_reducible refine x_kB ?_
  | with_reducible refine x_nil ?_ | with_reducible refine x_cons ?_ | with_reducible refine x_tup ?_ | with_reducible refine x_lst ?_
  | ((with_reducible refine x_kTup ?_ ?_); (walk_at "sz"); (intro _ _ _ _ _)) | ((with_reducible refine x_kLst ?_ ?_); (walk_at "sz"); (intro _ _ _ _ _))
  | with_reducible refine x_fld ?_ | ((with_reducible apply x_fS); assumption; (walk_at "hp")) | ((with_reducible apply x_fC); assumption; (walk_at "hp"))
  | with_reducible refine x_cb ?_ | with_reducible refine x_call ?_ | with_reducible refine x_callE ?_ | with_reducible refine x_bm ?_ | with_reducible refine x_cv ?_
  | with_reducible refine x_meth ?_ | with_reducible refine x_cm ?_ | with_reducible refine x_kCM ?_ | with_reducible refine x_mk ?_ | with_reducible refine x_kMk ?_
  | with_reducible refine x_np ?_ | with_reducible refine x_part ?_ | with_reducible refine x_kPart ?_ | with_reducible refine x_sl ?_ | with_reducible refine x_rev ?_
  | with_reducible refine x_addI ?_ | ((with_reducible refine x_addS ?_ ?_); (walk_at "sz")) | with_reducible refine x_I0 ?_
  | with_reducible refine x_eqS ?_ | with_reducible refine x_eqI ?_ | with_reducible refine x_eqB ?_ | with_reducible refine x_neS ?_ | with_reducible refine x_neI ?_ | with_reducible refine x_neB ?_
  | with_reducible refine x_eqFS ?_ | with_reducible refine x_eqFI ?_
  | with_reducible refine x_ltI ?_ | with_reducible refine x_ltS ?_ | with_reducible refine x_leI ?_ | with_reducible refine x_leS ?_ | with_reducible refine x_inT ?_ | with_reducible refine x_notInT ?_
  | ((with_reducible refine x_slS ?_ ?_); (walk_at "sz")) | ((with_reducible refine x_kRev ?_ ?_); (walk_at "sz"))
  | ((with_reducible refine x_lenS ?_ ?_); (walk_at "sz")) | ((with_reducible apply x_lenT); (walk_at "hp"))
  | ((with_reducible apply x_ixT); (walk_at "hp"); exact rfl)
  | with_reducible refine x_abs ?_ | with_reducible refine x_int ?_ | with_reducible refine x_strS ?_
  | ((with_reducible apply x_isB); (first | exact kit_ty (r := true) (by decide +kernel) | exact kit_ty (r := false) (by decide +kernel))) | ((with_reducible apply x_isI); (first | exact kit_ty (r := true) (by decide +kernel) | exact kit_ty (r := false) (by decide +kernel))) | ((with_reducible apply x_isS); (first | exact kit_ty (r := true) (by decide +kernel) | exact kit_ty (r := false) (by decide +kernel)))
  | ((with_reducible apply x_isT); (walk_at "hp"); (first | exact kit_ty (r := true) (by decide +kernel) | exact kit_ty (r := false) (by decide +kernel)))
  | ((with_reducible apply x_isText); assumption; (walk_at "hp")) | ((with_reducible apply x_isTextS); assumption) | ((with_reducible apply x_isTextI); assumption) | ((with_reducible apply x_isTextN); assumption) | ((with_reducible apply x_kCVT); assumption)
  | ((with_reducible apply x_addL); (walk_at "hp"); (walk_at "hp"); (walk_at "sz"); (intro _ _ _ _ _)) | ((with_reducible apply x_tyL); (walk_at "hp")) | with_reducible refine x_tyS ?_
  | with_reducible refine x_joined ?_ | with_reducible refine x_js ?_ | with_reducible refine x_js0 ?_ | ((with_reducible refine x_kJs ?_ ?_); (walk_at "sz")) | with_reducible refine x_fmt ?_ | ((with_reducible refine x_fmtS ?_ ?_); (walk_at "sz")) | ((with_reducible refine x_fmtI ?_ ?_); omega)
  | with_reducible refine x_rse ?_ | with_reducible refine x_ex ?_ | with_reducible refine x_ex0 ?_ | with_reducible refine x_xf ?_
  | with_reducible refine x_for ?_ | with_reducible refine x_r1 ?_ | with_reducible refine x_r2 ?_ | with_reducible refine x_il ?_ | with_reducible refine x_en ?_ | with_reducible refine x_lc ?_ | with_reducible refine x_next ?_ | dsimp only)
local macro_rules | `(tactic| walk_at "xs") => `(tactic| repeat walk_at "x")
local macro_rules | `(tactic| walk_at "ev0") => `(tactic| (refine ev_run ?_; intro _ _ _ q; walk_at "xs"; refine q _ ?_; walk_at "le"))
local macro_rules | `(tactic| walk_at "ch") => `(tactic| (intro _ _ _ q; walk_at "xs"; refine q _ ?_; walk_at "le"))
local macro_rules | `(tactic| walk_at "ev") => `(tactic| first
  | (focus ((with_reducible refine ev_andV ?_ (fun _ => ?_)); (all_goals walk_at "ev"))) | (focus ((with_reducible refine ev_orV ?_ (fun _ => ?_)); (all_goals walk_at "ev")))
  | ((with_reducible refine ev_notV ?_); walk_at "ev")
  | (focus ((with_reducible apply ev_chain); (focus walk_at "ch"); (focus walk_at "ch"); (focus walk_at "ch"); (focus (intro _ _ _ q; walk_at "x"; exact q)); (focus (intro _ _ _ q; walk_at "x"; exact q))))
  | walk_at "ev0" | skip)
local macro_rules | `(tactic| walk_at "et") => `(tactic| first
  | (focus ((with_reducible refine et_and ?_ (fun _ => ?_)); (all_goals walk_at "et"))) | (focus ((with_reducible refine et_or ?_ (fun _ => ?_)); (all_goals walk_at "et")))
  | ((with_reducible refine et_not ?_); walk_at "et") | ((with_reducible refine et_B ?_); walk_at "ev") | ((with_reducible refine et_T ?_); walk_at "ev"))
local macro_rules | `(tactic| walk_at "st") => `(tactic| first | assumption | (apply St.le; assumption; walk_at "st"))
local macro_rules | `(tactic| walk_at "x") => `(tactic| first | ((with_reducible refine c_whole ?_); (intro _ _)) | ((with_reducible refine c_is_sign ?_ ?_); (walk_at "sz"); (intro _ _)) | ((with_reducible refine c_is_text ?_ ?_ ?_); (walk_at "hp"); assumption; (intro _ _)) | ((with_reducible apply x_ixL2); (walk_at "hp"); exact rfl) | ((with_reducible apply x_lenL2); (walk_at "hp")))
theorem x_cut {t u : TS} {D : Ends} {σ : L2.St} {H : Hp} (Mid : L2.St → Hp → Prop) (h1 : t { D with nx := Mid } σ H) (h2 : ∀ σ' H', Mid σ' H' → u D σ' H') : Evl.tCut t u D σ H := ⟨Mid, h1, h2⟩
def sp__law_parts (a : Ad) : Sp := fun vs H Q E => ∃ s z g, vs = [.ref s, .str z, .str g] ∧ St H s ∧ z.length ≤ 120 ∧ g.length ≤ 100 ∧ ∀ p ws H', (∀ x ∈ (ws : List Str), x.length ≤ 1000) → H' p = some (.lst (ws.map V.str)) → Lw H H' → St H' s → Q (.ref p) H'
theorem strs_ne {ws : List Str} (h : ws ≠ []) (ns : List Int) : ws.map V.str ≠ ns.map V.int := by
  cases ws with
  | nil => exact absurd rfl h
  | cons w r => cases ns <;> simp
theorem ok__law_parts {P : Program} {w : World} {K : PySem.W.Frag} {mg : Str → Option Value} {base : Heap} {a : Ad} {f : Addr} {fd : FuncData} (F : FnP K "_law_parts" "_law_parts" s__law_parts f fd) (T : Txt K mg a) (G__law_next : FnG P w K mg base 1 "_law_next" (sp__law_next a)) (G__law_strange : FnG P w K mg base 2 "_law_strange" (sp__law_strange a)) :
    FnOk P w K mg base (L2.CX P w) 3 f fd ["_law_state", "_law_shown", "_law_signs"] (sp__law_parts a) := by
  refine F.ok sc__law_parts (fun vs H Q E h => by obtain ⟨s, z, g, rfl, hs, hz, hgl, q⟩ := h; rfl) (fun cdv A outer s H vs Q E hr h => ?_)
  refine ⟨_, (pss_cons (ps_set (i := 3) sc__law_parts.nd rfl (Or.inl rfl) (pe_callB call_lenU (by rfl) T.f_len (by decide +kernel) (pa_cons (pv 1) pa_nil)))
    (pss_cons (ps_set (i := 4) sc__law_parts.nd rfl (Or.inl rfl) (pe_lst (pa_cons pe_str (pa_cons (pv 1) (pa_cons (pe_op op_addU (pv 1) (pe_slice sl_U (pv 1) po_none (po_some pe_int))) (pa_cons (pv 2) (pa_cons (pe_slice sl_U (pv 2) (po_some pe_int) po_none) pa_nil)))))))
    (pss_cons (ps_for (by first | exact po | exact PassesOwn.never | exact passes_of rfl) rfl (pi_range1 (by rfl) T.f_range (pa_cons pe_int pa_nil)) (pg_name (i := 5) sc__law_parts.nd rfl (Or.inl rfl)) (pss_cons (ps_set (i := 6) sc__law_parts.nd rfl (Or.inl rfl) (pe_op op_modN (pe_callTy call_intU (by rfl) T.f_int (by decide +kernel) (pa_cons (pe_op op_addU (pe_op op_addU (pv 3) (pv 5)) (pe_callG G__law_next (hr.mono (by decide)) passN rfl (pa_cons (pv 0) (pa_cons (pe_op op_addU (pv 3) pe_int) pa_nil)))) pa_nil)) (pe_op op_addU (pv 3) pe_int)))
    (pss_cons (ps_set (i := 7) sc__law_parts.nd rfl (Or.inl rfl) (pe_op op_addU pe_int (pe_op op_modN (pe_callTy call_intU (by rfl) T.f_int (by decide +kernel) (pa_cons (pe_op op_addU pe_int (pe_callG G__law_next (hr.mono (by decide)) passN rfl (pa_cons (pv 0) (pa_cons (pe_op op_addU (pv 3) pe_int) pa_nil)))) pa_nil)) (pe_op op_addU (pv 3) pe_int))))
    (pss_cons (ps_set (i := 8) sc__law_parts.nd rfl (Or.inl rfl) (pe_slice sl_U (pe_op op_addU (pe_op op_addU (pe_slice sl_U (pv 1) (po_some (pv 6)) po_none) (pv 1)) (pv 1)) po_none (po_some (pv 7))))
    (Evl.pss_cut (ps_if (PW.pt (pw_and (pt_cmpR (op_neU hr) (pv 8) pe_str (nomark _)) (pw_and1 (pt_cmpR (op_eqU hr) (pe_callG G__law_next (hr.mono (by decide)) passN rfl (pa_cons (pv 0) (pa_cons pe_int pa_nil))) pe_int (nomark _))))) (pss_cons (ps_set (i := 9) sc__law_parts.nd rfl (Or.inl rfl) (pe_callG G__law_next (hr.mono (by decide)) passN rfl (pa_cons (pv 0) (pa_cons (pe_callB call_lenU (by rfl) T.f_len (by decide +kernel) (pa_cons (pv 8) pa_nil)) pa_nil))))
    (pss_one (ps_set (i := 8) sc__law_parts.nd rfl (Or.inl rfl) (pe_op op_addU (pe_op op_addU (pe_slice sl_U (pv 8) po_none (po_some (pv 9))) (pe_callG G__law_strange (hr.mono (by decide)) passN rfl (pa_cons (pv 0) pa_nil))) (pe_slice sl_U (pv 8) (po_some (pe_op op_addU (pv 9) pe_int)) po_none))))) pss_nil)
    (pss_one (ps_expr (pe_bm PySem.F.plainAttrs_list PySem.F.slot_list_append PySem.F.type_list_append mt_append (pv 4) (pa_cons (pv 8) pa_nil)))))))))
    (pss_one (ps_ret (pv 4)))))), ?_⟩
  obtain ⟨s, z, g, rfl, hs, hz, hgl, q⟩ := h
  have l0 : ("" : Str).length = 0 := rfl
  have c1 := cutS_length z none (some 1)
  have c2 := cutS_length g (some 1) none
  walk_at "xs"
  rename_i p H1 hpn e1 hp1
  have hp0 : H1 p = some (.lst ((["", z, z ++ cutS z none (some 1), g, cutS g (some 1) none] : List Str).map V.str)) := hp1
  refine x_for1 (by omega) (fun i σ' H' => (∃ v5 v6 v7 v8 v9, σ' = [some (V.ref s), some (V.str z), some (V.str g), some (V.int (z.length : Nat)), some (V.ref p), v5, v6, v7, v8, v9]) ∧ (∃ ws : List Str, ws ≠ [] ∧ (∀ x ∈ ws, x.length ≤ 1000) ∧ ws.length ≤ 5 + i ∧ H' p = some (.lst (ws.map V.str))) ∧ Lw H H' ∧ St H' s)
    ⟨⟨_, _, _, _, _, rfl⟩, ⟨_, by simp, by
      intro x hx
      simp only [List.mem_cons, List.not_mem_nil, or_false] at hx
      rcases hx with rfl | rfl | rfl | rfl | rfl
      · omega
      · omega
      · rw [slen_app]; omega
      · omega
      · omega, by simp, hp0⟩, e1.w, hs.le e1⟩ ?_ ?_
  · rintro i σ' H2 hi ⟨⟨v5, v6, v7, v8, v9, rfl⟩, ⟨ws, hne, hws, hwl, hp2⟩, e2, s2⟩
    walk_at "xs"
    refine c_next (by walk_at "st") (by omega) fun r3 H3 hr3 hr3' e3 s3 => ?_
    walk_at "xs"
    refine x_I (by show ((z.length : Nat) : Int) + 1 ≠ 0; omega) ?_
    walk_at "xs"
    refine c_next (by walk_at "st") (by omega) fun r4 H4 hr4 hr4' e4 s4 => ?_
    walk_at "xs"
    refine x_I (by show ((z.length : Nat) : Int) + 1 ≠ 0; omega) ?_
    generalize ((z.length : Nat) + (i : Int) + r3).fmod ((z.length : Nat) + 1) = at1
    generalize (2 + r4).fmod (((z.length : Nat) : Int) + 1) = sz1
    have k1 := cutS_length z (some at1) none
    have k2 : (cutS z (some at1) none ++ z ++ z).length ≤ 360 := by rw [slen_app, slen_app]; omega
    have k3 := cutS_length (cutS z (some at1) none ++ z ++ z) none (some (1 + sz1))
    walk_at "xs"
    generalize hpt : cutS (cutS z (some at1) none ++ z ++ z) none (some (1 + sz1)) = part at k3 ⊢
    refine x_cut (fun σ' H' => (∃ v8 v9, σ' = [some (V.ref s), some (V.str z), some (V.str g), some (V.int (z.length : Nat)), some (V.ref p), some (V.int i), some (V.int at1), some (V.int (1 + sz1)), some (V.str v8), v9] ∧ v8.length ≤ 1000) ∧ Lw H4 H' ∧ St H' s) ?_ ?_
    · refine x_ifK (x_andW ?_)
      walk_at "xs"
      refine x_kAnd (fun h1 => ?_) (fun h1 => x_kIf (fun z => nomatch z) (fun _ => ?_))
      · have hpos : part.length ≠ 0 := fun q => by simp [empty_iff.mpr q] at h1
        walk_at "xs"
        refine c_next (by walk_at "st") (by omega) fun r5 H5 hr5 hr5' e5 s5 => ?_
        walk_at "xs"
        refine x_kIf (fun h2 => ?_) (fun h2 => ?_)
        · walk_at "xs"
          refine c_next (by walk_at "st") (by omega) fun r6 H6 hr6 hr6' e6 s6 => ?_
          have m1 := cutS_length part none (some r6)
          have m2 := cutS_length part (some (r6 + 1)) none
          walk_at "xs"
          refine ⟨s, rfl, by walk_at "st", fun w H7 hw e7 s7 => ?_⟩
          walk_at "xs"
          exact ⟨⟨_, _, rfl, by rw [slen_app, slen_app]; omega⟩, by walk_at "lw", s7⟩
        · walk_at "xs"
          exact ⟨⟨_, _, rfl, by omega⟩, by walk_at "lw", s5⟩
      · walk_at "xs"
        exact ⟨⟨_, _, rfl, by omega⟩, Lw.refl _, s4⟩
    · rintro σ' H5 ⟨⟨v8, v9, rfl, hv8⟩, e5, s5⟩
      have hp5 : H5 p = some (.lst (ws.map V.str)) := by walk_at "hp"
      walk_at "xs"
      refine x_app hp5 (by rw [List.length_map]; omega) ?_
      walk_at "xs"
      refine ⟨⟨_, _, _, _, _, rfl⟩, ⟨ws ++ [v8], by simp, fun x hx => ?_, by rw [List.length_append]; simp; omega, by rw [upd_same, List.map_append]; rfl⟩, lw_own (by walk_at "lw") hpn, s5.own hp5 (sh_str _) (strs_ne hne)⟩
      rcases List.mem_append.mp hx with hx | hx
      · exact hws x hx
      · rw [List.mem_singleton.mp hx]; exact hv8
  · rintro σ' H2 ⟨⟨v5, v6, v7, v8, v9, rfl⟩, ⟨ws, hne, hws, hwl, hp2⟩, e2, s2⟩
    walk_at "xs"
    exact q p ws _ hws hp2 e2 s2
/-! ### same_loop and == with the texts near by -/
def sp__law_loops (a : Ad) : Sp := fun vs H Q E => ∃ s p z c g, vs = [.ref s, .ref p, .str z, .bl c, .str g] ∧ St H s ∧ Good z c ∧ TextAt a H p z c ∧ bad g = none ∧ (0 < g.length ∧ g.length ≤ 100) ∧ ∀ H', Lw H H' → St H' s → Q (.bl true) H'
theorem due_eq {z : Str} {c : Bool} {w : Str} {d : Bool} : isLoop z c w d = ((c && (d && decide ((w.length : Int) = z.length))) && isIn w (z ++ z)) := by
  unfold isLoop
  rw [rep2]
  have e : decide (z.length = w.length) = decide ((w.length : Int) = z.length) := decide_eq_decide.mpr (by omega)
  rw [e]
  cases c <;> cases d <;> simp
theorem getS {ws : List Str} {i : Nat} {x : V} (h : (ws.map V.str)[i]? = some x) : ∃ w, x = .str w ∧ w ∈ ws := by
  rw [List.getElem?_map] at h
  cases e : ws[i]? with
  | none => rw [e] at h; cases h
  | some w =>
    rw [e] at h
    cases h
    exact ⟨w, rfl, List.mem_of_getElem? e⟩
theorem getB {i : Nat} {x : V} (h : ([V.bl false, V.bl true] : List V)[i]? = some x) : ∃ b, x = .bl b := by
  match i, h with
  | 0, h => cases h; exact ⟨_, rfl⟩
  | 1, h => cases h; exact ⟨_, rfl⟩
  | n + 2, h => simp at h
theorem ok__law_loops {P : Program} {w : World} {K : PySem.W.Frag} {mg : Str → Option Value} {base : Heap} {a : Ad} {f : Addr} {fd : FuncData} (F : FnP K "_law_loops" "_law_loops" s__law_loops f fd) (T : Txt K mg a) (G__law_equal : FnG P w K mg base 2 "_law_equal" (sp__law_equal a)) (M_Text_same_loop : MeG P w K mg base 1 a.cText "same_loop" (sp_Text_same_loop a)) (Ct_Text_1_closed : CtG P w K mg base 4 a.cText 1 ["closed"] (spCt_Text_1_closed a)) (G__law_next : FnG P w K mg base 1 "_law_next" (sp__law_next a)) :
    FnOk P w K mg base (L2.CX P w) 6 f fd ["_law_state", "_law_text", "_law_shown", "_law_closed", "_law_signs"] (sp__law_loops a) := by
  refine F.ok sc__law_loops (fun vs H Q E h => by obtain ⟨s, p, z, c, g, rfl, hs, hg, ht, hbg, hgl, q⟩ := h; rfl) (fun cdv A outer s H vs Q E hr h => ?_)
  refine ⟨_, (pss_cons (ps_set (i := 5) sc__law_loops.nd rfl (Or.inl rfl) (pe_callB call_lenU (by rfl) T.f_len (by decide +kernel) (pa_cons (pv 2) pa_nil)))
    (pss_cons (ps_set (i := 6) sc__law_loops.nd rfl (Or.inl rfl) (pe_op op_modN (pe_callTy call_intU (by rfl) T.f_int (by decide +kernel) (pa_cons (pe_op op_addU pe_int (pe_callG G__law_next (hr.mono (by decide)) passN rfl (pa_cons (pv 0) (pa_cons (pe_op op_addU (pv 5) pe_int) pa_nil)))) pa_nil)) (pe_op op_addU (pv 5) pe_int)))
    (pss_cons (ps_set (i := 7) sc__law_loops.nd rfl (Or.inl rfl) (pe_op op_addU (pe_slice sl_U (pv 2) (po_some (pv 6)) po_none) (pe_slice sl_U (pv 2) po_none (po_some (pv 6)))))
    (pss_cons (ps_set (i := 8) sc__law_loops.nd rfl (Or.inl rfl) (pe_callG G__law_next (hr.mono (by decide)) passN rfl (pa_cons (pv 0) (pa_cons (pe_op op_addU (pv 5) pe_int) pa_nil))))
    (pss_cons (ps_set (i := 9) sc__law_loops.nd rfl (Or.inl rfl) (pe_ix ix_seq (pv 4) (pe_callG G__law_next (hr.mono (by decide)) passN rfl (pa_cons (pv 0) (pa_cons (pe_callB call_lenU (by rfl) T.f_len (by decide +kernel) (pa_cons (pv 4) pa_nil)) pa_nil))) (fun _ _ => rfl)))
    (pss_cons (ps_set (i := 10) sc__law_loops.nd rfl (Or.inl rfl) (pe_op op_addU (pe_op op_addU (pe_slice sl_U (pv 7) po_none (po_some (pv 8))) (pv 9)) (pe_slice sl_U (pv 7) (po_some (pe_op op_addU (pv 8) pe_int)) po_none)))
    (pss_cons (ps_for (by first | exact po | exact PassesOwn.never | exact passes_of rfl) rfl (pi_list (pe_lst (pa_cons (pv 7) (pa_cons (pe_revS (pv 7)) (pa_cons (pv 10) (pa_cons (pe_op op_addU (pv 7) (pe_ix ix_seq (pv 4) pe_int (fun _ _ => rfl))) (pa_cons (pe_slice sl_U (pv 7) (po_some pe_int) po_none) pa_nil))))))) (pg_name (i := 11) sc__law_loops.nd rfl (Or.inl rfl)) (pss_one (ps_for (by first | exact po | exact PassesOwn.never | exact passes_of rfl) rfl (pi_list (pe_lst (pa_cons pe_bl (pa_cons pe_bl pa_nil)))) (pg_name (i := 12) sc__law_loops.nd rfl (Or.inl rfl)) (pss_one (ps_if (PW.pt (pw_and (PW.pt (pw_or (pt_cmpR (op_neU hr) (pv 11) pe_str (nomark _)) (pw_or1 (pt_not (pt_val (pv 12)))))) (pw_and1 (pt_cmpR op_leU (pe_callB call_lenU (by rfl) T.f_len (by decide +kernel) (pa_cons (pv 11) pa_nil)) pe_int (nomark _))))) (pss_cons (ps_set (i := 13) sc__law_loops.nd rfl (Or.inl rfl) (pe_mkG Ct_Text_1_closed (hr.mono (by decide)) (passW (takes_of rfl rfl rfl rfl)) (pe_glob (v := .ref a.cText) rfl T.g_Text rfl) (pa_cons (pv 11) pa_nil) (pk_cons (pv 12) pk_nil)))
    (pss_cons (ps_set (i := 14) sc__law_loops.nd rfl (Or.inl rfl) (pe_and (pv 3) (pe_and (pv 12) (pe_one (pe_cmpR (op_eqU hr) (pe_callB call_lenU (by rfl) T.f_len (by decide +kernel) (pa_cons (pv 11) pa_nil)) (pv 5) (nomark _))))))
    (pss_cons (ps_set (i := 14) sc__law_loops.nd rfl (Or.inl rfl) (pe_and (pv 14) (pe_one (pe_cmpR op_inT (pv 11) (pe_op op_addU (pv 2) (pv 2)) (by rfl)))))
    (pss_cons (ps_set (i := 15) sc__law_loops.nd rfl (Or.inl rfl) (pe_methG M_Text_same_loop (hr.mono (by decide)) passN (pv 1) (pa_cons (pv 13) pa_nil)))
    (pss_cons (ps_if (PW.pt (pw_or (pt_not (pt_val (pe_callB call_isi (by rfl) T.f_isinstance (by decide +kernel) (pa_cons (pv 15) (pa_cons (pe_bltn (v := .ty "bool") (by rfl) T.f_bool (by decide +kernel) rfl) pa_nil))))) (pw_or1 (pt_cmpR (op_neU hr) (pv 15) (pv 14) (nomark _))))) (pss_one (ps_ret pe_bl)) pss_nil)
    (pss_one (ps_if (pt_not (pt_val (pe_callG G__law_equal (hr.mono (by decide)) passN rfl (pa_cons (pv 1) (pa_cons (pv 13) (pa_cons (pe_and (pe_cmpR (op_eqU hr) (pv 11) (pv 2) (nomark _)) (pe_one (pe_cmpR (op_eqU hr) (pv 12) (pv 3) (nomark _)))) pa_nil)))))) (pss_one (ps_ret pe_bl)) pss_nil))))))) pss_nil)))))
    (pss_one (ps_ret pe_bl))))))))), ?_⟩
  obtain ⟨s, p, z, c, g, rfl, hs, hg, ht, hbg, hgl, q⟩ := h
  have hz2 : z.length ≤ 120 := hg.2.1
  walk_at "xs"
  refine c_next (by walk_at "st") (by omega) fun r1 H1 hr1 hr1' e1 s1 => ?_
  walk_at "xs"
  refine x_I (by show ((z.length : Nat) : Int) + 1 ≠ 0; omega) ?_
  generalize (1 + r1).fmod (((z.length : Nat) : Int) + 1) = at1
  have k1 := cutS_length z (some at1) none
  have k2 := cutS_length z none (some at1)
  walk_at "xs"
  refine c_next (by walk_at "st") (by omega) fun r2 H2 hr2 hr2' e2 s2 => ?_
  walk_at "xs"
  refine c_next (by walk_at "st") (by omega) fun r3 H3 hr3 hr3' e3 s3 => ?_
  walk_at "xs"
  refine x_ixN (by omega) ⟨hr3, hr3'⟩ ?_
  have hrt : cutS z (some at1) none ++ cutS z none (some at1) = rot z at1 := rfl
  rw [hrt]
  have hrl := rot_len z at1
  have hrb : bad (rot z at1) = none := bad_app (bad_cut hg.1) (bad_cut hg.1)
  generalize rot z at1 = tn at hrl hrb ⊢
  have k3 := cutS_length tn none (some r2)
  have k4 := cutS_length tn (some (r2 + 1)) none
  have k5 := rev_len tn
  have k6 := cutS_length tn (some 1) none
  have o1 : (⟨#[g.cps.getD r3.toNat 0]⟩ : Str).length = 1 := rfl
  have ob : bad ⟨#[g.cps.getD r3.toNat 0]⟩ = none := bad_one hbg (by omega)
  have o2 : (⟨#[g.cps.getD ((0 : Int)).toNat 0]⟩ : Str).length = 1 := rfl
  have ob2 : bad ⟨#[g.cps.getD ((0 : Int)).toNat 0]⟩ = none := bad_one hbg (by show 0 < _; omega)
  walk_at "xs"
  refine x_ixN (by omega) (by omega) ?_
  walk_at "xs"
  rename_i pl H5 n5 e5 h5
  have hst5 : St H5 s := by walk_at "st"
  have hlw5 : Lw H H5 := by walk_at "lw"
  have ht5 : TextAt a H5 p z c := by walk_at "hp"
  have h5' : H5 pl = some (.lst ((["" ++ tn, revS tn, cutS tn none (some r2) ++ ⟨#[g.cps.getD r3.toNat 0]⟩ ++ cutS tn (some (r2 + 1)) none, tn ++ ⟨#[g.cps.getD ((0 : Int)).toNat 0]⟩, cutS tn (some 1) none] : List Str).map V.str)) := by
    rw [show ("" : Str) ++ tn = tn from str_ext (by rw [app_l]; rfl)]
    exact h5
  generalize hws : (["" ++ tn, revS tn, cutS tn none (some r2) ++ ⟨#[g.cps.getD r3.toNat 0]⟩ ++ cutS tn (some (r2 + 1)) none, tn ++ ⟨#[g.cps.getD ((0 : Int)).toNat 0]⟩, cutS tn (some 1) none] : List Str) = ws at h5'
  have hall : ∀ w ∈ ws, bad w = none ∧ w.length ≤ 300 := by
    intro w hw
    rw [← hws] at hw
    simp only [List.mem_cons, List.not_mem_nil, or_false] at hw
    have l0 : ("" : Str).length = 0 := rfl
    rcases hw with rfl | rfl | rfl | rfl | rfl
    · exact ⟨bad_app (by decide +kernel) hrb, by rw [slen_app]; omega⟩
    · refine ⟨bad_l.mpr fun x hx => ?_, by omega⟩
      rw [rev_l, List.mem_reverse] at hx
      exact bad_l.mp hrb x hx
    · exact ⟨bad_app (bad_app (bad_cut hrb) ob) (bad_cut hrb), by rw [slen_app, slen_app]; omega⟩
    · exact ⟨bad_app hrb ob2, by rw [slen_app]; omega⟩
    · exact ⟨bad_cut hrb, by omega⟩
  generalize hch : cutS tn none (some r2) ++ ⟨#[g.cps.getD r3.toNat 0]⟩ ++ cutS tn (some (r2 + 1)) none = chg
  generalize hsg : (⟨#[g.cps.getD r3.toNat 0]⟩ : Str) = sgn1
  refine x_forL (sql h5') (fun i σ' H' => (∃ v1 v2 v3 v4 v5, σ' = [some (V.ref s), some (V.ref p), some (V.str z), some (V.bl c), some (V.str g), some (V.int (z.length : Nat)), some (V.int at1), some (V.str tn), some (V.int r2), some (V.str sgn1), some (V.str chg), v1, v2, v3, v4, v5]) ∧ Le H5 H') ⟨⟨_, _, _, _, _, rfl⟩, Le.refl _⟩ (fun i σ' H' _ h => sql (h.2.keep h5')) ?_ ?_
  · rintro i x σ' H6 hx ⟨⟨v1, v2, v3, v4, v5, rfl⟩, e6⟩
    obtain ⟨w, rfl, hw⟩ := getS hx
    obtain ⟨hwb, hwl⟩ := hall w hw
    walk_at "xs"
    rename_i pb H7 n7 e7 h7
    refine x_forL (sql h7) (fun i σ' H' => (∃ v2 v3 v4 v5, σ' = [some (V.ref s), some (V.ref p), some (V.str z), some (V.bl c), some (V.str g), some (V.int (z.length : Nat)), some (V.int at1), some (V.str tn), some (V.int r2), some (V.str sgn1), some (V.str chg), some (V.str w), v2, v3, v4, v5]) ∧ Le H7 H') ⟨⟨_, _, _, _, rfl⟩, Le.refl _⟩ (fun i σ' H' _ h => sql (h.2.keep h7)) ?_ ?_
    · rintro j y σ' H8 hy ⟨⟨v2, v3, v4, v5, rfl⟩, e8⟩
      obtain ⟨b, rfl⟩ := getB hy
      refine x_if (b := (!decide (w = "") || !b) && decide ((w.length : Int) ≤ 120)) (by walk_at "et") (fun hb H9 e9 => ?_) (fun hb H9 e9 => ?_)
      · simp only [Bool.and_eq_true, Bool.or_eq_true, Bool.not_eq_true', decide_eq_true_eq, decide_eq_false_iff_not] at hb
        have gw : Good w b := ⟨hwb, by omega, fun e q => by rcases hb.1 with h | h
                                                            · exact h q
                                                            · rw [e] at h; cases h⟩
        walk_at "xs"
        refine ⟨w, b, ⟨rfl, rfl⟩, by show w.length ≤ 1000; omega, meets_good gw fun p2 H10 e10 h10 => ?_⟩
        walk_at "xs"
        refine x_andV (b := c && (b && decide ((w.length : Int) = z.length))) (by walk_at "ev") fun H11 e11 => ?_
        walk_at "xs"
        refine x_andV (b := (c && (b && decide ((w.length : Int) = z.length))) && isIn w (z ++ z)) (by walk_at "ev") fun H12 e12 => ?_
        walk_at "xs"
        obtain ⟨dx, hp12⟩ : TextAt a H12 p z c := by walk_at "hp"
        refine x_kMeth hp12 rfl ?_
        walk_at "xs"
        refine ⟨p, z, c, p2, w, b, rfl, by show z.length ≤ 1000; omega, by show w.length ≤ 1000; omega, ⟨dx, hp12⟩, by walk_at "hp", fun H13 e13 => ?_⟩
        walk_at "xs"
        refine x_no (et_is (b := !true || !(isLoop z c w b == ((c && (b && decide ((w.length : Int) = z.length))) && isIn w (z ++ z)))) (by walk_at "et") (by rw [due_eq]; simp)) fun H14 e14 => ?_
        walk_at "xs"
        refine x_no (et_is (b := !true) (et_not (et_B (ev_run fun H15 e15 Q15 q15 => ?_))) rfl) fun H15 e15 => ?_
        · walk_at "xs"
          refine x_andV (b := decide (w = z) && (b == c)) (by walk_at "ev") fun H16 e16 => ?_
          walk_at "xs"
          refine ⟨p, z, c, _, _, rfl, by walk_at "hp", .inl ⟨p2, w, b, rfl, by walk_at "hp", ?_⟩, fun H17 e17 => q15 _ (by walk_at "le")⟩
          rw [show decide (w = z) = decide (z = w) from decide_eq_decide.mpr ⟨Eq.symm, Eq.symm⟩]
          cases b <;> cases c <;> rfl
        · walk_at "xs"
          exact ⟨⟨_, _, _, _, rfl⟩, by walk_at "le"⟩
      · walk_at "xs"
        exact ⟨⟨_, _, _, _, rfl⟩, by walk_at "le"⟩
    · rintro σ' H8 ⟨⟨v2, v3, v4, v5, rfl⟩, e8⟩
      exact ⟨⟨_, _, _, _, _, rfl⟩, by walk_at "le"⟩
  · rintro σ' H6 ⟨⟨v1, v2, v3, v4, v5, rfl⟩, e6⟩
    walk_at "xs"
    exact q _ (hlw5.trans e6.w) (hst5.le e6)
end K2
set_option maxHeartbeats 4000000
/-! K2L: strings, the law -/
namespace K2
open PySem PySem.Spec PyProof.Rows L2 MC
local macro_rules | `(tactic| walk_at "hp") => `(tactic| first | assumption | (apply Le.keep; assumption; walk_at "hp") | (apply TextAt.le; assumption; walk_at "hp") | (apply Lw.keep; assumption; walk_at "hp"; first | rfl | exact sh_str _ | exact sh_ints _ | exact sh_sgns _) | (apply TextAt.lw; assumption; walk_at "hp"))
local macro_rules | `(tactic| walk_at "le") => `(tactic| first | exact Le.refl _ | assumption | (apply Le.trans'; assumption; walk_at "le"))
local macro_rules | `(tactic| walk_at "lw") => `(tactic| first | exact Lw.refl _ | assumption | exact Le.w (by assumption) | (apply Lw.trans'; (first | assumption | exact Le.w (by assumption)); walk_at "lw"))
local macro_rules | `(tactic| walk_at "sz") => `(tactic| first | omega | (simp only [slen_app]; omega) | (simp only [List.length_append, List.length_cons, List.length_nil, List.length_map, List.length_range]; omega) | omega | (simp; omega) | decide)
local macro_rules | `(tactic| walk_at "x") => `(tactic| first
  | with_reducible refine x_seq ?_ | with_reducible refine x_asg ?_ | with_reducible refine x_ret ?_ | with_reducible refine x_drop ?_
  | ((with_reducible apply x_var); exact rfl) | with_reducible refine x_c ?_ | with_reducible refine x_op ?_ | with_reducible refine x_opS ?_ | with_reducible refine x_un ?_ | with_reducible refine x_neg ?_
  | with_reducible refine x_test ?_ | with_reducible refine x_tB ?_ | with_reducible refine x_kB ?_
  | with_reducible refine x_nil ?_ | with_reducible refine x_cons ?_ | with_reducible refine x_tup ?_ | with_reducible refine x_lst ?_
  | ((with_reducible refine x_kTup ?_ ?_); (walk_at "sz"); (intro _ _ _ _ _)) | ((with_reducible refine x_kLst ?_ ?_); (walk_at "sz"); (intro _ _ _ _ _))
  | with_reducible refine x_fld ?_ | ((with_reducible apply x_fS); assumption; (walk_at "hp")) | ((with_reducible apply x_fC); assumption; (walk_at "hp"))
  | with_reducible refine x_cb ?_ | with_reducible refine x_call ?_ | with_reducible refine x_callE ?_ | with_reducible refine x_bm ?_ | with_reducible refine x_cv ?_
  | with_reducible refine x_meth ?_ | with_reducible refine x_cm ?_ | with_reducible refine x_kCM ?_ | with_reducible refine x_mk ?_ | with_reducible refine x_kMk ?_
  | with_reducible refine x_np ?_ | with_reducible refine x_part ?_ | with_reducible refine x_kPart ?_ | with_reducible refine x_sl ?_ | with_reducible refine x_rev ?_
  | with_reducible refine x_addI ?_ | ((with_reducible refine x_addS ?_ ?_); (walk_at "sz")) | with_reducible refine x_I0 ?_
  | with_reducible refine x_eqS ?_ | with_reducible refine x_eqI ?_ | with_reducible refine x_eqB ?_ | with_reducible refine x_neS ?_ | with_reducible refine x_neI ?_ | with_reducible refine x_neB ?_
  | with_reducible refine x_eqFS ?_ | with_reducible refine x_eqFI ?_
  | with_reducible refine x_ltI ?_ | with_reducible refine x_ltS ?_ | with_reducible refine x_leI ?_ | with_reducible refine x_leS ?_ | with_reducible refine x_inT ?_ | with_reducible refine x_notInT ?_
  | ((with_reducible refine x_slS ?_ ?_); (walk_at "sz")) | ((with_reducible refine x_kRev ?_ ?_); (walk_at "sz"))
  | ((with_reducible refine x_lenS ?_ ?_); (walk_at "sz")) | ((with_reducible apply x_lenT); (walk_at "hp"))
  | ((with_reducible apply x_ixT); (walk_at "hp"); exact rfl)
  | with_reducible refine x_abs ?_ | with_reducible refine x_int ?_ | with_reducible refine x_strS ?_
  | ((with_reducible apply x_isB); (first | exact kit_ty (r := true) (by decide +kernel) | exact kit_ty (r := false) (by decide +kernel))) | ((with_reducible apply x_isI); (first | exact kit_ty (r := true) (by decide +kernel) | exact kit_ty (r := false) (by decide +kernel))) | ((with_reducible apply x_isS); (first | exact kit_ty (r := true) (by decide +kernel) | exact kit_ty (r := false) (by decide +kernel)))
  | ((with_reducible apply x_isT); (walk_at "hp"); (first | exact kit_ty (r := true) (by decide +kernel) | exact kit_ty (r := false) (by decide +kernel)))
  | ((with_reducible apply x_isText); assumption; (walk_at "hp")) | ((with_reducible apply x_isTextS); assumption) | ((with_reducible apply x_isTextI); assumption) | ((with_reducible apply x_isTextN); assumption) | ((with_reducible apply x_kCVT); assumption)
  | ((with_reducible apply x_addL); (walk_at "hp"); (walk_at "hp"); (walk_at "sz"); (intro _ _ _ _ _)) | ((with_reducible apply x_tyL); (walk_at "hp")) | with_reducible refine x_tyS ?_
  | with_reducible refine x_joined ?_ | with_reducible refine x_js ?_ | with_reducible refine x_js0 ?_ | ((with_reducible refine x_kJs ?_ ?_); (walk_at "sz")) | with_reducible refine x_fmt ?_ | ((with_reducible refine x_fmtS ?_ ?_); (walk_at "sz")) | ((with_reducible refine x_fmtI ?_ ?_); omega)
  | with_reducible refine x_rse ?_ | with_reducible refine x_ex ?_ | with_reducible refine x_ex0 ?_ | with_reducible refine x_xf ?_
  | with_reducible refine x_for ?_ | with_reducible refine x_r1 ?_ | with_reducible refine x_r2 ?_ | with_reducible refine x_il ?_ | with_reducible refine x_en ?_ | with_reducible refine x_lc ?_ | with_reducible refine x_next ?_ | dsimp only)
local macro_rules | `(tactic| walk_at "xs") => `(tactic| repeat walk_at "x")
local macro_rules | `(tactic| walk_at "ev0") => `(tactic| (refine ev_run ?_; intro _ _ _ q; walk_at "xs"; refine q _ ?_; walk_at "le"))
local macro_rules | `(tactic| walk_at "ch") => `(tactic| (intro _ _ _ q; walk_at "xs"; refine q _ ?_; walk_at "le"))
local macro_rules | `(tactic| walk_at "ev") => `(tactic| first
  | (focus ((with_reducible refine ev_andV ?_ (fun _ => ?_)); (all_goals walk_at "ev"))) | (focus ((with_reducible refine ev_orV ?_ (fun _ => ?_)); (all_goals walk_at "ev")))
  | ((with_reducible refine ev_notV ?_); walk_at "ev")
  | (focus ((with_reducible apply ev_chain); (focus walk_at "ch"); (focus walk_at "ch"); (focus walk_at "ch"); (focus (intro _ _ _ q; walk_at "x"; exact q)); (focus (intro _ _ _ q; walk_at "x"; exact q))))
  | walk_at "ev0" | skip)
local macro_rules | `(tactic| walk_at "et") => `(tactic| first
  | (focus ((with_reducible refine et_and ?_ (fun _ => ?_)); (all_goals walk_at "et"))) | (focus ((with_reducible refine et_or ?_ (fun _ => ?_)); (all_goals walk_at "et")))
  | ((with_reducible refine et_not ?_); walk_at "et") | ((with_reducible refine et_B ?_); walk_at "ev") | ((with_reducible refine et_T ?_); walk_at "ev"))
local macro_rules | `(tactic| walk_at "st") => `(tactic| first | assumption | (apply St.le; assumption; walk_at "st"))
local macro_rules | `(tactic| walk_at "x") => `(tactic| first | ((with_reducible refine c_whole ?_); (intro _ _)) | ((with_reducible refine c_is_sign ?_ ?_); (walk_at "sz"); (intro _ _)) | ((with_reducible refine c_is_text ?_ ?_ ?_); (walk_at "hp"); assumption; (intro _ _)) | ((with_reducible apply x_ixL2); (walk_at "hp"); exact rfl) | ((with_reducible apply x_lenL2); (walk_at "hp")))
def sp__law_strings (a : Ad) : Sp := fun vs H Q E => ∃ s z g, vs = [.ref s, .str z, .str g] ∧ St H s ∧ z.length ≤ 130 ∧ (2 ≤ g.length ∧ g.length ≤ 100) ∧ ∀ H', Lw H H' → St H' s → Q (.bl true) H'
theorem ok__law_strings {P : Program} {w : World} {K : PySem.W.Frag} {mg : Str → Option Value} {base : Heap} {a : Ad} {f : Addr} {fd : FuncData} (F : FnP K "_law_strings" "_law_strings" s__law_strings f fd) (T : Txt K mg a) (G__law_turns : FnG P w K mg base 5 "_law_turns" (sp__law_turns a)) (G__law_reads : FnG P w K mg base 9 "_law_reads" (sp__law_reads a)) (G__law_makes : FnG P w K mg base 8 "_law_makes" (sp__law_makes a)) (G__law_strange : FnG P w K mg base 2 "_law_strange" (sp__law_strange a)) (G__law_one_sign : FnG P w K mg base 2 "_law_one_sign" (sp__law_one_sign a)) (G__law_next : FnG P w K mg base 1 "_law_next" (sp__law_next a)) :
    FnOk P w K mg base (L2.CX P w) 10 f fd ["_law_state", "_law_shown", "_law_signs"] (sp__law_strings a) := by
  refine F.ok sc__law_strings (fun vs H Q E h => by obtain ⟨s, z, g, rfl, hs, hz, hgl, q⟩ := h; rfl) (fun cdv A outer s H vs Q E hr h => ?_)
  refine ⟨_, (pss_cons (ps_set (i := 3) sc__law_strings.nd rfl (Or.inl rfl) (pv 1))
    (Evl.pss_cut (ps_if (PW.pt (pw_and (pt_cmpR (op_neU hr) (pv 1) pe_str (nomark _)) (pw_and1 (pt_cmpR (op_eqU hr) (pe_callG G__law_next (hr.mono (by decide)) passN rfl (pa_cons (pv 0) (pa_cons pe_int pa_nil))) pe_int (nomark _))))) (pss_cons (ps_set (i := 7) sc__law_strings.nd rfl (Or.inl rfl) (pe_callG G__law_next (hr.mono (by decide)) passN rfl (pa_cons (pv 0) (pa_cons (pe_callB call_lenU (by rfl) T.f_len (by decide +kernel) (pa_cons (pv 1) pa_nil)) pa_nil))))
    (pss_one (ps_set (i := 3) sc__law_strings.nd rfl (Or.inl rfl) (pe_op op_addU (pe_op op_addU (pe_slice sl_U (pv 1) po_none (po_some (pv 7))) (pe_callG G__law_strange (hr.mono (by decide)) passN rfl (pa_cons (pv 0) pa_nil))) (pe_slice sl_U (pv 1) (po_some (pe_op op_addU (pv 7) pe_int)) po_none))))) pss_nil)
    (pss_cons (ps_set (i := 4) sc__law_strings.nd rfl (Or.inl rfl) (pe_lst (pa_cons pe_str (pa_cons (pv 2) (pa_cons (pe_ix ix_seq (pv 2) pe_int (fun _ _ => rfl)) (pa_cons (pe_op op_addU (pe_slice sl_U (pv 2) po_none (po_some pe_int)) pe_str) (pa_cons (pv 1) (pa_cons pe_str (pa_cons pe_str (pa_cons pe_str pa_nil))))))))))
    (pss_cons (ps_for (by first | exact po | exact PassesOwn.never | exact passes_of rfl) rfl (pi_list (pe_op op_addU (pv 4) (pe_lst (pa_cons (pe_callG G__law_strange (hr.mono (by decide)) passN rfl (pa_cons (pv 0) pa_nil)) pa_nil)))) (pg_name (i := 5) sc__law_strings.nd rfl (Or.inl rfl)) (pss_one (ps_if (pt_not (pt_val (pe_callG G__law_one_sign (hr.mono (by decide)) passN rfl (pa_cons (pv 5) pa_nil)))) (pss_one (ps_ret pe_bl)) pss_nil)))
    (pss_cons (ps_for (by first | exact po | exact PassesOwn.never | exact passes_of rfl) rfl (pi_range1 (by rfl) T.f_range (pa_cons pe_int pa_nil)) (pg_name (i := 6) sc__law_strings.nd rfl (Or.inl rfl)) (pss_one (ps_for (by first | exact po | exact PassesOwn.never | exact passes_of rfl) rfl (pi_list (pe_lst (pa_cons pe_bl (pa_cons pe_bl pa_nil)))) (pg_name (i := 8) sc__law_strings.nd rfl (Or.inl rfl)) (pss_one (ps_if (pt_not (pt_val (pe_callG G__law_makes (hr.mono (by decide)) passN rfl (pa_cons (pv 6) (pa_cons (pv 3) (pa_cons (pv 3) (pa_cons (pv 8) pa_nil))))))) (pss_one (ps_ret pe_bl)) pss_nil)))))
    (pss_cons (ps_set (i := 4) sc__law_strings.nd rfl (Or.inl rfl) (pe_lst (pa_cons (pv 3) (pa_cons (pe_op op_addU (pe_op op_addU pe_str (pv 3)) pe_str) (pa_cons (pe_op op_addU pe_str (pv 3)) (pa_cons (pe_op op_addU (pv 3) pe_str) pa_nil))))))
    (pss_cons (ps_set (i := 4) sc__law_strings.nd rfl (Or.inl rfl) (pe_op op_addU (pv 4) (pe_lst (pa_cons (pe_op op_addU (pe_op op_addU pe_str (pv 3)) pe_str) (pa_cons (pe_op op_addU (pe_op op_addU pe_str (pv 3)) pe_str) (pa_cons (pe_op op_addU (pe_op op_addU pe_str (pv 3)) pe_str) pa_nil))))))
    (pss_cons (ps_set (i := 4) sc__law_strings.nd rfl (Or.inl rfl) (pe_op op_addU (pv 4) (pe_lst (pa_cons (pe_op op_addU (pv 1) pe_str) (pa_cons (pe_op op_addU (pe_op op_addU pe_str (pv 1)) pe_str) (pa_cons (pe_op op_addU pe_str (pv 1)) pa_nil))))))
    (pss_cons (ps_set (i := 4) sc__law_strings.nd rfl (Or.inl rfl) (pe_op op_addU (pv 4) (pe_lst (pa_cons (pe_op op_addU (pe_op op_addU pe_str (pv 1)) pe_str) (pa_cons (pe_op op_addU (pv 1) pe_str) pa_nil)))))
    (pss_cons (ps_for (by first | exact po | exact PassesOwn.never | exact passes_of rfl) rfl (pi_list (pe_op op_addU (pv 4) (pe_lst (pa_cons pe_str (pa_cons pe_str (pa_cons pe_str (pa_cons pe_str (pa_cons (pe_op op_addU (pe_op op_addU pe_str (pv 1)) pe_str) pa_nil)))))))) (pg_name (i := 5) sc__law_strings.nd rfl (Or.inl rfl)) (pss_one (ps_if (pt_not (pt_val (pe_callG G__law_reads (hr.mono (by decide)) passN rfl (pa_cons (pv 5) pa_nil)))) (pss_one (ps_ret pe_bl)) pss_nil)))
    (pss_one (ps_ret (pe_and (pe_callG G__law_turns (hr.mono (by decide)) passN rfl (pa_cons (pv 3) pa_nil)) (pe_one (pe_callG G__law_turns (hr.mono (by decide)) passN rfl (pa_cons (pv 1) pa_nil)))))))))))))))), ?_⟩
  obtain ⟨s, z, g, rfl, hs, hz, hgl, q⟩ := h
  have l0 : ("" : Str).length = 0 := rfl
  have n1 : ("\n" : Str).length = 1 := by decide +kernel
  have n2 : ("A" : Str).length = 1 := by decide +kernel
  have n3 : ("`" : Str).length = 1 := by decide +kernel
  have n4 : ("{" : Str).length = 1 := by decide +kernel
  have n5 : ("(" : Str).length = 1 := by decide +kernel
  have n6 : (")" : Str).length = 1 := by decide +kernel
  have n7 : ("((" : Str).length = 2 := by decide +kernel
  have n8 : ("))" : Str).length = 2 := by decide +kernel
  have n9 : (") " : Str).length = 2 := by decide +kernel
  have n10 : (")\n" : Str).length = 2 := by decide +kernel
  have n11 : (" (" : Str).length = 2 := by decide +kernel
  have n12 : (" " : Str).length = 1 := by decide +kernel
  have n13 : ("()" : Str).length = 2 := by decide +kernel
  generalize ("\n" : Str) = L1 at *
  generalize ("A" : Str) = L2' at *
  generalize ("`" : Str) = L3 at *
  generalize ("{" : Str) = L4 at *
  generalize ("(" : Str) = L5 at *
  generalize (")" : Str) = L6 at *
  generalize ("((" : Str) = L7 at *
  generalize ("))" : Str) = L8 at *
  generalize (") " : Str) = L9 at *
  generalize (")\n" : Str) = L10 at *
  generalize (" (" : Str) = L11 at *
  generalize (" " : Str) = L12 at *
  generalize ("()" : Str) = L13 at *
  walk_at "xs"
  refine x_cut (fun σ' H' => (∃ sp v4 v5 v6 v7 v8, σ' = [some (V.ref s), some (V.str z), some (V.str g), some (V.str sp), v4, v5, v6, v7, v8] ∧ sp.length ≤ 400) ∧ Lw H H' ∧ St H' s) ?_ ?_
  · refine x_ifK (x_andW ?_)
    walk_at "xs"
    refine x_kAnd (fun h1 => ?_) (fun h1 => x_kIf (fun z => nomatch z) (fun _ => ?_))
    · have hpos : z.length ≠ 0 := fun q => by simp [empty_iff.mpr q] at h1
      walk_at "xs"
      refine c_next (by walk_at "st") (by omega) fun r5 H5 hr5 hr5' e5 s5 => ?_
      walk_at "xs"
      refine x_kIf (fun h2 => ?_) (fun h2 => ?_)
      · walk_at "xs"
        refine c_next (by walk_at "st") (by omega) fun r6 H6 hr6 hr6' e6 s6 => ?_
        have m1 := cutS_length z none (some r6)
        have m2 := cutS_length z (some (r6 + 1)) none
        walk_at "xs"
        refine ⟨s, rfl, by walk_at "st", fun w H7 hw e7 s7 => ?_⟩
        walk_at "xs"
        exact ⟨⟨_, _, _, _, _, _, rfl, by rw [slen_app, slen_app]; omega⟩, by walk_at "lw", s7⟩
      · walk_at "xs"
        exact ⟨⟨_, _, _, _, _, _, rfl, by omega⟩, by walk_at "lw", s5⟩
    · walk_at "xs"
      exact ⟨⟨_, _, _, _, _, _, rfl, by omega⟩, Lw.refl _, hs⟩
  · rintro σ' H1 ⟨⟨sp, v4, v5, v6, v7, v8, rfl, hsp⟩, e1, s1⟩
    have m1 := cutS_length g none (some 1)
    walk_at "xs"
    refine x_ixN (by omega) (by omega) ?_
    have o2 : (⟨#[g.cps.getD ((1 : Int)).toNat 0]⟩ : Str).length = 1 := rfl
    generalize (⟨#[g.cps.getD ((1 : Int)).toNat 0]⟩ : Str) = g1 at o2 ⊢
    walk_at "xs"
    rename_i pw H2 nw2 ew2 hpw2
    refine ⟨s, rfl, by walk_at "st", fun w H3 hw e3 s3 => ?_⟩
    walk_at "xs"
    rename_i p4 H4 n4' e4 h4 p5 H5 n5' e5 h5
    have h5' : H5 p5 = some (.lst (([("" : Str), g, g1, cutS g none (some 1) ++ L1, z, L2', L3, L4, w] : List Str).map V.str)) := h5
    have hall : ∀ x ∈ ([("" : Str), g, g1, cutS g none (some 1) ++ L1, z, L2', L3, L4, w] : List Str), x.length ≤ 1000 := by
      intro x hx
      simp only [List.mem_cons, List.not_mem_nil, or_false] at hx
      rcases hx with rfl | rfl | rfl | rfl | rfl | rfl | rfl | rfl | rfl <;> (try rw [slen_app]) <;> omega
    generalize ([("" : Str), g, g1, cutS g none (some 1) ++ L1, z, L2', L3, L4, w] : List Str) = ws1 at h5' hall
    refine x_forL (sql h5') (fun i σ' H' => (∃ v5 v6 v7 v8, σ' = [some (V.ref s), some (V.str z), some (V.str g), some (V.str sp), some (V.ref pw), v5, v6, v7, v8]) ∧ Le H5 H') ⟨⟨_, _, _, _, rfl⟩, Le.refl _⟩ (fun i σ' H' _ h => sql (h.2.keep h5')) ?_ ?_
    · rintro i x σ' H6 hx ⟨⟨v5, v6, v7, v8, rfl⟩, e6⟩
      obtain ⟨x, rfl, hxm⟩ := getS hx
      refine x_no (et_is (b := !true) (et_not (et_B (ev_run fun H7 e7 Q7 q7 => ?_))) rfl) fun H7 e7 => ?_
      · walk_at "xs"
        exact ⟨x, rfl, hall x hxm, q7⟩
      · walk_at "xs"
        exact ⟨⟨_, _, _, _, rfl⟩, by walk_at "le"⟩
    · rintro σ' H6 ⟨⟨v5, v6, v7, v8, rfl⟩, e6⟩
      walk_at "xs"
      refine x_for1 (by omega) (fun i σ' H' => (∃ v5 v6 v7 v8, σ' = [some (V.ref s), some (V.str z), some (V.str g), some (V.str sp), some (V.ref pw), v5, v6, v7, v8]) ∧ Le H6 H') ⟨⟨_, _, _, _, rfl⟩, Le.refl _⟩ ?_ ?_
      · rintro i σ' H7 hi ⟨⟨v5, v6, v7, v8, rfl⟩, e7⟩
        walk_at "xs"
        rename_i pb H8 n8' e8 h8
        refine x_forL (sql h8) (fun j σ' H' => (∃ v5 v7 v8, σ' = [some (V.ref s), some (V.str z), some (V.str g), some (V.str sp), some (V.ref pw), v5, some (V.int i), v7, v8]) ∧ Le H8 H') ⟨⟨_, _, _, rfl⟩, Le.refl _⟩ (fun j σ' H' _ h => sql (h.2.keep h8)) ?_ ?_
        · rintro j y σ' H9 hy ⟨⟨v5, v7, v8, rfl⟩, e9⟩
          obtain ⟨b, rfl⟩ := getB hy
          refine x_no (et_is (b := !true) (et_not (et_B (ev_run fun H10 e10 Q10 q10 => ?_))) rfl) fun H10 e10 => ?_
          · walk_at "xs"
            exact ⟨i, sp, sp, b, rfl, by show sp.length ≤ 1000; omega, by show sp.length ≤ 1000; omega, by omega, if_neg (by omega), q10⟩
          · walk_at "xs"
            exact ⟨⟨_, _, _, rfl⟩, by walk_at "le"⟩
        · rintro σ' H9 ⟨⟨v5, v7, v8, rfl⟩, e9⟩
          exact ⟨⟨_, _, _, _, rfl⟩, by walk_at "le"⟩
      · rintro σ' H7 ⟨⟨v5, v6, v7, v8, rfl⟩, e7⟩
        walk_at "xs"
        rename_i p11 H11 n11' e11 h11
        have h11' : ∃ ws : List Str, H11 p11 = some (.lst (ws.map V.str)) ∧ ∀ x ∈ ws, x.length ≤ 1000 := by
          refine ⟨[sp, L5 ++ sp ++ L6, L5 ++ sp, sp ++ L6, L7 ++ sp ++ L8, L6 ++ sp ++ L5, L5 ++ sp ++ L9, z ++ L1, L5 ++ z ++ L10, L1 ++ z, L11 ++ z ++ L6, z ++ L12, L5, L6, L13, "", L5 ++ z ++ L6], h11, ?_⟩
          intro x hx
          simp only [List.mem_cons, List.not_mem_nil, or_false] at hx
          rcases hx with rfl | rfl | rfl | rfl | rfl | rfl | rfl | rfl | rfl | rfl | rfl | rfl | rfl | rfl | rfl | rfl | rfl <;> (try simp only [slen_app]) <;> omega
        obtain ⟨ws, h11', hall⟩ := h11'
        refine x_forL (sql h11') (fun i σ' H' => (∃ v4 v5 v6 v7 v8, σ' = [some (V.ref s), some (V.str z), some (V.str g), some (V.str sp), v4, v5, v6, v7, v8]) ∧ Le H11 H') ⟨⟨_, _, _, _, _, rfl⟩, Le.refl _⟩ (fun i σ' H' _ h => sql (h.2.keep h11')) ?_ ?_
        · rintro i x σ' H12 hx ⟨⟨v4, v5, v6, v7, v8, rfl⟩, e12⟩
          obtain ⟨x, rfl, hxm⟩ := getS hx
          refine x_no (et_is (b := !true) (et_not (et_B (ev_run fun H13 e13 Q13 q13 => ?_))) rfl) fun H13 e13 => ?_
          · walk_at "xs"
            exact ⟨x, rfl, hall x hxm, q13⟩
          · walk_at "xs"
            exact ⟨⟨_, _, _, _, _, rfl⟩, by walk_at "le"⟩
        · rintro σ' H12 ⟨⟨v4, v5, v6, v7, v8, rfl⟩, e12⟩
          walk_at "xs"
          refine x_andV (b := true) (ev_is (b := true && true) (ev_andV (ev_run fun H13 e13 Q13 q13 => ?_) (fun _ => ev_run fun H13 e13 Q13 q13 => ?_)) rfl) fun H13 e13 => q _ (by walk_at "lw") (by walk_at "st")
          · walk_at "xs"
            exact ⟨sp, rfl, by show sp.length ≤ 1000; omega, q13⟩
          · walk_at "xs"
            exact ⟨z, rfl, by show z.length ≤ 1000; omega, q13⟩
end K2
set_option maxHeartbeats 8000000
/-! K2N: the law -/
namespace K2
open PySem PySem.Spec PyProof.Rows L2 MC
local macro_rules | `(tactic| walk_at "hp") => `(tactic| first | assumption | (apply Le.keep; assumption; walk_at "hp") | (apply TextAt.le; assumption; walk_at "hp") | (apply Lw.keep; assumption; walk_at "hp"; first | rfl | exact sh_str _ | exact sh_ints _ | exact sh_sgns _) | (apply TextAt.lw; assumption; walk_at "hp"))
local macro_rules | `(tactic| walk_at "le") => `(tactic| first | exact Le.refl _ | assumption | (apply Le.trans'; assumption; walk_at "le"))
local macro_rules | `(tactic| walk_at "lw") => `(tactic| first | exact Lw.refl _ | assumption | exact Le.w (by assumption) | (apply Lw.trans'; (first | assumption | exact Le.w (by assumption)); walk_at "lw"))
local macro_rules | `(tactic| walk_at "sz") => `(tactic| first | omega | (simp only [slen_app]; omega) | (simp only [List.length_append, List.length_cons, List.length_nil, List.length_map, List.length_range]; omega) | omega | (simp; omega) | decide)
local macro_rules | `(tactic| walk_at "x") => `(tactic| first
  | with_reducible refine x_seq ?_ | with_reducible refine x_asg ?_ | with_reducible refine x_ret ?_ | with_reducible refine x_drop ?_
  | ((with_reducible apply x_var); exact rfl) | with_reducible refine x_c ?_ | with_reducible refine x_op ?_ | with_reducible refine x_opS ?_ | with_reducible refine x_un ?_ | with_reducible refine x_neg ?_
  | with_reducible refine x_test ?_ | with_reducible refine x_tB ?_ | with_reducible refine x_kB ?_
  | with_reducible refine x_nil ?_ | with_reducible refine x_cons ?_ | with_reducible refine x_tup ?_ | with_reducible refine x_lst ?_
  | ((with_reducible refine x_kTup ?_ ?_); (walk_at "sz"); (intro _ _ _ _ _)) | ((with_reducible refine x_kLst ?_ ?_); (walk_at "sz"); (intro _ _ _ _ _))
  | with_reducible refine x_fld ?_ | ((with_reducible apply x_fS); assumption; (walk_at "hp")) | ((with_reducible apply x_fC); assumption; (walk_at "hp"))
  | with_reducible refine x_cb ?_ | with_reducible refine x_call ?_ | with_reducible refine x_callE ?_ | with_reducible refine x_bm ?_ | with_reducible refine x_cv ?_
  | with_reducible refine x_meth ?_ | with_reducible refine x_cm ?_ | with_reducible refine x_kCM ?_ | with_reducible refine x_mk ?_ | with_reducible refine x_kMk ?_
  | with_reducible refine x_np ?_ | with_reducible refine x_part ?_ | with_reducible refine x_kPart ?_ | with_reducible refine x_sl ?_ | with_reducible refine x_rev ?_
  | with_reducible refine x_addI ?_ | ((with_reducible refine x_addS ?_ ?_); (walk_at "sz")) | with_reducible refine x_I0 ?_
  | with_reducible refine x_eqS ?_ | with_reducible refine x_eqI ?_ | with_reducible refine x_eqB ?_ | with_reducible refine x_neS ?_ | with_reducible refine x_neI ?_ | with_reducible refine x_neB ?_
  | with_reducible refine x_eqFS ?_ | with_reducible refine x_eqFI ?_
  | with_reducible refine x_ltI ?_ | with_reducible refine x_ltS ?_ | with_reducible refine x_leI ?_ | with_reducible refine x_leS ?_ | with_reducible refine x_inT ?_ | with_reducible refine x_notInT ?_
  | ((with_reducible refine x_slS ?_ ?_); (walk_at "sz")) | ((with_reducible refine x_kRev ?_ ?_); (walk_at "sz"))
  | ((with_reducible refine x_lenS ?_ ?_); (walk_at "sz")) | ((with_reducible apply x_lenT); (walk_at "hp"))
  | ((with_reducible apply x_ixT); (walk_at "hp"); exact rfl)
  | with_reducible refine x_abs ?_ | with_reducible refine x_int ?_ | with_reducible refine x_strS ?_
  | ((with_reducible apply x_isB); (first | exact kit_ty (r := true) (by decide +kernel) | exact kit_ty (r := false) (by decide +kernel))) | ((with_reducible apply x_isI); (first | exact kit_ty (r := true) (by decide +kernel) | exact kit_ty (r := false) (by decide +kernel))) | ((with_reducible apply x_isS); (first | exact kit_ty (r := true) (by decide +kernel) | exact kit_ty (r := false) (by decide +kernel)))
  | ((with_reducible apply x_isT); (walk_at "hp"); (first | exact kit_ty (r := true) (by decide +kernel) | exact kit_ty (r := false) (by decide +kernel)))
  | ((with_reducible apply x_isText); assumption; (walk_at "hp")) | ((with_reducible apply x_isTextS); assumption) | ((with_reducible apply x_isTextI); assumption) | ((with_reducible apply x_isTextN); assumption) | ((with_reducible apply x_kCVT); assumption)
  | ((with_reducible apply x_addL); (walk_at "hp"); (walk_at "hp"); (walk_at "sz"); (intro _ _ _ _ _)) | ((with_reducible apply x_tyL); (walk_at "hp")) | with_reducible refine x_tyS ?_
  | with_reducible refine x_joined ?_ | with_reducible refine x_js ?_ | with_reducible refine x_js0 ?_ | ((with_reducible refine x_kJs ?_ ?_); (walk_at "sz")) | with_reducible refine x_fmt ?_ | ((with_reducible refine x_fmtS ?_ ?_); (walk_at "sz")) | ((with_reducible refine x_fmtI ?_ ?_); omega)
  | with_reducible refine x_rse ?_ | with_reducible refine x_ex ?_ | with_reducible refine x_ex0 ?_ | with_reducible refine x_xf ?_
  | with_reducible refine x_for ?_ | with_reducible refine x_r1 ?_ | with_reducible refine x_r2 ?_ | with_reducible refine x_il ?_ | with_reducible refine x_en ?_ | with_reducible refine x_lc ?_ | with_reducible refine x_next ?_ | dsimp only)
local macro_rules | `(tactic| walk_at "xs") => `(tactic| repeat walk_at "x")
local macro_rules | `(tactic| walk_at "ev0") => `(tactic| (refine ev_run ?_; intro _ _ _ q; walk_at "xs"; refine q _ ?_; walk_at "le"))
local macro_rules | `(tactic| walk_at "ch") => `(tactic| (intro _ _ _ q; walk_at "xs"; refine q _ ?_; walk_at "le"))
local macro_rules | `(tactic| walk_at "ev") => `(tactic| first
  | (focus ((with_reducible refine ev_andV ?_ (fun _ => ?_)); (all_goals walk_at "ev"))) | (focus ((with_reducible refine ev_orV ?_ (fun _ => ?_)); (all_goals walk_at "ev")))
  | ((with_reducible refine ev_notV ?_); walk_at "ev")
  | (focus ((with_reducible apply ev_chain); (focus walk_at "ch"); (focus walk_at "ch"); (focus walk_at "ch"); (focus (intro _ _ _ q; walk_at "x"; exact q)); (focus (intro _ _ _ q; walk_at "x"; exact q))))
  | walk_at "ev0" | skip)
local macro_rules | `(tactic| walk_at "et") => `(tactic| first
  | (focus ((with_reducible refine et_and ?_ (fun _ => ?_)); (all_goals walk_at "et"))) | (focus ((with_reducible refine et_or ?_ (fun _ => ?_)); (all_goals walk_at "et")))
  | ((with_reducible refine et_not ?_); walk_at "et") | ((with_reducible refine et_B ?_); walk_at "ev") | ((with_reducible refine et_T ?_); walk_at "ev"))
local macro_rules | `(tactic| walk_at "st") => `(tactic| first | assumption | (apply St.le; assumption; walk_at "st"))
local macro_rules | `(tactic| walk_at "x") => `(tactic| first | ((with_reducible refine c_whole ?_); (intro _ _)) | ((with_reducible refine c_is_sign ?_ ?_); (walk_at "sz"); (intro _ _)) | ((with_reducible refine c_is_text ?_ ?_ ?_); (walk_at "hp"); assumption; (intro _ _)) | ((with_reducible apply x_ixL2); (walk_at "hp"); exact rfl) | ((with_reducible apply x_lenL2); (walk_at "hp")))
theorem x_notW {t1 : TT} {σ : L2.St} {H : Hp} {QB : Bool → Hp → Prop} (h : t1 σ H fun c H1 => QB (!c) H1) : tNot t1 σ H QB := h
theorem getI {ns : List Int} {i : Nat} {x : V} (h : (ns.map V.int)[i]? = some x) : ∃ k, x = .int k ∧ k ∈ ns := by
  rw [List.getElem?_map] at h
  cases e : ns[i]? with
  | none => rw [e] at h; cases h
  | some w =>
    rw [e] at h
    cases h
    exact ⟨w, rfl, List.mem_of_getElem? e⟩
theorem list_int (ns : List Int) (lo hi : Option Int) : ∃ ms : List Int, cutV (ns.map V.int) lo hi = ms.map V.int := by
  unfold cutV
  rw [← List.map_drop, ← List.map_take]
  exact ⟨_, rfl⟩
theorem rng_int (lo : Int) (n : Nat) : ((List.range n).map fun (i : Nat) => V.int (lo + (i : Int))) = (((List.range n).map fun (i : Nat) => lo + (i : Int)) : List Int).map V.int := by
  rw [List.map_map]; rfl
def sp_law (K : PySem.W.Frag) : Sp := fun vs H Q E => ∃ (s0 : Addr) (ns : List Int), vs = [.ref s0] ∧ SqL K H s0 (ns.map V.int) ∧ ∀ H', Q (.bl true) H'
theorem ok_law {P : Program} {w : World} {K : PySem.W.Frag} {mg : Str → Option Value} {base : Heap} {a : Ad} {f : Addr} {fd : FuncData} (F : FnP K "law" "law" s_law f fd) (T : Txt K mg a) (G__law_is_text : FnG P w K mg base 6 "_law_is_text" (sp__law_is_text a)) (G__law_whole : FnG P w K mg base 1 "_law_whole" (sp__law_whole a)) (M_Text_mirrored : MeG P w K mg base 6 a.cText "mirrored" (sp_Text_mirrored a)) (G__law_equal : FnG P w K mg base 2 "_law_equal" (sp__law_equal a)) (G__law_loops : FnG P w K mg base 6 "_law_loops" (sp__law_loops a)) (G__law_sum : FnG P w K mg base 8 "_law_sum" (sp__law_sum a)) (Ct_Text_1_closed : CtG P w K mg base 4 a.cText 1 ["closed"] (spCt_Text_1_closed a)) (G__law_word_of : FnG P w K mg base 2 "_law_word_of" (sp__law_word_of a)) (G__law_next : FnG P w K mg base 1 "_law_next" (sp__law_next a)) (G__law_turn : FnG P w K mg base 8 "_law_turn" (sp__law_turn a)) (G__law_parts : FnG P w K mg base 3 "_law_parts" (sp__law_parts a)) (O_Text___contains__ : OpG P w K mg base 1 a.cText "__contains__" (sp_Text___contains__ a)) (G__law_stands : FnG P w K mg base 1 "_law_stands" (sp__law_stands a)) (G__law_cut : FnG P w K mg base 8 "_law_cut" (sp__law_cut a)) (G__law_halves : FnG P w K mg base 8 "_law_halves" (sp__law_halves a)) (G__law_item : FnG P w K mg base 8 "_law_item" (sp__law_item a)) (G__law_strings : FnG P w K mg base 10 "_law_strings" (sp__law_strings a)) (G__law_letters_of : FnG P w K mg base 2 "_law_letters_of" (sp__law_letters_of a)) :
    FnOk P w K mg base (L2.CX P w) 11 f fd ["_law_script"] (sp_law K) := by
  refine F.ok sc_law (fun vs H Q E h => by obtain ⟨s0, ns, rfl, hS, q⟩ := h; rfl) (fun cdv A outer s H vs Q E hr h => ?_)
  refine ⟨_, (pss_cons (ps_set (i := 1) sc_law.nd rfl (Or.inl rfl) (pe_lst (pa_cons (pe_callTy (call_listU rfl) (by rfl) T.f_list (by decide +kernel) (pa_cons (pe_slice sl_U (pv 0) po_none (po_some pe_int)) pa_nil)) (pa_cons pe_int (pa_cons pe_int pa_nil)))))
    (pss_cons (ps_set (i := 2) sc_law.nd rfl (Or.inl rfl) (pe_callG G__law_next (hr.mono (by decide)) passN rfl (pa_cons (pv 1) (pa_cons pe_int pa_nil))))
    (pss_cons (ps_set (i := 3) sc_law.nd rfl (Or.inl rfl) (pe_cmpR (op_eqU hr) (pe_callG G__law_next (hr.mono (by decide)) passN rfl (pa_cons (pv 1) (pa_cons pe_int pa_nil))) pe_int (nomark _)))
    (pss_cons (ps_set (i := 4) sc_law.nd rfl (Or.inl rfl) (pe_callG G__law_letters_of (hr.mono (by decide)) passN rfl (pa_cons (pv 1) pa_nil)))
    (pss_cons (ps_set (i := 5) sc_law.nd rfl (Or.inl rfl) (pe_ix ix_seq (pe_lst (pa_cons pe_int (pa_cons pe_int (pa_cons pe_int (pa_cons pe_int (pa_cons pe_int (pa_cons pe_int (pa_cons pe_int (pa_cons pe_int pa_nil))))))))) (pe_callG G__law_next (hr.mono (by decide)) passN rfl (pa_cons (pv 1) (pa_cons pe_int pa_nil))) (fun _ _ => rfl)))
    (Evl.pss_cut (ps_if (pt_cmpR (op_eqU hr) (pv 2) pe_int (nomark _)) (pss_one (ps_set (i := 5) sc_law.nd rfl (Or.inl rfl) (pe_op op_addU pe_int (pe_op op_modN (pe_callTy call_intU (by rfl) T.f_int (by decide +kernel) (pa_cons (pv 5) pa_nil)) pe_int)))) pss_nil)
    (pss_cons (ps_set (i := 6) sc_law.nd rfl (Or.inl rfl) (pe_callG G__law_word_of (hr.mono (by decide)) passN rfl (pa_cons (pv 1) (pa_cons (pv 4) (pa_cons (pv 5) (pa_cons pe_int pa_nil))))))
    (pss_cons (ps_if (pt_not (pt_val (pe_callG G__law_strings (hr.mono (by decide)) passN rfl (pa_cons (pv 1) (pa_cons (pv 6) (pa_cons (pv 4) pa_nil)))))) (pss_one (ps_ret pe_bl)) pss_nil)
    (pss_cons (ps_set (i := 6) sc_law.nd rfl (Or.inl rfl) (pe_slice sl_U (pv 6) po_none (po_some pe_int)))
    (Evl.pss_cut (ps_if (PW.pt (pw_and (pt_val (pv 3)) (pw_and1 (pt_cmpR (op_eqU hr) (pv 6) pe_str (nomark _))))) (pss_one (ps_set (i := 6) sc_law.nd rfl (Or.inl rfl) (pe_slice sl_U (pv 4) po_none (po_some pe_int)))) pss_nil)
    (pss_cons (ps_set (i := 5) sc_law.nd rfl (Or.inl rfl) (pe_callB call_lenU (by rfl) T.f_len (by decide +kernel) (pa_cons (pv 6) pa_nil)))
    (pss_cons (ps_set (i := 7) sc_law.nd rfl (Or.inl rfl) (pe_mkG Ct_Text_1_closed (hr.mono (by decide)) (passW (takes_of rfl rfl rfl rfl)) (pe_glob (v := .ref a.cText) rfl T.g_Text rfl) (pa_cons (pv 6) pa_nil) (pk_cons (pv 3) pk_nil)))
    (pss_cons (ps_set (i := 8) sc_law.nd rfl (Or.inl rfl) (pe_callTy (call_listR rfl) (by rfl) T.f_list (by decide +kernel) (pa_cons (pe_callTy call_rng2 (by rfl) T.f_range (by decide +kernel) (pa_cons (pe_un un_neg pe_int) (pa_cons (pe_op op_addU (pv 5) pe_int) pa_nil))) pa_nil)))
    (Evl.pss_cut (ps_if (pt_cmpR op_gt (pv 5) pe_int (nomark _)) (pss_one (ps_set (i := 8) sc_law.nd rfl (Or.inl rfl) (pe_lst (pa_cons (pe_un un_neg pe_int) (pa_cons (pe_un un_neg pe_int) (pa_cons pe_int (pa_cons pe_int (pa_cons (pe_op op_fdivN (pv 5) pe_int) (pa_cons (pe_op op_sub (pv 5) pe_int) (pa_cons (pv 5) (pa_cons (pe_op op_addU (pv 5) pe_int) pa_nil))))))))))) pss_nil)
    (pss_cons (ps_for (by first | exact po | exact PassesOwn.never | exact passes_of rfl) rfl (pi_list (pv 8)) (pg_name (i := 9) sc_law.nd rfl (Or.inl rfl)) (pss_cons (ps_if (pt_not (pt_val (pe_callG G__law_item (hr.mono (by decide)) passN rfl (pa_cons (pv 7) (pa_cons (pv 6) (pa_cons (pv 9) pa_nil)))))) (pss_one (ps_ret pe_bl)) pss_nil)
    (pss_cons (ps_if (pt_not (pt_val (pe_callG G__law_halves (hr.mono (by decide)) passN rfl (pa_cons (pv 7) (pa_cons (pv 6) (pa_cons (pv 3) (pa_cons (pv 9) pa_nil))))))) (pss_one (ps_ret pe_bl)) pss_nil)
    (pss_one (ps_if (pt_not (pt_val (pe_callG G__law_cut (hr.mono (by decide)) passN rfl (pa_cons (pv 7) (pa_cons (pv 6) (pa_cons (pv 3) (pa_cons (pv 9) pa_nil))))))) (pss_one (ps_ret pe_bl)) pss_nil)))))
    (pss_cons (ps_for (by first | exact po | exact PassesOwn.never | exact passes_of rfl) rfl (pi_list (pe_callG G__law_parts (hr.mono (by decide)) passN rfl (pa_cons (pv 1) (pa_cons (pv 6) (pa_cons (pv 4) pa_nil))))) (pg_name (i := 10) sc_law.nd rfl (Or.inl rfl)) (pss_one (ps_if (pt_cmpR (op_neU hr) (pe_cmpR (op_inG O_Text___contains__ (hr.mono (by decide))) (pv 10) (pv 7) (by rfl)) (pe_callG G__law_stands (hr.mono (by decide)) passN rfl (pa_cons (pv 6) (pa_cons (pv 3) (pa_cons (pv 10) pa_nil)))) (nomark _)) (pss_one (ps_ret pe_bl)) pss_nil)))
    (pss_cons (ps_set (i := 11) sc_law.nd rfl (Or.inl rfl) (pe_callG G__law_next (hr.mono (by decide)) passN rfl (pa_cons (pv 1) (pa_cons pe_int pa_nil))))
    (pss_cons (ps_for (by first | exact po | exact PassesOwn.never | exact passes_of rfl) rfl (pi_list (pe_lst (pa_cons (pe_op op_sub (pv 11) pe_int) (pa_cons (pv 5) (pa_cons (pe_un un_neg pe_int) (pa_cons (pe_op op_addU (pe_op op_pow pe_int pe_int) (pv 11)) (pa_cons (pe_op op_sub (pe_un un_neg (pe_op op_pow pe_int pe_int)) pe_int) pa_nil))))))) (pg_name (i := 12) sc_law.nd rfl (Or.inl rfl)) (pss_one (ps_if (pt_not (pt_val (pe_callG G__law_turn (hr.mono (by decide)) passN rfl (pa_cons (pv 7) (pa_cons (pv 6) (pa_cons (pv 3) (pa_cons (pv 12) pa_nil))))))) (pss_one (ps_ret pe_bl)) pss_nil)))
    (pss_cons (ps_set (i := 13) sc_law.nd rfl (Or.inl rfl) (pe_cmpR (op_eqU hr) (pe_callG G__law_next (hr.mono (by decide)) passN rfl (pa_cons (pv 1) (pa_cons pe_int pa_nil))) pe_int (nomark _)))
    (pss_cons (ps_set (i := 14) sc_law.nd rfl (Or.inl rfl) (pe_callG G__law_word_of (hr.mono (by decide)) passN rfl (pa_cons (pv 1) (pa_cons (pv 4) (pa_cons (pe_ix ix_seq (pe_lst (pa_cons pe_int (pa_cons pe_int (pa_cons pe_int (pa_cons pe_int pa_nil))))) (pe_callG G__law_next (hr.mono (by decide)) passN rfl (pa_cons (pv 1) (pa_cons pe_int pa_nil))) (fun _ _ => rfl)) (pa_cons pe_int pa_nil))))))
    (Evl.pss_cut (ps_if (PW.pt (pw_and (pt_val (pv 13)) (pw_and1 (pt_cmpR (op_eqU hr) (pv 14) pe_str (nomark _))))) (pss_one (ps_set (i := 14) sc_law.nd rfl (Or.inl rfl) (pe_slice sl_U (pv 4) po_none (po_some pe_int)))) pss_nil)
    (pss_cons (ps_set (i := 15) sc_law.nd rfl (Or.inl rfl) (pe_mkG Ct_Text_1_closed (hr.mono (by decide)) (passW (takes_of rfl rfl rfl rfl)) (pe_glob (v := .ref a.cText) rfl T.g_Text rfl) (pa_cons (pv 14) pa_nil) (pk_cons (pv 13) pk_nil)))
    (pss_cons (ps_if (pt_not (pt_val (pe_callG G__law_sum (hr.mono (by decide)) passN rfl (pa_cons (pv 7) (pa_cons (pv 15) (pa_cons (pv 6) (pa_cons (pv 14) (pa_cons (pe_or (pv 3) (pe_one (pv 13))) pa_nil)))))))) (pss_one (ps_ret pe_bl)) pss_nil)
    (pss_cons (ps_if (pt_not (pt_val (pe_callG G__law_sum (hr.mono (by decide)) passN rfl (pa_cons (pv 15) (pa_cons (pv 7) (pa_cons (pv 14) (pa_cons (pv 6) (pa_cons (pe_or (pv 3) (pe_one (pv 13))) pa_nil)))))))) (pss_one (ps_ret pe_bl)) pss_nil)
    (pss_cons (ps_if (pt_not (pt_val (pe_callG G__law_loops (hr.mono (by decide)) passN rfl (pa_cons (pv 1) (pa_cons (pv 7) (pa_cons (pv 6) (pa_cons (pv 3) (pa_cons (pv 4) pa_nil)))))))) (pss_one (ps_ret pe_bl)) pss_nil)
    (pss_cons (ps_for (by first | exact po | exact PassesOwn.never | exact passes_of rfl) rfl (pi_list (pe_lst (pa_cons (pv 6) (pa_cons pe_non (pa_cons pe_int (pa_cons (pe_op op_addU (pe_op op_addU pe_str (pv 6)) pe_str) pa_nil)))))) (pg_name (i := 16) sc_law.nd rfl (Or.inl rfl)) (pss_one (ps_if (pt_not (pt_val (pe_callG G__law_equal (hr.mono (by decide)) passN rfl (pa_cons (pv 7) (pa_cons (pv 16) (pa_cons pe_bl pa_nil)))))) (pss_one (ps_ret pe_bl)) pss_nil)))
    (pss_cons (ps_if (pt_not (pt_val (pe_callG G__law_is_text (hr.mono (by decide)) passN rfl (pa_cons (pe_methG0 M_Text_mirrored (hr.mono (by decide)) passN (pv 7)) (pa_cons (pe_revS (pv 6)) (pa_cons (pv 3) pa_nil)))))) (pss_one (ps_ret pe_bl)) pss_nil)
    (pss_one (ps_ret (pe_and (pe_callG G__law_whole (hr.mono (by decide)) passN rfl (pa_cons (ClX.pe_cval (pe_glob (v := .ref a.cText) rfl T.g_Text rfl)) pa_nil)) (pe_and (pe_cmpR (op_eqU hr) (ClX.pe_cval (pe_glob (v := .ref a.cText) rfl T.g_Text rfl)) pe_int (nomark _)) (pe_one (pe_callG G__law_is_text (hr.mono (by decide)) passN rfl (pa_cons (pv 7) (pa_cons (pv 6) (pa_cons (pv 3) pa_nil)))))))))))))))))))))))))))))))))))), ?_⟩
  obtain ⟨s0, ns, rfl, hS, q⟩ := h
  walk_at "xs"
  refine x_slL hS fun p1 H1 n1 e1 h1 => ?_
  walk_at "xs"
  refine x_listL (sql h1) fun p2 H2 n2 e2 h2 => ?_
  walk_at "xs"
  rename_i s H3 n3 e3 h3
  have s3 : St H3 s := by
    obtain ⟨ms, hms⟩ := list_int ns none (some 63)
    rw [hms] at h2
    exact ⟨p2, ms, 0, 0, h3, e3.keep h2, by omega, by omega⟩
  refine c_next (by walk_at "st") (by omega) fun kd H4 hk1 hk2 e4 s4 => ?_
  walk_at "xs"
  refine c_next (by walk_at "st") (by omega) fun rc H5 hrc1 hrc2 e5 s5 => ?_
  walk_at "xs"
  generalize decide (rc = 1) = c
  refine ⟨s, rfl, by walk_at "st", fun g H6 hgb hg1 hg2 e6 s6 => ?_⟩
  walk_at "xs"
  rename_i p7 H7 n7 e7 h7
  refine c_next (by walk_at "st") (by omega) fun rm H8 hrm1 hrm2 e8 s8 => ?_
  refine x_ixL2 (xs := ([4, 3, 2, 5, 1, 6, 0, 7] : List Int).map V.int) (e8.keep h7 rfl) (atI_ints ⟨hrm1, hrm2⟩) ?_
  have hm0 : 0 ≤ ([4, 3, 2, 5, 1, 6, 0, 7] : List Int).getD rm.toNat 0 ∧ ([4, 3, 2, 5, 1, 6, 0, 7] : List Int).getD rm.toNat 0 ≤ 7 := by
    have : rm = 0 ∨ rm = 1 ∨ rm = 2 ∨ rm = 3 ∨ rm = 4 ∨ rm = 5 ∨ rm = 6 ∨ rm = 7 := by omega
    rcases this with rfl | rfl | rfl | rfl | rfl | rfl | rfl | rfl <;> decide
  generalize ([4, 3, 2, 5, 1, 6, 0, 7] : List Int).getD rm.toNat 0 = m0 at hm0 ⊢
  walk_at "xs"
  refine x_cut (fun σ' H' => (∃ m, (0 ≤ m ∧ m ≤ 130) ∧ σ' = [some (V.ref s0), some (V.ref s), some (V.int kd), some (V.bl c), some (V.str g), some (V.int m), none, none, none, none, none, none, none, none, none, none, none]) ∧ H' = H8) ?_ ?_
  · refine x_ifK ?_
    walk_at "xs"
    refine x_kIf (fun hb => ?_) (fun hb => ?_)
    · walk_at "xs"
      refine x_I (by decide) ?_
      have f1 := Int.fmod_nonneg_of_pos m0 (show (0 : Int) < 4 by decide)
      have f2 := Int.fmod_lt_of_pos m0 (show (0 : Int) < 4 by decide)
      walk_at "xs"
      exact ⟨⟨_, by omega, rfl⟩, rfl⟩
    · walk_at "xs"
      exact ⟨⟨_, by omega, rfl⟩, rfl⟩
  rintro σ' H' ⟨⟨m, hm, rfl⟩, rfl⟩
  walk_at "xs"
  refine ⟨s, g, m, 0, rfl, by walk_at "st", hgb, by omega, by omega, fun z0 H9 hz0b hz0l e9 s9 => ?_⟩
  walk_at "xs"
  refine x_ifK (x_notW ?_)
  walk_at "xs"
  refine ⟨s, z0, g, rfl, by walk_at "st", by omega, by omega, fun H10 e10 s10 => ?_⟩
  walk_at "xs"
  refine x_kIf (fun z => by cases z) (fun _ => ?_)
  walk_at "xs"
  have hcl := cutS_length z0 none (some 120)
  have hcut : (cutS z0 none (some 120)).length ≤ 120 := by
    rw [← len_l, cut_l, HT.sIx_none, show (120 : Int) = ((120 : Nat) : Int) from rfl, HT.sIx_nat, List.length_take]
    omega
  have hcb : bad (cutS z0 none (some 120)) = none := bad_cut hz0b
  generalize cutS z0 none (some 120) = z1 at hcut hcb hcl ⊢
  refine x_cut (fun σ' H' => (∃ z, Good z c ∧ σ' = [some (V.ref s0), some (V.ref s), some (V.int kd), some (V.bl c), some (V.str g), some (V.int m), some (V.str z), none, none, none, none, none, none, none, none, none, none]) ∧ Le H10 H') ?_ ?_
  · refine x_if (b := c && decide (z1 = "")) (by walk_at "et") (fun hb H11 e11 => ?_) (fun hb H11 e11 => ?_)
    · have k1 := cutS_length g none (some 1)
      walk_at "xs"
      refine ⟨⟨_, ⟨bad_cut hgb, by omega, fun _ q => ?_⟩, rfl⟩, e11⟩
      rw [empty_iff, ← len_l, cut_l, HT.sIx_none, show (1 : Int) = ((1 : Nat) : Int) from rfl, HT.sIx_nat, List.drop_zero, List.length_take, len_l] at q
      omega
    · walk_at "xs"
      refine ⟨⟨_, ⟨hcb, hcut, fun hc q => ?_⟩, rfl⟩, e11⟩
      simp [hc, q] at hb
  rintro σ' H11 ⟨⟨z, hg, rfl⟩, e11⟩
  have hz2 : z.length ≤ 120 := hg.2.1
  walk_at "xs"
  refine ⟨z, c, ⟨rfl, rfl⟩, by show z.length ≤ 1000; omega, meets_good hg fun p H12 e12 ht12 => ?_⟩
  walk_at "xs"
  refine x_rng2 fun pr H13 n13 e13 h13 => ?_
  walk_at "xs"
  refine x_listR h13 (by omega) fun pl H14 n14 e14 h14 => ?_
  rw [rng_int] at h14
  walk_at "xs"
  have s14 : St H14 s := by walk_at "st"
  have ht14 : TextAt a H14 p z c := by walk_at "hp"
  refine x_cut (fun σ' H' => (∃ pp ks, σ' = [some (V.ref s0), some (V.ref s), some (V.int kd), some (V.bl c), some (V.str g), some (V.int (z.length : Nat)), some (V.str z), some (V.ref p), some (V.ref pp), none, none, none, none, none, none, none, none] ∧ H' pp = some (.lst ((ks : List Int).map V.int)) ∧ ∀ k ∈ ks, small k) ∧ Le H14 H') ?_ ?_
  · refine x_if (b := decide ((9 : Int) < (z.length : Nat))) (by walk_at "et") (fun hb H15 e15 => ?_) (fun hb H15 e15 => ?_)
    · walk_at "xs"
      refine x_I ⟨by decide, by decide⟩ ?_
      walk_at "xs"
      rename_i p16 H16 n16 e16 h16
      refine ⟨⟨p16, [-2, -1, 0, 1, ((z.length : Nat) : Int).fdiv 2, ((z.length : Nat) : Int) - 1, (z.length : Nat), ((z.length : Nat) : Int) + 1], rfl, h16, fun k hk => ?_⟩, by walk_at "le"⟩
      have hd : ((z.length : Nat) : Int).fdiv 2 = ((z.length : Nat) : Int) / 2 := Int.fdiv_eq_ediv_of_nonneg _ (by decide)
      simp only [List.mem_cons, List.not_mem_nil, or_false] at hk
      unfold small
      rcases hk with rfl | rfl | rfl | rfl | rfl | rfl | rfl | rfl <;> omega
    · walk_at "xs"
      refine ⟨⟨pl, _, rfl, e15.keep h14, fun k hk => ?_⟩, e15⟩
      obtain ⟨j, hj, rfl⟩ := List.mem_map.mp hk
      have hj := List.mem_range.mp hj
      unfold small
      omega
  rintro σ' H15 ⟨⟨pp, ks, rfl, hpp, hks⟩, e15⟩
  have s15 : St H15 s := by walk_at "st"
  have ht15 : TextAt a H15 p z c := by walk_at "hp"
  walk_at "xs"
  refine x_forL (sql hpp) (fun i σ' H' => (∃ v9, σ' = [some (V.ref s0), some (V.ref s), some (V.int kd), some (V.bl c), some (V.str g), some (V.int (z.length : Nat)), some (V.str z), some (V.ref p), some (V.ref pp), v9, none, none, none, none, none, none, none]) ∧ Le H15 H') ⟨⟨_, rfl⟩, Le.refl _⟩ (fun i σ' H' _ h => sql (h.2.keep hpp)) ?_ ?_
  · rintro i x σ' H16 hx ⟨⟨v9, rfl⟩, e16⟩
    obtain ⟨k, rfl, hk⟩ := getI hx
    have hsk := hks k hk
    walk_at "xs"
    refine x_no (et_is (b := !true) (et_not (et_B (ev_run fun H17 e17 Q17 q17 => ?_))) rfl) fun H17 e17 => ?_
    · walk_at "xs"
      exact ⟨p, z, c, k, rfl, hg, by walk_at "hp", hsk, q17⟩
    walk_at "xs"
    refine x_no (et_is (b := !true) (et_not (et_B (ev_run fun H18 e18 Q18 q18 => ?_))) rfl) fun H18 e18 => ?_
    · walk_at "xs"
      exact ⟨p, z, c, k, rfl, hg, by walk_at "hp", hsk, q18⟩
    walk_at "xs"
    refine x_no (et_is (b := !true) (et_not (et_B (ev_run fun H19 e19 Q19 q19 => ?_))) rfl) fun H19 e19 => ?_
    · walk_at "xs"
      exact ⟨p, z, c, k, rfl, hg, by walk_at "hp", hsk, q19⟩
    walk_at "xs"
    exact ⟨⟨_, rfl⟩, by walk_at "le"⟩
  rintro σ' H16 ⟨⟨v9, rfl⟩, e16⟩
  have s16 : St H16 s := by walk_at "st"
  have ht16 : TextAt a H16 p z c := by walk_at "hp"
  walk_at "xs"
  refine ⟨s, z, g, rfl, s16, hz2, by omega, fun pq ws H17 hws hpq e17 s17 => ?_⟩
  have ht17 : TextAt a H17 p z c := by walk_at "hp"
  refine x_forL (sql hpq) (fun i σ' H' => (∃ v10, σ' = [some (V.ref s0), some (V.ref s), some (V.int kd), some (V.bl c), some (V.str g), some (V.int (z.length : Nat)), some (V.str z), some (V.ref p), some (V.ref pp), v9, v10, none, none, none, none, none, none]) ∧ Le H17 H') ⟨⟨_, rfl⟩, Le.refl _⟩ (fun i σ' H' _ h => sql (h.2.keep hpq)) ?_ ?_
  · rintro i x σ' H18 hx ⟨⟨v10, rfl⟩, e18⟩
    obtain ⟨w, rfl, hw⟩ := getS hx
    have hwl := hws w hw
    refine x_no (et_is (b := !(isPart z c w == stands z c w)) (et_T (ev_run fun H19 e19 Q19 q19 => ?_)) (by rw [stands_eq]; simp)) fun H19 e19 => ?_
    · walk_at "xs"
      obtain ⟨dx, hp19⟩ : TextAt a H19 p z c := by walk_at "hp"
      refine x_inO hp19 ⟨p, z, c, w, rfl, by show z.length ≤ 1000; omega, hwl, ⟨dx, hp19⟩, fun H20 e20 => ⟨_, rfl, ?_⟩⟩
      walk_at "xs"
      refine ⟨z, c, w, rfl, by show z.length ≤ 1000; omega, hwl, fun H21 e21 => ?_⟩
      walk_at "xs"
      exact q19 _ (by walk_at "le")
    walk_at "xs"
    exact ⟨⟨_, rfl⟩, by walk_at "le"⟩
  rintro σ' H18 ⟨⟨v10, rfl⟩, e18⟩
  have s18 : St H18 s := by walk_at "st"
  have ht18 : TextAt a H18 p z c := by walk_at "hp"
  walk_at "xs"
  refine c_next s18 (by omega) fun sm H19 hsm1 hsm2 e19 s19 => ?_
  have ht19 : TextAt a H19 p z c := by walk_at "hp"
  walk_at "xs"
  refine x_I ⟨by decide, by decide, by decide⟩ ?_
  walk_at "xs"
  refine x_I ⟨by decide, by decide, by decide⟩ ?_
  walk_at "xs"
  rename_i pby H20 n20 e20 h20
  have h20' : ∃ ks : List Int, H20 pby = some (.lst (ks.map V.int)) := ⟨[_, _, _, _, _], h20⟩
  obtain ⟨kb, hkb⟩ := h20'
  have s20 : St H20 s := by walk_at "st"
  have ht20 : TextAt a H20 p z c := by walk_at "hp"
  refine x_forL (sql hkb) (fun i σ' H' => (∃ v12, σ' = [some (V.ref s0), some (V.ref s), some (V.int kd), some (V.bl c), some (V.str g), some (V.int (z.length : Nat)), some (V.str z), some (V.ref p), some (V.ref pp), v9, v10, some (V.int sm), v12, none, none, none, none]) ∧ Le H20 H') ⟨⟨_, rfl⟩, Le.refl _⟩ (fun i σ' H' _ h => sql (h.2.keep hkb)) ?_ ?_
  · rintro i x σ' H21 hx ⟨⟨v12, rfl⟩, e21⟩
    obtain ⟨k, rfl, hk⟩ := getI hx
    refine x_no (et_is (b := !true) (et_not (et_B (ev_run fun H22 e22 Q22 q22 => ?_))) rfl) fun H22 e22 => ?_
    · walk_at "xs"
      exact ⟨p, z, c, k, rfl, hg, by walk_at "hp", q22⟩
    walk_at "xs"
    exact ⟨⟨_, rfl⟩, by walk_at "le"⟩
  rintro σ' H21 ⟨⟨v12, rfl⟩, e21⟩
  have s21 : St H21 s := by walk_at "st"
  have ht21 : TextAt a H21 p z c := by walk_at "hp"
  walk_at "xs"
  refine c_next s21 (by omega) fun rl H22 hrl1 hrl2 e22 s22 => ?_
  have ht22 : TextAt a H22 p z c := by walk_at "hp"
  walk_at "xs"
  generalize decide (rl = 1) = d
  rename_i p23 H23 n23 e23 h23
  refine c_next (by walk_at "st") (by omega) fun rn H24 hrn1 hrn2 e24 s24 => ?_
  have ht24 : TextAt a H24 p z c := by walk_at "hp"
  refine x_ixL2 (xs := ([1, 0, 2, 3] : List Int).map V.int) (e24.keep h23 rfl) (atI_ints ⟨hrn1, hrn2⟩) ?_
  have ho0 : 0 ≤ ([1, 0, 2, 3] : List Int).getD rn.toNat 0 ∧ ([1, 0, 2, 3] : List Int).getD rn.toNat 0 ≤ 3 := by
    have : rn = 0 ∨ rn = 1 ∨ rn = 2 ∨ rn = 3 := by omega
    rcases this with rfl | rfl | rfl | rfl <;> decide
  generalize ([1, 0, 2, 3] : List Int).getD rn.toNat 0 = o0 at ho0 ⊢
  walk_at "xs"
  refine ⟨s, g, o0, 1, rfl, s24, hgb, by omega, by omega, fun w0 H25 hw0b hw0l e25 s25 => ?_⟩
  have ht25 : TextAt a H25 p z c := by walk_at "hp"
  walk_at "xs"
  refine x_cut (fun σ' H' => (∃ w, Good w d ∧ σ' = [some (V.ref s0), some (V.ref s), some (V.int kd), some (V.bl c), some (V.str g), some (V.int (z.length : Nat)), some (V.str z), some (V.ref p), some (V.ref pp), v9, v10, some (V.int sm), v12, some (V.bl d), some (V.str w), none, none]) ∧ Le H25 H') ?_ ?_
  · refine x_if (b := d && decide (w0 = "")) (by walk_at "et") (fun hb H26 e26 => ?_) (fun hb H26 e26 => ?_)
    · have k1 := cutS_length g none (some 1)
      walk_at "xs"
      refine ⟨⟨_, ⟨bad_cut hgb, by omega, fun _ q => ?_⟩, rfl⟩, e26⟩
      rw [empty_iff, ← len_l, cut_l, HT.sIx_none, show (1 : Int) = ((1 : Nat) : Int) from rfl, HT.sIx_nat, List.drop_zero, List.length_take, len_l] at q
      omega
    · walk_at "xs"
      refine ⟨⟨_, ⟨hw0b, by omega, fun hc q => ?_⟩, rfl⟩, e26⟩
      simp [hc, q] at hb
  rintro σ' H26 ⟨⟨w, hgw, rfl⟩, e26⟩
  have hw2 : w.length ≤ 120 := hgw.2.1
  have ht26 : TextAt a H26 p z c := by walk_at "hp"
  have s26 : St H26 s := by walk_at "st"
  walk_at "xs"
  refine ⟨w, d, ⟨rfl, rfl⟩, by show w.length ≤ 1000; omega, meets_good hgw fun p2 H27 e27 hu27 => ?_⟩
  have ht27 : TextAt a H27 p z c := by walk_at "hp"
  have s27 : St H27 s := by walk_at "st"
  walk_at "xs"
  refine x_no (et_is (b := !true) (et_not (et_B (ev_run fun H28 e28 Q28 q28 => ?_))) rfl) fun H28 e28 => ?_
  · walk_at "xs"
    refine x_orV (b := c || d) (by walk_at "ev") fun H29 e29 => ?_
    walk_at "xs"
    exact ⟨p, z, c, p2, w, d, rfl, hg, by walk_at "hp", hgw, by walk_at "hp", fun H30 e30 => q28 _ (by walk_at "le")⟩
  walk_at "xs"
  refine x_no (et_is (b := !true) (et_not (et_B (ev_run fun H29 e29 Q29 q29 => ?_))) rfl) fun H29 e29 => ?_
  · walk_at "xs"
    refine x_orV (b := c || d) (by walk_at "ev") fun H30 e30 => ?_
    walk_at "xs"
    exact ⟨p2, w, d, p, z, c, by rw [Bool.or_comm], hgw, by walk_at "hp", hg, by walk_at "hp", fun H31 e31 => q29 _ (by walk_at "le")⟩
  walk_at "xs"
  refine x_ifK (x_notW ?_)
  walk_at "xs"
  refine ⟨s, p, z, c, g, rfl, by walk_at "st", hg, by walk_at "hp", hgb, by omega, fun H30 e30 s30 => ?_⟩
  have ht29 : TextAt a H29 p z c := by walk_at "hp"
  have ht30 : TextAt a H30 p z c := by walk_at "hp"
  walk_at "xs"
  refine x_kIf (fun z => by cases z) (fun _ => ?_)
  have l5 : ("(" : Str).length = 1 := by decide +kernel
  have l6 : (")" : Str).length = 1 := by decide +kernel
  walk_at "xs"
  rename_i po H31 n31 e31 h31
  refine x_forL (sql h31) (fun i σ' H' => (∃ v16, σ' = [some (V.ref s0), some (V.ref s), some (V.int kd), some (V.bl c), some (V.str g), some (V.int (z.length : Nat)), some (V.str z), some (V.ref p), some (V.ref pp), v9, v10, some (V.int sm), v12, some (V.bl d), some (V.str w), some (V.ref p2), v16]) ∧ Le H31 H') ⟨⟨_, rfl⟩, Le.refl _⟩ (fun i σ' H' _ h => sql (h.2.keep h31)) ?_ ?_
  · rintro i x σ' H32 hx ⟨⟨v16, rfl⟩, e32⟩
    have hx2 : x = .non ∨ (∃ i, x = .int i) ∨ ∃ w, x = .str w := by
      match i, hx with
      | 0, hx => cases hx; exact .inr (.inr ⟨_, rfl⟩)
      | 1, hx => cases hx; exact .inl rfl
      | 2, hx => cases hx; exact .inr (.inl ⟨_, rfl⟩)
      | 3, hx => cases hx; exact .inr (.inr ⟨_, rfl⟩)
      | n + 4, hx => simp at hx
    refine x_no (et_is (b := !true) (et_not (et_B (ev_run fun H33 e33 Q33 q33 => ?_))) rfl) fun H33 e33 => ?_
    · walk_at "xs"
      exact ⟨p, z, c, x, false, rfl, by walk_at "hp", .inr ⟨hx2, rfl⟩, q33⟩
    walk_at "xs"
    exact ⟨⟨_, rfl⟩, by walk_at "le"⟩
  rintro σ' H32 ⟨⟨v16, rfl⟩, e32⟩
  have ht32 : TextAt a H32 p z c := by walk_at "hp"
  have gr : Good (revS z) c := hg.rev
  walk_at "xs"
  refine x_no (et_is (b := !true) (et_not (et_B (ev_run fun H33 e33 Q33 q33 => ?_))) rfl) fun H33 e33 => ?_
  · walk_at "xs"
    obtain ⟨dx, hp33⟩ : TextAt a H33 p z c := by walk_at "hp"
    refine x_kMeth hp33 rfl ?_
    walk_at "xs"
    refine ⟨p, z, c, rfl, hg, ⟨dx, hp33⟩, fun p34 H34 e34 h34 => ?_⟩
    walk_at "xs"
    exact q33 _ (by walk_at "le")
  walk_at "xs"
  refine x_andV (b := true) (ev_is (b := true && (decide ((120 : Int) = 120) && true)) ?_ (by simp)) fun H34 e34 => q _
  walk_at "ev"
end K2
set_option maxHeartbeats 4000000
/-! K2W: what the head is asked, and what follows from it -/
namespace MC
open PySem PySem.Spec PyProof.Rows L2
abbrev Fr := PySem.W.Frag
/-- a classmethod's def -/
def cmA (K : Fr) (C : Addr) (m : Str) : Addr := match PySem.W.recIn K (He.ma K C m) "classmethod" with
  | some (.ref g :: _) => g
  | _ => 0
/-- a def of the text: where it stands (by names), its statement, its keyword-only defaults, the class whose __init__ it is, if it says super() -/
structure Df where
  adr : Fr → Addr
  name : Str
  qual : Str
  st : Stmt
  kwd : List (Str × V) := []
  sup : Option Str := none
abbrev FnV2 : Type := Option (Str × Str × Arguments × FuncBody × Scope × Addr × List Str × Addr)
def fnV2 (K : Fr) (f : Addr) : FnV2 := match K.lookup f with
  | some ⟨_, _, .func fd, _⟩ => some (fd.name, fd.qualname, fd.params, fd.body, fd.scope, fd.globals, fd.closure.map (·.1), fd.builtins)
  | _ => none
def Df.val (d : Df) : FnV2 := some (d.name, d.qual, defArgs d.st, .stmts (defBody d.st), defScope d.st, mainGlobals, (match d.sup with
  | none => []
  | some _ => ["__class__"]), builtinsNs)
def supB (file : Str) (K : Fr) (C : Addr) (fd : FuncData) : Bool := match fd.closure, fd.code with
  | [(_, cc)], .ref cda => (match K.lookup cc with
    | some ⟨_, _, .cell (some (.ref D)), _⟩ => decide (D = C)
    | _ => false) && (match K.lookup cda with
    | some ⟨_, _, .fields vs, _⟩ => (match (vs[2]? : Option Value) with
      | some (Value.str x _) => file == x
      | _ => false)
    | _ => false)
  | _, _ => false
def Df.ok (file : Str) (K : Fr) (d : Df) : Bool := PySem.W.keepIn K (.ref (d.adr K)) && (match K.lookup (d.adr K) with
  | some ⟨_, _, .func fd, _⟩ => PySem.W.codeIn K fd.code d.qual && (He.dflB K fd.defaults [] && (He.kwdB K fd.kwdefaults d.kwd && (match d.sup with
    | none => true
    | some c => supB file K (He.ga K c) fd)))
  | _ => false)
theorem Df.parts {file : Str} {K : Fr} {d : Df} (e : fnV2 K (d.adr K) = d.val) (c : d.ok file K = true) :
    PySem.W.keepIn K (.ref (d.adr K)) = true ∧ ∃ oc od osl dV kV doc pm an cdv ct cl, K.lookup (d.adr K) = some ⟨oc, od, .func (FuncData.mk d.name d.qual (defArgs d.st) (.stmts (defBody d.st)) (defScope d.st) mainGlobals cl dV kV doc pm an cdv ct builtinsNs), osl⟩ ∧
      cl.map (·.1) = (match d.sup with | none => [] | some _ => ["__class__"]) ∧ PySem.W.codeIn K cdv d.qual = true ∧ He.dflB K dV [] = true ∧ He.kwdB K kV d.kwd = true ∧
      (match d.sup with | none => true | some c => supB file K (He.ga K c) (FuncData.mk d.name d.qual (defArgs d.st) (.stmts (defBody d.st)) (defScope d.st) mainGlobals cl dV kV doc pm an cdv ct builtinsNs)) = true := by
  obtain ⟨kp, c2⟩ := He.ba c
  refine ⟨kp, ?_⟩
  unfold fnV2 at e
  cases q : K.lookup (d.adr K) with
  | none =>
    rw [q] at c2
    cases c2
  | some o =>
    obtain ⟨oc, od, dt, osl⟩ := o
    rw [q] at c2 e
    cases dt with
    | func fd =>
      obtain ⟨n1, n2, n3, n4, n5, n6, n7, n8, n9, n10, n11, n12, n13, n14, n15⟩ := fd
      have e2 : (some (n1, n2, n3, n4, n5, n6, n7.map (·.1), n15) : FnV2) = some (d.name, d.qual, defArgs d.st, .stmts (defBody d.st), defScope d.st, mainGlobals, (match d.sup with | none => [] | some _ => ["__class__"]), builtinsNs) := e
      simp only [Option.some.injEq, Prod.mk.injEq] at e2
      obtain ⟨h1, h2, h3, h4, h5, h6, h7, h8⟩ := e2
      subst h1 h2 h3 h4 h5 h6 h8
      have c3 : (PySem.W.codeIn K n13 d.qual && (He.dflB K n8 [] && (He.kwdB K n9 d.kwd && (match d.sup with | none => true | some c => supB file K (He.ga K c) (FuncData.mk d.name d.qual (defArgs d.st) (.stmts (defBody d.st)) (defScope d.st) mainGlobals n7 n8 n9 n10 n11 n12 n13 n14 builtinsNs))))) = true := c2
      obtain ⟨k1, k2⟩ := He.ba c3
      obtain ⟨k3, k4⟩ := He.ba k2
      obtain ⟨k5, k6⟩ := He.ba k4
      exact ⟨oc, od, osl, n8, n9, n10, n11, n12, n13, n14, n7, rfl, h7, k1, k3, k5, k6⟩
    | _ => cases c2
theorem Df.funD {file : Str} {K : Fr} {d : Df} (e : fnV2 K (d.adr K) = d.val) (c : d.ok file K = true) (hs : d.sup = none) : ∃ fd, FunD K d.name d.qual (defArgs d.st) (defBody d.st) (defScope d.st) [] d.kwd (d.adr K) fd := by
  obtain ⟨kp, oc, od, osl, dV, kV, doc, pm, an, cdv, ct, cl, lk, hcl, h1, h2, h3, h4⟩ := Df.parts e c
  rw [hs] at hcl
  have e0 : cl = [] := List.map_eq_nil_iff.mp hcl
  subst e0
  exact ⟨_, ⟨oc, od, dV, kV, doc, pm, an, cdv, ct, osl, rfl, lk, h1, He.dflB_ok h2, He.kwdB_ok h3⟩, kp⟩
theorem Df.supF {P : Program} {K : Fr} {d : Df} {c : Str} (e : fnV2 K (d.adr K) = d.val) (k : d.ok P.main.file K = true) (hs : d.sup = some c) : ∃ fd cc, SupF P K d.name d.qual (defArgs d.st) (defBody d.st) (defScope d.st) (d.adr K) fd (He.ga K c) cc ∧ ∃ kV doc pm an cdv ct, fd = PySem.W.ksFn d.name d.qual (defArgs d.st) (defBody d.st) (defScope d.st) .none kV doc pm an cdv ct cc := by
  obtain ⟨kp, oc, od, osl, dV, kV, doc, pm, an, cdv, ct, cl, lk, hcl, h1, h2, h3, h4⟩ := Df.parts e k
  rw [hs] at hcl h4
  unfold supB at h4
  cases cl with
  | nil => cases hcl
  | cons p r =>
    obtain ⟨x, cc⟩ := p
    cases r with
    | cons _ _ => cases hcl
    | nil =>
      have hx : x = "__class__" := by simpa using hcl
      subst hx
      cases cdv with
      | ref cda =>
        dsimp only at h4
        obtain ⟨h5, h6⟩ := He.ba h4
        cases q : K.lookup cc with
        | none => rw [q] at h5; cases h5
        | some o =>
          obtain ⟨c1, c2, dt, c3⟩ := o
          rw [q] at h5
          cases dt with
          | cell v =>
            cases v with
            | none => cases h5
            | some v =>
              cases v with
              | ref D =>
                have hD : D = He.ga K c := of_decide_eq_true h5
                subst hD
                cases q2 : K.lookup cda with
                | none => rw [q2] at h6; cases h6
                | some o2 =>
                  obtain ⟨d1, d2, dt2, d3⟩ := o2
                  rw [q2] at h6
                  cases dt2 with
                  | fields vs =>
                    dsimp only at h6
                    cases q3 : vs[2]? with
                    | none => rw [q3] at h6; cases h6
                    | some u =>
                      rw [q3] at h6
                      cases u with
                      | str file tf =>
                        have hdv : dV = .none := by
                          rcases He.dflB_ok h2 with ⟨_, e⟩ | ⟨e, _⟩
                          · exact e
                          · exact absurd rfl e
                        subst hdv
                        exact ⟨_, cc, ⟨⟨oc, od, .none, kV, doc, pm, an, cda, ct, osl, rfl, lk, h1, d1, d2, vs, d3, file, tf, q2, q3, h6⟩, ⟨c1, c2, c3, q⟩, kp⟩, kV, doc, pm, an, .ref cda, ct, rfl⟩
                      | _ => cases h6
                  | _ => cases h6
              | _ => cases h5
          | _ => cases h5
      | _ => cases h4
/-! ### the Hook -/
abbrev Al2 : Type := Bool × List FnV2
def obs2 (file : Str) (fa : List He.Fa) (ds : List Df) (ex : Fr → Bool) (K : Fr) : Al2 := ((fa.all fun f => f.ok K) && ((ds.all fun d => d.ok file K) && ex K), ds.map fun d => fnV2 K (d.adr K))
def val2 (ds : List Df) : Al2 := (true, ds.map Df.val)
def Says2 (file : Str) (fa : List He.Fa) (ds : List Df) (ex : Fr → Bool) (K : Fr) : Prop := obs2 file fa ds ex K = val2 ds
def frS2 (n : Nat) (g : Addr → Option Obj) : Fr := He.frG g (cStatics :: He.asD g n)
def obs2G (n : Nat) (file : Str) (fa : List He.Fa) (ds : List Df) (ex : Fr → Bool) (g : Addr → Option Obj) : Al2 := obs2 file fa ds ex (frS2 n g)
def hook2 (n : Nat) (file : Str) (fa : List He.Fa) (ds : List Df) (ex : Fr → Bool) : PySem.W.Hook where
  α := Al2
  obs := fun s => obs2G n file fa ds ex s.heap.get?
  val := fun _ => val2 ds
  says := fun _ h => ∃ K : Fr, K.In h ∧ Says2 file fa ds ex K
  of := fun _ _ e => ⟨_, He.frG_in, e⟩
  keeps := fun _ _ _ ⟨K, hK, c⟩ k => ⟨K, PySem.W.Frag.In.keeps hK k, c⟩
theorem obs2G_eq {n : Nat} {file : Str} {fa : List He.Fa} {ds : List Df} {ex : Fr → Bool} {g : Addr → Option Obj} {s : Shared} (h : ∀ a, g a = s.heap.get? a) : obs2G n file fa ds ex g = (hook2 n file fa ds ex).obs s := by
  have e : g = s.heap.get? := funext h
  rw [e] <;> rfl
section
variable {file : Str} {fa : List He.Fa} {ds : List Df} {ex : Fr → Bool} {K : Fr}
theorem Says2.b (c : Says2 file fa ds ex K) : ((fa.all fun f => f.ok K) && ((ds.all fun d => d.ok file K) && ex K)) = true := congrArg (fun z : Al2 => z.1) c
theorem Says2.fact (c : Says2 file fa ds ex K) (i : Nat) {f : He.Fa} (h : fa[i]? = some f := by rfl) : f.ok K = true :=
  List.all_eq_true.mp (He.ba c.b).1 f (List.mem_of_getElem? h)
theorem Says2.more (c : Says2 file fa ds ex K) : ex K = true := (He.ba (He.ba c.b).2).2
theorem Says2.df (c : Says2 file fa ds ex K) (i : Nat) {d : Df} (h : ds[i]? = some d := by rfl) : fnV2 K (d.adr K) = d.val ∧ d.ok file K = true := by
  have e : ds.map (fun d => fnV2 K (d.adr K)) = ds.map Df.val := congrArg (fun z : Al2 => z.2) c
  have e2 : (ds.map fun d => fnV2 K (d.adr K))[i]? = (ds.map Df.val)[i]? := by rw [e]
  rw [List.getElem?_map, List.getElem?_map, h] at e2
  exact ⟨Option.some.inj e2, List.all_eq_true.mp (He.ba (He.ba c.b).2).1 d (List.mem_of_getElem? h)⟩
end
/-! ### an exception class with super() in its __init__, by a Bool -/
def oexB (K : Fr) (C : Addr) : Bool := match K.lookup C with
  | some ⟨.type t, _, .cls cd, sl⟩ => (match cd.mro, sl.toList with
    | .ref C' :: bm, [_, _, _, _, some (.builtin n), _] => decide (t = "type") && (decide (C' = C) && (decide (n = "ValueError.__new__") && (!cd.hasDel && (cd.hasDict && PySem.HandSPX.refsVE bm))))
    | _, _ => false) && (decide (PySem.W.findIn K (.ref C) "__setattr__" = some (some (.builtin "object.__setattr__"))) && (decide (PySem.W.subIn K (.ref C) (.type "BaseException") = some true) && (decide (PySem.W.typeIn K (.ref C) = some (.type "type")) && PySem.W.keepIn K (.ref C))))
  | _ => false
theorem oexB_ok {K : Fr} {C : Addr} (h : oexB K C = true) : OexC K C := by
  unfold oexB at h
  split at h
  · rename_i t dd cd sl ho
    obtain ⟨h0, h⟩ := He.ba h
    obtain ⟨h1, h⟩ := He.ba h
    obtain ⟨h2, h⟩ := He.ba h
    obtain ⟨h3, h4⟩ := He.ba h
    refine ⟨?_, of_decide_eq_true h1, of_decide_eq_true h2, of_decide_eq_true h3, h4⟩
    split at h0
    · rename_i C' bm k0 k1 k2 k3 n k5 hm hs
      obtain ⟨g1, h0⟩ := He.ba h0
      obtain ⟨g2, h0⟩ := He.ba h0
      obtain ⟨g3, h0⟩ := He.ba h0
      obtain ⟨g4, h0⟩ := He.ba h0
      obtain ⟨g5, g6⟩ := He.ba h0
      obtain ⟨nm, bs, mro, ns, qn, hd, sn, sub, ab, col, del⟩ := cd
      have g1 := of_decide_eq_true g1
      have g2 := of_decide_eq_true g2
      have g3 := of_decide_eq_true g3
      have g4 : del = false := by simpa using g4
      have g5 : hd = true := g5
      have hm : mro = .ref C' :: bm := hm
      have hsl : sl = #[k0, k1, k2, k3, some (.builtin n), k5] := by
        obtain ⟨l⟩ := sl
        simp only at hs
        rw [hs]
      subst g1 g2 g3 g4 g5 hm hsl
      exact ⟨nm, qn, ns, bs, bm, sn, sub, ab, col, dd, k0, k1, k2, k3, k5, ho, g6⟩
    · cases h0
  · cases h
def supCB (K : Fr) (C : Addr) : Bool := oexB K C && (decide (PySem.W.nsIn K cStatics "thirdparty.any" = some none) && ((match PySem.W.clsIn K C with
  | some cd => (match cd.mro with
    | .ref C' :: bm => decide (C' = C) && decide (PySem.W.alongIn K "__init__" bm = some (some (.builtin "ValueError.__init__")))
    | _ => false)
  | none => false) && (decide (PySem.W.subIn K (.ref C) (.type "ValueError") = some true) && decide (PySem.W.mroIn K C (.ref C) = some true))))
theorem supCB_ok {P : Program} {K : Fr} {mg : Str → Option Value} {C : Addr} (h : supCB K C = true) (ns : mg "super" = none) (tp : (P.main.scope.names.lookup ("super" : Str)).isSome = false) : SupC P K mg C := by
  obtain ⟨h1, h⟩ := He.ba h
  obtain ⟨h2, h⟩ := He.ba h
  obtain ⟨h3, h⟩ := He.ba h
  obtain ⟨h4, h5⟩ := He.ba h
  refine ⟨oexB_ok h1, of_decide_eq_true h2, ?_, of_decide_eq_true h4, of_decide_eq_true h5, ns, tp⟩
  cases q : PySem.W.clsIn K C with
  | none => rw [q] at h3; cases h3
  | some cd =>
    rw [q] at h3
    dsimp only at h3
    cases q2 : cd.mro with
    | nil => rw [q2] at h3; cases h3
    | cons v bm =>
      rw [q2] at h3
      cases v with
      | ref C' =>
        obtain ⟨g1, g2⟩ := He.ba h3
        have g1 := of_decide_eq_true g1
        subst g1
        exact ⟨cd, bm, rfl, q2, of_decide_eq_true g2⟩
      | _ => cases h3
def excTB (K : Fr) (D : Addr) : Bool := (PySem.W.clsIn K D).isSome && (decide (PySem.W.findIn K (.ref D) "__getattribute__" = some (some (.builtin "BaseException.__getattribute__"))) && (decide (PySem.W.findIn K (.ref D) "__getattr__" = some none) && (decide (PySem.W.subIn K (.ref D) (.type "BaseException") = some true) &&
  (decide (PySem.W.findIn K (.ref D) "__class__" = some (some (.builtin "object.__class__"))) && (decide (PySem.W.specialIn K (.builtin "object.__class__") "__get__" = some (some (.builtin "getset_descriptor.__get__"))) && (decide (PySem.W.takesIn K (.builtin "object.__class__") = some true) && decide (PySem.W.mroIn K D (.type "object") = some true)))))))
theorem excTB_ok {K : Fr} {D : Addr} (h : excTB K D = true) : ExcT K D := by
  obtain ⟨h1, h⟩ := He.ba h
  obtain ⟨h2, h⟩ := He.ba h
  obtain ⟨h3, h⟩ := He.ba h
  obtain ⟨h4, h⟩ := He.ba h
  obtain ⟨h5, h⟩ := He.ba h
  obtain ⟨h6, h⟩ := He.ba h
  obtain ⟨h7, h8⟩ := He.ba h
  exact ⟨h1, of_decide_eq_true h2, of_decide_eq_true h3, of_decide_eq_true h4, of_decide_eq_true h5, of_decide_eq_true h6, of_decide_eq_true h7, of_decide_eq_true h8⟩
/-! ### an own class's special methods, classmethods -/
def specB (K : Fr) (C : Addr) (m : Str) : Bool := decide (PySem.W.findIn K (.ref C) m = some (some (.ref (He.ma K C m)))) && (PySem.W.isFn K (.ref (He.ma K C m)) && PySem.W.fnIn K (He.ma K C m))
theorem specB_ok {K : Fr} {C : Addr} {m : Str} (h : specB K C m = true) : Spec K C m (He.ma K C m) ∧ PySem.W.fnIn K (He.ma K C m) = true := by
  obtain ⟨h1, h⟩ := He.ba h
  obtain ⟨h2, h3⟩ := He.ba h
  exact ⟨⟨of_decide_eq_true h1, h2⟩, h3⟩
def creadB (K : Fr) (C : Addr) : Bool := PySem.W.readsIn K C (.type "type") && decide (PySem.W.specialIn K (.ref C) "__getattribute__" = some (some (.builtin "type.__getattribute__")))
theorem creadB_ok {K : Fr} {C : Addr} (h : creadB K C = true) : ClX.CRead K C (.type "type") := by
  obtain ⟨h1, h2⟩ := He.ba h
  exact ⟨h1, of_decide_eq_true h2⟩
def cmetB (K : Fr) (C : Addr) (m : Str) : Bool := (match PySem.W.findCls K (.ref C) (.type "type") m with
  | some (.get (.builtin b) (.ref p) .none (.ref D)) => decide (b = "classmethod.__get__") && (decide (p = He.ma K C m) && decide (D = C))
  | _ => false) && ((match PySem.W.recIn K (He.ma K C m) "classmethod" with
  | some (.ref g :: _) => true
  | _ => false) && PySem.W.fnIn K (cmA K C m))
theorem cmetB_ok {K : Fr} {C : Addr} {m : Str} (h : cmetB K C m = true) : ClX.CMet K C (.type "type") m (He.ma K C m) (cmA K C m) := by
  obtain ⟨h1, h⟩ := He.ba h
  obtain ⟨h2, h3⟩ := He.ba h
  refine ⟨?_, ?_, h3⟩
  · split at h1
    · rename_i b p D q
      obtain ⟨g1, h1⟩ := He.ba h1
      obtain ⟨g2, g3⟩ := He.ba h1
      rw [q, of_decide_eq_true g1, of_decide_eq_true g2, of_decide_eq_true g3]
    · cases h1
  · unfold cmA
    split at h2
    · rename_i g rest q
      rw [q]
      exact ⟨rest, rfl⟩
    · cases h2
def cvIntB (K : Fr) (C : Addr) (f : Str) (i : Int) : Bool := match PySem.W.findCls K (.ref C) (.type "type") f with
  | some (.val (.int j _)) => decide (j = i)
  | _ => false
theorem cvIntB_ok {K : Fr} {C : Addr} {f : Str} {i : Int} (r : creadB K C = true) (h : cvIntB K C f i = true) : CvOk K C f (.int i) := by
  unfold cvIntB at h
  split at h
  · rename_i j t q
    have := of_decide_eq_true h
    subst this
    exact ⟨_, _, creadB_ok r, ⟨q, ⟨t, rfl⟩⟩⟩
  · cases h
def insB (K : Fr) (C : Addr) : Bool := decide (PySem.W.findIn K (.ref C) "__class__" = some (some (.builtin "object.__class__"))) && (decide (PySem.W.specialIn K (.builtin "object.__class__") "__get__" = some (some (.builtin "getset_descriptor.__get__"))) && (decide (PySem.W.takesIn K (.builtin "object.__class__") = some true) && decide (PySem.W.mroIn K C (.type "object") = some true)))
theorem insB_ok {K : Fr} {C : Addr} (c : Cls K C) (h : insB K C = true) : InsOk K C := by
  obtain ⟨h1, h⟩ := He.ba h
  obtain ⟨h2, h⟩ := He.ba h
  obtain ⟨h3, h4⟩ := He.ba h
  exact fun e => .ins e c (of_decide_eq_true h1) (of_decide_eq_true h2) (of_decide_eq_true h3) (of_decide_eq_true h4)
def binIB (K : Fr) (C : Addr) (op : Operator) : Bool := PySem.W.selfFirst K C && ((match PySem.W.findIn K (.ref C) (dunderR op.info.2) with
  | some none => true
  | some (some (.ref _)) => true
  | _ => false) && ((PySem.W.findIn K (.type "int") (PySem.dunder op.info.2)).isSome && ((PySem.W.findIn K (.type "int") (dunderR op.info.2)).isSome && decide (PySem.W.subIn K (.type "int") (.ref C) = some false))))
theorem binIB_ok {K : Fr} {C : Addr} {op : Operator} (h : binIB K C op = true) : BinI K C op := by
  obtain ⟨h1, h⟩ := He.ba h
  obtain ⟨h2, h⟩ := He.ba h
  obtain ⟨h3, h⟩ := He.ba h
  obtain ⟨h4, h5⟩ := He.ba h
  refine ⟨h1, ?_, Option.isSome_iff_exists.mp h3, Option.isSome_iff_exists.mp h4, of_decide_eq_true h5⟩
  split at h2
  · rename_i q
    exact ⟨_, q, .inl rfl⟩
  · rename_i g q
    exact ⟨_, q, .inr ⟨g, rfl⟩⟩
  · cases h2
end MC
set_option maxHeartbeats 0
/-! K2R: the head: what is looked at, the runs -/
namespace K2
open PySem PySem.Spec PyProof.Rows L2 MC
abbrev d_BadSign___init__ : Df := ⟨fun K => He.ma K (He.ga K "BadSign") "__init__", "__init__", "BadSign.__init__", s_BadSign___init__, [], (some "BadSign")⟩
abbrev d_BadText___init__ : Df := ⟨fun K => He.ma K (He.ga K "BadText") "__init__", "__init__", "BadText.__init__", s_BadText___init__, [], (some "BadText")⟩
abbrev d_NoPlace___init__ : Df := ⟨fun K => He.ma K (He.ga K "NoPlace") "__init__", "__init__", "NoPlace.__init__", s_NoPlace___init__, [], (some "NoPlace")⟩
abbrev d_is_sign : Df := ⟨fun K => He.ga K "is_sign", "is_sign", "is_sign", s_is_sign, [], none⟩
abbrev d__check_signs : Df := ⟨fun K => He.ga K "_check_signs", "_check_signs", "_check_signs", s__check_signs, [], none⟩
abbrev d_least_turn : Df := ⟨fun K => He.ga K "least_turn", "least_turn", "least_turn", s_least_turn, [], none⟩
abbrev d_Text___init__ : Df := ⟨fun K => He.ma K (He.ga K "Text") "__init__", "__init__", "Text.__init__", s_Text___init__, [("closed", .bl false)], none⟩
abbrev d_Text_row : Df := ⟨fun K => cmA K (He.ga K "Text") "row", "row", "Text.row", s_Text_row, [], none⟩
abbrev d_Text_loop : Df := ⟨fun K => cmA K (He.ga K "Text") "loop", "loop", "Text.loop", s_Text_loop, [], none⟩
abbrev d_Text_read : Df := ⟨fun K => cmA K (He.ga K "Text") "read", "read", "Text.read", s_Text_read, [], none⟩
abbrev d_Text___len__ : Df := ⟨fun K => He.ma K (He.ga K "Text") "__len__", "__len__", "Text.__len__", s_Text___len__, [], none⟩
abbrev d_Text___iter__ : Df := ⟨fun K => He.ma K (He.ga K "Text") "__iter__", "__iter__", "Text.__iter__", s_Text___iter__, [], none⟩
abbrev d_Text___eq__ : Df := ⟨fun K => He.ma K (He.ga K "Text") "__eq__", "__eq__", "Text.__eq__", s_Text___eq__, [], none⟩
abbrev d_Text___str__ : Df := ⟨fun K => He.ma K (He.ga K "Text") "__str__", "__str__", "Text.__str__", s_Text___str__, [], none⟩
abbrev d_Text___getitem__ : Df := ⟨fun K => He.ma K (He.ga K "Text") "__getitem__", "__getitem__", "Text.__getitem__", s_Text___getitem__, [], none⟩
abbrev d_Text___contains__ : Df := ⟨fun K => He.ma K (He.ga K "Text") "__contains__", "__contains__", "Text.__contains__", s_Text___contains__, [], none⟩
abbrev d_Text___add__ : Df := ⟨fun K => He.ma K (He.ga K "Text") "__add__", "__add__", "Text.__add__", s_Text___add__, [], none⟩
abbrev d_Text___rshift__ : Df := ⟨fun K => He.ma K (He.ga K "Text") "__rshift__", "__rshift__", "Text.__rshift__", s_Text___rshift__, [], none⟩
abbrev d_Text_same_loop : Df := ⟨fun K => He.ma K (He.ga K "Text") "same_loop", "same_loop", "Text.same_loop", s_Text_same_loop, [], none⟩
abbrev d_Text_mirrored : Df := ⟨fun K => He.ma K (He.ga K "Text") "mirrored", "mirrored", "Text.mirrored", s_Text_mirrored, [], none⟩
abbrev d_Text_halves : Df := ⟨fun K => He.ma K (He.ga K "Text") "halves", "halves", "Text.halves", s_Text_halves, [], none⟩
abbrev d_Text_cut_at : Df := ⟨fun K => He.ma K (He.ga K "Text") "cut_at", "cut_at", "Text.cut_at", s_Text_cut_at, [], none⟩
abbrev d__law_next : Df := ⟨fun K => He.ga K "_law_next", "_law_next", "_law_next", s__law_next, [], none⟩
abbrev d__law_whole : Df := ⟨fun K => He.ga K "_law_whole", "_law_whole", "_law_whole", s__law_whole, [], none⟩
abbrev d__law_letters_of : Df := ⟨fun K => He.ga K "_law_letters_of", "_law_letters_of", "_law_letters_of", s__law_letters_of, [], none⟩
abbrev d__law_word_of : Df := ⟨fun K => He.ga K "_law_word_of", "_law_word_of", "_law_word_of", s__law_word_of, [], none⟩
abbrev d__law_pure : Df := ⟨fun K => He.ga K "_law_pure", "_law_pure", "_law_pure", s__law_pure, [], none⟩
abbrev d__law_strange : Df := ⟨fun K => He.ga K "_law_strange", "_law_strange", "_law_strange", s__law_strange, [], none⟩
abbrev d__law_fault : Df := ⟨fun K => He.ga K "_law_fault", "_law_fault", "_law_fault", s__law_fault, [], none⟩
abbrev d__law_refused : Df := ⟨fun K => He.ga K "_law_refused", "_law_refused", "_law_refused", s__law_refused, [], none⟩
abbrev d__law_equal : Df := ⟨fun K => He.ga K "_law_equal", "_law_equal", "_law_equal", s__law_equal, [], none⟩
abbrev d__law_is_text : Df := ⟨fun K => He.ga K "_law_is_text", "_law_is_text", "_law_is_text", s__law_is_text, [], none⟩
abbrev d__law_new : Df := ⟨fun K => He.ga K "_law_new", "_law_new", "_law_new", s__law_new, [], none⟩
abbrev d__law_makes : Df := ⟨fun K => He.ga K "_law_makes", "_law_makes", "_law_makes", s__law_makes, [], none⟩
abbrev d__law_reads : Df := ⟨fun K => He.ga K "_law_reads", "_law_reads", "_law_reads", s__law_reads, [], none⟩
abbrev d__law_do : Df := ⟨fun K => He.ga K "_law_do", "_law_do", "_law_do", s__law_do, [], none⟩
abbrev d__law_item : Df := ⟨fun K => He.ga K "_law_item", "_law_item", "_law_item", s__law_item, [], none⟩
abbrev d__law_halves : Df := ⟨fun K => He.ga K "_law_halves", "_law_halves", "_law_halves", s__law_halves, [], none⟩
abbrev d__law_cut : Df := ⟨fun K => He.ga K "_law_cut", "_law_cut", "_law_cut", s__law_cut, [], none⟩
abbrev d__law_turn : Df := ⟨fun K => He.ga K "_law_turn", "_law_turn", "_law_turn", s__law_turn, [], none⟩
abbrev d__law_sum : Df := ⟨fun K => He.ga K "_law_sum", "_law_sum", "_law_sum", s__law_sum, [], none⟩
abbrev d__law_parts : Df := ⟨fun K => He.ga K "_law_parts", "_law_parts", "_law_parts", s__law_parts, [], none⟩
abbrev d__law_stands : Df := ⟨fun K => He.ga K "_law_stands", "_law_stands", "_law_stands", s__law_stands, [], none⟩
abbrev d__law_loops : Df := ⟨fun K => He.ga K "_law_loops", "_law_loops", "_law_loops", s__law_loops, [], none⟩
abbrev d__law_turns : Df := ⟨fun K => He.ga K "_law_turns", "_law_turns", "_law_turns", s__law_turns, [], none⟩
abbrev d__law_one_sign : Df := ⟨fun K => He.ga K "_law_one_sign", "_law_one_sign", "_law_one_sign", s__law_one_sign, [], none⟩
abbrev d__law_strings : Df := ⟨fun K => He.ga K "_law_strings", "_law_strings", "_law_strings", s__law_strings, [], none⟩
abbrev d_law : Df := ⟨fun K => He.ga K "law", "law", "law", s_law, [], none⟩
def dsL : List Df := ([d_BadSign___init__, d_BadText___init__, d_NoPlace___init__, d_is_sign, d__check_signs, d_least_turn, d_Text___init__, d_Text_row, d_Text_loop, d_Text_read, d_Text___len__, d_Text___iter__] : List Df) ++ ([d_Text___eq__, d_Text___str__, d_Text___getitem__, d_Text___contains__, d_Text___add__, d_Text___rshift__, d_Text_same_loop, d_Text_mirrored, d_Text_halves, d_Text_cut_at, d__law_next, d__law_whole] : List Df) ++ ([d__law_letters_of, d__law_word_of, d__law_pure, d__law_strange, d__law_fault, d__law_refused, d__law_equal, d__law_is_text, d__law_new, d__law_makes, d__law_reads, d__law_do] : List Df) ++ ([d__law_item, d__law_halves, d__law_cut, d__law_turn, d__law_sum, d__law_parts, d__law_stands, d__law_loops, d__law_turns, d__law_one_sign, d__law_strings, d_law] : List Df)
def faL : List He.Fa := ([.free "len", .free "abs", .free "int", .free "list", .free "str", .free "bool", .free "tuple", .free "isinstance", .free "iter", .free "min", .free "range", .free "enumerate", .free "ValueError", .free "super", .glo "ClerkError", .glo "BadSign"] : List He.Fa) ++ ([.glo "BadText", .glo "NoPlace", .glo "ClosedText", .glo "OpenText", .glo "Text", .glo "is_sign", .glo "_check_signs", .glo "least_turn", .glo "_law_next", .glo "_law_whole", .glo "_law_letters_of", .glo "_law_word_of", .glo "_law_pure", .glo "_law_strange", .glo "_law_fault", .glo "_law_refused"] : List He.Fa) ++ ([.glo "_law_equal", .glo "_law_is_text", .glo "_law_new", .glo "_law_makes", .glo "_law_reads", .glo "_law_do", .glo "_law_item", .glo "_law_halves", .glo "_law_cut", .glo "_law_turn", .glo "_law_sum", .glo "_law_parts", .glo "_law_stands", .glo "_law_loops", .glo "_law_turns", .glo "_law_one_sign"] : List He.Fa) ++ ([.glo "_law_strings", .glo "law", .cls "Text", .noat "Text" "signs", .noat "Text" "closed", .meth "Text" "same_loop", .meth "Text" "mirrored", .meth "Text" "halves", .meth "Text" "cut_at", .mkr "Text", .exc "ClosedText", .exc "OpenText"] : List He.Fa)
def A (K : Fr) : Ad := ⟨He.ga K "ClerkError", He.ga K "BadSign", He.ga K "BadText", He.ga K "NoPlace", He.ga K "ClosedText", He.ga K "OpenText", He.ga K "Text"⟩
def exL (K : Fr) : List Bool := ([PySem.W.selfFirst K (A K).cText, binIB K (A K).cText .RShift, decide (PySem.W.kitOne K (.ref (A K).cText) (.ref (A K).cText) = some true), decide (PySem.W.kitOne K (.type "str") (.ref (A K).cText) = some false), decide (PySem.W.kitOne K (.type "int") (.ref (A K).cText) = some false), decide (PySem.W.kitOne K (.type "NoneType") (.ref (A K).cText) = some false), PySem.W.notFirst K (A K).cText (.ref (A K).cText), PySem.W.notFirst K (A K).cText (.type "str"), PySem.W.notFirst K (A K).cText (.type "int"), PySem.W.notFirst K (A K).cText (.type "NoneType")] : List Bool) ++ ([insB K (A K).cText, creadB K (A K).cText, cvIntB K (A K).cText "MOST" 120, cmetB K (A K).cText "loop", cmetB K (A K).cText "read", cmetB K (A K).cText "row", specB K (A K).cText "__len__", specB K (A K).cText "__iter__", specB K (A K).cText "__eq__", specB K (A K).cText "__str__"] : List Bool) ++ ([specB K (A K).cText "__getitem__", specB K (A K).cText "__contains__", specB K (A K).cText "__add__", specB K (A K).cText "__rshift__", supCB K (A K).cBadSign, specB K (A K).cBadSign "__init__", supCB K (A K).cBadText, specB K (A K).cBadText "__init__", supCB K (A K).cNoPlace, specB K (A K).cNoPlace "__init__"] : List Bool)
def kL : List ExK := [.sign, .size, .place, .closed, .opn]
def tabB (K : Fr) : Bool := kL.all fun i => kL.all fun j => decide (PySem.W.exmOne K (.ref ((A K).x i)) (.ref ((A K).x j)) = some (decide (i = j))) && decide (PySem.W.kitOne K (.ref ((A K).x i)) (.ref ((A K).x j)) = some (decide (i = j)))
def oneB (K : Fr) : Bool := kL.all fun i => decide (PySem.W.kitOne K (.ref ((A K).x i)) (.ref (A K).cClerkError) = some true) && (decide (PySem.W.kitOne K (.ref ((A K).x i)) (.type "ValueError") = some true) && (excTB K ((A K).x i) && (xfB K ((A K).x i) && decide (PySem.W.findIn K (.ref ((A K).x i)) i.fld = some none))))
def exK (K : Fr) : Bool := (exL K).all id && (tabB K && oneB K)
abbrev R : PySem.W.OpenRow := PySem.W.OpenLaw.row PySem.Challenge.rw_manyclerks_k02_texts_open_and_closed
abbrev fileS : PySem.Str := PySem.Challenge.pw_manyclerks_k02_texts_open_and_closed.main.file
abbrev hk : PySem.W.Hook := hook2 6 fileS faL dsL exK
def ob (s : PySem.W.SharedT) : Al2 := obs2G 6 fileS faL dsL exK (HandSHeadRun.getT s)
theorem ob_eq (s : PySem.W.SharedT) : ob s = hk.obs s.abs := obs2G_eq (HandSHeadRun.getT_eq s)
def loose : List PySem.Str := (["__name__", "ClerkError", "BadSign", "BadText", "NoPlace", "ClosedText", "OpenText", "is_sign", "_check_signs", "least_turn", "Text", "_law_next", "_law_whole", "_law_letters_of", "_law_word_of", "_law_pure", "_law_strange", "_law_fault", "_law_refused", "_law_equal"] : List PySem.Str) ++ (["_law_is_text", "_law_new", "_law_makes", "_law_reads", "_law_do", "_law_item", "_law_halves", "_law_cut", "_law_turn", "_law_sum", "_law_parts", "_law_stands", "_law_loops", "_law_turns", "_law_one_sign", "_law_strings"] : List PySem.Str)

open HandSHeadRun PySem.W
theorem t1 (w : World) (os : OsState) : (endF (stepQ (denQ tabQ) R.prog w) 6000 R.prog w os).isSome = true := by kernel_rfl
theorem t2 (w : World) (os : OsState) : (endF (stepQ (denQ tabQ) R.prog w) 6000 R.prog w os).map (fun s => looksF R.prog (boot_heap w.params) s.abs) = some true := by kernel_rfl
theorem t3 (w : World) (os : OsState) : (endF (stepQ (denQ tabQ) R.prog w) 6000 R.prog w os).map (fun s => seenQ (view R.prog [39]) loose (importedModules R.prog.main.body) (fun s => xlAt (view R.prog [39]) [] s && recOk R.toRowW.records s) s.abs) = some (openGood (view R.prog [39]) loose) := by kernel_rfl
theorem t4 (w : World) (os : OsState) : (endF (stepQ (denQ tabQ) R.prog w) 6000 R.prog w os).map (fun s => ob s) = some (hk.val w) := by kernel_rfl
end K2
set_option maxHeartbeats 4000000
/-! K2Z: the end -/
namespace K2
open PySem PySem.Spec PyProof.Rows L2 MC
theorem raw0 {P : Program} {w : World} {K : Fr} {mg : Str → Option Value} {base : Heap} {CX : CXT} {k : Nat} {f : Addr} {fd : FuncData} {ps : List Str} {sp : Sp} (F : FnOk P w K mg base CX k f fd ps sp) (hb : Binds K fd ps []) : FnR P w K mg base CX k f sp :=
  (F.raw hb .nil).imp fun vs H Q E h => by rw [List.append_nil]; exact h
theorem fn_mute {P : Program} {w : World} {K : Fr} {mg : Str → Option Value} {base : Heap} {k : Nat} {f : Addr} {fd : FuncData} {ps : List Str} {sp : Sp} (F : FnOk P w K mg base (L2.CX P w) k f fd ps sp) (h : ∀ vs H Q E, sp vs H Q E → sp vs H Q XE0) : FnOk P w K mg base CX0 k f fd ps sp := by
  refine ⟨F.len, fun A outer s H args us vs Q E hr e0 hb r hsp => codeAny_mono (F.run A outer s H args us vs Q XE0 hr e0 hb r (h _ _ _ _ hsp)) fun r s' hq => ?_⟩
  match r, hq with
  | .error e, hq =>
    obtain ⟨_, _, _, _, _, _, _, _, _, _, _, _, z⟩ := hq
    exact z.elim
  | .ok (.ret u), hq => exact hq
  | .ok .next, hq => exact hq.elim
  | .ok .brk, hq => exact hq.elim
  | .ok .cont, hq => exact hq.elim
section
variable {P : Program} {w : World} {K : Fr} {h : Heap} {mg : Str → Option Value}
theorem exAt (c : exK K = true) (n : Nat) {b : Bool} (e : (exL K)[n]? = some b := by rfl) : b = true := List.all_eq_true.mp (He.ba c).1 b (List.mem_of_getElem? e)
theorem mem_kL (i : ExK) : i ∈ kL := by cases i <;> simp [kL]
theorem txt_of (X : K.In h) (G : h.Ns mainGlobals mg) (c : Says2 fileS faL dsL exK K) : Txt K mg (A K) := by
  have m := c.more
  have t1 := (He.ba (He.ba m).2).1
  have t2 := (He.ba (He.ba m).2).2
  have tab : ∀ i j, decide (PySem.W.exmOne K (.ref ((A K).x i)) (.ref ((A K).x j)) = some (decide (i = j))) = true ∧ decide (PySem.W.kitOne K (.ref ((A K).x i)) (.ref ((A K).x j)) = some (decide (i = j))) = true := fun i j =>
    He.ba (List.all_eq_true.mp (List.all_eq_true.mp t1 i (mem_kL i)) j (mem_kL j))
  have one := fun i => List.all_eq_true.mp t2 i (mem_kL i)
  have cls : Cls K (A K).cText := He.cls_ok (c.fact 50 (f := .cls "Text") rfl)
  have x1 := He.exc_ok (c.fact 58 (f := .exc "ClosedText") rfl)
  have x2 := He.exc_ok (c.fact 59 (f := .exc "OpenText") rfl)
  exact {
    f_len := He.free_ok X G (c.fact 0 (f := .free "len") rfl)
    f_abs := He.free_ok X G (c.fact 1 (f := .free "abs") rfl)
    f_int := He.free_ok X G (c.fact 2 (f := .free "int") rfl)
    f_list := He.free_ok X G (c.fact 3 (f := .free "list") rfl)
    f_str := He.free_ok X G (c.fact 4 (f := .free "str") rfl)
    f_bool := He.free_ok X G (c.fact 5 (f := .free "bool") rfl)
    f_tuple := He.free_ok X G (c.fact 6 (f := .free "tuple") rfl)
    f_isinstance := He.free_ok X G (c.fact 7 (f := .free "isinstance") rfl)
    f_iter := He.free_ok X G (c.fact 8 (f := .free "iter") rfl)
    f_min := He.free_ok X G (c.fact 9 (f := .free "min") rfl)
    f_range := He.free_ok X G (c.fact 10 (f := .free "range") rfl)
    f_enumerate := He.free_ok X G (c.fact 11 (f := .free "enumerate") rfl)
    f_ValueError := He.free_ok X G (c.fact 12 (f := .free "ValueError") rfl)
    g_ClerkError := He.glo_ok X G (c.fact 14 (f := .glo "ClerkError") rfl)
    g_BadSign := He.glo_ok X G (c.fact 15 (f := .glo "BadSign") rfl)
    g_BadText := He.glo_ok X G (c.fact 16 (f := .glo "BadText") rfl)
    g_NoPlace := He.glo_ok X G (c.fact 17 (f := .glo "NoPlace") rfl)
    g_ClosedText := He.glo_ok X G (c.fact 18 (f := .glo "ClosedText") rfl)
    g_OpenText := He.glo_ok X G (c.fact 19 (f := .glo "OpenText") rfl)
    g_Text := He.glo_ok X G (c.fact 20 (f := .glo "Text") rfl)
    x0_ClosedText := ⟨He.glo_ok X G (c.fact 18 (f := .glo "ClosedText") rfl), x1.2.1, x1.1, x1.2.2.1, x1.2.2.2⟩
    x0_OpenText := ⟨He.glo_ok X G (c.fact 19 (f := .glo "OpenText") rfl), x2.2.1, x2.1, x2.2.2.1, x2.2.2.2⟩
    fS := ⟨cls, He.noat_ok (c.fact 51 (f := .noat "Text" "signs") rfl)⟩
    fC := ⟨cls, He.noat_ok (c.fact 52 (f := .noat "Text" "closed") rfl)⟩
    cv := cvIntB_ok (exAt m 11) (exAt m 12)
    ins := insB_ok cls (exAt m 10)
    selfF := exAt m 0
    binI := binIB_ok (exAt m 1)
    kTT := of_decide_eq_true (exAt m 2)
    kST := of_decide_eq_true (exAt m 3)
    kIT := of_decide_eq_true (exAt m 4)
    kNT := of_decide_eq_true (exAt m 5)
    nfT := exAt m 6
    nfS := exAt m 7
    nfI := exAt m 8
    nfN := exAt m 9
    exm := fun i j => of_decide_eq_true (tab i j).1
    kit := fun i j => of_decide_eq_true (tab i j).2
    kitE := fun i => of_decide_eq_true (He.ba (one i)).1
    kitV := fun i => of_decide_eq_true (He.ba (He.ba (one i)).2).1
    exT := fun i => excTB_ok (He.ba (He.ba (He.ba (one i)).2).2).1
    xf := fun i => xfB_ok (He.ba (He.ba (He.ba (He.ba (one i)).2).2).2).1
    nf := fun i => of_decide_eq_true (He.ba (He.ba (He.ba (He.ba (one i)).2).2).2).2 }
theorem law_of {base : Heap} {fd_law : FuncData} (F_law : FnP K "law" "law" s_law (He.ga K "law") fd_law) (X : K.In h) (G : h.Ns mainGlobals mg) (c : Says2 fileS faL dsL exK K) (hP : P.main.file = fileS) (hS : (P.main.scope.names.lookup ("super" : Str)).isSome = false) :
    FnOk P w K mg base CX0 11 (He.ga K "law") fd_law ["_law_script"] (sp_law K) := by
  have m := c.more
  have T := txt_of X G c
  have fP : ∀ {d : Df}, d.ok fileS K = true → d.ok P.main.file K = true := fun h => by rw [hP]; exact h
  have cls : Cls K (A K).cText := He.cls_ok (c.fact 50 (f := .cls "Text") rfl)
  have noSup : mg "super" = none := He.free_ok X G (c.fact 13 (f := .free "super") rfl)
  obtain ⟨fd_BadSign, cc_BadSign, F_BadSign, kV_BadSign, doc_BadSign, pm_BadSign, an_BadSign, cdv_BadSign, ct_BadSign, ef_BadSign⟩ := Df.supF (P := P) (d := d_BadSign___init__) (c := "BadSign") (c.df 0 (d := d_BadSign___init__) rfl).1 (fP (c.df 0 (d := d_BadSign___init__) rfl).2) rfl
  have S_BadSign := supCB_ok (P := P) (mg := mg) (exAt m 24) noSup hS
  have I_BadSign := specB_ok (exAt m 25)
  have b_BadSign : Binds K fd_BadSign ["self", "at"] [] := by
    rw [ef_BadSign]
    exact Binds.all fun us hl => match us, hl with | [_, _], _ => rfl
  have X_BadSign : ExG P w K mg base 1 "BadSign" (A K).cBadSign "at" := ⟨T.g_BadSign, S_BadSign.oex, _, _, _, ini_BadSign F_BadSign S_BadSign (T.nf .sign), b_BadSign, I_BadSign.1.at_, beq_iff_eq.mp I_BadSign.1.fn⟩
  obtain ⟨fd_BadText, cc_BadText, F_BadText, kV_BadText, doc_BadText, pm_BadText, an_BadText, cdv_BadText, ct_BadText, ef_BadText⟩ := Df.supF (P := P) (d := d_BadText___init__) (c := "BadText") (c.df 1 (d := d_BadText___init__) rfl).1 (fP (c.df 1 (d := d_BadText___init__) rfl).2) rfl
  have S_BadText := supCB_ok (P := P) (mg := mg) (exAt m 26) noSup hS
  have I_BadText := specB_ok (exAt m 27)
  have b_BadText : Binds K fd_BadText ["self", "size"] [] := by
    rw [ef_BadText]
    exact Binds.all fun us hl => match us, hl with | [_, _], _ => rfl
  have X_BadText : ExG P w K mg base 1 "BadText" (A K).cBadText "size" := ⟨T.g_BadText, S_BadText.oex, _, _, _, ini_BadText F_BadText S_BadText (T.nf .size), b_BadText, I_BadText.1.at_, beq_iff_eq.mp I_BadText.1.fn⟩
  obtain ⟨fd_NoPlace, cc_NoPlace, F_NoPlace, kV_NoPlace, doc_NoPlace, pm_NoPlace, an_NoPlace, cdv_NoPlace, ct_NoPlace, ef_NoPlace⟩ := Df.supF (P := P) (d := d_NoPlace___init__) (c := "NoPlace") (c.df 2 (d := d_NoPlace___init__) rfl).1 (fP (c.df 2 (d := d_NoPlace___init__) rfl).2) rfl
  have S_NoPlace := supCB_ok (P := P) (mg := mg) (exAt m 28) noSup hS
  have I_NoPlace := specB_ok (exAt m 29)
  have b_NoPlace : Binds K fd_NoPlace ["self", "at"] [] := by
    rw [ef_NoPlace]
    exact Binds.all fun us hl => match us, hl with | [_, _], _ => rfl
  have X_NoPlace : ExG P w K mg base 1 "NoPlace" (A K).cNoPlace "at" := ⟨T.g_NoPlace, S_NoPlace.oex, _, _, _, ini_NoPlace F_NoPlace S_NoPlace (T.nf .place), b_NoPlace, I_NoPlace.1.at_, beq_iff_eq.mp I_NoPlace.1.fn⟩
  obtain ⟨fd_is_sign, F_is_sign⟩ := Df.funD (d := d_is_sign) (c.df 3 (d := d_is_sign) rfl).1 (c.df 3 (d := d_is_sign) rfl).2 rfl
  have b_is_sign : Binds K fd_is_sign ["word"] [] := F_is_sign.bindsN fun _ _ _ _ _ _ us hl => match us, hl with | [_], _ => rfl
  have K_is_sign : FnOk P w K mg base (L2.CX P w) 1 _ fd_is_sign ["word"] (sp_is_sign (A K)) := ok_is_sign F_is_sign T 
  have G_is_sign : FnG P w K mg base 1 "is_sign" (sp_is_sign (A K)) := ⟨_, raw0 K_is_sign b_is_sign, (He.glo_ok X G (c.fact 21 (f := .glo "is_sign") rfl)), F_is_sign.kp⟩
  obtain ⟨fd_Text___len__, F_Text___len__⟩ := Df.funD (d := d_Text___len__) (c.df 10 (d := d_Text___len__) rfl).1 (c.df 10 (d := d_Text___len__) rfl).2 rfl
  have b_Text___len__ : Binds K fd_Text___len__ ["self"] [] := F_Text___len__.bindsN fun _ _ _ _ _ _ us hl => match us, hl with | [_], _ => rfl
  have K_Text___len__ : FnOk P w K mg base (L2.CX P w) 1 _ fd_Text___len__ ["self"] (sp_Text___len__ (A K)) := ok_Text___len__ F_Text___len__ T 
  have O_Text___len__ : OpG P w K mg base 1 (A K).cText "__len__" (sp_Text___len__ (A K)) := ⟨_, _, _, K_Text___len__, b_Text___len__, (specB_ok (exAt m 16)).1, (specB_ok (exAt m 16)).2⟩
  obtain ⟨fd_Text___iter__, F_Text___iter__⟩ := Df.funD (d := d_Text___iter__) (c.df 11 (d := d_Text___iter__) rfl).1 (c.df 11 (d := d_Text___iter__) rfl).2 rfl
  have b_Text___iter__ : Binds K fd_Text___iter__ ["self"] [] := F_Text___iter__.bindsN fun _ _ _ _ _ _ us hl => match us, hl with | [_], _ => rfl
  have K_Text___iter__ : FnOk P w K mg base (L2.CX P w) 1 _ fd_Text___iter__ ["self"] (sp_Text___iter__ (A K)) := ok_Text___iter__ F_Text___iter__ T 
  have O_Text___iter__ : OpG P w K mg base 1 (A K).cText "__iter__" (sp_Text___iter__ (A K)) := ⟨_, _, _, K_Text___iter__, b_Text___iter__, (specB_ok (exAt m 17)).1, (specB_ok (exAt m 17)).2⟩
  obtain ⟨fd_Text___eq__, F_Text___eq__⟩ := Df.funD (d := d_Text___eq__) (c.df 12 (d := d_Text___eq__) rfl).1 (c.df 12 (d := d_Text___eq__) rfl).2 rfl
  have b_Text___eq__ : Binds K fd_Text___eq__ ["self", "other"] [] := F_Text___eq__.bindsN fun _ _ _ _ _ _ us hl => match us, hl with | [_, _], _ => rfl
  have K_Text___eq__ : FnOk P w K mg base (L2.CX P w) 1 _ fd_Text___eq__ ["self", "other"] (sp_Text___eq__ (A K)) := ok_Text___eq__ F_Text___eq__ T 
  have O_Text___eq__ : OpG P w K mg base 1 (A K).cText "__eq__" (sp_Text___eq__ (A K)) := ⟨_, _, _, K_Text___eq__, b_Text___eq__, (specB_ok (exAt m 18)).1, (specB_ok (exAt m 18)).2⟩
  obtain ⟨fd_Text___str__, F_Text___str__⟩ := Df.funD (d := d_Text___str__) (c.df 13 (d := d_Text___str__) rfl).1 (c.df 13 (d := d_Text___str__) rfl).2 rfl
  have b_Text___str__ : Binds K fd_Text___str__ ["self"] [] := F_Text___str__.bindsN fun _ _ _ _ _ _ us hl => match us, hl with | [_], _ => rfl
  have K_Text___str__ : FnOk P w K mg base (L2.CX P w) 1 _ fd_Text___str__ ["self"] (sp_Text___str__ (A K)) := ok_Text___str__ F_Text___str__ T 
  have O_Text___str__ : OpG P w K mg base 1 (A K).cText "__str__" (sp_Text___str__ (A K)) := ⟨_, _, _, K_Text___str__, b_Text___str__, (specB_ok (exAt m 19)).1, (specB_ok (exAt m 19)).2⟩
  obtain ⟨fd_Text___contains__, F_Text___contains__⟩ := Df.funD (d := d_Text___contains__) (c.df 15 (d := d_Text___contains__) rfl).1 (c.df 15 (d := d_Text___contains__) rfl).2 rfl
  have b_Text___contains__ : Binds K fd_Text___contains__ ["self", "part"] [] := F_Text___contains__.bindsN fun _ _ _ _ _ _ us hl => match us, hl with | [_, _], _ => rfl
  have K_Text___contains__ : FnOk P w K mg base (L2.CX P w) 1 _ fd_Text___contains__ ["self", "part"] (sp_Text___contains__ (A K)) := ok_Text___contains__ F_Text___contains__ T 
  have O_Text___contains__ : OpG P w K mg base 1 (A K).cText "__contains__" (sp_Text___contains__ (A K)) := ⟨_, _, _, K_Text___contains__, b_Text___contains__, (specB_ok (exAt m 21)).1, (specB_ok (exAt m 21)).2⟩
  obtain ⟨fd_Text_same_loop, F_Text_same_loop⟩ := Df.funD (d := d_Text_same_loop) (c.df 18 (d := d_Text_same_loop) rfl).1 (c.df 18 (d := d_Text_same_loop) rfl).2 rfl
  have b_Text_same_loop : Binds K fd_Text_same_loop ["self", "other"] [] := F_Text_same_loop.bindsN fun _ _ _ _ _ _ us hl => match us, hl with | [_, _], _ => rfl
  have K_Text_same_loop : FnOk P w K mg base (L2.CX P w) 1 _ fd_Text_same_loop ["self", "other"] (sp_Text_same_loop (A K)) := ok_Text_same_loop F_Text_same_loop T 
  have M_Text_same_loop : MeG P w K mg base 1 (A K).cText "same_loop" (sp_Text_same_loop (A K)) := ⟨cls, _, raw0 K_Text_same_loop b_Text_same_loop, He.meth_ok (c.fact 53 (f := .meth "Text" "same_loop") rfl)⟩
  obtain ⟨fd__law_next, F__law_next⟩ := Df.funD (d := d__law_next) (c.df 22 (d := d__law_next) rfl).1 (c.df 22 (d := d__law_next) rfl).2 rfl
  have b__law_next : Binds K fd__law_next ["_law_state", "_law_many"] [] := F__law_next.bindsN fun _ _ _ _ _ _ us hl => match us, hl with | [_, _], _ => rfl
  have K__law_next : FnOk P w K mg base (L2.CX P w) 1 _ fd__law_next ["_law_state", "_law_many"] (sp__law_next (A K)) := ok__law_next F__law_next T 
  have G__law_next : FnG P w K mg base 1 "_law_next" (sp__law_next (A K)) := ⟨_, raw0 K__law_next b__law_next, (He.glo_ok X G (c.fact 24 (f := .glo "_law_next") rfl)), F__law_next.kp⟩
  obtain ⟨fd__law_whole, F__law_whole⟩ := Df.funD (d := d__law_whole) (c.df 23 (d := d__law_whole) rfl).1 (c.df 23 (d := d__law_whole) rfl).2 rfl
  have b__law_whole : Binds K fd__law_whole ["_law_told"] [] := F__law_whole.bindsN fun _ _ _ _ _ _ us hl => match us, hl with | [_], _ => rfl
  have K__law_whole : FnOk P w K mg base (L2.CX P w) 1 _ fd__law_whole ["_law_told"] (sp__law_whole (A K)) := ok__law_whole F__law_whole T 
  have G__law_whole : FnG P w K mg base 1 "_law_whole" (sp__law_whole (A K)) := ⟨_, raw0 K__law_whole b__law_whole, (He.glo_ok X G (c.fact 25 (f := .glo "_law_whole") rfl)), F__law_whole.kp⟩
  have E__law_whole : FnEG P w K mg base 1 "_law_whole" (sE__law_whole (A K)) := ⟨_, _, _, okE__law_whole F__law_whole T, (He.glo_ok X G (c.fact 25 (f := .glo "_law_whole") rfl)), F__law_whole.kp, b__law_whole⟩
  obtain ⟨fd__law_pure, F__law_pure⟩ := Df.funD (d := d__law_pure) (c.df 26 (d := d__law_pure) rfl).1 (c.df 26 (d := d__law_pure) rfl).2 rfl
  have b__law_pure : Binds K fd__law_pure ["_law_e"] [] := F__law_pure.bindsN fun _ _ _ _ _ _ us hl => match us, hl with | [_], _ => rfl
  have E__law_pure : FnEG P w K mg base 1 "_law_pure" (sE__law_pure (A K)) := ⟨_, _, _, okE__law_pure F__law_pure T, (He.glo_ok X G (c.fact 28 (f := .glo "_law_pure") rfl)), F__law_pure.kp, b__law_pure⟩
  obtain ⟨fd__law_fault, F__law_fault⟩ := Df.funD (d := d__law_fault) (c.df 28 (d := d__law_fault) rfl).1 (c.df 28 (d := d__law_fault) rfl).2 rfl
  have b__law_fault : Binds K fd__law_fault ["_law_shown", "_law_closed"] [] := F__law_fault.bindsN fun _ _ _ _ _ _ us hl => match us, hl with | [_, _], _ => rfl
  have K__law_fault : FnOk P w K mg base (L2.CX P w) 1 _ fd__law_fault ["_law_shown", "_law_closed"] (sp__law_fault (A K)) := ok__law_fault F__law_fault T 
  have G__law_fault : FnG P w K mg base 1 "_law_fault" (sp__law_fault (A K)) := ⟨_, raw0 K__law_fault b__law_fault, (He.glo_ok X G (c.fact 30 (f := .glo "_law_fault") rfl)), F__law_fault.kp⟩
  obtain ⟨fd__law_stands, F__law_stands⟩ := Df.funD (d := d__law_stands) (c.df 42 (d := d__law_stands) rfl).1 (c.df 42 (d := d__law_stands) rfl).2 rfl
  have b__law_stands : Binds K fd__law_stands ["_law_shown", "_law_closed", "_law_part"] [] := F__law_stands.bindsN fun _ _ _ _ _ _ us hl => match us, hl with | [_, _, _], _ => rfl
  have K__law_stands : FnOk P w K mg base (L2.CX P w) 1 _ fd__law_stands ["_law_shown", "_law_closed", "_law_part"] (sp__law_stands (A K)) := ok__law_stands F__law_stands T 
  have G__law_stands : FnG P w K mg base 1 "_law_stands" (sp__law_stands (A K)) := ⟨_, raw0 K__law_stands b__law_stands, (He.glo_ok X G (c.fact 44 (f := .glo "_law_stands") rfl)), F__law_stands.kp⟩
  obtain ⟨fd__law_letters_of, F__law_letters_of⟩ := Df.funD (d := d__law_letters_of) (c.df 24 (d := d__law_letters_of) rfl).1 (c.df 24 (d := d__law_letters_of) rfl).2 rfl
  have b__law_letters_of : Binds K fd__law_letters_of ["_law_state"] [] := F__law_letters_of.bindsN fun _ _ _ _ _ _ us hl => match us, hl with | [_], _ => rfl
  have K__law_letters_of : FnOk P w K mg base (L2.CX P w) 2 _ fd__law_letters_of ["_law_state"] (sp__law_letters_of (A K)) := ok__law_letters_of F__law_letters_of T (G__law_next := G__law_next)
  have G__law_letters_of : FnG P w K mg base 2 "_law_letters_of" (sp__law_letters_of (A K)) := ⟨_, raw0 K__law_letters_of b__law_letters_of, (He.glo_ok X G (c.fact 26 (f := .glo "_law_letters_of") rfl)), F__law_letters_of.kp⟩
  obtain ⟨fd__law_word_of, F__law_word_of⟩ := Df.funD (d := d__law_word_of) (c.df 25 (d := d__law_word_of) rfl).1 (c.df 25 (d := d__law_word_of) rfl).2 rfl
  have b__law_word_of : Binds K fd__law_word_of ["_law_state", "_law_signs", "_law_size", "_law_shift"] [] := F__law_word_of.bindsN fun _ _ _ _ _ _ us hl => match us, hl with | [_, _, _, _], _ => rfl
  have K__law_word_of : FnOk P w K mg base (L2.CX P w) 2 _ fd__law_word_of ["_law_state", "_law_signs", "_law_size", "_law_shift"] (sp__law_word_of (A K)) := ok__law_word_of F__law_word_of T (G__law_next := G__law_next)
  have G__law_word_of : FnG P w K mg base 2 "_law_word_of" (sp__law_word_of (A K)) := ⟨_, raw0 K__law_word_of b__law_word_of, (He.glo_ok X G (c.fact 27 (f := .glo "_law_word_of") rfl)), F__law_word_of.kp⟩
  obtain ⟨fd__law_strange, F__law_strange⟩ := Df.funD (d := d__law_strange) (c.df 27 (d := d__law_strange) rfl).1 (c.df 27 (d := d__law_strange) rfl).2 rfl
  have b__law_strange : Binds K fd__law_strange ["_law_state"] [] := F__law_strange.bindsN fun _ _ _ _ _ _ us hl => match us, hl with | [_], _ => rfl
  have K__law_strange : FnOk P w K mg base (L2.CX P w) 2 _ fd__law_strange ["_law_state"] (sp__law_strange (A K)) := ok__law_strange F__law_strange T (G__law_next := G__law_next)
  have G__law_strange : FnG P w K mg base 2 "_law_strange" (sp__law_strange (A K)) := ⟨_, raw0 K__law_strange b__law_strange, (He.glo_ok X G (c.fact 29 (f := .glo "_law_strange") rfl)), F__law_strange.kp⟩
  obtain ⟨fd__law_refused, F__law_refused⟩ := Df.funD (d := d__law_refused) (c.df 29 (d := d__law_refused) rfl).1 (c.df 29 (d := d__law_refused) rfl).2 rfl
  have b__law_refused : Binds K fd__law_refused ["_law_told", "_law_kind", "_law_number"] [] := F__law_refused.bindsN fun _ _ _ _ _ _ us hl => match us, hl with | [_, _, _], _ => rfl
  have K__law_refused : FnOk P w K mg base (L2.CX P w) 2 _ fd__law_refused ["_law_told", "_law_kind", "_law_number"] (sp__law_refused (A K)) := ok__law_refused F__law_refused T (G__law_whole := G__law_whole)
  have G__law_refused : FnG P w K mg base 2 "_law_refused" (sp__law_refused (A K)) := ⟨_, raw0 K__law_refused b__law_refused, (He.glo_ok X G (c.fact 31 (f := .glo "_law_refused") rfl)), F__law_refused.kp⟩
  obtain ⟨fd__law_equal, F__law_equal⟩ := Df.funD (d := d__law_equal) (c.df 30 (d := d__law_equal) rfl).1 (c.df 30 (d := d__law_equal) rfl).2 rfl
  have b__law_equal : Binds K fd__law_equal ["_law_text", "_law_other", "_law_due"] [] := F__law_equal.bindsN fun _ _ _ _ _ _ us hl => match us, hl with | [_, _, _], _ => rfl
  have K__law_equal : FnOk P w K mg base (L2.CX P w) 2 _ fd__law_equal ["_law_text", "_law_other", "_law_due"] (sp__law_equal (A K)) := ok__law_equal F__law_equal T (O_Text___eq__ := O_Text___eq__)
  have G__law_equal : FnG P w K mg base 2 "_law_equal" (sp__law_equal (A K)) := ⟨_, raw0 K__law_equal b__law_equal, (He.glo_ok X G (c.fact 32 (f := .glo "_law_equal") rfl)), F__law_equal.kp⟩
  obtain ⟨fd__law_one_sign, F__law_one_sign⟩ := Df.funD (d := d__law_one_sign) (c.df 45 (d := d__law_one_sign) rfl).1 (c.df 45 (d := d__law_one_sign) rfl).2 rfl
  have b__law_one_sign : Binds K fd__law_one_sign ["_law_word"] [] := F__law_one_sign.bindsN fun _ _ _ _ _ _ us hl => match us, hl with | [_], _ => rfl
  have K__law_one_sign : FnOk P w K mg base (L2.CX P w) 2 _ fd__law_one_sign ["_law_word"] (sp__law_one_sign (A K)) := ok__law_one_sign F__law_one_sign T (G_is_sign := G_is_sign)
  have G__law_one_sign : FnG P w K mg base 2 "_law_one_sign" (sp__law_one_sign (A K)) := ⟨_, raw0 K__law_one_sign b__law_one_sign, (He.glo_ok X G (c.fact 47 (f := .glo "_law_one_sign") rfl)), F__law_one_sign.kp⟩
  obtain ⟨fd__check_signs, F__check_signs⟩ := Df.funD (d := d__check_signs) (c.df 4 (d := d__check_signs) rfl).1 (c.df 4 (d := d__check_signs) rfl).2 rfl
  have b__check_signs : Binds K fd__check_signs ["signs"] [] := F__check_signs.bindsN fun _ _ _ _ _ _ us hl => match us, hl with | [_], _ => rfl
  have K__check_signs : FnOk P w K mg base (L2.CX P w) 3 _ fd__check_signs ["signs"] (sp__check_signs (A K)) := ok__check_signs F__check_signs T (G_is_sign := G_is_sign) (X_BadSign := X_BadSign)
  have G__check_signs : FnG P w K mg base 3 "_check_signs" (sp__check_signs (A K)) := ⟨_, raw0 K__check_signs b__check_signs, (He.glo_ok X G (c.fact 22 (f := .glo "_check_signs") rfl)), F__check_signs.kp⟩
  obtain ⟨fd_Text___getitem__, F_Text___getitem__⟩ := Df.funD (d := d_Text___getitem__) (c.df 14 (d := d_Text___getitem__) rfl).1 (c.df 14 (d := d_Text___getitem__) rfl).2 rfl
  have b_Text___getitem__ : Binds K fd_Text___getitem__ ["self", "at"] [] := F_Text___getitem__.bindsN fun _ _ _ _ _ _ us hl => match us, hl with | [_, _], _ => rfl
  have K_Text___getitem__ : FnOk P w K mg base (L2.CX P w) 3 _ fd_Text___getitem__ ["self", "at"] (sp_Text___getitem__ (A K)) := ok_Text___getitem__ F_Text___getitem__ T (X_NoPlace := X_NoPlace)
  have O_Text___getitem__ : OpG P w K mg base 3 (A K).cText "__getitem__" (sp_Text___getitem__ (A K)) := ⟨_, _, _, K_Text___getitem__, b_Text___getitem__, (specB_ok (exAt m 20)).1, (specB_ok (exAt m 20)).2⟩
  obtain ⟨fd__law_parts, F__law_parts⟩ := Df.funD (d := d__law_parts) (c.df 41 (d := d__law_parts) rfl).1 (c.df 41 (d := d__law_parts) rfl).2 rfl
  have b__law_parts : Binds K fd__law_parts ["_law_state", "_law_shown", "_law_signs"] [] := F__law_parts.bindsN fun _ _ _ _ _ _ us hl => match us, hl with | [_, _, _], _ => rfl
  have K__law_parts : FnOk P w K mg base (L2.CX P w) 3 _ fd__law_parts ["_law_state", "_law_shown", "_law_signs"] (sp__law_parts (A K)) := ok__law_parts F__law_parts T (G__law_next := G__law_next) (G__law_strange := G__law_strange)
  have G__law_parts : FnG P w K mg base 3 "_law_parts" (sp__law_parts (A K)) := ⟨_, raw0 K__law_parts b__law_parts, (He.glo_ok X G (c.fact 43 (f := .glo "_law_parts") rfl)), F__law_parts.kp⟩
  obtain ⟨fd_least_turn, F_least_turn⟩ := Df.funD (d := d_least_turn) (c.df 5 (d := d_least_turn) rfl).1 (c.df 5 (d := d_least_turn) rfl).2 rfl
  have b_least_turn : Binds K fd_least_turn ["signs"] [] := F_least_turn.bindsN fun _ _ _ _ _ _ us hl => match us, hl with | [_], _ => rfl
  have K_least_turn : FnOk P w K mg base (L2.CX P w) 4 _ fd_least_turn ["signs"] (sp_least_turn (A K)) := ok_least_turn F_least_turn T (G__check_signs := G__check_signs)
  have G_least_turn : FnG P w K mg base 4 "least_turn" (sp_least_turn (A K)) := ⟨_, raw0 K_least_turn b_least_turn, (He.glo_ok X G (c.fact 23 (f := .glo "least_turn") rfl)), F_least_turn.kp⟩
  obtain ⟨fd_Text___init__, F_Text___init__⟩ := Df.funD (d := d_Text___init__) (c.df 6 (d := d_Text___init__) rfl).1 (c.df 6 (d := d_Text___init__) rfl).2 rfl
  have K_Text___init__ : FnOk P w K mg base (L2.CX P w) 4 _ fd_Text___init__ ["self", "signs", "closed"] (sp_Text___init__ (A K)) := ok_Text___init__ F_Text___init__ T (X_BadText := X_BadText) (G__check_signs := G__check_signs)
  have Mk_Text : Mk K (A K).cText (He.ma K (He.ga K "Text") "__init__") := He.mkr_ok (c.fact 57 (f := .mkr "Text") rfl)
  have Ct_Text_1 := ct_Text_1 F_Text___init__ K_Text___init__ Mk_Text
  have Ct_Text_1_closed := ct_Text_1_closed F_Text___init__ K_Text___init__ Mk_Text
  have Ct_Text_0_signs := ct_Text_0_signs F_Text___init__ K_Text___init__ Mk_Text
  have Ct_Text_0_closed_signs := ct_Text_0_closed_signs F_Text___init__ K_Text___init__ Mk_Text
  obtain ⟨fd__law_turns, F__law_turns⟩ := Df.funD (d := d__law_turns) (c.df 44 (d := d__law_turns) rfl).1 (c.df 44 (d := d__law_turns) rfl).2 rfl
  have b__law_turns : Binds K fd__law_turns ["_law_shown"] [] := F__law_turns.bindsN fun _ _ _ _ _ _ us hl => match us, hl with | [_], _ => rfl
  have K__law_turns : FnOk P w K mg base (L2.CX P w) 5 _ fd__law_turns ["_law_shown"] (sp__law_turns (A K)) := ok__law_turns F__law_turns T (G_least_turn := G_least_turn) (E__law_pure := E__law_pure) (E__law_whole := E__law_whole) (G__law_fault := G__law_fault)
  have G__law_turns : FnG P w K mg base 5 "_law_turns" (sp__law_turns (A K)) := ⟨_, raw0 K__law_turns b__law_turns, (He.glo_ok X G (c.fact 46 (f := .glo "_law_turns") rfl)), F__law_turns.kp⟩
  obtain ⟨fd_Text_row, F_Text_row⟩ := Df.funD (d := d_Text_row) (c.df 7 (d := d_Text_row) rfl).1 (c.df 7 (d := d_Text_row) rfl).2 rfl
  have b_Text_row : Binds K fd_Text_row ["cls", "signs"] [] := F_Text_row.bindsN fun _ _ _ _ _ _ us hl => match us, hl with | [_, _], _ => rfl
  have K_Text_row : FnOk P w K mg base (L2.CX P w) 6 _ fd_Text_row ["cls", "signs"] (sp_Text_row (A K)) := ok_Text_row F_Text_row T (Ct_Text_1 := Ct_Text_1)
  have C_Text_row : CmG P w K mg base 6 (A K).cText "row" (sp_Text_row (A K)) := ⟨_, _, _, creadB_ok (exAt m 11), cmetB_ok (exAt m 15), raw0 K_Text_row b_Text_row⟩
  obtain ⟨fd_Text_loop, F_Text_loop⟩ := Df.funD (d := d_Text_loop) (c.df 8 (d := d_Text_loop) rfl).1 (c.df 8 (d := d_Text_loop) rfl).2 rfl
  have b_Text_loop : Binds K fd_Text_loop ["cls", "signs"] [] := F_Text_loop.bindsN fun _ _ _ _ _ _ us hl => match us, hl with | [_, _], _ => rfl
  have K_Text_loop : FnOk P w K mg base (L2.CX P w) 6 _ fd_Text_loop ["cls", "signs"] (sp_Text_loop (A K)) := ok_Text_loop F_Text_loop T (Ct_Text_1_closed := Ct_Text_1_closed)
  have C_Text_loop : CmG P w K mg base 6 (A K).cText "loop" (sp_Text_loop (A K)) := ⟨_, _, _, creadB_ok (exAt m 11), cmetB_ok (exAt m 13), raw0 K_Text_loop b_Text_loop⟩
  obtain ⟨fd_Text_read, F_Text_read⟩ := Df.funD (d := d_Text_read) (c.df 9 (d := d_Text_read) rfl).1 (c.df 9 (d := d_Text_read) rfl).2 rfl
  have b_Text_read : Binds K fd_Text_read ["cls", "written"] [] := F_Text_read.bindsN fun _ _ _ _ _ _ us hl => match us, hl with | [_, _], _ => rfl
  have K_Text_read : FnOk P w K mg base (L2.CX P w) 6 _ fd_Text_read ["cls", "written"] (sp_Text_read (A K)) := ok_Text_read F_Text_read T (Ct_Text_1 := Ct_Text_1) (Ct_Text_1_closed := Ct_Text_1_closed)
  have C_Text_read : CmG P w K mg base 6 (A K).cText "read" (sp_Text_read (A K)) := ⟨_, _, _, creadB_ok (exAt m 11), cmetB_ok (exAt m 14), raw0 K_Text_read b_Text_read⟩
  obtain ⟨fd_Text___add__, F_Text___add__⟩ := Df.funD (d := d_Text___add__) (c.df 16 (d := d_Text___add__) rfl).1 (c.df 16 (d := d_Text___add__) rfl).2 rfl
  have b_Text___add__ : Binds K fd_Text___add__ ["self", "other"] [] := F_Text___add__.bindsN fun _ _ _ _ _ _ us hl => match us, hl with | [_, _], _ => rfl
  have K_Text___add__ : FnOk P w K mg base (L2.CX P w) 6 _ fd_Text___add__ ["self", "other"] (sp_Text___add__ (A K)) := ok_Text___add__ F_Text___add__ T (Ct_Text_1 := Ct_Text_1)
  have O_Text___add__ : OpG P w K mg base 6 (A K).cText "__add__" (sp_Text___add__ (A K)) := ⟨_, _, _, K_Text___add__, b_Text___add__, (specB_ok (exAt m 22)).1, (specB_ok (exAt m 22)).2⟩
  obtain ⟨fd_Text___rshift__, F_Text___rshift__⟩ := Df.funD (d := d_Text___rshift__) (c.df 17 (d := d_Text___rshift__) rfl).1 (c.df 17 (d := d_Text___rshift__) rfl).2 rfl
  have b_Text___rshift__ : Binds K fd_Text___rshift__ ["self", "by"] [] := F_Text___rshift__.bindsN fun _ _ _ _ _ _ us hl => match us, hl with | [_, _], _ => rfl
  have K_Text___rshift__ : FnOk P w K mg base (L2.CX P w) 6 _ fd_Text___rshift__ ["self", "by"] (sp_Text___rshift__ (A K)) := ok_Text___rshift__ F_Text___rshift__ T (Ct_Text_1_closed := Ct_Text_1_closed)
  have O_Text___rshift__ : OpG P w K mg base 6 (A K).cText "__rshift__" (sp_Text___rshift__ (A K)) := ⟨_, _, _, K_Text___rshift__, b_Text___rshift__, (specB_ok (exAt m 23)).1, (specB_ok (exAt m 23)).2⟩
  obtain ⟨fd_Text_mirrored, F_Text_mirrored⟩ := Df.funD (d := d_Text_mirrored) (c.df 19 (d := d_Text_mirrored) rfl).1 (c.df 19 (d := d_Text_mirrored) rfl).2 rfl
  have b_Text_mirrored : Binds K fd_Text_mirrored ["self"] [] := F_Text_mirrored.bindsN fun _ _ _ _ _ _ us hl => match us, hl with | [_], _ => rfl
  have K_Text_mirrored : FnOk P w K mg base (L2.CX P w) 6 _ fd_Text_mirrored ["self"] (sp_Text_mirrored (A K)) := ok_Text_mirrored F_Text_mirrored T (Ct_Text_1_closed := Ct_Text_1_closed)
  have M_Text_mirrored : MeG P w K mg base 6 (A K).cText "mirrored" (sp_Text_mirrored (A K)) := ⟨cls, _, raw0 K_Text_mirrored b_Text_mirrored, He.meth_ok (c.fact 54 (f := .meth "Text" "mirrored") rfl)⟩
  obtain ⟨fd_Text_halves, F_Text_halves⟩ := Df.funD (d := d_Text_halves) (c.df 20 (d := d_Text_halves) rfl).1 (c.df 20 (d := d_Text_halves) rfl).2 rfl
  have b_Text_halves : Binds K fd_Text_halves ["self", "at"] [] := F_Text_halves.bindsN fun _ _ _ _ _ _ us hl => match us, hl with | [_, _], _ => rfl
  have K_Text_halves : FnOk P w K mg base (L2.CX P w) 6 _ fd_Text_halves ["self", "at"] (sp_Text_halves (A K)) := ok_Text_halves F_Text_halves T (Ct_Text_1 := Ct_Text_1) (X_NoPlace := X_NoPlace)
  have M_Text_halves : MeG P w K mg base 6 (A K).cText "halves" (sp_Text_halves (A K)) := ⟨cls, _, raw0 K_Text_halves b_Text_halves, He.meth_ok (c.fact 55 (f := .meth "Text" "halves") rfl)⟩
  obtain ⟨fd_Text_cut_at, F_Text_cut_at⟩ := Df.funD (d := d_Text_cut_at) (c.df 21 (d := d_Text_cut_at) rfl).1 (c.df 21 (d := d_Text_cut_at) rfl).2 rfl
  have b_Text_cut_at : Binds K fd_Text_cut_at ["self", "at"] [] := F_Text_cut_at.bindsN fun _ _ _ _ _ _ us hl => match us, hl with | [_, _], _ => rfl
  have K_Text_cut_at : FnOk P w K mg base (L2.CX P w) 6 _ fd_Text_cut_at ["self", "at"] (sp_Text_cut_at (A K)) := ok_Text_cut_at F_Text_cut_at T (Ct_Text_1 := Ct_Text_1) (X_NoPlace := X_NoPlace)
  have M_Text_cut_at : MeG P w K mg base 6 (A K).cText "cut_at" (sp_Text_cut_at (A K)) := ⟨cls, _, raw0 K_Text_cut_at b_Text_cut_at, He.meth_ok (c.fact 56 (f := .meth "Text" "cut_at") rfl)⟩
  obtain ⟨fd__law_is_text, F__law_is_text⟩ := Df.funD (d := d__law_is_text) (c.df 31 (d := d__law_is_text) rfl).1 (c.df 31 (d := d__law_is_text) rfl).2 rfl
  have b__law_is_text : Binds K fd__law_is_text ["_law_told", "_law_shown", "_law_closed"] [] := F__law_is_text.bindsN fun _ _ _ _ _ _ us hl => match us, hl with | [_, _, _], _ => rfl
  have K__law_is_text : FnOk P w K mg base (L2.CX P w) 6 _ fd__law_is_text ["_law_told", "_law_shown", "_law_closed"] (sp__law_is_text (A K)) := ok__law_is_text F__law_is_text T (G__law_equal := G__law_equal) (Ct_Text_1_closed := Ct_Text_1_closed) (O_Text___str__ := O_Text___str__) (O_Text___len__ := O_Text___len__) (O_Text___iter__ := O_Text___iter__)
  have G__law_is_text : FnG P w K mg base 6 "_law_is_text" (sp__law_is_text (A K)) := ⟨_, raw0 K__law_is_text b__law_is_text, (He.glo_ok X G (c.fact 33 (f := .glo "_law_is_text") rfl)), F__law_is_text.kp⟩
  obtain ⟨fd__law_loops, F__law_loops⟩ := Df.funD (d := d__law_loops) (c.df 43 (d := d__law_loops) rfl).1 (c.df 43 (d := d__law_loops) rfl).2 rfl
  have b__law_loops : Binds K fd__law_loops ["_law_state", "_law_text", "_law_shown", "_law_closed", "_law_signs"] [] := F__law_loops.bindsN fun _ _ _ _ _ _ us hl => match us, hl with | [_, _, _, _, _], _ => rfl
  have K__law_loops : FnOk P w K mg base (L2.CX P w) 6 _ fd__law_loops ["_law_state", "_law_text", "_law_shown", "_law_closed", "_law_signs"] (sp__law_loops (A K)) := ok__law_loops F__law_loops T (G__law_equal := G__law_equal) (M_Text_same_loop := M_Text_same_loop) (Ct_Text_1_closed := Ct_Text_1_closed) (G__law_next := G__law_next)
  have G__law_loops : FnG P w K mg base 6 "_law_loops" (sp__law_loops (A K)) := ⟨_, raw0 K__law_loops b__law_loops, (He.glo_ok X G (c.fact 45 (f := .glo "_law_loops") rfl)), F__law_loops.kp⟩
  obtain ⟨fd__law_new, F__law_new⟩ := Df.funD (d := d__law_new) (c.df 32 (d := d__law_new) rfl).1 (c.df 32 (d := d__law_new) rfl).2 rfl
  have b__law_new : Binds K fd__law_new ["_law_way", "_law_shown", "_law_closed"] [] := F__law_new.bindsN fun _ _ _ _ _ _ us hl => match us, hl with | [_, _, _], _ => rfl
  have K__law_new : FnOk P w K mg base (L2.CX P w) 7 _ fd__law_new ["_law_way", "_law_shown", "_law_closed"] (sp__law_new (A K)) := ok__law_new F__law_new T (C_Text_read := C_Text_read) (Ct_Text_0_signs := Ct_Text_0_signs) (Ct_Text_0_closed_signs := Ct_Text_0_closed_signs) (C_Text_row := C_Text_row) (C_Text_loop := C_Text_loop) (Ct_Text_1_closed := Ct_Text_1_closed) (E__law_pure := E__law_pure)
  have G__law_new : FnG P w K mg base 7 "_law_new" (sp__law_new (A K)) := ⟨_, raw0 K__law_new b__law_new, (He.glo_ok X G (c.fact 34 (f := .glo "_law_new") rfl)), F__law_new.kp⟩
  obtain ⟨fd__law_do, F__law_do⟩ := Df.funD (d := d__law_do) (c.df 35 (d := d__law_do) rfl).1 (c.df 35 (d := d__law_do) rfl).2 rfl
  have b__law_do : Binds K fd__law_do ["_law_text", "_law_what", "_law_thing"] [] := F__law_do.bindsN fun _ _ _ _ _ _ us hl => match us, hl with | [_, _, _], _ => rfl
  have K__law_do : FnOk P w K mg base (L2.CX P w) 7 _ fd__law_do ["_law_text", "_law_what", "_law_thing"] (sp__law_do (A K)) := ok__law_do F__law_do T (O_Text___add__ := O_Text___add__) (O_Text___rshift__ := O_Text___rshift__) (M_Text_cut_at := M_Text_cut_at) (M_Text_halves := M_Text_halves) (O_Text___getitem__ := O_Text___getitem__) (E__law_pure := E__law_pure)
  have G__law_do : FnG P w K mg base 7 "_law_do" (sp__law_do (A K)) := ⟨_, raw0 K__law_do b__law_do, (He.glo_ok X G (c.fact 37 (f := .glo "_law_do") rfl)), F__law_do.kp⟩
  obtain ⟨fd__law_makes, F__law_makes⟩ := Df.funD (d := d__law_makes) (c.df 33 (d := d__law_makes) rfl).1 (c.df 33 (d := d__law_makes) rfl).2 rfl
  have b__law_makes : Binds K fd__law_makes ["_law_way", "_law_written", "_law_shown", "_law_closed"] [] := F__law_makes.bindsN fun _ _ _ _ _ _ us hl => match us, hl with | [_, _, _, _], _ => rfl
  have K__law_makes : FnOk P w K mg base (L2.CX P w) 8 _ fd__law_makes ["_law_way", "_law_written", "_law_shown", "_law_closed"] (sp__law_makes (A K)) := ok__law_makes F__law_makes T (G__law_refused := G__law_refused) (G__law_is_text := G__law_is_text) (G__law_new := G__law_new) (G__law_fault := G__law_fault)
  have G__law_makes : FnG P w K mg base 8 "_law_makes" (sp__law_makes (A K)) := ⟨_, raw0 K__law_makes b__law_makes, (He.glo_ok X G (c.fact 35 (f := .glo "_law_makes") rfl)), F__law_makes.kp⟩
  obtain ⟨fd__law_item, F__law_item⟩ := Df.funD (d := d__law_item) (c.df 36 (d := d__law_item) rfl).1 (c.df 36 (d := d__law_item) rfl).2 rfl
  have b__law_item : Binds K fd__law_item ["_law_text", "_law_shown", "_law_at"] [] := F__law_item.bindsN fun _ _ _ _ _ _ us hl => match us, hl with | [_, _, _], _ => rfl
  have K__law_item : FnOk P w K mg base (L2.CX P w) 8 _ fd__law_item ["_law_text", "_law_shown", "_law_at"] (sp__law_item (A K)) := ok__law_item F__law_item T (G__law_refused := G__law_refused) (G__law_do := G__law_do)
  have G__law_item : FnG P w K mg base 8 "_law_item" (sp__law_item (A K)) := ⟨_, raw0 K__law_item b__law_item, (He.glo_ok X G (c.fact 38 (f := .glo "_law_item") rfl)), F__law_item.kp⟩
  obtain ⟨fd__law_halves, F__law_halves⟩ := Df.funD (d := d__law_halves) (c.df 37 (d := d__law_halves) rfl).1 (c.df 37 (d := d__law_halves) rfl).2 rfl
  have b__law_halves : Binds K fd__law_halves ["_law_text", "_law_shown", "_law_closed", "_law_at"] [] := F__law_halves.bindsN fun _ _ _ _ _ _ us hl => match us, hl with | [_, _, _, _], _ => rfl
  have K__law_halves : FnOk P w K mg base (L2.CX P w) 8 _ fd__law_halves ["_law_text", "_law_shown", "_law_closed", "_law_at"] (sp__law_halves (A K)) := ok__law_halves F__law_halves T (G__law_is_text := G__law_is_text) (G__law_refused := G__law_refused) (G__law_do := G__law_do)
  have G__law_halves : FnG P w K mg base 8 "_law_halves" (sp__law_halves (A K)) := ⟨_, raw0 K__law_halves b__law_halves, (He.glo_ok X G (c.fact 39 (f := .glo "_law_halves") rfl)), F__law_halves.kp⟩
  obtain ⟨fd__law_cut, F__law_cut⟩ := Df.funD (d := d__law_cut) (c.df 38 (d := d__law_cut) rfl).1 (c.df 38 (d := d__law_cut) rfl).2 rfl
  have b__law_cut : Binds K fd__law_cut ["_law_text", "_law_shown", "_law_closed", "_law_at"] [] := F__law_cut.bindsN fun _ _ _ _ _ _ us hl => match us, hl with | [_, _, _, _], _ => rfl
  have K__law_cut : FnOk P w K mg base (L2.CX P w) 8 _ fd__law_cut ["_law_text", "_law_shown", "_law_closed", "_law_at"] (sp__law_cut (A K)) := ok__law_cut F__law_cut T (G__law_is_text := G__law_is_text) (G__law_refused := G__law_refused) (G__law_do := G__law_do)
  have G__law_cut : FnG P w K mg base 8 "_law_cut" (sp__law_cut (A K)) := ⟨_, raw0 K__law_cut b__law_cut, (He.glo_ok X G (c.fact 40 (f := .glo "_law_cut") rfl)), F__law_cut.kp⟩
  obtain ⟨fd__law_turn, F__law_turn⟩ := Df.funD (d := d__law_turn) (c.df 39 (d := d__law_turn) rfl).1 (c.df 39 (d := d__law_turn) rfl).2 rfl
  have b__law_turn : Binds K fd__law_turn ["_law_text", "_law_shown", "_law_closed", "_law_by"] [] := F__law_turn.bindsN fun _ _ _ _ _ _ us hl => match us, hl with | [_, _, _, _], _ => rfl
  have K__law_turn : FnOk P w K mg base (L2.CX P w) 8 _ fd__law_turn ["_law_text", "_law_shown", "_law_closed", "_law_by"] (sp__law_turn (A K)) := ok__law_turn F__law_turn T (G__law_is_text := G__law_is_text) (G__law_refused := G__law_refused) (G__law_do := G__law_do)
  have G__law_turn : FnG P w K mg base 8 "_law_turn" (sp__law_turn (A K)) := ⟨_, raw0 K__law_turn b__law_turn, (He.glo_ok X G (c.fact 41 (f := .glo "_law_turn") rfl)), F__law_turn.kp⟩
  obtain ⟨fd__law_sum, F__law_sum⟩ := Df.funD (d := d__law_sum) (c.df 40 (d := d__law_sum) rfl).1 (c.df 40 (d := d__law_sum) rfl).2 rfl
  have b__law_sum : Binds K fd__law_sum ["_law_one", "_law_two", "_law_shown", "_law_other", "_law_closed"] [] := F__law_sum.bindsN fun _ _ _ _ _ _ us hl => match us, hl with | [_, _, _, _, _], _ => rfl
  have K__law_sum : FnOk P w K mg base (L2.CX P w) 8 _ fd__law_sum ["_law_one", "_law_two", "_law_shown", "_law_other", "_law_closed"] (sp__law_sum (A K)) := ok__law_sum F__law_sum T (G__law_is_text := G__law_is_text) (G__law_refused := G__law_refused) (G__law_do := G__law_do)
  have G__law_sum : FnG P w K mg base 8 "_law_sum" (sp__law_sum (A K)) := ⟨_, raw0 K__law_sum b__law_sum, (He.glo_ok X G (c.fact 42 (f := .glo "_law_sum") rfl)), F__law_sum.kp⟩
  obtain ⟨fd__law_reads, F__law_reads⟩ := Df.funD (d := d__law_reads) (c.df 34 (d := d__law_reads) rfl).1 (c.df 34 (d := d__law_reads) rfl).2 rfl
  have b__law_reads : Binds K fd__law_reads ["_law_written"] [] := F__law_reads.bindsN fun _ _ _ _ _ _ us hl => match us, hl with | [_], _ => rfl
  have K__law_reads : FnOk P w K mg base (L2.CX P w) 9 _ fd__law_reads ["_law_written"] (sp__law_reads (A K)) := ok__law_reads F__law_reads T (G__law_makes := G__law_makes)
  have G__law_reads : FnG P w K mg base 9 "_law_reads" (sp__law_reads (A K)) := ⟨_, raw0 K__law_reads b__law_reads, (He.glo_ok X G (c.fact 36 (f := .glo "_law_reads") rfl)), F__law_reads.kp⟩
  obtain ⟨fd__law_strings, F__law_strings⟩ := Df.funD (d := d__law_strings) (c.df 46 (d := d__law_strings) rfl).1 (c.df 46 (d := d__law_strings) rfl).2 rfl
  have b__law_strings : Binds K fd__law_strings ["_law_state", "_law_shown", "_law_signs"] [] := F__law_strings.bindsN fun _ _ _ _ _ _ us hl => match us, hl with | [_, _, _], _ => rfl
  have K__law_strings : FnOk P w K mg base (L2.CX P w) 10 _ fd__law_strings ["_law_state", "_law_shown", "_law_signs"] (sp__law_strings (A K)) := ok__law_strings F__law_strings T (G__law_turns := G__law_turns) (G__law_reads := G__law_reads) (G__law_makes := G__law_makes) (G__law_strange := G__law_strange) (G__law_one_sign := G__law_one_sign) (G__law_next := G__law_next)
  have G__law_strings : FnG P w K mg base 10 "_law_strings" (sp__law_strings (A K)) := ⟨_, raw0 K__law_strings b__law_strings, (He.glo_ok X G (c.fact 48 (f := .glo "_law_strings") rfl)), F__law_strings.kp⟩
  have K_law : FnOk P w K mg base (L2.CX P w) 11 _ fd_law ["_law_script"] (sp_law K) := ok_law F_law T (G__law_is_text := G__law_is_text) (G__law_whole := G__law_whole) (M_Text_mirrored := M_Text_mirrored) (G__law_equal := G__law_equal) (G__law_loops := G__law_loops) (G__law_sum := G__law_sum) (Ct_Text_1_closed := Ct_Text_1_closed) (G__law_word_of := G__law_word_of) (G__law_next := G__law_next) (G__law_turn := G__law_turn) (G__law_parts := G__law_parts) (O_Text___contains__ := O_Text___contains__) (G__law_stands := G__law_stands) (G__law_cut := G__law_cut) (G__law_halves := G__law_halves) (G__law_item := G__law_item) (G__law_strings := G__law_strings) (G__law_letters_of := G__law_letters_of)
  exact fn_mute K_law fun vs H Q E h => h
theorem law_fd (c : Says2 fileS faL dsL exK K) : ∃ fd, FnP K "law" "law" s_law (He.ga K "law") fd := Df.funD (d := d_law) (c.df 47 (d := d_law) rfl).1 (c.df 47 (d := d_law) rfl).2 rfl
end
open HandSHeadRun PySem.W in
theorem run (w : World) : RunEq R (view R.prog [39]) hk ob 6000 loose w := by
  intro os
  have a := t2 w os
  have b := t3 w os
  have c := t4 w os
  revert a b c
  generalize endF (stepQ (denQ tabQ) R.prog w) 6000 R.prog w os = x
  intro a b c
  cases x with
  | none => cases a
  | some s =>
    have a := Option.some.inj a
    have b := Option.some.inj b
    have c := Option.some.inj c
    show some _ = some _
    exact congrArg some (Prod.ext a (Prod.ext b c))
end K2
open PySem PySem.W PySem.Calls PyProof.Rows
theorem PySem.Challenge.cw_manyclerks_k02_texts_open_and_closed_holds : PySem.Challenge.rw_manyclerks_k02_texts_open_and_closed.Holds := by
  w_on; o_law
  refine HandSHeadRun.head_any (r := OpenLaw.row PySem.Challenge.rw_manyclerks_k02_texts_open_and_closed) (q := view (OpenLaw.row PySem.Challenge.rw_manyclerks_k02_texts_open_and_closed).prog [39]) (H := K2.hk) (ob := K2.ob) (M := 6000) (loose := K2.loose) (d := HandSHeadRun.topDef (OpenLaw.row PySem.Challenge.rw_manyclerks_k02_texts_open_and_closed).prog 39) (kwd := []) K2.ob_eq
    (by kernel_rfl) (fun s => by kernel_rfl) K2.run (by kernel_rfl) (by kernel_rfl) (by kernel_rfl) (by rfl) (by first | assumption | decide +kernel) (by decide +kernel) ⟨rfl, rfl, rfl, rfl, rfl, by decide +kernel⟩ ?hw ?hc
  case hw => w_witness2
  case hc =>
    refine L2.walk_ofE (l := PySem.Challenge.rw_manyclerks_k02_texts_open_and_closed) (n := 63) (k := 11) (x := "_law_script") (CX := L2.CX0) rfl (by decide) (by kernel_rfl) ⟨rfl, by decide, by decide⟩ ?F (fun _ _ _ _ z => z)
    intro w mg fa h Y G hmg0
    obtain ⟨K, KX, c⟩ := Y
    have hmg : mg ("law" : PySem.Str) = some (.ref fa) := by
      have e : (HandSHeadRun.topDef (OpenLaw.row PySem.Challenge.rw_manyclerks_k02_texts_open_and_closed).prog 39).name = ("law" : PySem.Str) := by kernel_rfl
      rw [← e]
      exact hmg0
    have e2 := hmg.symm.trans (He.glo_ok KX G (c.fact 49 (f := .glo "law") rfl))
    cases e2
    obtain ⟨fd, F⟩ := K2.law_fd c
    exact ⟨K, fd, K2.sp_law K, KX, fun s v => F.bindsA (ps := ["_law_script"]) (fun _ _ _ _ _ _ us hl => match us, hl with | [_], _ => rfl) s [v] rfl, fun H a ns hl _ hS => ⟨a, ns, rfl, hS, fun _ => rfl⟩, fun base _ _ => K2.law_of F KX G c rfl (by decide +kernel)⟩
