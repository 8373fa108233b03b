import PyProof.Rows.All
import Wide.All
import OpenK.AllK
import Wide.FinOn
import KE.KExcSuper
import HandS.ForMost
import HandS.Exc
import HandS.ExcInit
import HandS.ExcSuper
import HandS.ClsMeth
import HandS.HotCalls
import HandS.ExcField
import HandS.ExcOwn
import HandS.Defaults
import HandS.TryMany
import KE.KExcIs
import HandS.OwnEq
import KE.KCallOwn
import KE.KOpsOwn
import PyProof.CollectWalk
import PyProof.StrWalks
import PyProof.ListStr
import HandS.IterNext
import HandS.Walk
import PyProof.WalksEnum
import PyProof.Draws
import HandS.OwnIter
import HandS.Style
import HandS.SetFor
import HandS.FltList
import HandS.MakeKwOnly
import HandS.RaiseMore
import HandS.Small
import HandS.FStr
import PyProof.Rows.StrRev
import HandS.IsInst
import HandS.Conv
import HandS.Sort
import HandS.Star
import HandS.Property
import HandS.GenBody
import HandS.GenYield
import HandS.GenCall
import HandS.GenList
import PyProof.GenComp
import KE.GoesEnumKw
import HandS.SortKw
import HandS.DeepEq
import HandS.Deep
import PyProof.StrLawsTight
import HandS.Evl
import KE.KStateDown
import HandS.Ends
import HandS.Words
import HandS.WordsExc
import HandS.Head0
import HandS.Head1
import HandS.Head2
import HandS.HeadEnd
import HandS.HeadHook1
import HandS.HeadHook2
import HandS.HeadHook3
import HandS.MakeKw
import PySem.Challenge.RW_manyclerks_k04_one_step
set_option Elab.async false
set_option linter.all false
set_option maxRecDepth 100000
set_option maxHeartbeats 4000000
/-! MB1: an own exception class over ValueError, through any bases of the text, whose __init__ begins with super().__init__(..) -/
namespace MC
open PySem PySem.Spec PyProof.Rows L2

section
variable {prog : Program} {w : World} {A : Around} {E : Value → Shared → Prop} {h : Heap} {g : Array GenState} {d : Drawn} {t : Nat} {os : OsState}
variable {nm q : Str} {C N : Addr} {bs bm : List Value} {hdct : Bool} {sn : List Str} {sub : List Value} {ab : Bool} {col : Option Bool} {dd : Option Addr} {k0 k1 k2 k3 k5 : Option Value}
/-- the bound ValueError.__init__ is called -/
theorem call_mw {u e t0 : Addr} {rest : List Value} {Q : Value → Shared → Prop}
    (hC : h.get? C = some (excClassObj nm q C N bs bm hdct sn sub ab col dd k0 k1 k2 k3 k5 "ValueError.__new__")) (he : h.get? e = some (PySem.HandSPX.excO C t0)) (hu : h.get? u = some (PySem.W.kxs_mw "ValueError.__init__" e)) (hrest : rest.length ≤ sizeLine)
    (hq : ∀ h' t1, (∀ b o, b ≠ e → h.get? b = some o → h'.get? b = some o) → h'.get? e = some (PySem.HandSPX.excO C t1) → Q .none ⟨h', g, d, t, os⟩) :
    wpAny (model prog w) A (call (.ref u) rest) Q E ⟨h, g, d, t, os⟩ := by
  refine wpAny_call (codeAny_of_tree ?_)
  show wpAny _ A.in1 (callAny (.ref u) ⟨rest, []⟩) _ _ _
  simp only [callAny]
  refine wpAny_bind (wpAny_load hu ?_)
  simp only [PySem.W.kxs_mw, show (Value.type "method-wrapper" == Value.type "method" || Value.type "method-wrapper" == Value.type "builtin_function_or_method" || Value.type "method-wrapper" == Value.type "method-wrapper") = true by decide, if_true]
  refine PySem.W.KFB.if_so (by decide) ?_
  refine wpAny_bind (PySem.ESX.check_bound PySem.F.excBase_ValueError hC he rfl ?_)
  refine wpAny_bind (wpAny_pure (wpAny_pure ?_))
  refine ⟨plainId_quiet PySem.F.excBase_ValueError.init.plain _, codeAny_builtin PySem.F.excBase_ValueError.initEntry ?_⟩
  exact PySem.W.exc_init_tree (cls := .ref C) (t0 := t0) (dv := none) (c2 := .none) (c3 := .none) (b4 := .bool false) he hrest fun h' k e' _ => hq h' _ k e'
end

section
open PySem.W
variable {M : Model} {A : Around} {E : Value → Shared → Prop} {s : Shared} {i : String} {u x : Addr}
theorem mw_callWith1 {pos : Pos} {env : Env} {e : Expr} {rest : List Expr} {Q : Value → Shared → Prop}
    (h : wpAny M A (spliced (backTo pos (starEach (e :: rest) env))) (fun vs s₁ => KxsAt i u x s₁.heap ∧ wpAny M A (call (.ref u) vs) Q E s₁) E s)
    (he : starEach (e :: rest) env = (false, eval e env) :: starEach rest env) (hplain : (backTo pos (starEach rest env)).any (·.1) = false) :
    wpAny M A (callWith pos (.ref u) [] (backTo pos (starEach (e :: rest) env)) []) Q E s := by
  rw [he] at h ⊢
  refine kxs_callWith (i := i) (x := x) (by show (false || (backTo pos (starEach rest env)).any (·.1)) = false; rw [hplain]; rfl) ?_
  exact PySem.Calls.evalArgs_plain h
end

/-! ### the def -/
/-- names of an __init__ that says super(): __class__ is free, super is a global's name, all others are its own -/
structure SupScope (N P : List Str) (sc : Scope) : Prop where
  kind : sc.kind = .function
  co : sc.isCoroutine = false
  gen : sc.isGenerator = false
  nd : N.Nodup
  pre : N.take P.length = P
  par : ∀ x ∈ P, sc.names.lookup x = some .local
  nocell : ∀ y ∈ sc.names, y.2 ≠ .cell
  one : ∀ y ∈ sc.names, y.2 = .free → y.1 = "__class__"
  cls : sc.names.lookup ("__class__" : Str) = some .free
  sup : sc.names.lookup ("super" : Str) = some .globalImplicit

/-- such a def as it stands behind the top: D is the class in its cell cc -/
structure SupF (P : Program) (K : PySem.W.Frag) (x qual : Str) (params : Arguments) (body : List Stmt) (scope : Scope) (f : Addr) (fd : FuncData) (D cc : Addr) : Prop where
  ex : ∃ (oc : Value) (od : Option Addr) (dV kV doc pm : Value) (an : Option Addr) (cda : Addr) (ct : Value) (osl : Array (Option Value)),
    fd = PySem.W.ksFn x qual params body scope dV kV doc pm an (.ref cda) ct cc ∧ K.lookup f = some ⟨oc, od, .func fd, osl⟩ ∧ PySem.W.codeIn K (.ref cda) qual = true ∧
      ∃ (ccl : Value) (cdd : Option Addr) (vs : Array Value) (ccs : Array (Option Value)) (file : Str) (tf : Tok), K.lookup cda = some ⟨ccl, cdd, .fields vs, ccs⟩ ∧ vs[2]? = some (.str file tf) ∧ ((P.main.file : Str) == file) = true
  cell : ∃ (cl : Value) (cld : Option Addr) (csl : Array (Option Value)), K.lookup cc = some ⟨cl, cld, .cell (some (.ref D)), csl⟩
  kp : PySem.W.keepIn K (.ref f) = true

/-- what of the text super() in an exception's __init__ looks at -/
structure SupC (P : Program) (K : PySem.W.Frag) (mg : Str → Option Value) (C : Addr) : Prop where
  oex : OexC K C
  opq : PySem.W.nsIn K cStatics "thirdparty.any" = some none
  ini : ∃ cd bm, PySem.W.clsIn K C = some cd ∧ cd.mro = .ref C :: bm ∧ PySem.W.alongIn K "__init__" bm = some (some (.builtin "ValueError.__init__"))
  sub : PySem.W.subIn K (.ref C) (.type "ValueError") = some true
  self : PySem.W.mroIn K C (.ref C) = some true
  nosup : mg "super" = none
  top : (P.main.scope.names.lookup ("super" : Str)).isSome = false

/-- the context of its body -/
def cxS (CX : CXT) (P : Program) (w : World) (K : PySem.W.Frag) (mg : Str → Option Value) (base : Heap) (N : List Str) (qual : Str) (scope : Scope) (f cc : Addr) (cd : Value) (A : Around) (outer : List Env) (s : Shared) (H : Hp) (E : XK) : Cx where
  prog := P
  w := w
  K := K
  mg := mg
  base := base
  A := A.deeper (PySem.W.ksEnv qual scope s.heap.objs.size f cd cc)
  N := N
  s_0 := s
  H_0 := H
  env := PySem.W.ksEnv qual scope s.heap.objs.size f cd cc
  outer := outer
  stack := PySem.W.ksEnv qual scope s.heap.objs.size f cd cc :: outer
  ex := []
  calm := true
  fn := fun _ => false
  pn := []
  xe := fun e s' => wpAny (model P w) (A.deeper (PySem.W.ksEnv qual scope s.heap.objs.size f cd cc)) (leaving (PySem.W.ksEnv qual scope s.heap.objs.size f cd cc) e) (fun _ s'' => CX outer H s E e s'') (fun e' s'' => CX outer H s E e' s'') s'

theorem zip_fst_sub : ∀ (P : List Str) (us : List Value), ((P.zip us).map (·.1)).Sublist P
  | [], _ => by simp
  | _ :: _, [] => by simp
  | p :: P, u :: us => by
    rw [List.zip_cons_cons, List.map_cons]
    exact (zip_fst_sub P us).cons_cons _
theorem zip_rev_lookup : ∀ {P : List Str} {us : List Value} {i : Nat} {x : Str} {u : Value}, P.Nodup → P[i]? = some x → us[i]? = some u → (P.zip us).reverse.lookup x = some u := by
  intro P us i x u hn hp hu
  have hm : (x, u) ∈ P.zip us := by
    refine List.mem_of_getElem? (i := i) ?_
    rw [List.getElem?_zip_eq_some]
    exact ⟨hp, hu⟩
  have uniq : ∀ (l : List (Str × Value)), (l.map (·.1)).Nodup → (x, u) ∈ l → l.lookup x = some u := by
    intro l
    induction l with
    | nil => intro _ h; cases h
    | cons a r ih =>
      intro hnd h
      obtain ⟨a1, a2⟩ := a
      rw [List.map_cons, List.nodup_cons] at hnd
      rw [List.lookup_cons]
      rcases List.mem_cons.mp h with e | h
      · cases e
        rw [beq_self_eq_true]
      · have ne : (x == a1) = false := by
          refine beq_eq_false_iff_ne.mpr fun e => hnd.1 ?_
          rw [← e]
          exact List.mem_map.mpr ⟨(x, u), h, rfl⟩
        rw [ne]
        exact ih hnd.2 h
  refine uniq _ ?_ (List.mem_reverse.mpr hm)
  rw [List.map_reverse]
  exact List.pairwise_reverse.mpr ((hn.sublist (zip_fst_sub P us)).imp fun h e => h e.symm)

theorem inv_sup {CX : CXT} {P : Program} {w : World} {K : PySem.W.Frag} {mg : Str → Option Value} {base : Heap} {N ps : List Str} {qual : Str} {scope : Scope} {f cc D : Addr} {cd : Value} {A : Around} {outer : List Env} {s : Shared} {H : Hp} {E : XK} {us : List Value} {vs : List V} {h₀ : Heap} {tk : Nat}
    (S : SupScope N ps scope) (hd : A.handled = none) (e0 : Env0 P w K mg base A outer s H) (hl : vs.length = ps.length) (r : Vals vs us)
    (hc : ∃ (cl : Value) (cld : Option Addr) (csl : Array (Option Value)), K.lookup cc = some ⟨cl, cld, .cell (some (.ref D)), csl⟩)
    (hns : h₀.Ns s.heap.objs.size (fun x => (ps.zip us).reverse.lookup x)) (hk : ∀ b o, s.heap.get? b = some o → h₀.get? b = some o) :
    Inv (cxS CX P w K mg base N qual scope f cc cd A outer s H E) [] (start N vs) H { s with heap := h₀, toks := tk } := by
  have hpl : ps.length ≤ N.length := by have := congrArg List.length S.pre; rw [List.length_take] at this; omega
  have noA : ∀ b : Addr, b ∉ (cxS CX P w K mg base N qual scope f cc cd A outer s H E).ex := fun b z => absurd (show b ∈ ([] : List Addr) from z) (by simp)
  obtain ⟨cl, cld, csl, hcc⟩ := hc
  have hb : base.get? cc = some ⟨cl, cld, .cell (some (.ref D)), csl⟩ := e0.mod.kin _ _ hcc
  have cell1 : ∀ x c, (cxS CX P w K mg base N qual scope f cc cd A outer s H E).env.cells.lookup x = some c → x = "__class__" ∧ c = cc := fun x c e => by
    have e' : (match x == ("__class__" : Str) with | true => some cc | false => ([] : List (Str × Addr)).lookup x) = some c := e
    cases q : (x == ("__class__" : Str)) with
    | true =>
      rw [q] at e'
      exact ⟨beq_iff_eq.mp q, (Option.some.inj e').symm⟩
    | false =>
      rw [q] at e'
      cases e'
  refine ⟨⟨e0.mod, S.kind, rfl, rfl, Nat.le_refl _, fun y z c h1 h2 => (cell1 y c h1).1.trans (cell1 z c h2).1.symm, fun y hy => ?_, fun y c hf _ => Bool.noConfusion hf, fun _ => hd, Around.frames_deeper e0.frames, .inr ⟨rfl, rfl⟩, fun b z => absurd z (noA b), e0.bs, e0.bsz, fun b _ _ => noA b, fun b z => absurd z (noA b), e0.funs, e0.frf⟩,
    rfl, e0.bare, Un.kept hk, ⟨_, hns, fun i y v h1 h2 h3 => ?_⟩, fun y c h => ⟨some (.ref D), ?_⟩, e0.hok.fresh (Nat.le_refl _), fun y c h => ?_, fun p hp => absurd (show p ∈ ([] : List (Addr × Obj)) from hp) (by simp), e0.hok.kept hk, ?_⟩
  · have hy : scope.names.lookup y = some .cell ∨ scope.names.lookup y = some .free := hy
    rcases hy with hy | hy
    · exact absurd rfl (S.nocell _ (PySem.mem_of_lookup hy))
    · have e := S.one _ (PySem.mem_of_lookup hy) rfl
      refine ⟨cc, ?_⟩
      show (match y == ("__class__" : Str) with | true => some cc | false => ([] : List (Str × Addr)).lookup y) = some cc
      rw [show (y == ("__class__" : Str)) = true from beq_iff_eq.mpr e]
  · have hi : i < vs.length := by
      unfold L2.start at h2
      by_cases hi : i < vs.length
      · exact hi
      · rw [List.getElem?_append_right (by simpa using hi)] at h2
        rw [List.getElem?_replicate] at h2
        split at h2 <;> cases h2
    have ha : vs[i]? = some v := by
      unfold L2.start at h2
      rw [List.getElem?_append_left (by simpa using hi), List.getElem?_map] at h2
      cases e : vs[i]? with
      | none => rw [e] at h2; cases h2
      | some a => rw [e] at h2; cases h2; rfl
    obtain ⟨u, hu, rv⟩ := r.get ha
    have hp : ps[i]? = some y := by
      rw [← S.pre, List.getElem?_take_of_lt (by omega)]; exact h1
    have ndP : ps.Nodup := by rw [← S.pre]; exact S.nd.sublist (List.take_sublist _ _)
    exact ⟨u, rv, .inl ⟨S.par y (List.mem_of_getElem? hp), zip_rev_lookup ndP hp hu⟩⟩
  · obtain ⟨_, rfl⟩ := cell1 y c h
    exact ⟨_, hk _ _ (e0.bs _ _ hb).1, rfl⟩
  · obtain ⟨_, rfl⟩ := cell1 y c h
    exact (e0.bs _ _ hb).2
  · unfold L2.start
    show _ = N.length
    rw [List.length_append, List.length_map, List.length_replicate]
    omega

/-- super().__init__(e, ..), then the rest of the body -/
theorem fn_sup {CX : CXT} {P : Program} {w : World} {K : PySem.W.Frag} {mg : Str → Option Value} {base : Heap} {k : Nat} {f cc C : Addr} {fd : FuncData} {name qual : Str} {params : Arguments} {scope : Scope} {e : Expr} {es : List Expr} {rest : List Stmt} {p0 p1 p2 p3 p4 : Pos} {ar : Arg} {N ps : List Str} {sp : Sp} {pl : Env → Sem Bool}
    (F : SupF P K name qual params (.Expr (.Call (.Attribute (.Call (.Name "super" p0) [] [] p1) "__init__" p2) (e :: es) [] p3) p4 :: rest) scope f fd C cc) (S : SupScope N ps scope)
    (hp : (params.posonlyargs ++ params.args).head? = some ar) (hN : N[0]? = some ar.arg) (h0 : ps ≠ []) (T : SupC P K mg C)
    (len : ∀ vs H Q E, sp vs H Q E → vs.length = ps.length)
    (hbody : ∀ (cd : Value) (A : Around) (outer : List Env) (s : Shared) (H : Hp) (vs : List V) (Q : VK) (E : XK), Room k (A.deeper (PySem.W.ksEnv qual scope s.heap.objs.size f cd cc)) → sp vs H Q E →
      ∃ (ta : TA) (t : TS) (a : Addr), PA (cxS CX P w K mg base N qual scope f cc cd A outer s H E) (e :: es) ta ∧ PSs (cxS CX P w K mg base N qual scope f cc cd A outer s H E) rest t ∧ vs.head? = some (.ref a) ∧ H a = some (exo a C none) ∧
        ta (start N vs) H (fun ws H1 => ws.length ≤ 1000 ∧ H1 a = some (exo a C none) ∧ t { nx := fun _ H' => Q .non H', rt := Q } (start N vs) H1))
    (he : ∀ env, starEach (e :: es) env = (false, eval e env) :: starEach es env := by intro _; rfl) (hpl : ∀ env, (backTo p3 (starEach es env)).any (·.1) = false := by intro _; rfl)
    (hev : ∀ env, eval (.Call (.Attribute (.Call (.Name "super" p0) [] [] p1) "__init__" p2) (e :: es) [] p3) env = (do
      let ov ← attributeBase (.Call (.Name "super" p0) [] [] p1) "__init__" env (eval (.Call (.Name "super" p0) [] [] p1) env)
      standAt p2.atName
      let (f, first) ← holding [ov] (getMethod ov "__init__" (pl env))
      callWith p3 f first (backTo p3 (starEach (e :: es) env)) []) := by intro _; rfl) :
    FnOk P w K mg base CX (k + 1) f fd ps sp := by
  obtain ⟨oc, od, dV, kV, doc, pm, an, cda, ct, osl, rfl, lk, hcd, ccl, cdd, vs2, ccs, file, tf, hcode, hvs, hfile⟩ := F.ex
  obtain ⟨cl, cld, csl, hcell⟩ := F.cell
  refine ⟨len, fun A outer s H args us vs Q E hr e0 hb r hsp => ?_⟩
  have hl := len _ _ _ _ hsp
  have KX : K.In s.heap := e0.mod.kin.keeps fun b o e => (e0.bs b o e).1
  have lim : s.heap.NoLimit := e0.mod.nolimit.keeps fun b o e => (e0.bs b o e).1
  have hloc : ∀ y ∈ ps.zip us, scope.names.lookup y.1 = some .local := fun ⟨n, v⟩ hy => S.par n (List.of_mem_zip hy).1
  refine ks_codeAny_call_defAt (fd := PySem.W.ksFn name qual params (.Expr (.Call (.Attribute (.Call (.Name "super" p0) [] [] p1) "__init__" p2) (e :: es) [] p3) p4 :: rest) scope dV kV doc pm an (.ref cda) ct cc) hr.depth (KX _ _ lk) rfl lim (PySem.W.codeRec_of KX hcd) rfl hb S.nocell hloc (fun h₀ hns hk => ?_) S.co S.gen S.kind
  obtain ⟨ta, t, a, hta, ht, hv0, ha, hq⟩ := hbody (.ref cda) A outer s H vs Q E (hr.deeper _) hsp
  have I : Inv (cxS CX P w K mg base N qual scope f cc (.ref cda) A outer s H E) [] (L2.start N vs) H { s with heap := h₀, toks := s.toks + (ps.zip us).length } :=
    inv_sup S hr.hd e0 hl r F.cell hns hk
  have fin : ∀ {σ' : L2.St} {H' : Hp} {v : V} {u : Value} {s' : Shared}, Inv (cxS CX P w K mg base N qual scope f cc (.ref cda) A outer s H E) [] σ' H' s' → RelV v u → Q v H' → CE outer P w H s Q u s' :=
    fun {σ' H' v u s'} J rv q => ⟨v, H', J.os, J.bare, J.base, J.hok, rv, q⟩
  show PySem.wpAt (model P w) (A.deeper (PySem.W.ksEnv qual scope s.heap.objs.size f (.ref cda) cc)) (.func _ (PySem.W.ksEnv qual scope s.heap.objs.size f (.ref cda) cc)) (execs _ (PySem.W.ksEnv qual scope s.heap.objs.size f (.ref cda) cc)) _ _ _
  refine ks_wpAt_execs_cons (ks_wpAt_Expr_any (ks_wpAt_MethodCall (pl := pl _) ?_ (hev _)) I.quiet)
  obtain ⟨mb, hb1, hb2⟩ := I.mod.blt
  obtain ⟨cdC, bm, hcl, hmro, hal⟩ := T.ini
  obtain ⟨oC, hC1, hC2⟩ : ∃ oD, (h₀.get? C = some oD) ∧ oD.data = .cls cdC := by
    have hcl2 := hcl
    unfold PySem.W.clsIn at hcl2
    split at hcl2
    · rename_i c d cd' sl ho
      cases hcl2
      exact ⟨_, I.kIn _ _ ho, rfl⟩
    · cases hcl2
  obtain ⟨t1, hx⟩ := exo_at I.hok ha
  have hv : (fun x => (ps.zip us).reverse.lookup x) ar.arg = some (.ref a) := by
    cases vs with
    | nil => cases hv0
    | cons v vr =>
      have ev : v = .ref a := by simpa using hv0
      subst ev
      cases r with
      | @cons _ u0 _ ur ra rr =>
        obtain rfl : u0 = Value.ref a := ra
        have ndP : ps.Nodup := by rw [← S.pre]; exact S.nd.sublist (List.take_sublist _ _)
        cases ps with
        | nil => exact absurd rfl h0
        | cons p ps' =>
          have hp0 : p = ar.arg := by
            have e1 : (N.take (p :: ps').length)[0]? = some p := by rw [S.pre]; rfl
            rw [List.getElem?_take_of_lt (by simp)] at e1
            rw [hN] at e1
            exact (Option.some.inj e1).symm
          exact zip_rev_lookup (i := 0) ndP (by simp [hp0]) rfl
  have hpar : scope.names.lookup ar.arg = some .local := by
    cases ps with
    | nil => exact absurd rfl h0
    | cons p ps' =>
      have e1 : (N.take (p :: ps').length)[0]? = some p := by rw [S.pre]; rfl
      rw [List.getElem?_take_of_lt (by simp), hN] at e1
      cases e1
      exact S.par _ (List.mem_cons_self ..)
  refine ks_wpAt_super_base (f := f) (cc := cda) (ar := ar) S.sup S.cls (by decide) rfl (I.kIn _ _ lk) rfl hp rfl (I.kIn _ _ hcode) rfl hvs hfile T.top ?_
  refine PySem.W.ks_loadName_global S.kind S.sup (Calls.loadGlobal_builtin (I.mod.glob.keeps I.bk) T.nosup (hb1.keeps I.bk) ((hb2 _ (by decide)).trans (by decide +kernel)) ⟨rfl, ?_⟩)
  refine wpAny_loadName_free S.kind S.cls (c := cc) rfl ⟨_, I.kIn _ _ hcell, rfl⟩ ?_
  refine wpAny_loadName_local S.kind hpar hns hv ?_
  refine ks_wpAny_isType_cls hC1 hC2 ⟨rfl, ?_⟩
  refine ks_wpAny_call_super hC1 hC2 hx rfl (fun c z => nomatch z) (PySem.W.looks_mroIn I.kIn T.self) (fun h' hso k => ?_)
  have I1 : Inv (cxS CX P w K mg base N qual scope f cc (.ref cda) A outer s H E) [] (L2.start N vs) H { s with heap := h', toks := s.toks + (ps.zip us).length } := I.kept k
  have hlook : PySem.W.Looks (model P w) h' (mroOf (.ref C)) (.ref C :: bm) := fun A Q E s kp q => wpAny_bind ((PySem.W.looks_clsIn I1.kIn hcl) A _ E s kp (by rw [← hmro] at q; exact wpAny_pure q))
  have hxC : a ≠ C := fun z => by
    have h1 := I.kIn
    subst z
    rw [hx] at hC1
    cases hC1
    cases hC2
  have hin : PySem.W.Looks (model P w) h' (isInstance (.ref a) (.type "ValueError")) true := by
    have J : PySem.W.InstAt h' a (PySem.HandSPX.excO C t1) C none := ⟨k _ _ hx, rfl, rfl, trivial⟩
    exact J.type.andThen (PySem.W.looks_subIn I1.kIn T.sub)
  obtain ⟨sh, sg, sd, stk, sos⟩ := s
  refine PySem.W.kxs_getMethod PySem.W.kxs_ValueError hso (PySem.W.looks_opaque I1.kIn T.opq) hlook (PySem.ESX.drop_own C bm) I1.kIn hal hin hxC (by decide) ?_
  have I2 := ClX.pin_new (o := PySem.W.kxs_mw "ValueError.__init__" a) (h' := h'.push (PySem.W.kxs_mw "ValueError.__init__" a)) (a := h'.objs.size) (t' := stk + (ps.zip us).length + 1) I1 (fun b u z => Heap.get?_push_of_some _ z) (Nat.le_refl _) (Heap.get?_push_size _ rfl) (fun v z => nomatch z)
  show wpAny _ _ (callWith p3 (Value.ref h'.objs.size) [] (backTo p3 (starEach (e :: es) _)) []) _ _ _
  refine mw_callWith1 (i := "ValueError.__init__") (x := a) (thn (hta.run p3 _ _ (L2.start N vs) H _ I2 hq) fun ws s3 ⟨wv, H1, I3, rw3, hlen, ha1, q⟩ => ⟨ClX.pin_at I3, ?_⟩) (he _) (hpl _)
  obtain ⟨nm, qn, NC, bs, bm', sn, sub, ab, col, dd, k0, k1, k2, k3, k5, hC, hbm⟩ := T.oex.cls
  obtain ⟨t3, he3⟩ := exo_at I3.hok ha1
  have hu3 := ClX.pin_at I3
  obtain ⟨hp3, g3, d3, tk3, os3⟩ := s3
  refine call_mw (I3.kIn _ _ hC) he3 hu3 (by rw [← Paired.length rw3, sizeLine_eq]; omega) fun h4 t4 k4 e4 => ?_
  have I3' := ClX.unpin I3
  have J := I3'.write (t' := tk3) (x := a) (e := a) (o := exo a C none) (by rw [ha1]; exact True.intro) (.inl rfl) k4 ⟨_, e4⟩ (exo_ok e4)
  have eu : upd H1 a (exo a C none) = H1 := by
    funext b
    by_cases hb : b = a
    · rw [hb, upd_same, ha1]
    · rw [upd_ne hb]
  rw [eu] at J
  refine wpAt_of_wpAny (wpAny_mono (ht.run [] _ (L2.start N vs) H1 _ J q) (fun fl s' hs => ?_) fun e s' hs => hs)
  cases fl with
  | ret u =>
    obtain ⟨v, σ', H', J, rv, q⟩ := hs
    exact fin J rv q
  | next =>
    obtain ⟨σ', H', J, q⟩ := hs
    exact fin (v := V.non) (u := Value.none) J rfl q
  | brk =>
    obtain ⟨_, _, _, q⟩ := hs
    exact False.elim q
  | cont =>
    obtain ⟨_, _, _, q⟩ := hs
    exact False.elim q
end MC
set_option maxHeartbeats 4000000
/-! MB2: try with several named clauses; a def that is handed the exception within a suite -/
namespace MC
open PySem PySem.Spec PyProof.Rows L2

/-! ### several clauses «except C as n» -/
/-- the ends of a suite whose name goes behind it -/
def gone (i : Nat) (D : Ends) : Ends := { nx := fun σ H => D.nx (σ.set i none) H, rt := D.rt, bk := fun σ H => D.bk (σ.set i none) H, ct := fun σ H => D.ct (σ.set i none) H }
abbrev Cl := Value × Nat × (Addr → Value → Option Addr → TS)
/-- what the clauses wish of an exception of the body, one behind the other -/
def wAsL (K : PySem.W.Frag) (Wout : WX) (D : Ends) : List Cl → WX
  | [] => Wout
  | (c, i, ts) :: r => fun cls d σ H => ∃ b, PySem.W.exmOne K cls c = some b ∧ (b = true → ∀ a, H a = none → ts a cls d (gone i D) (σ.set i (some (.ref a))) H) ∧ (b = false → wAsL K Wout D r cls d σ H)
inductive HdsAs (X : Cx) : List ExceptHandler → List Cl → Prop
  | nil : HdsAs X [] []
  | cons {x n : Str} {c : Value} {i : Nat} {ts : Addr → Value → Option Addr → TS} {b₀ : Stmt} {suite : List Stmt} {np pos' : Pos} {hds : List ExceptHandler} {l : List Cl} (hc : Names X x c) (hi : X.N[i]? = some n) (hln : X.env.kindOf n = some .local)
      (hsu : ∀ (a : Addr) (oe : Obj) (cls : Value) (d : Option Addr) (pn : List (Addr × Obj)), Zc cls d oe → (∃ vs, oe.data = .fields vs) → PSs (X.suite a ((a, oe) :: pn)) (b₀ :: suite) (ts a cls d)) (r : HdsAs X hds l) :
      HdsAs X (.ExceptHandler (some (.Name x np)) (some n) (b₀ :: suite) pos' :: hds) ((c, i, ts) :: l)
section
variable {X : Cx} {body : List Stmt} {h₀ : ExceptHandler} {hds : List ExceptHandler} {l : List Cl} {pos : Pos} {tb : WX → TS} {Wout : WX}
def tTryAs (K : PySem.W.Frag) (Wout : WX) (l : List Cl) (tb : WX → TS) : TS := fun D σ H => tb (wAsL K Wout D l) D σ H
theorem ps_try_asL (hs : X.stack = X.env :: X.outer) (hf : X.env.frame = some X.env.locals) (hN : X.N.Nodup) (tk : Takes X Wout)
    (hb : ∀ (W : WX) (pn : List (Addr × Obj)) (xe : Value → Shared → Prop), Takes (X.tr pn xe) W → PassesOwn (model X.prog X.w) X.A X.env xe → PSs (X.tr pn xe) body (tb W))
    (hh : HdsAs X (h₀ :: hds) l) : PS X (.Try body (h₀ :: hds) [] [] pos) (tTryAs X.K Wout l tb) := by
  refine ⟨fun pins s σ H D I h => ?_⟩
  have ok := I.ok
  have hfr : X.A.frames = some (X.env :: X.outer) := by rw [ok.frames, hs]
  refine wpAny_Try_except (wpAny_mono ((hb (wAsL X.K Wout D l) (X.pn ++ pins) (fun e s₁ => wpAny (model X.prog X.w) X.A (noteFrame e X.env) (fun _ s₂ => wpAny (model X.prog X.w) X.A (setFlight e none) (fun _ s₃ =>
    wpAny (model X.prog X.w) X.A (handleBy e X.env (h₀ :: hds)) (SP X pins D) X.xe s₃) X.xe s₂) X.xe s₁) (fun u s' xx => ?_) PassesOwn.looking).run [] s σ H D (I.toTry _) h) (fun f s1 hsp => ?_) (fun e s1 he => he))
  · -- the body raises
    obtain ⟨a, B, sI, pins', σ', H', cls, d, rfl, J', nb, up, sky, na, os, ag, w⟩ := xx
    have J : Inv X pins σ' H' sI := J'.ofTry ok
    have sky' : Sky B (X.env :: X.outer) a (Zc cls d) X.env.locals s'.heap := by rw [← hs]; exact sky
    show wpAny (model X.prog X.w) X.A (noteFrame (.ref a) X.env) _ _ _
    refine Sky.land Zc.steady hfr hf sky' fun h3 fl3 up3 => ?_
    have J3 : Inv X pins σ' H' { s' with heap := h3 } := J.landed nb fl3.1 (up.trans up3) os ag
    obtain ⟨oe3, vs3, he3, hz3, hd3⟩ := fl3.there
    have nfr : a ∉ frs (X.env :: X.outer) := fun hm => by
      obtain ⟨_, o', e', hnf⟩ := fl3.2.2.1.mem hm
      have e2 : some oe3 = some o' := he3.symm.trans e'
      cases e2
      exact hnf _ hd3
    have nL : a ≠ X.env.locals := fun z => nfr (List.mem_filterMap.mpr ⟨X.env, List.mem_cons_self, by rw [hf, z]⟩)
    have nF : a ∉ X.fs := fun hm => by
      obtain ⟨e, he, q⟩ := List.mem_filterMap.mp hm
      exact nfr (List.mem_filterMap.mpr ⟨e, List.mem_cons_of_mem _ he, q⟩)
    have S3 := J3.suite he3 hd3 na nL nF
    have go : ∀ {hds' : List ExceptHandler} {l' : List Cl}, HdsAs X hds' l' → wAsL X.K Wout D l' cls d σ' H' →
        wpAny (model X.prog X.w) X.A (handleBy (.ref a) X.env hds') (SP X pins D) X.xe { s' with heap := h3 } := by
      intro hds' l' hk
      induction hk with
      | nil =>
        intro w
        refine wpAny_handleBy_nil ?_
        obtain ⟨k1, k2, k3, oe, vs, T, oT, ts', he, hz, hd, h1, hr⟩ := id fl3
        unfold PySem.passOn
        refine wpAny_bind (wpAny_field he hd h1 ?_)
        rw [if_neg (show ¬ ((Value.ref T == Value.none) = true) from by simp)]
        have fin : wpAny (model X.prog X.w) X.A (setFlight (.ref a) X.env.frame) (fun _ s4 => wpAny (model X.prog X.w) X.A (throw (.ref a) : Sem Flow) (SP X pins D) X.xe s4) X.xe { s' with heap := h3 } := by
          rw [hf]
          refine HandSPX.setFlight_upZ fl3 fun h4 hh4 up4 => wpAny_throw (tk _ _ ?_)
          exact ⟨a, B, sI, pins, σ', H', cls, d, rfl, J, nb, (up.trans up3).trans up4, .inr (.inr (by rw [hs]; exact hh4)), na, os, ag, w⟩
        first
          | exact wpAny_bind (wpAny_pure (wpAny_bind fin))
          | exact wpAny_bind fin
      | @cons x n c i ts b₀ suite np pos' hds2 l2 hc hi hln hsu r ih =>
        intro w
        obtain ⟨b, hb1, hyes, hno⟩ := w
        refine wpAny_handleBy_cons (codeAny_handlers_test ?_) (by intro q; cases q)
        have LT : PySem.W.Looks (model X.prog X.w) h3 (typeOf (.ref a)) cls := fun A Q E s k q => wpAny_typeOf_ref (k _ _ he3) (by rw [hz3.1]; exact q)
        have LM := PySem.W.exm_one (M := model X.prog X.w) (J3.kIn) LT hb1
        have test : ∀ {Q : Value → Shared → Prop} {E : Value → Shared → Prop}, Q c { s' with heap := h3 } → wpAny (model X.prog X.w) (X.A.mark (some (.ref a))) (eval (.Name x np) X.env) Q E { s' with heap := h3 } := fun {Q E} q => by
          obtain ⟨hg, hdbg, hm | ⟨hm, hv, hnn⟩⟩ := hc
          · exact ld_glob (X := X.suite a ((a, oe3) :: (X.pn ++ pins))) S3 hg hm q hdbg
          · exact ld_blt (X := X.suite a ((a, oe3) :: (X.pn ++ pins))) S3 hg hm hv q hnn hdbg
        refine test (LM.here ?_)
        cases b with
        | true =>
          refine codeAny_handlers_suite_as (HandSPX.lands_againZ fl3 fun h4 fl4 up4 => ?_)
          have J4 : Inv X pins σ' H' { s' with heap := h4 } := J.landed nb fl4.1 ((up.trans up3).trans up4) os ag
          obtain ⟨oe4, vs4, he4, hz4, hd4⟩ := fl4.there
          have S4 := J4.suite he4 hd4 na nL nF
          refine store_ok (X := X.suite a ((a, oe4) :: (X.pn ++ pins))) (v := .ref a) S4 hN hi (.inl hln) rfl (fun s5 S5 => ?_) (.inr hln)
          refine wpAny_mono ((hsu a oe4 cls d (X.pn ++ pins) hz4 ⟨_, hd4⟩).run [] s5 _ H' _ S5 (hyes rfl a na)) (fun f s6 hsp => ?_) (fun _ _ z => False.elim z)
          have end_ : ∀ {σ6 : L2.St} {H6 : Hp} {Q : Shared → Prop}, Inv (X.suite a ((a, oe4) :: (X.pn ++ pins))) [] σ6 H6 s6 → (∀ s7, Inv X pins (σ6.set i none) H6 s7 → Q s7) →
              wpAny (model X.prog X.w) X.A (do bindName X.env n .none; unbindBehindTheSuite X.env n pos') (fun _ s7 => Q s7) X.xe s6 := fun {σ6 H6 Q} S6 hq => gone_ok (S6.unsuite ok) hN hi hln hq
          cases f with
          | next =>
            obtain ⟨σ6, H6, S6, q6⟩ := hsp
            exact end_ S6 fun s7 J7 => ⟨_, _, J7, q6⟩
          | brk =>
            obtain ⟨σ6, H6, S6, q6⟩ := hsp
            exact end_ S6 fun s7 J7 => ⟨_, _, J7, q6⟩
          | cont =>
            obtain ⟨σ6, H6, S6, q6⟩ := hsp
            exact end_ S6 fun s7 J7 => ⟨_, _, J7, q6⟩
          | ret u =>
            obtain ⟨v6, σ6, H6, S6, r6, q6⟩ := hsp
            exact end_ S6 fun s7 J7 => ⟨_, _, _, J7, r6, q6⟩
        | false =>
          show wpAny _ X.A (handleBy (.ref a) X.env hds2) _ _ _
          exact ih (hno rfl)
    exact go hh w
  · cases f with
    | next =>
      obtain ⟨σ', H', J', q⟩ := hsp
      exact wpAny_execs_nil ⟨σ', H', J'.ofTry ok, q⟩
    | brk =>
      obtain ⟨σ', H', J', q⟩ := hsp
      exact ⟨σ', H', J'.ofTry ok, q⟩
    | cont =>
      obtain ⟨σ', H', J', q⟩ := hsp
      exact ⟨σ', H', J'.ofTry ok, q⟩
    | ret u =>
      obtain ⟨v, σ', H', J', r, q⟩ := hsp
      exact ⟨v, σ', H', J'.ofTry ok, r, q⟩
end

/-! ### a def that is handed the exception within the suite, and raises nothing -/
abbrev SpE := Addr → Value → Option Addr → Sp
abbrev XE0 : XK := fun _ _ _ => False
structure FnE (P : Program) (w : World) (K : PySem.W.Frag) (mg : Str → Option Value) (base : Heap) (k : Nat) (f : Addr) (fd : FuncData) (ps : List Str) (sp : SpE) : Prop where
  len : ∀ a c d vs H Q E, sp a c d vs H Q E → vs.length = ps.length
  run : ∀ (A : Around) (outer : List Env) (s : Shared) (H : Hp) (args : Args) (us : List Value) (vs : List V) (Q : VK) (p : Addr × Obj) (c : Value) (d : Option Addr), L2H.RoomH k A → L2H.PinOk outer H s p → Zc c d p.2 → (∃ vs, p.2.data = .fields vs) →
    Env0 P w K mg base A outer s H → BindsTo s fd args (ps.zip us) → Vals vs us → sp p.1 c d vs H Q XE0 → codeAny (model P w) A (.call (.ref f) args) (CR CX0 outer P w H s Q XE0) s
section
variable {P : Program} {w : World} {K : PySem.W.Frag} {mg : Str → Option Value} {base : Heap}
theorem fn_ofE {k : Nat} {f : Addr} {name qual : Str} {params : Arguments} {body : List Stmt} {scope : Scope} {dvs : List V} {kws : List (Str × V)} {fd : FuncData} {N ps : List Str} {sp : SpE}
    (F : FunD K name qual params body scope dvs kws f fd) (S : FnScope N ps scope) (len : ∀ a c d vs H Q E, sp a c d vs H Q E → vs.length = ps.length)
    (hbody : ∀ (cdv : Value) (A : Around) (outer : List Env) (s : Shared) (H : Hp) (vs : List V) (Q : VK) (p : Addr × Obj) (c : Value) (d : Option Addr), L2H.RoomH k (A.deeper (envOfC qual scope s.heap.objs.size f cdv)) → Zc c d p.2 → (∃ vs, p.2.data = .fields vs) → sp p.1 c d vs H Q XE0 →
      ∃ t, PSs (L2H.cxH CX0 P w K mg base N qual scope f cdv A outer s H XE0 p) body t ∧ t { nx := fun _ H' => Q .non H', rt := Q } (L2.start N vs) H) : FnE P w K mg base (k + 1) f fd ps sp := by
  obtain ⟨oc, od, dV, kV, doc, pm, an, cdv, ct, osl, rfl, lk, hcd, _, _⟩ := F.ex
  refine ⟨len, fun A outer s H args us vs Q p c d hr hpin hz hf e0 hb r hsp => ?_⟩
  have hl := len _ _ _ _ _ _ _ hsp
  have KX : K.In s.heap := e0.mod.kin.keeps fun b o e => (e0.bs b o e).1
  have lim : s.heap.NoLimit := e0.mod.nolimit.keeps fun b o e => (e0.bs b o e).1
  refine codeAny_call_function hr.depth (KX _ _ lk) rfl S.co S.gen rfl (PySem.W.codeRec_of KX hcd) (hb _ _ _ _ (wpAny_newFunctionEnv_cells S.kind (fun ⟨n, v⟩ hy => (S.par n (List.of_mem_zip hy).1).imp id fun q => ⟨q, PySem.W.cellsFrom_some _ _ _ (.inl q)⟩) fun env he s1 x => ?_))
  subst he
  refine ⟨lim.keeps x.toInCall.keep, codeAny_func ?_⟩
  obtain ⟨t, ht, hq⟩ := hbody cdv A outer s H vs Q p c d (hr.deeper _) hz hf hsp
  have I : Inv (L2H.cxH CX0 P w K mg base N qual scope f cdv A outer s H XE0 p) [] (L2.start N vs) H s1 := L2H.inv_startH S hpin e0 hl r x
  refine wpAny_mono (ht.run [] s1 (L2.start N vs) H _ I hq) (fun fl s' hs => ?_) fun e s' hs => hs
  have fin : ∀ {σ' : L2.St} {H' : Hp} {v : V} {u : Value}, Inv (L2H.cxH CX0 P w K mg base N qual scope f cdv A outer s H XE0 p) [] σ' H' s' → RelV v u → Q v H' → CE outer P w H s Q u s' :=
    fun {σ' H' v u} J rv q => ⟨v, H', J.os, J.bare, J.base, J.hok, rv, q⟩
  match fl, hs with
  | .ret u, hs => obtain ⟨v, σ', H', J, rv, q⟩ := hs; exact fin J rv q
  | .next, hs => obtain ⟨σ', H', J, q⟩ := hs; exact fin (v := V.non) (u := Value.none) J rfl q
  | .brk, hs => obtain ⟨_, _, _, q⟩ := hs; exact False.elim q
  | .cont, hs => obtain ⟨_, _, _, q⟩ := hs; exact False.elim q
end
section
variable {X : Cx} {k : Nat} {f a : Addr} {oe : Obj} {cls : Value} {d : Option Addr} {pn : List (Addr × Obj)} {fd : FuncData} {ps : List Str} {sp : SpE} {x : Str} {q pos : Pos} {e : Expr} {es : List Expr} {t : TA}
def tCallE (a : Addr) (cls : Value) (d : Option Addr) (sp : SpE) (t : TA) : TE := fun σ H Q => t σ H fun vs H1 => sp a cls d vs H1 Q XE0
/-- f(..) within the suite, f a def as FnE -/
theorem pe_callE (F : FnE X.prog X.w X.K X.mg X.base k f fd ps sp) (hr : L2H.RoomH k (X.suite a ((a, oe) :: pn)).A) (hz : Zc cls d oe) (hf : ∃ vs, oe.data = .fields vs) (hg : Gl X x) (hm : X.mg x = some (.ref f)) (hk : PySem.W.keepIn X.K (.ref f) = true) (hb : Binds X.K fd ps [])
    (ha : PA (X.suite a ((a, oe) :: pn)) (e :: es) t) (hdb : (x == ("__debug__" : Str)) = false := by decide) (he : starEach (e :: es) X.env = (false, eval e X.env) :: starEach es X.env := by rfl) (hpl : (backTo pos (starEach es X.env)).any (·.1) = false := by rfl) :
    PE (X.suite a ((a, oe) :: pn)) (.Call (.Name x q) (e :: es) [] pos) (tCallE a cls d sp t) := by
  refine ⟨fun pins s σ H Q I h => ?_⟩
  refine wpAny_Call_Name_kw (ld_glob I hg hm ?_ hdb)
  refine PySem.W.callWith_K (h₀ := X.base) I.ok.mod.kin hk (thn (ha.run pos pins s σ H _ I h) fun us s1 ⟨vs, H1, I1, r, hsp⟩ => ⟨I1.kIn, ?_⟩) he hpl
  have hl : us.length = ps.length := by rw [← r.length]; exact F.len _ _ _ _ _ _ _ hsp
  have b := hb s1 us I1.kIn (by rw [List.append_nil]; exact hl)
  rw [List.append_nil] at b
  have P1 := I1.pin (a, oe) (List.mem_append_left _ List.mem_cons_self)
  have hpin : L2H.PinOk (X.suite a ((a, oe) :: pn)).stack H1 s1 (a, oe) := ⟨P1.1, P1.2.1, fun hm => (List.mem_cons.mp (I1.stkSub a hm)).elim P1.2.2.1 P1.2.2.2.1, P1.2.2.2.2⟩
  refine wpAny_call (codeAny_mono (F.run (X.suite a ((a, oe) :: pn)).A (X.suite a ((a, oe) :: pn)).stack s1 H1 ⟨us, []⟩ us vs Q (a, oe) cls d hr hpin hz hf I1.env0 b r hsp) fun r s' hq => ?_)
  match r, hq with
  | .error e, hq => exact hq.elim
  | .ok (.ret u), hq => exact I1.after hq
  | .ok .next, hq => exact hq.elim
  | .ok .brk, hq => exact hq.elim
  | .ok .cont, hq => exact hq.elim

/-- isinstance of a pinned exception -/
def rIsP (K : PySem.W.Frag) (D a : Addr) (d : Option Addr) : List V → Hp → VK → Prop := fun xs H Q => ∃ (c : V) (cv : Value) (b : Bool), xs = [.ref a, c] ∧ (∀ u, RelV c u → u = cv) ∧ (∀ dd, d = some dd → ∃ fs, H dd = some (.xd fs)) ∧ PySem.W.kitOne K (.ref D) cv = some b ∧ Q (.bl b) H
structure ExcT (K : PySem.W.Frag) (D : Addr) : Prop where
  cl : (PySem.W.clsIn K D).isSome = true
  hg : PySem.W.findIn K (.ref D) "__getattribute__" = some (some (.builtin "BaseException.__getattribute__"))
  hk : PySem.W.findIn K (.ref D) "__getattr__" = some none
  hs : PySem.W.subIn K (.ref D) (.type "BaseException") = some true
  ha : PySem.W.findIn K (.ref D) "__class__" = some (some (.builtin "object.__class__"))
  hn : PySem.W.specialIn K (.builtin "object.__class__") "__get__" = some (some (.builtin "getset_descriptor.__get__"))
  ht : PySem.W.takesIn K (.builtin "object.__class__") = some true
  hm : PySem.W.mroIn K D (.type "object") = some true
theorem call_isP {X : Cx} {a D : Addr} {d : Option Addr} {oe : Obj} (C : ExcT X.K D) (hp : (a, oe) ∈ X.pn) (hz : Zc (.ref D) d oe) (hf : ∃ vs, oe.data = .fields vs) : CallR X (.builtin "isinstance") (rIsP X.K D a d) := by
  intro pins s σ H xs us Q I r h
  obtain ⟨c, cv, b, rfl, hcv, hd, e, q⟩ := h
  match r with
  | .cons rx (.cons rt .nil) =>
    cases rx
    obtain rfl := hcv _ rt
    obtain ⟨hget, _⟩ := I.pin (a, oe) (List.mem_append.mpr (.inl hp))
    obtain ⟨vs, hv⟩ := hf
    obtain ⟨oc, odt, oda, osl⟩ := oe
    obtain ⟨h1, h2⟩ := hz
    dsimp only at h1 h2 hv
    subst h1 h2 hv
    have fin : ∀ tk, EP X pins σ Q (.bool b) { s with toks := tk } := fun tk => ⟨.bl b, H, I.kept (t' := tk) fun _ _ z => z, rfl, q⟩
    cases odt with
    | none => exact PySem.W.kia_one (PySem.W.kitx_exc C.cl C.hg C.hk C.hs C.ha C.hn C.ht C.hm) I.kIn (show PySem.W.InstAt s.heap a _ D none from ⟨hget, rfl, rfl, trivial⟩) e (fun z => nomatch z) fin
    | some dd =>
      obtain ⟨fs, hdd⟩ := hd dd rfl
      have hx : ObjOk X.prog X.w H s.heap dd (.xd fs) := I.hok dd _ hdd
      obtain ⟨mA, ⟨od, es, ep, ho, _⟩, _⟩ := hx
      exact PySem.W.kia_one (PySem.W.kitx_exc C.cl C.hg C.hk C.hs C.ha C.hn C.ht C.hm) I.kIn (show PySem.W.InstAt s.heap a _ D (some od) from ⟨hget, rfl, rfl, ho⟩) e (fun z => nomatch z) fin
end
end MC
set_option maxHeartbeats 4000000
/-! MB3: operators and built-ins over instances of an own class -/
namespace MC
open PySem PySem.Spec PyProof.Rows L2

/-- what an own special method of the class at C is: its def at f -/
structure Spec (K : PySem.W.Frag) (C : Addr) (m : Str) (f : Addr) : Prop where
  at_ : PySem.W.findIn K (.ref C) m = some (some (.ref f))
  fn : PySem.W.isFn K (.ref f) = true

section
variable {X : Cx} {k : Nat} {C f : Addr} {fd : FuncData} {ps : List Str} {sp : Sp} {E : XK} {A' : Around}
/-- a def is run by a built-in of the running body -/
theorem run_at {pins : List (Addr × Obj)} {σ : L2.St} {H : Hp} {s : Shared} {Q : VK} {us : List Value} {vs : List V} (F : FnOk X.prog X.w X.K X.mg X.base (L2.CX X.prog X.w) k f fd ps sp) (hr : Room k A') (hfr : A'.frames = X.A.frames) (hb : Binds X.K fd ps [])
    (hx : PassesAt (L2.CX X.prog X.w) X σ E) (I : Inv X pins σ H s) (r : Vals vs us) (h : sp vs H Q E) : wpAny (model X.prog X.w) A' (call (.ref f) us) (EP X pins σ Q) X.xe s := by
  have hl : us.length = ps.length := by rw [← r.length]; exact F.len _ _ _ _ h
  have b := hb s us I.kIn (by rw [List.append_nil]; exact hl)
  rw [List.append_nil] at b
  have e := I.env0
  refine wpAny_call (codeAny_mono (F.run A' X.stack s H ⟨us, []⟩ us vs Q E hr ⟨by rw [hfr]; exact e.frames, e.mod, e.bs, e.bsz, e.funs, e.frf, e.hok, e.bare⟩ b r h) fun r s' hq => ?_)
  match r, hq with
  | .error e, hq => exact hx pins H s e s' I hq
  | .ok (.ret u), hq => exact I.after hq
  | .ok .next, hq => exact hq.elim
  | .ok .brk, hq => exact hq.elim
  | .ok .cont, hq => exact hq.elim
theorem pass_none {σ : L2.St} : PassesAt (L2.CX X.prog X.w) X σ XE0 := fun _ _ _ _ _ _ h => by
  obtain ⟨_, _, _, _, _, _, _, _, _, _, _, _, z⟩ := h
  exact z.elim
/-- .. one that raises nothing, wherever it stands -/
theorem run_at0 {pins : List (Addr × Obj)} {σ : L2.St} {H : Hp} {s : Shared} {Q : VK} {us : List Value} {vs : List V} {EE : Value → Shared → Prop} (F : FnOk X.prog X.w X.K X.mg X.base (L2.CX X.prog X.w) k f fd ps sp) (hr : Room k A') (hfr : A'.frames = X.A.frames) (hb : Binds X.K fd ps [])
    (I : Inv X pins σ H s) (r : Vals vs us) (h : sp vs H Q XE0) : wpAny (model X.prog X.w) A' (call (.ref f) us) (EP X pins σ Q) EE s := by
  have hl : us.length = ps.length := by rw [← r.length]; exact F.len _ _ _ _ h
  have b := hb s us I.kIn (by rw [List.append_nil]; exact hl)
  rw [List.append_nil] at b
  have e := I.env0
  refine wpAny_call (codeAny_mono (F.run A' X.stack s H ⟨us, []⟩ us vs Q XE0 hr ⟨by rw [hfr]; exact e.frames, e.mod, e.bs, e.bsz, e.funs, e.frf, e.hok, e.bare⟩ b r h) fun r s' hq => ?_)
  match r, hq with
  | .error e, hq =>
    obtain ⟨_, _, _, _, _, _, _, _, _, _, _, _, z⟩ := hq
    exact z.elim
  | .ok (.ret u), hq => exact I.after hq
  | .ok .next, hq => exact hq.elim
  | .ok .brk, hq => exact hq.elim
  | .ok .cont, hq => exact hq.elim
/-- an instance, for the library's rules -/
theorem inst_of {pins : List (Addr × Obj)} {σ : L2.St} {H : Hp} {s : Shared} {a dx : Addr} {fs : List (Str × V)} (I : Inv X pins σ H s) (e : H a = some (.ins C dx fs)) : ∃ od, PySem.W.InstAt s.heap a (PySem.W.instObj C dx) C (some od) := by
  obtain ⟨mA, J, _⟩ := ins_get I.hok e
  obtain ⟨od, J, _⟩ := J.look
  exact ⟨od, J⟩

/-! ### len(o), str(o) -/
def rLenO (C : Addr) (sp : Sp) : List V → Hp → VK → Prop := fun xs H Q => ∃ a dx fs, xs = [.ref a] ∧ H a = some (.ins C dx fs) ∧ sp [.ref a] H (fun v H' => ∃ n : Int, v = .int n ∧ (0 ≤ n ∧ n < 2 ^ 63) ∧ Q (.int n) H') XE0
theorem call_lenO (F : FnOk X.prog X.w X.K X.mg X.base (L2.CX X.prog X.w) k f fd ps sp) (hb : Binds X.K fd ps []) (S : Spec X.K C "__len__" f) (hr : Room (k + 1) X.A) : CallR X (.builtin "len") (rLenO C sp) := by
  intro pins s σ H xs us Q I rv h
  obtain ⟨a, dx, fs, rfl, ha, h⟩ := h
  obtain ⟨u, rfl, ru⟩ := rv.one
  cases ru
  obtain ⟨od, J⟩ := inst_of I ha
  obtain ⟨m, hF⟩ := I.fr
  refine PySem.W.len_K hF I.ok.mod.kin J S.at_ S.fn (thn (run_at (vs := [.ref a]) F hr.in1 rfl hb pass_none I (.cons rfl .nil) h) fun v s' ⟨x, H', I', rx, n, ex, hn, q⟩ => ?_)
  subst ex
  obtain ⟨t, rfl⟩ := rx
  exact ⟨hn, .int n, H', I'.tok _, ⟨_, rfl⟩, q⟩
def rStrO (C : Addr) (sp : Sp) : List V → Hp → VK → Prop := fun xs H Q => ∃ a dx fs, xs = [.ref a] ∧ H a = some (.ins C dx fs) ∧ sp [.ref a] H (fun v H' => ∃ z : Str, v = .str z ∧ Q (.str z) H') XE0
theorem call_strO (F : FnOk X.prog X.w X.K X.mg X.base (L2.CX X.prog X.w) k f fd ps sp) (hb : Binds X.K fd ps []) (S : Spec X.K C "__str__" f) (hr : Room (k + 2) X.A) : CallR X (.type "str") (rStrO C sp) := by
  intro pins s σ H xs us Q I rv h
  obtain ⟨a, dx, fs, rfl, ha, h⟩ := h
  obtain ⟨u, rfl, ru⟩ := rv.one
  cases ru
  obtain ⟨od, J⟩ := inst_of I ha
  refine PySem.W.kso_call hr.in1.in1.units0 I.kIn J S.at_ S.fn (thn (run_at (vs := [.ref a]) F hr.in1.in1 rfl hb pass_none I (.cons rfl .nil) h) fun v s' ⟨x, H', I', rx, z, ex, q⟩ => ?_)
  subst ex
  obtain ⟨t, rfl⟩ := rx
  exact ⟨.str z, H', I', ⟨_, rfl⟩, q⟩

/-! ### p in o -/
def rInO (C : Addr) (sp : Sp) : R2 := fun x y H Q => ∃ a dx fs, y = .ref a ∧ H a = some (.ins C dx fs) ∧ sp [.ref a, x] H (fun v H' => ∃ b : Bool, v = .bl b ∧ Q (.bl b) H') XE0
theorem op_inO (F : FnOk X.prog X.w X.K X.mg X.base (L2.CX X.prog X.w) k f fd ps sp) (hb : Binds X.K fd ps []) (S : Spec X.K C "__contains__" f) (hr : Room k X.A) : OpR X (compareOp .In) (rInO C sp) := by
  intro pins s σ H x y v u Q I rx ry h
  obtain ⟨a, dx, fs, rfl, ha, h⟩ := h
  cases ry
  obtain ⟨od, J⟩ := inst_of I ha
  obtain ⟨m, hF⟩ := I.fr
  refine PySem.W.in_K hF I.ok.mod.kin J S.at_ S.fn (thn (run_at (vs := [.ref a, x]) F hr rfl hb pass_none I (.cons rfl (.cons rx .nil)) h) fun v s' ⟨x, H', I', rx, b, ex, q⟩ => ?_)
  subst ex
  cases rx
  exact wpAny_truthy_bool ⟨.bl b, H', I', rfl, q⟩

/-! ### o == x, x anything -/
def rEqO (K : PySem.W.Frag) (C : Addr) (sp : Sp) : R2 := fun x y H Q => ∃ a dx fs tb, x = .ref a ∧ H a = some (.ins C dx fs) ∧ TyOf K H y tb ∧ PySem.W.notFirst K C tb = true ∧ sp [.ref a, y] H (fun v H' => ∃ b : Bool, v = .bl b ∧ Q (.bl b) H') XE0
theorem looks_ty {pins : List (Addr × Obj)} {σ : L2.St} {H : Hp} {s : Shared} {y : V} {v tb : Value} {M : Model} (I : Inv X pins σ H s) (ry : RelV y v) (t : TyOf X.K H y tb) : PySem.W.Looks M s.heap (typeOf v) tb := by
  cases t with
  | non => cases (show v = Value.none from ry); exact .of_pure rfl
  | bl b => cases (show v = Value.bool b from ry); exact .of_pure rfl
  | int i => obtain ⟨t, rfl⟩ := (show ∃ t, v = Value.int i t from ry); exact .of_pure rfl
  | str z => obtain ⟨t, rfl⟩ := (show ∃ t, v = Value.str z t from ry); exact .of_pure rfl
  | flt b => obtain ⟨t, rfl⟩ := (show ∃ t, v = Value.float b t from ry); exact .of_pure rfl
  | @lst a xs ea =>
    cases (show v = Value.ref a from ry)
    obtain ⟨_, _, n, _, h1⟩ := (show ObjOk X.prog X.w H s.heap a (.lst xs) from I.hok a _ ea)
    exact fun A Q E s k q => wpAny_typeOf_ref (k _ _ h1) q
  | @frz a ob xs ea =>
    cases (show v = Value.ref a from ry)
    obtain ⟨_, _, _, n, _, h1⟩ := (show ObjOk X.prog X.w H s.heap a (.frz ob (.lst xs)) from I.hok a _ ea)
    exact fun A Q E s k q => wpAny_typeOf_ref (k _ _ h1) q
  | @tup a xs ea =>
    cases (show v = Value.ref a from ry)
    obtain ⟨_, _, _, o, h1, h2, _⟩ := (show ObjOk X.prog X.w H s.heap a (.tup xs) from I.hok a _ ea)
    exact fun A Q E s k q => wpAny_typeOf_ref (k _ _ h1) (by rw [h2]; exact q)
  | @dK a kvs ea =>
    cases (show v = Value.ref a from ry)
    obtain ⟨_, _, vs, _, o, es, ep, h1, h2, _⟩ := (show ObjOk X.prog X.w H s.heap a (.dK kvs) from I.hok a _ ea)
    exact fun A Q E s k q => wpAny_typeOf_ref (k _ _ h1) (by rw [h2.1]; exact q)
  | @dT a kvs ea =>
    cases (show v = Value.ref a from ry)
    obtain ⟨_, _, xs, _, o, es, ep, h1, h2, _⟩ := (show ObjOk X.prog X.w H s.heap a (.dT kvs) from I.hok a _ ea)
    exact fun A Q E s k q => wpAny_typeOf_ref (k _ _ h1) (by rw [h2.1]; exact q)
  | @ins a C dx fs ea cl ha hn htk hm =>
    cases (show v = Value.ref a from ry)
    obtain ⟨od, J⟩ := inst_of I ea
    exact J.type
theorem op_eqO (F : FnOk X.prog X.w X.K X.mg X.base (L2.CX X.prog X.w) k f fd ps sp) (hb : Binds X.K fd ps []) (S : Spec X.K C "__eq__" f) (hr : Room k X.A) : OpR X (compareOp .Eq) (rEqO X.K C sp) := by
  intro pins s σ H x y v u Q I rx ry h
  obtain ⟨a, dx, fs, tb, rfl, ha, ht, hn, h⟩ := h
  cases rx
  obtain ⟨od, J⟩ := inst_of I ha
  obtain ⟨m, hF⟩ := I.fr
  show wpAny (model X.prog X.w) X.A (richCompare .Eq (.ref a) u) (EP X pins σ Q) X.xe s
  refine PySem.W.cmp_K (op := .Eq) hr.units0 hF I.ok.mod.kin J (looks_ty I ry ht) hn S.at_ S.fn (thn (run_at (vs := [.ref a, y]) F hr rfl hb pass_none I (.cons rfl (.cons ry .nil)) h) fun v s' ⟨x, H', I', rx, b, ex, q⟩ => ?_)
  subst ex
  cases rx
  exact ⟨.bl b, H', I', rfl, q⟩

/-! ### what may raise: o[i], o + p, o >> n (a wish of the slots) -/
abbrev R2S := L2.St → R2
def OpRS (X : Cx) (f : Value → Value → Sem Value) (r : R2S) : Prop :=
  ∀ (pins : List (Addr × Obj)) (s : Shared) (σ : L2.St) (H : Hp) (x y : V) (v u : Value) (Q : VK), Inv X pins σ H s → RelV x v → RelV y u → r σ x y H Q → wpAny (model X.prog X.w) X.A (f v u) (EP X pins σ Q) X.xe s
def tOpS (r : R2S) (ta tb : TE) : TE := fun σ H Q => ta σ H fun x H1 => tb σ H1 fun y H2 => r σ x y H2 Q
section
variable {a b : Expr} {ta tb : TE} {pos : Pos} {W : WX}
theorem pe_opS {op : Operator} {r : R2S} (ho : OpRS X (binaryOp op) r) (ha : PE X a ta) (hb : PE X b tb) : PE X (.BinOp a op b pos) (tOpS r ta tb) := by
  refine ⟨fun pins s σ H Q I h => ?_⟩
  exact wpAny_BinOp (binT ha hb I h fun v u s2 x y H2 I2 rx ry q => ho pins s2 σ H2 x y v u Q I2 rx ry q)
/-- both of the class -/
def rBinO (C : Addr) (sp : Sp) (W : WX) : R2S := fun σ x y H Q => ∃ a b dx dy fs gs, x = .ref a ∧ y = .ref b ∧ H a = some (.ins C dx fs) ∧ H b = some (.ins C dy gs) ∧ sp [.ref a, .ref b] H (fun v H' => v ≠ .non ∧ Q v H') (WE W σ)
theorem op_binO {op : Operator} (F : FnOk X.prog X.w X.K X.mg X.base (L2.CX X.prog X.w) k f fd ps sp) (hb : Binds X.K fd ps []) (S : Spec X.K C (PySem.dunder op.info.2) f) (hc : PySem.W.selfFirst X.K C = true) (hr : Room k X.A) (tk : Takes X W) : OpRS X (binaryOp op) (rBinO C sp W) := by
  intro pins s σ H x y v u Q I rx ry h
  obtain ⟨a, b, dx, dy, fs, gs, rfl, rfl, ha, hb', h⟩ := h
  cases rx
  cases ry
  obtain ⟨od, J⟩ := inst_of I ha
  obtain ⟨od', J'⟩ := inst_of I hb'
  obtain ⟨m, hF⟩ := I.fr
  refine PySem.W.binop_K hF I.ok.mod.kin J J'.type hc S.at_ S.fn (thn (run_at (vs := [.ref a, .ref b]) F hr rfl hb (passAt tk σ) I (.cons rfl (.cons rfl .nil)) h) fun v s' ⟨x, H', I', rx, hx, q⟩ => ?_)
  have fin : EP X pins σ Q v s' := ⟨x, H', I', rx, q⟩
  cases v <;> first | exact fin | skip
  cases x <;> first | (obtain ⟨t, e⟩ := rx; cases e) | cases rx
/-- the right one an int -/
def rBinI (C : Addr) (sp : Sp) (W : WX) : R2S := fun σ x y H Q => ∃ a i dx fs, x = .ref a ∧ y = .int i ∧ H a = some (.ins C dx fs) ∧ sp [.ref a, .int i] H Q (WE W σ)
structure BinI (K : PySem.W.Frag) (C : Addr) (op : Operator) : Prop where
  self : PySem.W.selfFirst K C = true
  rev : ∃ rc, PySem.W.findIn K (.ref C) (dunderR op.info.2) = some rc ∧ (rc = none ∨ ∃ g : Addr, rc = some (.ref g))
  fo : ∃ fo, PySem.W.findIn K (.type "int") (PySem.dunder op.info.2) = some fo
  ro : ∃ ro, PySem.W.findIn K (.type "int") (dunderR op.info.2) = some ro
  sub : PySem.W.subIn K (.type "int") (.ref C) = some false
theorem op_binI {op : Operator} (F : FnOk X.prog X.w X.K X.mg X.base (L2.CX X.prog X.w) k f fd ps sp) (hb : Binds X.K fd ps []) (S : Spec X.K C (PySem.dunder op.info.2) f) (hc : BinI X.K C op) (hr : Room k X.A) (tk : Takes X W) : OpRS X (binaryOp op) (rBinI C sp W) := by
  intro pins s σ H x y v u Q I rx ry h
  obtain ⟨a, i, dx, fs, rfl, rfl, ha, h⟩ := h
  cases rx
  obtain ⟨t, rfl⟩ := ry
  obtain ⟨od, J⟩ := inst_of I ha
  obtain ⟨m, hF⟩ := I.fr
  obtain ⟨rc, h1, h2⟩ := hc.rev
  obtain ⟨fo, h3⟩ := hc.fo
  obtain ⟨ro, h4⟩ := hc.ro
  refine PySem.W.ksp_binT hF I.ok.mod.kin J (T := "int") rfl hc.self S.at_ S.fn h1 h2 h3 h4 hc.sub (thn (run_at (vs := [.ref a, .int i]) F hr rfl hb (passAt tk σ) I (.cons rfl (.cons ⟨_, rfl⟩ .nil)) h) fun v s' ⟨x, H', I', rx, q⟩ => ?_)
  have fin : EP X pins σ Q v s' := ⟨x, H', I', rx, q⟩
  cases v <;> first | exact fin | skip
  cases x <;> first | (obtain ⟨t, e⟩ := rx; cases e) | cases rx
/-- o[i] -/
def rSubO (C : Addr) (sp : Sp) (W : WX) : R2S := fun σ x y H Q => ∃ a dx fs, x = .ref a ∧ H a = some (.ins C dx fs) ∧ sp [.ref a, y] H Q (WE W σ)
theorem pe_subO (F : FnOk X.prog X.w X.K X.mg X.base (L2.CX X.prog X.w) k f fd ps sp) (hb : Binds X.K fd ps []) (S : Spec X.K C "__getitem__" f) (hf : PySem.W.fnIn X.K f = true) (hr : Room (k + 1) X.A) (tk : Takes X W) (ha : PE X a ta) (hi : PE X b tb)
    (hsl : ∀ x i, subscripted b true x i = runValue (.builtin "lifetime.subscript" ⟨[x, i], []⟩) := by intro _ _; with_unfolding_all rfl) : PE X (.Subscript a b pos) (tOpS (rSubO C sp W) ta tb) := by
  refine ⟨fun pins s σ H Q I h => ?_⟩
  refine Subscript_ (binT ha hi I h fun v u s2 x y H2 I2 rx ry q => ?_)
  obtain ⟨p, dx, fs, rfl, hp, h⟩ := q
  cases rx
  obtain ⟨od, J⟩ := inst_of I2 hp
  obtain ⟨m, hF⟩ := I2.fr
  exact PySem.W.sub_K hF I2.ok.mod.kin J S.at_ hf S.fn (run_at (vs := [.ref p, y]) F hr.in1 rfl hb (passAt tk σ) I2 (.cons rfl (.cons ry .nil)) h) (hsl _ _)
end
end
end MC
set_option maxHeartbeats 4000000
/-! MB4: enumerate(text) in a for; iter(text); list(text), list(o) of an own __iter__ that hands back iter(text) -/
namespace MC
open PySem PySem.Spec PyProof.Rows L2

/-! ### a for over new tuples -/
/-- n turns; the i-th gives a new tuple of Y i -/
def ItT (n : Nat) (Y : Nat → List V) : It := ⟨fun i _ => i < n, fun i H v H' => ∃ T, v = .ref T ∧ H T = none ∧ H' = upd H T (.tup (Y i)), fun i _ => i = n⟩
theorem turn_T {P : Program} {w : World} {K : PySem.W.Frag} {elts : List Expr} {kk : Nat} {tpos : Pos} {it : Addr} {fp wr : List Addr} {n : Nat} {Pt : Nat → Array Value → Prop} {St : Nat → Heap → Prop} {Mid : Nat → Addr → Heap → Prop} {Y : Nat → List V}
    (W : ∀ A : Around, A.handled = none → WalksT P w A it fp wr n Pt St Mid) (hI : it ∈ fp) (hself : ∀ (A : Around) (i : Nat) (s : Shared) (Q : Value → Shared → Prop) (E : Value → Shared → Prop), St i s.heap → Q (.ref it) s → wpAny (model P w) A (pyIter (.ref it)) Q E s)
    (hsub : ∀ b ∈ wr, b ∈ fp) (hfr : ∀ i h h', St i h → (∀ b ∈ fp, ∀ o, h.get? b = some o → h'.get? b = some o) → St i h')
    (hobj : ∀ i h, St i h → ∀ b ∈ fp, ∃ o, h.get? b = some o ∧ ∀ v, o.data ≠ .cell v) (hY : ∀ i vals, i < n → Pt i vals → Vals (Y i) vals.toList) (hz : ∀ i, (Y i).length ≤ 100) :
    Turn P w K (.Tuple elts kk tpos) (ItT n Y) fp it St where
  mem := hI
  obj := hobj
  keep := hfr
  item := by
    intro X hP hw hK hc i pins s σ H E I hf st hg
    subst hP hw
    have WW := W X.A (I.ok.hd hc)
    have hlt : ∀ b ∈ fp, b < s.heap.objs.size := fun b hb => by
      obtain ⟨o, ho, _⟩ := hobj i _ st b hb
      exact Heap.lt_size ho
    refine WW.item i s _ _ hg st fun T vals h' tk hPt hT htup hmid hk => ⟨_, rfl, WW.go elts kk tpos i T _ _ _ hmid fun h'' st' hk' => ?_⟩
    have hTw : T ∉ wr := WW.apart i T h' hmid
    have ho2 : h''.IsTuple T vals := by
      obtain ⟨o, ho, r⟩ := htup
      exact ⟨o, hk' T o hTw ho, r⟩
    have new : ObjOk X.prog X.w (upd H T (.tup (Y i))) h'' T (.tup (Y i)) := by
      obtain ⟨o, ho, hc, m, hd⟩ := ho2
      exact ⟨by have := hz i; rw [sizeLine_eq]; omega, vals.toList, hY i vals hg hPt, ⟨o, ho, hc, m, by simpa using hd⟩⟩
    have I1 : Inv X pins σ (upd H T (.tup (Y i))) { s with heap := h'', toks := tk } :=
      I.turnedNew (ch := wr) (fun b ob hb q => hk' b ob hb (hk b ob hb q)) (fun b hb => hf b (hsub b hb)) hT new
    refine ⟨.ref T, _, I1, rfl, ⟨T, rfl, I.hok.fresh hT, rfl⟩, st', fun b hb => ?_⟩
    rw [upd_ne (Nat.ne_of_lt (Nat.lt_of_lt_of_le (hlt b hb) hT))]
    exact (hf b hb).1
  done := by
    intro X hP hw hK hc i pins s σ H E I hf st hg
    subst hP hw
    have e : i = n := hg
    subst e
    exact (W X.A (I.ok.hd hc)).done s _ _ st fun h' tk hk => ⟨rfl, I.turnedL (ch := wr) hk fun b hb => hf b (hsub b hb)⟩
  self := hself
theorem walk_T {n : Nat} {Y : Nat → List V} : Walk (ItT n Y) n (fun _ => True) (fun i H v H' => ∃ T, v = .ref T ∧ H T = none ∧ H' = upd H T (.tup (Y i))) :=
  ⟨fun _ _ hi _ => hi, fun _ _ => rfl, fun _ _ _ _ _ _ y => y⟩
/-- the i-th sign of a text, as a text -/
def sgn (z : Str) (i : Nat) : V := .str ⟨#[z.cps.getD i 0]⟩
/-- enumerate(text) -/
def iEnumS (ta : TA) : TI := fun σ H R => ta σ H fun vs H1 => ∃ z : Str, vs = [.str z] ∧ R (ItT z.cps.size fun i => [.int (i : Nat), sgn z i]) H1
theorem pi_enumS {X : Cx} {e : Expr} {ta : TA} {p pos tpos : Pos} {elts : List Expr} {kk : Nat} (hg : Gl X "enumerate") (hm : X.mg "enumerate" = none) (ha : PA X [e] ta) (hs : starEach [e] X.env = [(false, eval e X.env)] := by rfl) :
    PI X (.Tuple elts kk tpos) (.Call (.Name "enumerate" p) [e] [] pos) (iEnumS ta) := by
  refine ⟨fun pins s σ H R I h => ?_⟩
  refine Call_ (ld_blt I hg hm boot_enumerate (PyProof.Rows.callWith_type1 (thn (ha.run pos pins s σ H _ I h) fun us s1 ⟨vs, H1, I1, r1, z, ex, q⟩ => ?_) hs rfl))
  subst ex
  obtain ⟨u, rfl, ru⟩ := r1.one
  obtain ⟨t, rfl⟩ := ru
  refine call_enumerate_str fun h' he hit hsz hk => wpAny_pyIter_enum he ?_
  have I2 : Inv X pins σ H1 { s1 with heap := h' } := I1.kept (t' := s1.toks) hk
  have hfp : ∀ b ∈ [s1.heap.objs.size + 1, s1.heap.objs.size], FpOk X pins H1 b := fun b hb => by
    have hle : s1.heap.objs.size ≤ b := by
      rcases List.mem_cons.mp hb with z | hb
      · rw [z]; exact Nat.le_add_right _ _
      · rw [List.mem_singleton.mp hb]; exact Nat.le_refl _
    exact I1.fpOk hle (I1.hok.fresh hle)
  have hob : ∀ (ty : String) i h, (∃ old, IsEnum h (s1.heap.objs.size + 1) s1.heap.objs.size (i : Nat) old) ∧ h.IsStrIter s1.heap.objs.size ty z t i → ∀ b ∈ [s1.heap.objs.size + 1, s1.heap.objs.size], ∃ o, h.get? b = some o ∧ ∀ v, o.data ≠ .cell v := by
    rintro ty i h ⟨⟨old, h1⟩, ⟨o, h2, _, h3⟩⟩ b hb
    rcases List.mem_cons.mp hb with z | hb
    · rw [z]; exact ⟨_, h1, fun v q => nomatch q⟩
    · rw [List.mem_singleton.mp hb]; exact ⟨o, h2, fun v q => by rw [h3] at q; cases q⟩
  have hY : ∀ i (vals : Array Value), i < z.cps.size → (∃ t x, SignAt z i x ∧ vals = #[.int i t, x]) → Vals [.int (i : Nat), sgn z i] vals.toList := by
    rintro i vals hi ⟨t', x, ⟨c, u, h1, h2⟩, rfl⟩
    refine .cons ⟨_, rfl⟩ (.cons ⟨u, ?_⟩ .nil)
    rw [h2]
    have : z.cps.getD i 0 = c := by
      rw [Array.getD_eq_getD_getElem?, h1]; rfl
    rw [this]
  cases ha : z.cps.all (· < 128) with
  | true =>
    have ht : strIterType z = "str_ascii_iterator" := by unfold strIterType; rw [ha]; rfl
    rw [ht] at hit
    exact ⟨_, _, _, _, H1, rfl, I2, turn_T (fun A hA => WalksT.enumerateD (Draws.strAscii (A := A.in1) hA s1.heap.objs.size z t) (s1.heap.objs.size + 1) (Nat.succ_ne_self _) (by simp) (by simp)) (by simp)
      (fun A i s Q E st h => by obtain ⟨⟨_, he⟩, _⟩ := st; exact wpAny_pyIter_enum he h) (fun b hb => hb) (fun i h h' st k => by
        obtain ⟨⟨old, h1⟩, ⟨o, h2, r⟩⟩ := st
        exact ⟨⟨old, k _ (by simp) _ h1⟩, ⟨o, k _ (by simp) _ h2, r⟩⟩) (hob _) hY (fun i => by simp), ⟨⟨.none, he⟩, hit⟩, hfp, q⟩
  | false =>
    have ht : strIterType z = "str_iterator" := by unfold strIterType; rw [ha]; rfl
    rw [ht] at hit
    exact ⟨_, _, _, _, H1, rfl, I2, turn_T (fun A hA => WalksT.enumerateD (Draws.strWide (A := A.in1) hA s1.heap.objs.size z t) (s1.heap.objs.size + 1) (Nat.succ_ne_self _) (by simp) (by simp)) (by simp)
      (fun A i s Q E st h => by obtain ⟨⟨_, he⟩, _⟩ := st; exact wpAny_pyIter_enum he h) (fun b hb => hb) (fun i h h' st k => by
        obtain ⟨⟨old, h1⟩, ⟨o, h2, r⟩⟩ := st
        exact ⟨⟨old, k _ (by simp) _ h1⟩, ⟨o, k _ (by simp) _ h2, r⟩⟩) (hob _) hY (fun i => by simp), ⟨⟨.none, he⟩, hit⟩, hfp, q⟩

/-! ### list(text) -/
/-- the signs of a text, each a text -/
def sgns (z : Str) : List V := z.cps.toList.map fun c => V.str ⟨#[c]⟩
theorem sgns_len (z : Str) : (sgns z).length = z.cps.size := by simp [sgns]
theorem vals_of : ∀ {xs : List V} {us : List Value}, xs.length = us.length → (∀ (i : Nat) x u, xs[i]? = some x → us[i]? = some u → RelV x u) → Vals xs us
  | [], [], _, _ => .nil
  | x :: xs, u :: us, hl, h => .cons (h 0 x u rfl rfl) (vals_of (by simpa using hl) fun i y v h1 h2 => h (i + 1) y v (by simpa using h1) (by simpa using h2))
  | [], _ :: _, hl, _ => by simp at hl
  | _ :: _, [], hl, _ => by simp at hl
theorem vals_items {z : Str} {acc : Array Value} (h : ItemsOf (SignAt z) acc z.cps.size) : Vals (sgns z) acc.toList := by
  refine vals_of (by rw [sgns_len, Array.length_toList, h.1]) fun i x u h1 h2 => ?_
  obtain ⟨c, t, h3, h4⟩ := h.2 i u (by simpa using h2)
  have h5 : (sgns z)[i]? = some (V.str ⟨#[c]⟩) := by
    unfold sgns
    rw [List.getElem?_map, Array.getElem?_toList, h3]; rfl
  rw [h5] at h1
  cases h1
  exact ⟨t, h4⟩
def rListS0 : List V → Hp → VK → Prop := fun xs H Q => ∃ z : Str, xs = [.str z] ∧ z.cps.size ≤ sizeLine ∧ ∀ q, H q = none → Q (.ref q) (upd H q (.lst (sgns z)))
theorem call_listS {X : Cx} (hc : X.calm = true) : CallR X (.type "list") rListS0 := by
  intro pins s σ H xs us Q I rv h
  obtain ⟨z, rfl, hz, q⟩ := h
  obtain ⟨u, rfl, ru⟩ := rv.one
  obtain ⟨t, rfl⟩ := ru
  refine call_list_str (I.ok.hd hc) z t (fun h' tk acc' c' k e it => ?_) hz
  have hv := vals_items it
  exact ⟨.ref _, _, I.laid (t' := tk) (a := s.heap.objs.size) (o := .lst (sgns z)) k (Nat.le_refl _) ⟨by rw [sgns_len]; exact hz, acc'.toList, c', hv, e⟩, rfl, q _ (I.hok.fresh (Nat.le_refl _))⟩

/-! ### iter(text); an iterator over a text that a def hands back -/
/-- an iterator over the text z, i signs taken (z of ASCII signs) -/
def strIt (it : Addr) (z : Str) (i : Nat) : HO := .ext fun h => ∃ t, h.IsStrIter it "str_ascii_iterator" z t i
theorem strIt_ok {P : Program} {w : World} {H : Hp} {h : Heap} {it : Addr} {z : Str} {t : Tok} {i : Nat} (hit : h.IsStrIter it "str_ascii_iterator" z t i) : ObjOk P w H h it (strIt it z i) := by
  obtain ⟨o, ho, r⟩ := hit
  exact ⟨⟨t, o, ho, r⟩, ⟨o, ho⟩, fun h1 h2 x k => by
    obtain ⟨t2, o2, e2, r2⟩ := x
    exact ⟨t2, o2, k _ e2, r2⟩⟩
theorem strIt_at {P : Program} {w : World} {H : Hp} {h : Heap} {it : Addr} {z : Str} {i : Nat} (hok : HOk P w H h) (e : H it = some (strIt it z i)) : ∃ t, h.IsStrIter it "str_ascii_iterator" z t i := by
  have x : ObjOk P w H h it (.ext fun h => ∃ t, h.IsStrIter it "str_ascii_iterator" z t i) := hok it _ e
  exact x.1
def rIterS : List V → Hp → VK → Prop := fun xs H Q => ∃ z : Str, xs = [.str z] ∧ z.cps.all (· < 128) = true ∧ ∀ it, H it = none → Q (.ref it) (upd H it (strIt it z 0))
theorem call_iterS {X : Cx} : CallR X (.builtin "iter") rIterS := by
  intro pins s σ H xs us Q I rv h
  obtain ⟨z, rfl, ha, q⟩ := h
  obtain ⟨u, rfl, ru⟩ := rv.one
  obtain ⟨t, rfl⟩ := ru
  refine Calls.call_function_entry (by decide +kernel) (by decide +kernel) PySem.W.kdk_entry_iter (PySem.W.kdk_args_iter _) ?_
  unfold Builtin.«iter»
  refine wpAny_bind (m := someArgs "iter" 1 2 _) (wpAny_of_eq (a := [Value.str z t]) (by first | rfl | kernel_rfl!) ?_)
  show wpAny _ _ (pyIter (.str z t) >>= _) _ _ _
  refine wpAny_bind (wpAny_pyIter_ascii ha ?_)
  exact wpAny_pure ⟨_, rfl, .ref _, _, I.laid (t' := s.toks) (a := s.heap.objs.size) (o := strIt s.heap.objs.size z 0) (fun b o e => Heap.get?_push_of_some _ e) (Nat.le_refl _) (strIt_ok ⟨_, Heap.get?_push_size _ rfl, rfl, rfl⟩), rfl, q _ (I.hok.fresh (Nat.le_refl _))⟩
end MC
set_option maxHeartbeats 4000000
/-! MB5: list(o), o of a class with __len__ and an __iter__ that hands back iter(text) -/
namespace PySem
open Sem (wp)
section
variable {prog : Program} {w : World} {A : Around} {E : Value → Shared → Prop} {s : Shared}
/-- the last turn of an iterator over a text: the iterator's object is there behind it -/
theorem mc_ascii_end {it : Addr} {x : Str} {t : Tok} {i : Nat} {Q : Option Value → Shared → Prop} (hh : A.handled = none)
    (hit : s.heap.IsStrIter it "str_ascii_iterator" x t i) (hx : x.cps[i]? = none)
    (hQ : ∀ h', Heap.ExtBut it s.heap h' → (∃ o, h'.get? it = some o) → Q none { s with heap := h' }) : wpAny (model prog w) A (pyNext (.ref it)) Q E s := by
  obtain ⟨o, ho, hc, hd⟩ := id hit
  unfold pyNext
  refine wpAny_bind (wpAny_attempt (wpAny_callSpecial?_slot (name := Str.ofString "__next__") hit.typeIs F.slot_str_ascii_iterator_next
    (wpAny_call_entry F.slot_str_ascii_iterator_next hit.typeIs F.entry_str_ascii_iterator_next ?_ (F.args_str_ascii_iterator_next_1 _))))
  show wpAny _ _ (field (.ref it) 0 >>= _) _ _ s
  refine wpAny_bind (wpAny_field ho hd (x := .str x t) rfl ?_)
  show wpAny _ _ (field (.ref it) 1 >>= _) _ _ s
  refine wpAny_bind (wpAny_field ho hd (x := .int i 0) rfl ?_)
  simp only [Int.toNat_natCast, hx]
  refine wpAny_bind (wpAny_rule (wpAny_bind (wpAny_setField ho hd (by simp) (wpAny_bind (wpAny_letGo ?_)))))
  show wpAny _ _ (newExc (.type "StopIteration") [] >>= _) _ _ _
  refine wpAny_bind ?_
  simp only [newExc, newTuple]
  refine wpAny_bind (wpAny_newObj_type ?_ (by size_fits))
  refine wpAny_bind (m := firstArgMember _ _) (wpAny_of_eq (a := Value.none) (by first | rfl | (simp only [firstArgMember]; rfl)) ?_)
  refine wpAny_newObj_type ?_ (by size_fits)
  simp only [raiseNew]
  refine wpAny_bind (wpAny_handled ?_)
  rw [show A.in1.handled = none from hh]
  refine wpAny_bind (wpAny_pure (wpAny_throw ?_))
  refine wpAny_bind (wpAny_isInstance (T := "StopIteration") (b := true) ⟨_, Heap.get?_push_size _ rfl, rfl⟩ isSubtype_stop ?_)
  exact wpAny_pure (hQ _ (((Heap.SameBut.update ..).extBut.push _).push _) ⟨_, Heap.get?_push_of_some _ (Heap.get?_push_of_some _ (Heap.get?_update_self _ ho (Obj.isFreed_of_fields (Obj.data_mapFields hd _))))⟩)
end
end PySem
namespace MC
open PySem PySem.Spec PyProof.Rows L2
section
variable {X : Cx} {pins : List (Addr × Obj)} {σ : L2.St} {A1 : Around}
/-- the list at q is filled off the iterator at it -/
theorem fill_loop {q it : Addr} {z : Str} {Rs : Result → Shared → Prop} {H0 : Hp} (hh : A1.in1.handled = none) (hz : z.cps.size ≤ sizeLine) (hne : q ≠ it)
    (hdone : ∀ H s, Inv X pins σ H s → (∀ b, b ≠ q → b ≠ it → H b = H0 b) → H q = some (.lst (sgns z)) → Rs (.ok (.ret .none)) s) :
    ∀ (m i : Nat) (H : Hp) (s : Shared), z.cps.size - i = m → i ≤ z.cps.size → Inv X pins σ H s → (∀ b, b ≠ q → b ≠ it → H b = H0 b) → H q = some (.lst ((sgns z).take i)) → H it = some (strIt it z i) →
      codeAny (model X.prog X.w) A1 (.builtin "list.extend.loop" ⟨[.ref q, .ref it, .none], []⟩) Rs s := by
  intro m
  induction m with
  | zero =>
    intro i H s hm hi I ho hq hit
    have e : i = z.cps.size := by omega
    subst e
    obtain ⟨t, ht⟩ := strIt_at I.hok hit
    refine codeAny_builtin PySem.F.entry_extend_loop ?_
    rw [Around.under_plainId PySem.F.plain_extend_loop _]
    show wpAny _ A1.in1 (pyNext (.ref it) >>= _) _ _ s
    refine wpAny_bind (mc_ascii_end hh ht (by simp) fun h' he hx => ?_)
    have I1 : Inv X pins σ (upd H it (.ext fun _ => True)) { s with heap := h' } := I.write (t' := s.toks) (x := it) (e := it) (by rw [hit]; exact True.intro) (.inl rfl) (fun b u hb e => he b u hb e) hx ⟨True.intro, hx, fun _ _ _ _ => True.intro⟩
    refine wpAny_pure (hdone _ _ I1 (fun b h1 h2 => by rw [upd_ne h2]; exact ho b h1 h2) ?_)
    rw [upd_ne hne, hq, List.take_of_length_le (by rw [sgns_len]; exact Nat.le_refl _)]
  | succ m ih =>
    intro i H s hm hi I ho hq hit
    have hlt : i < z.cps.size := by omega
    obtain ⟨t, ht⟩ := strIt_at I.hok hit
    refine codeAny_builtin PySem.F.entry_extend_loop ?_
    rw [Around.under_plainId PySem.F.plain_extend_loop _]
    show wpAny _ A1.in1 (pyNext (.ref it) >>= _) _ _ s
    refine wpAny_bind (wpAny_pyNext_ascii_item ht (c := z.cps[i]) (by simp [hlt]) fun h' hit' sb => ?_)
    have hx : ∃ o, h'.get? it = some o := by obtain ⟨o, e, _⟩ := hit'; exact ⟨o, e⟩
    have I1 : Inv X pins σ (upd H it (strIt it z (i + 1))) { s with heap := h', toks := s.toks + 1 } := I.write (t' := s.toks + 1) (x := it) (e := it) (by rw [hit]; exact True.intro) (.inl rfl) (fun b u hb e => (sb.2 b hb).trans e) hx (strIt_ok hit')
    show wpAny _ A1.in1 (updateSeq q (·.push (.str ⟨#[z.cps[i]]⟩ s.toks)) >>= _) _ _ _
    have hq1 : upd H it (strIt it z (i + 1)) q = some (.lst ((sgns z).take i)) := by rw [upd_ne hne]; exact hq
    obtain ⟨hz1, its, k, r2, hl, e⟩ := I1.lstM hq1
    have hlen : its.length = i := by rw [← hl, List.length_take, sgns_len]; omega
    refine wpAny_bind (wpAny_updateSeq e rfl (wpAny_pure ⟨plainId_quiet PySem.F.plain_extend_loop _, ?_⟩) (by rw [List.size_toArray]; omega) (by show (its.toArray.push _).size ≤ sizeLine + 1; rw [Array.size_push, List.size_toArray]; omega))
    have et : (sgns z).take (i + 1) = (sgns z).take i ++ [V.str ⟨#[z.cps[i]]⟩] := by
      rw [List.take_add_one]
      congr 1
      simp [sgns, hlt]
    refine ih (i + 1) _ _ (by omega) hlt (I1.lset (its' := its ++ [.str ⟨#[z.cps[i]]⟩ s.toks]) (t' := s.toks + 1) (ys := (sgns z).take (i + 1)) hq1 e (by simp) (by rw [et]; exact r2.append (.cons ⟨_, rfl⟩ .nil)) (by rw [List.length_take]; omega)) (fun b h1 h2 => ?_) upd_same ?_
    · rw [upd_ne h1, upd_ne h2]; exact ho b h1 h2
    · rw [upd_ne (Ne.symm hne)]; exact upd_same

/-- list(o): a new list q; __iter__ hands back an iterator over z; __len__ is asked; then q is filled -/
def rListO (C : Addr) (spI spL : Sp) : List V → Hp → VK → Prop := fun xs H Q => ∃ a dx fs, xs = [.ref a] ∧ H a = some (.ins C dx fs) ∧ ∀ q, H q = none →
  spI [.ref a] (upd H q (.lst [])) (fun v H1 => ∃ it z, v = .ref it ∧ z.cps.size ≤ sizeLine ∧ H1 q = some (.lst []) ∧ H1 it = some (strIt it z 0) ∧ (∃ dx fs, H1 a = some (.ins C dx fs)) ∧
    spL [.ref a] H1 (fun v H2 => ∃ n : Int, v = .int n ∧ (0 ≤ n ∧ n ≤ sizeLine) ∧ H2 q = some (.lst []) ∧ H2 it = some (strIt it z 0) ∧ ∀ H3, (∀ b, b ≠ q → b ≠ it → H3 b = H2 b) → H3 q = some (.lst (sgns z)) → Q (.ref q) H3) XE0) XE0
variable {C fi fl : Addr} {fdI fdL : FuncData} {psI psL : List Str} {spI spL : Sp} {kI kL k : Nat}
theorem call_listO (FI : FnOk X.prog X.w X.K X.mg X.base (L2.CX X.prog X.w) k fi fdI psI spI) (bI : Binds X.K fdI psI []) (SI : Spec X.K C "__iter__" fi)
    (FL : FnOk X.prog X.w X.K X.mg X.base (L2.CX X.prog X.w) k fl fdL psL spL) (bL : Binds X.K fdL psL []) (SL : Spec X.K C "__len__" fl) (hc : X.calm = true) (hr : Room (k + 3) X.A) : CallR X (.type "list") (rListO C spI spL) := by
  intro pins s σ H xs us Q I rv h
  obtain ⟨a, dx, fs, rfl, ha, h⟩ := h
  obtain ⟨u, rfl, ru⟩ := rv.one
  cases ru
  refine callType_codes (Q₁ := fun obj s₁ => obj = .ref s.heap.objs.size ∧ s₁ = { s with heap := s.heap.push { cls := .type "list", data := .seq #[] } }) PySem.F.called_list (PySem.F.typeCall_list_1 _) PySem.F.entry_list_init
    (code_list_new _ ⟨rfl, rfl⟩) fun obj s₁ h₁ => ?_
  obtain ⟨rfl, rfl⟩ := h₁
  have hS : (s.heap.push { cls := .type "list", data := .seq #[] }).get? s.heap.objs.size = some { cls := .type "list", data := .seq #[] } := Heap.get?_push_size _ rfl
  refine ⟨⟨_, hS, rfl⟩, PySem.F.args_list_init_2 _ _, ?_⟩
  have fr : H s.heap.objs.size = none := I.hok.fresh (Nat.le_refl _)
  generalize hqd : s.heap.objs.size = q at *
  have hq := h q fr
  have I1 : Inv X pins σ (upd H q (.lst [])) { s with heap := s.heap.push { cls := .type "list", data := .seq #[] } } := by rw [← hqd]; exact I.lnew (its := []) (t' := s.toks) .nil (Nat.zero_le _)
  show wpAny _ _ (do let old ← Builtin.List.listItems (.ref q); Builtin.List.listUpdate (.ref q) (fun _ => #[]); letGo old.toList.reverse; Builtin.List.listExtendWith (.ref q) (.ref a) .none) _ _ _
  refine wpAny_bind ?_
  unfold Builtin.List.listItems
  refine wpAny_bind (wpAny_seqItems hS rfl (wpAny_pure ?_))
  show wpAny _ _ (updateSeq q (fun _ => #[]) >>= fun _ => letGo (#[] : Array Value).toList.reverse >>= fun _ => Builtin.List.listExtendWith (.ref q) (.ref a) .none) _ _ _
  refine wpAny_bind (wpAny_updateSeq hS rfl ?_)
  have I2 := I1.lset (f := fun _ => #[]) (its := []) (its' := []) (ys := []) (t' := s.toks) upd_same hS rfl .nil (Nat.zero_le _)
  rw [upd_upd] at I2
  refine wpAny_bind (wpAny_letGo ?_)
  have hqa : q ≠ a := Ne.symm (ne_of_none ha fr)
  have ha2 : upd H q (.lst []) a = some (.ins C dx fs) := by rw [upd_ne (Ne.symm hqa)]; exact ha
  obtain ⟨od, J⟩ := inst_of I2 ha2
  obtain ⟨m0, hF⟩ := I2.fr
  unfold Builtin.List.listExtendWith
  refine wpAny_bind (J.type.here ?_)
  have h1 : Builtin.List.listSameRef (.ref q) (.ref a) = false := by simp [Builtin.List.listSameRef, hqa]
  have h2 : (Value.ref C == Value.type "list") = false := rfl
  have h3 : (Value.ref C == Value.type "tuple") = false := rfl
  simp only [h1, h2, h3, Bool.or_false, Bool.false_eq_true, if_false]
  refine wpAny_bind (PySem.W.owit_iter hF I2.ok.mod.kin J SI.at_ SI.fn (thn (run_at (vs := [.ref a]) FI (hr.in1.in1.mono (by omega)) rfl bI pass_none I2 (.cons rfl .nil) hq) fun v s3 hv => ?_))
  obtain ⟨x, H1, I3, rx, it, z, ex, hz, hq1, hit, ⟨dx2, fs2, ha3⟩, hsL⟩ := hv
  subst ex
  cases rx
  obtain ⟨t, ht⟩ := strIt_at I3.hok hit
  unfold PySem.W.OwitIt
  refine wpAny_specialOf ht.typeIs PySem.F.slot_str_ascii_iterator_next.lookup ?_
  refine wpAny_bind (wpAny_holding ?_)
  obtain ⟨od3, J3⟩ := inst_of I3 ha3
  obtain ⟨m3, hF3⟩ := I3.fr
  have hint : wpAny (model X.prog X.w) X.A.in1.in1 (Builtin.List.listLengthHint (.ref a)) (fun r s4 => ∃ H2, Inv X pins σ H2 s4 ∧ H2 q = some (.lst []) ∧ H2 it = some (strIt it z 0) ∧ ∀ H3, (∀ b, b ≠ q → b ≠ it → H3 b = H2 b) → H3 q = some (.lst (sgns z)) → Q (.ref q) H3) X.xe s3 := by
    unfold Builtin.List.listLengthHint
    refine wpAny_bind (wpAny_bind (J3.type.here ((PySem.W.looks_findIn I3.kIn SL.at_).here ?_)))
    refine PySem.W.KFB.if_not rfl ?_
    refine PySem.W.KFB.if_so rfl ?_
    refine wpAny_bind (wpAny_rule ?_)
    refine wpAny_bind (wpAny_attempt (PySem.W.len_K hF3 I3.ok.mod.kin J3 SL.at_ SL.fn (thn (run_at0 (vs := [.ref a]) FL hr.in1.in1.in1 rfl bL I3 (.cons rfl .nil) hsL) fun v s4 hv => ?_)))
    obtain ⟨x, H2, I4, rx, n, ex, hn, hq2, hit2, k2⟩ := hv
    subst ex
    obtain ⟨t4, rfl⟩ := rx
    refine ⟨⟨hn.1, by have := hn.2; rw [sizeLine_eq] at this; omega⟩, ?_⟩
    refine wpAny_bind (wpAny_pure ?_)
    have ht4 : Builtin.List.listTooLong n.toNat = false := by
      unfold Builtin.List.listTooLong
      exact decide_eq_false (by have := hn.2; omega)
    show wpAny _ _ (if Builtin.List.listTooLong n.toNat = true then _ else pure (n != 0)) _ _ _
    rw [if_neg (by rw [ht4]; decide)]
    exact wpAny_pure ⟨H2, I4.tok _, hq2, hit2, k2⟩
  refine thn hint fun r s4 ⟨H2, I4, hq2, hit2, k2⟩ => ?_
  have hqi : q ≠ it := ne_of hq2 hit2 (fun z => by
    have z' : HO.lst [] = HO.ext _ := z
    cases z')
  have go : ∀ s5, Inv X pins σ H2 s5 → wpAny (model X.prog X.w) X.A.in1.in1 (again (.builtin "list.extend.loop" ⟨[.ref q, .ref it, .none], []⟩) : Sem Fin) (fun fin s' => match fin with | .done f => wants (fun r s₂ => r = Value.none ∧ EP X pins σ Q (.ref q) s₂) X.xe (.ok f) s' | .again c' => c'.quiet = true ∧ codeAny (model X.prog X.w) X.A.in1 c' (wants (fun r s₂ => r = Value.none ∧ EP X pins σ Q (.ref q) s₂) X.xe) s')
      (fun e s' => wants (fun r s₂ => r = Value.none ∧ EP X pins σ Q (.ref q) s₂) X.xe (.error e) s') s5 := fun s5 I5 =>
    wpAny_pure ⟨plainId_quiet PySem.F.plain_extend_loop _, fill_loop (A1 := X.A.in1) (H0 := H2) (I.ok.hd hc) hz hqi (fun H3 s' I' ho hl => ⟨rfl, .ref q, H3, I', rfl, k2 H3 ho hl⟩) z.cps.size 0 H2 s5 (by omega) (Nat.zero_le _) I5 (fun _ _ _ => rfl) (by simpa using hq2) hit2⟩
  refine wpAny_ite_split (fun _ => ?_) (fun _ => go s4 I4)
  refine wpAny_bind (wpAny_rule ?_)
  refine wpAny_bind ?_
  show wpAny _ _ (updateSeq q (·.push .none) >>= fun _ => updateSeq q (·.pop)) _ _ _
  obtain ⟨z4, its4, k4, r4, hl4, e4⟩ := I4.lstM hq2
  cases r4
  refine wpAny_bind (wpAny_updateSeq e4 rfl ?_)
  have I5 := I4.lset (f := (·.push Value.none)) (its' := [Value.none]) (ys := [.non]) (t' := s4.toks) hq2 e4 (by simp) (.cons rfl .nil) (by rw [List.length_singleton, sizeLine_eq]; decide)
  obtain ⟨z5, its5, k5, r5, hl5, e5⟩ := I5.lstM upd_same
  obtain ⟨u5, rfl, ru5⟩ := r5.one
  refine wpAny_updateSeq e5 rfl ?_ (by show 1 ≤ sizeLine; rw [sizeLine_eq]; decide) (by show 0 ≤ sizeLine + 1; exact Nat.zero_le _)
  have I6 := I5.lset (f := (·.pop)) (its := [u5]) (its' := []) (ys := []) (t' := s4.toks) upd_same e5 (by rfl) .nil (Nat.zero_le _)
  rw [upd_upd] at I6
  have hH : upd H2 q (.lst []) = H2 := by
    funext b
    by_cases hb : b = q
    · rw [hb, upd_same, hq2]
    · rw [upd_ne hb]
  rw [hH] at I6
  exact go _ I6
end
end MC
set_option maxHeartbeats 4000000
/-! MB6: operators by any kind of value; count, min, text * n, text[::-1]; calls that may raise, at the slots -/
namespace MC
open PySem PySem.Spec PyProof.Rows L2

/-! ### + of ints, texts, lists -/
def rAddU : R2 := fun x y H Q => (rI0 (fun i j => .int (i + j)) x y H Q ∨ (∃ i j, x = .str i ∧ y = .str j ∧ i.length + j.length ≤ sizeLine ∧ Q (.str (i ++ j)) H)) ∨ rCat x y H Q
theorem op_addU {X : Cx} : OpR X (binaryOp .Add) rAddU := (op_add.or op_add_str).or op_cat
/-! ### * of ints, of a text and an int -/
def repS (z : Str) (n : Int) : Str := if n < 1 then Str.empty else ⟨(List.replicate n.toNat z.cps.toList).flatten.toArray⟩
theorem foldl_app : ∀ (l : List (Array Nat)) (a : Array Nat), l.foldl (· ++ ·) a = a ++ (l.map Array.toList).flatten.toArray
  | [], a => by simp
  | x :: r, a => by
    rw [List.foldl_cons, foldl_app r, List.map_cons, List.flatten_cons]
    apply Array.ext'
    simp
def rMulS : R2 := fun x y H Q => ∃ z n, x = .str z ∧ y = .int n ∧ n < 1000 ∧ -1000 < n ∧ z.length ≤ 10000 ∧ Q (.str (repS z n)) H
theorem op_mulS {X : Cx} : OpR X (binaryOp .Mult) rMulS := by
  intro pins s σ H x y v u Q I rx ry h
  obtain ⟨z, n, rfl, rfl, h1, h0, hz, q⟩ := h
  obtain ⟨t, rfl⟩ := rx
  obtain ⟨t', rfl⟩ := ry
  have hr : (decide (n < -(2 ^ 63 : Int)) || decide (n ≥ 2 ^ 63)) = false := by
    have e1 : ¬ n < -(2 ^ 63 : Int) := by omega
    have e2 : ¬ n ≥ 2 ^ 63 := by omega
    rw [decide_eq_false e1, decide_eq_false e2]; rfl
  have hlen : ¬ n < 1 → z.length * n.toNat ≤ 10000 * 1000 := fun _ => Nat.mul_le_mul hz (by omega)
  refine P.mul_str hr (fun hn _ => ?_) (fun hn _ => ?_) ?_
  · have hpos : 0 < n := by omega
    have e3 : ((2 : Int) ^ 63 - 1) / 1000 ≤ (2 ^ 63 - 1) / n := by
      rw [Int.le_ediv_iff_mul_le hpos]
      have : (2 ^ 63 - 1) / 1000 * n ≤ (2 ^ 63 - 1) / 1000 * 1000 := Int.mul_le_mul_of_nonneg_left (by omega) (by decide)
      have e4 : ((2 : Int) ^ 63 - 1) / 1000 * 1000 ≤ 2 ^ 63 - 1 := by decide
      omega
    have e5 : (10000 : Int) ≤ (2 ^ 63 - 1) / 1000 := by decide
    omega
  · have := hlen hn
    first
    | exact decide_eq_false (by rw [sizeLine_eq]; omega)
    | (unfold tooLong; exact decide_eq_false (by rw [sizeLine_eq]; omega))
  · by_cases hn : n < 1
    · rw [if_pos hn]
      unfold repS at q
      rw [if_pos hn] at q
      exact ⟨by decide, .str _, H, I.tok _, ⟨_, rfl⟩, q⟩
    · rw [if_neg hn]
      unfold repS at q
      rw [if_neg hn] at q
      by_cases c : (n == 1 || z.length == 0) = true
      · rw [if_pos c]
        have e : (⟨(List.replicate n.toNat z.cps.toList).flatten.toArray⟩ : Str) = z := by
          rw [Bool.or_eq_true, beq_iff_eq, beq_iff_eq] at c
          rcases c with c | c
          · subst c
            show (⟨(List.replicate 1 z.cps.toList).flatten.toArray⟩ : Str) = z
            simp
          · have e0 : z.cps = #[] := Array.eq_empty_of_size_eq_zero c
            cases z with
            | mk cps =>
              have e0 : cps = #[] := e0
              subst e0
              simp
        rw [e] at q
        exact ⟨.str z, H, I, ⟨t, rfl⟩, q⟩
      · rw [if_neg c, foldl_app]
        have e : (#[] ++ ((List.replicate n.toNat z.cps).map Array.toList).flatten.toArray : Array Nat) = (List.replicate n.toNat z.cps.toList).flatten.toArray := by simp
        rw [e]
        refine ⟨?_, .str _, H, I.tok _, ⟨_, rfl⟩, q⟩
        have h5 : (⟨(List.replicate n.toNat z.cps.toList).flatten.toArray⟩ : Str).length = n.toNat * z.length := by
          show ((List.replicate n.toNat z.cps.toList).flatten.toArray).size = _
          rw [List.size_toArray, List.length_flatten, List.map_replicate, List.sum_replicate_nat, Array.length_toList]
          rfl
        rw [h5, Nat.mul_comm, sizeLine_eq]
        have := hlen hn
        omega
def rMulU : R2 := fun x y H Q => rI CMul (fun i j => .int (i * j)) x y H Q ∨ rMulS x y H Q
theorem op_mulU {X : Cx} : OpR X (binaryOp .Mult) rMulU := op_mul.or op_mulS
/-! ### == of flat values, of data -/
def rEqU (K : PySem.W.Frag) : R2 := fun x y H Q => rEq x y H Q ∨ rEqD K x y H Q
def rNeU (K : PySem.W.Frag) : R2 := fun x y H Q => rNe x y H Q ∨ rNeD K x y H Q
theorem op_eqU {X : Cx} {k : Nat} (hr : Room k X.A) : OpR X (compareOp .Eq) (rEqU X.K) := op_eq.or (op_eqD (by have := hr.un; omega))
theorem op_neU {X : Cx} {k : Nat} (hr : Room k X.A) : OpR X (compareOp .NotEq) (rNeU X.K) := op_ne.or (op_neD (by have := hr.un; omega))
/-! ### <, <= of ints, of texts -/
def rLtU : R2 := fun x y H Q => rI0 (fun i j => .bl (decide (i < j))) x y H Q ∨ ∃ i j, x = .str i ∧ y = .str j ∧ Q (.bl (decide (i.cps.toList < j.cps.toList))) H
def rLeU : R2 := fun x y H Q => rI0 (fun i j => .bl (decide (i ≤ j))) x y H Q ∨ ∃ i j, x = .str i ∧ y = .str j ∧ Q (.bl (!decide (j.cps.toList < i.cps.toList))) H
theorem op_ltU {X : Cx} : OpR X (compareOp .Lt) rLtU := op_lt.or op_lt_str
theorem op_leU {X : Cx} : OpR X (compareOp .LtE) rLeU := op_le.or op_le_str
/-! ### slices of texts, lists -/
def rSlU (K : PySem.W.Frag) : V → Option Int → Option Int → Hp → VK → Prop := fun x lo hi H Q => rSlS x lo hi H Q ∨ rSlL K x lo hi H Q
theorem sl_U {X : Cx} : SlR X (rSlU X.K) := sl_str.or sl_list
/-! ### text[::-1] -/
def revS (z : Str) : Str := ⟨z.cps.toList.reverse.toArray⟩
theorem rev_step (x : Str) (u : Tok) : Txt.sliceBy x none none (-1, u) = revS x := by
  have h := step_rev_list x u
  have e : (Txt.sliceBy x none none (-1, u)).cps.toList = x.cps.toList.reverse := by
    rw [h]
    apply List.ext_getElem
    · simp [Str.length]
    · intro i h1 h2
      have hi : i < x.cps.size := by simpa [Str.length] using h1
      rw [List.getElem_map, List.getElem_range, List.getElem_reverse]
      have : x.length - 1 - i < x.cps.size := by show x.cps.size - 1 - i < _; omega
      rw [Array.getD_eq_getD_getElem?, Array.getElem?_eq_getElem this]
      simp [Str.length]
  have e2 : (Txt.sliceBy x none none (-1, u)).cps = x.cps.toList.reverse.toArray := by rw [← e]
  cases hh : Txt.sliceBy x none none (-1, u) with
  | mk c =>
    rw [hh] at e2
    show (⟨c⟩ : Str) = ⟨_⟩
    rw [show c = _ from e2]
def tRevS (te : TE) : TE := fun σ H Q => te σ H fun x H1 => ∃ z : Str, x = .str z ∧ z.length ≤ sizeLine ∧ Q (.str (revS z)) H1
theorem pe_revS {X : Cx} {e : Expr} {te : TE} {k : Nat} {p1 p2 p3 pos : Pos} (he : PE X e te) : PE X (.Subscript e (.Slice none none (some (.UnaryOp .USub (.Constant (.int 1) k p1) p2)) p3) pos) (tRevS te) := by
  refine ⟨fun pins s σ H Q I h => ?_⟩
  refine Subscript_ (thn (he.run pins s σ H _ I h) fun v s1 ⟨x, H1, I1, r1, q1⟩ => ?_)
  obtain ⟨z, ex, hz, q⟩ := q1
  subst ex
  obtain ⟨t, rfl⟩ := r1
  have hst : PO X (some (.UnaryOp .USub (.Constant (.int 1) k p1) p2)) (tPart (tUn (rU fun i => .int (-i)) (tC (.int 1)))) := po_some (pe_un un_neg pe_int)
  refine wpAny_Slice (thn (po_none.run pins s1 σ H1 (fun o H2 => o = none ∧ H2 = H1) I1 ⟨rfl, rfl⟩) fun vl s2 ⟨l, H2, I2, pl, el, e2⟩ => ?_)
  subst el e2
  refine thn (po_none.run pins s2 σ H2 (fun o H3 => o = none ∧ H3 = H2) I2 ⟨rfl, rfl⟩) fun vu s3 ⟨u, H3, I3, pu, eu, e3⟩ => ?_
  subst eu e3
  refine thn (hst.run pins s3 σ H3 (fun o H4 => o = some (-1) ∧ H4 = H3) I3 ⟨1, rfl, -1, rfl, rfl, rfl⟩) fun vs s4 ⟨o, H4, I4, ps, eo, e4⟩ => ?_
  subst eo e4
  have I5 : Inv X pins σ H4 { s4 with heap := s4.heap.push { cls := .type "slice", data := .fields #[vl, vu, vs] } } := I4.kept (t' := s4.toks) fun b ob q => Heap.get?_push_of_some _ q
  show wpAny (model X.prog X.w) X.A (subscriptTail e (.Slice none none (some (.UnaryOp .USub (.Constant (.int 1) k p1) p2)) p3) (.str z t) (.ref s4.heap.objs.size)) (EP X pins σ Q) X.xe { s4 with heap := s4.heap.push { cls := .type "slice", data := .fields #[vl, vu, vs] } }
  cases pl
  cases pu
  cases ps with
  | int i tt =>
  refine tail_any (ops := [.ref s4.heap.objs.size, .str z t]) (typeIs_str _ z t) (PySem.F.slot_str_getitem.lookup) ?_ (by with_unfolding_all rfl)
  refine wpAny_getItem_str_slice (l := none) (u := none) (st := some (-1, tt)) ⟨_, Heap.get?_push_size _ rfl, rfl, rfl⟩ (by rfl) ?_
  have e9 : sliceMade z t none none (some (-1, tt)) = .str (revS z) := by
    rw [← rev_step z tt]
    unfold Txt.sliceBy sliceMade
    have h1 : (((((some ((-1 : Int), tt)).map (·.1)).getD 1 == 1) && ((slicePicked z none none (some (-1, tt))).length == z.length))) = false := rfl
    rw [if_neg (by rw [h1]; exact Bool.false_ne_true), if_neg (by rw [h1]; exact Bool.false_ne_true)]
  rw [e9]
  refine ⟨?_, .str _, H4, I5.tok _, ⟨_, rfl⟩, q⟩
  show (z.cps.toList.reverse.toArray).size ≤ sizeLine
  rw [List.size_toArray, List.length_reverse, Array.length_toList]
  exact hz
/-! ### list.count of flat items -/
theorem countP_eqU {x : V} : ∀ {xs : List V} {us : List Value}, Vals xs us → xs.all flatV = true → us.countP (eqU x) = xs.countP fun y => eqV y x
  | _, _, .nil, _ => rfl
  | y :: xs, u :: us, .cons r t, f => by
    rw [List.all_cons, Bool.and_eq_true] at f
    rw [List.countP_cons, List.countP_cons, eqU_of r f.1, countP_eqU t f.2]
def rCntF (K : PySem.W.Frag) : V → List V → Hp → VK → Prop := fun x xs H Q => ∃ (p : Addr) (ys : List V) (y : V), x = .ref p ∧ xs = [y] ∧ SqL K H p ys ∧ flatV y = true ∧ ys.all flatV = true ∧ Q (.int ((ys.countP fun z => eqV z y : Nat) : Int)) H
theorem mt_cntF {X : Cx} : MtR X "list.count" (rCntF X.K) := by
  intro pins s σ H x xs v us Q I rx rxs h
  obtain ⟨p, ys, y, rfl, rfl, hs, fy, fs, q⟩ := h
  cases rx
  obtain ⟨u, rfl, ru⟩ := rxs.one
  obtain ⟨its, rv, ⟨⟨cls, dd, data, sl⟩, n, ho, hc, hdn, hd⟩, hlen⟩ := I.list hs
  simp only at hc hd
  subst hc hd
  refine call_meets PySem.F.slot_list_count ⟨_, ho, rfl⟩ PySem.F.entry_list_count (PySem.F.args_list_count_2 _ _)
    (SeqAt.list_countAt p its.toArray n dd sl u (eqU y)) ⟨ho, fun w hw => mem_eqAt ru fy rv fs w (by simpa using hw), ?_⟩
  refine ⟨.int ((ys.countP fun z => eqV z y : Nat) : Int), H, I.tok _, ⟨s.toks, ?_⟩, q⟩
  show Value.int ((its.toArray.toList.countP (eqU y) : Nat) : Int) s.toks = _
  rw [List.toList_toArray, countP_eqU rv fs]
/-! ### min of a list of texts -/
def minS : List Str → Str
  | [] => Str.empty
  | z :: r => r.foldl (fun b x => if x.cps.toList < b.cps.toList then x else b) z
def btS (zs : List Str) (i j : Nat) : Bool := decide ((zs.getD i Str.empty).cps.toList < (zs.getD j Str.empty).cps.toList)
theorem argBest_S (z : Str) (r : List Str) : ∀ k, k ≤ r.length → (z :: r).getD (argBest (btS (z :: r)) k) Str.empty = (r.take k).foldl (fun b x => if x.cps.toList < b.cps.toList then x else b) z
  | 0, _ => by simp [argBest]
  | k + 1, hk => by
    have ih := argBest_S z r k (by omega)
    have e : r.take (k + 1) = r.take k ++ [r.getD k Str.empty] := by
      rw [List.take_add_one]
      congr 1
      simp [List.getElem?_eq_getElem (show k < r.length by omega)]
    rw [e, List.foldl_append, ← ih]
    show (z :: r).getD (argBest (btS (z :: r)) (k + 1)) Str.empty = (if (r.getD k Str.empty).cps.toList < _ then _ else _)
    have e2 : (z :: r).getD (k + 1) Str.empty = r.getD k Str.empty := by simp
    have e3 : argBest (btS (z :: r)) (k + 1) = if btS (z :: r) (k + 1) (argBest (btS (z :: r)) k) then k + 1 else argBest (btS (z :: r)) k := rfl
    rw [e3]
    by_cases c : (r.getD k Str.empty).cps.toList < ((z :: r).getD (argBest (btS (z :: r)) k) Str.empty).cps.toList
    · rw [if_pos c]
      have : btS (z :: r) (k + 1) (argBest (btS (z :: r)) k) = true := by
        unfold btS
        rw [e2]
        exact decide_eq_true c
      rw [if_pos this, e2]
    · rw [if_neg c]
      have : btS (z :: r) (k + 1) (argBest (btS (z :: r)) k) = false := by
        unfold btS
        rw [e2]
        exact decide_eq_false c
      rw [if_neg (by rw [this]; exact Bool.false_ne_true)]
theorem mcStrs : ∀ {zs : List Str} {us : List Value}, Vals (zs.map V.str) us → ∀ i v, us[i]? = some v → ∃ t, v = Value.str (zs.getD i Str.empty) t
  | [], _, .nil, i, v, h => by cases i <;> cases h
  | z :: zs, _, .cons r t, 0, v, h => by
    cases h
    obtain ⟨k, rfl⟩ := r
    exact ⟨k, by simp⟩
  | z :: zs, _, .cons r t, i + 1, v, h => by
    obtain ⟨k, e⟩ := mcStrs t i v (by simpa using h)
    exact ⟨k, by simpa using e⟩
def rMinS (K : PySem.W.Frag) : List V → Hp → VK → Prop := fun vs H Q => ∃ (a : Addr) (zs : List Str), vs = [V.ref a] ∧ SqL K H a (zs.map V.str) ∧ 0 < zs.length ∧ Q (.str (minS zs)) H
theorem call_minS {X : Cx} (hc : X.calm = true) : CallR X (.builtin "min") (rMinS X.K) := by
  intro pins s σ H vs us Q I r h
  obtain ⟨a, zs, rfl, hs, hne, q⟩ := h
  obtain ⟨its, rv, hl, _⟩ := I.list hs
  rw [Vals.ref1 r]
  have hlen : its.length = zs.length := by rw [← rv.length, List.length_map]
  refine call_min_walk (iter_anyList hl.isList fun s₂ e st hfp hlI => ?_)
  subst e
  have cmp : CmpOf X.prog X.w X.A.in1 .Lt (fun i v => its.toArray[i]? = some v) (btS zs) := by
    intro i j vi vj s1 Q1 E1 hi hj hQ
    obtain ⟨ti, rfl⟩ := mcStrs rv i vi (by simpa using hi)
    obtain ⟨tj, rfl⟩ := mcStrs rv j vj (by simpa using hj)
    exact PyProof.Rows.lt_str hQ
  refine ⟨_, _, _, _, _, _, _, rfl, Walks.list (A := X.A.in1) (I.ok.hd hc) _ a hlI its.toArray, st, hfp, by simp; omega, cmp, fun v h' tk hP hk => ?_⟩
  have hP2 : its[argBest (btS zs) (its.toArray.size - 1)]? = some v := by simpa using hP
  obtain ⟨t, rfl⟩ := mcStrs rv _ v hP2
  refine ⟨.str _, H, I.kept (t' := tk) (PySem.old_kept hk), ⟨t, rfl⟩, ?_⟩
  cases zs with
  | nil => exact absurd hne (by simp)
  | cons z zr =>
    have e := argBest_S z zr zr.length (Nat.le_refl _)
    rw [List.take_of_length_le (Nat.le_refl _)] at e
    have e2 : its.toArray.size - 1 = zr.length := by simp [hlen]
    rw [e2, e]
    exact q
end MC
set_option maxHeartbeats 4000000
/-! MB7: calls of defs, methods, classmethods, classes that may raise: what they let out, at the slots -/
namespace MC
open PySem PySem.Spec PyProof.Rows L2

theorem run_S {X : Cx} {k : Nat} {f : Addr} {sp : Sp} {E : XK} {pins : List (Addr × Obj)} {σ : L2.St} {H : Hp} {s : Shared} {Q : VK} {us : List Value} {vs : List V} (F : FnR X.prog X.w X.K X.mg X.base (L2.CX X.prog X.w) k f sp) (hr : Room k X.A) (hx : PassesAt (L2.CX X.prog X.w) X σ E)
    (I : Inv X pins σ H s) (r : Vals vs us) (h : sp vs H Q E) : codeAny (model X.prog X.w) X.A (.call (.ref f) ⟨us, []⟩) (fun r s' => match r with | .ok (.ret v) => EP X pins σ Q v s' | .ok _ => False | .error e => X.xe e s') s := by
  refine codeAny_mono (F X.A X.stack s H us vs Q E hr I.env0 r h) fun r s' hq => ?_
  cases r with
  | error e => exact hx pins H s e s' I hq
  | ok fl =>
    cases fl with
    | ret u => exact I.after hq
    | next => exact False.elim hq
    | brk => exact False.elim hq
    | cont => exact False.elim hq

/-! ### a def by its name -/
structure FnG (P : Program) (w : World) (K : PySem.W.Frag) (mg : Str → Option Value) (base : Heap) (k : Nat) (x : Str) (sp : Sp) : Prop where
  ex : ∃ f, FnR P w K mg base (L2.CX P w) k f sp ∧ mg x = some (.ref f) ∧ PySem.W.keepIn K (.ref f) = true
/-- a wish of the slots that wishes nothing -/
abbrev EN : L2.St → XK := fun _ _ _ _ => False
theorem passN {X : Cx} : ∀ σ, PassesAt (L2.CX X.prog X.w) X σ (EN σ) := fun σ => pass_none
theorem passW {X : Cx} {W : WX} (tk : Takes X W) : ∀ σ, PassesAt (L2.CX X.prog X.w) X σ (WE W σ) := fun σ => passAt tk σ
section
variable {X : Cx} {k : Nat} {sp : Sp} {E : L2.St → XK} {x m : Str} {p pos apos : Pos} {e o : Expr} {es : List Expr} {ta : TE} {t tk : TA} {C : Addr} {pl : Sem Bool}
theorem pe_callG (F : FnG X.prog X.w X.K X.mg X.base k x sp) (hr : Room k X.A) (hx : ∀ σ, PassesAt (L2.CX X.prog X.w) X σ (E σ)) (hg : Gl X x) (ha : PA X (e :: es) t)
    (hdb : (x == ("__debug__" : Str)) = false := by decide) (he : starEach (e :: es) X.env = (false, eval e X.env) :: starEach es X.env := by rfl) (hpl : (backTo pos (starEach es X.env)).any (·.1) = false := by rfl) :
    PE X (.Call (.Name x p) (e :: es) [] pos) (tCallS sp E t) := by
  obtain ⟨f, G, hm, hk⟩ := F.ex
  refine ⟨fun pins s σ H Q I h => ?_⟩
  refine wpAny_Call_Name_kw (ld_glob I hg hm ?_ hdb)
  refine PySem.W.callWith_K (h₀ := X.base) I.ok.mod.kin hk (thn (ha.run pos pins s σ H _ I h) fun us s1 ⟨vs, H1, I1, r, q⟩ => ⟨I1.kIn, ?_⟩) he hpl
  exact wpAny_call (run_S G hr (hx σ) I1 r q)

/-! ### a method of an own class -/
structure MeG (P : Program) (w : World) (K : PySem.W.Frag) (mg : Str → Option Value) (base : Heap) (k : Nat) (C : Addr) (m : Str) (sp : Sp) : Prop where
  cl : Cls K C
  ex : ∃ f, FnR P w K mg base (L2.CX P w) k f sp ∧ Meth K C m f
def tMethG (C : Addr) (m : Str) (sp : Sp) (E : L2.St → XK) (ta : TE) (t : TA) : TE := fun σ H Q => ta σ H fun x H1 => ∃ a dx fs, x = .ref a ∧ H1 a = some (.ins C dx fs) ∧ fs.lookup m = none ∧ t σ H1 fun vs H2 => sp (.ref a :: vs) H2 Q (E σ)
theorem pe_methG (F : MeG X.prog X.w X.K X.mg X.base k C m sp) (hr : Room k X.A) (hx : ∀ σ, PassesAt (L2.CX X.prog X.w) X σ (E σ)) (he : PE X o ta) (ha : PA X (e :: es) t)
    (hst : starEach (e :: es) X.env = (false, eval e X.env) :: starEach es X.env := by rfl) (hpl : (backTo pos (starEach es X.env)).any (·.1) = false := by rfl)
    (ht : eval (.Call (.Attribute o m apos) (e :: es) [] pos) X.env = (do
      let ov ← eval o X.env
      standAt apos.atName
      let (f, first) ← holding [ov] (getMethod ov m pl)
      callWith pos f first (backTo pos (starEach (e :: es) X.env)) (backToKw pos (keywordEach [] X.env))) := by rfl) :
    PE X (.Call (.Attribute o m apos) (e :: es) [] pos) (tMethG C m sp E ta t) := by
  obtain ⟨f, G, hm⟩ := F.ex
  refine ⟨fun pins s σ H Q I h => ?_⟩
  refine PySem.W.methodCall_KW (pl := pl) (thn (he.run pins s σ H _ I h) fun u s1 ⟨x, H1, I1, rx, a, dx, fs, ex, ea, l, q⟩ => ?_) ht
  subst ex
  obtain rfl : u = Value.ref a := rx
  refine getmeth_ok I1 ea F.cl hm l ?_
  refine PySem.W.callWith_K (first := [.ref a]) (h₀ := X.base) I.ok.mod.kin hm.kp (thn (ha.run pos pins s1 σ H1 _ I1 q) fun us s2 ⟨vs, H2, I2, r, q2⟩ => ⟨I2.kIn, ?_⟩) hst hpl
  exact wpAny_call (run_S (us := .ref a :: us) (vs := .ref a :: vs) G hr (hx σ) I2 (.cons rfl r) q2)
theorem pe_methG0 (F : MeG X.prog X.w X.K X.mg X.base k C m sp) (hr : Room k X.A) (hx : ∀ σ, PassesAt (L2.CX X.prog X.w) X σ (E σ)) (he : PE X o ta)
    (ht : eval (.Call (.Attribute o m apos) [] [] pos) X.env = (do
      let ov ← eval o X.env
      standAt apos.atName
      let (f, first) ← holding [ov] (getMethod ov m pl)
      callWith pos f first (backTo pos (starEach [] X.env)) (backToKw pos (keywordEach [] X.env))) := by rfl) :
    PE X (.Call (.Attribute o m apos) [] [] pos) (tMethG C m sp E ta tNil) := by
  obtain ⟨f, G, hm⟩ := F.ex
  refine ⟨fun pins s σ H Q I h => ?_⟩
  refine PySem.W.methodCall_KW (pl := pl) (thn (he.run pins s σ H _ I h) fun u s1 ⟨x, H1, I1, rx, a, dx, fs, ex, ea, l, q⟩ => ?_) ht
  subst ex
  obtain rfl : u = Value.ref a := rx
  refine getmeth_ok I1 ea F.cl hm l ?_
  exact PySem.W.callWith_K0 (first := [.ref a]) I1.kIn hm.kp (wpAny_call (run_S (us := [.ref a]) (vs := [.ref a]) G hr (hx σ) I1 (.cons rfl .nil) q))

/-! ### a classmethod, by the class -/
structure CmG (P : Program) (w : World) (K : PySem.W.Frag) (mg : Str → Option Value) (base : Heap) (k : Nat) (C : Addr) (m : Str) (sp : Sp) : Prop where
  ex : ∃ mc pr g, ClX.CRead K C mc ∧ ClX.CMet K C mc m pr g ∧ FnR P w K mg base (L2.CX P w) k g sp
def tCMethG (C : Addr) (sp : Sp) (E : L2.St → XK) (ta : TE) (t : TA) : TE := fun σ H Q => ta σ H fun x H1 => x = .ref C ∧ t σ H1 fun vs H2 => sp (.ref C :: vs) H2 Q (E σ)
theorem pe_cmethG (F : CmG X.prog X.w X.K X.mg X.base k C m sp) (hr : Room k X.A) (hx : ∀ σ, PassesAt (L2.CX X.prog X.w) X σ (E σ)) (he : PE X o ta) (ha : PA X (e :: es) t)
    (hst : starEach (e :: es) X.env = (false, eval e X.env) :: starEach es X.env := by rfl) (hpl : (backTo pos (starEach es X.env)).any (·.1) = false := by rfl)
    (ht : eval (.Call (.Attribute o m apos) (e :: es) [] pos) X.env = (do
      let ov ← eval o X.env
      standAt apos.atName
      let (f, first) ← holding [ov] (getMethod ov m pl)
      callWith pos f first (backTo pos (starEach (e :: es) X.env)) (backToKw pos (keywordEach [] X.env))) := by rfl) :
    PE X (.Call (.Attribute o m apos) (e :: es) [] pos) (tCMethG C sp E ta t) := by
  obtain ⟨mc, pr, g, r, c, G⟩ := F.ex
  refine ⟨fun pins s σ H Q I h => ?_⟩
  refine PySem.W.methodCall_KW (pl := pl) (thn (he.run pins s σ H _ I h) fun u s1 ⟨x, H1, I1, rx, ex, q⟩ => ?_) ht
  subst ex
  obtain rfl : u = Value.ref C := rx
  refine ClX.getmethcm_ok I1 r c fun s2 I2 => ?_
  refine ClX.callwith_cm I2 (ClX.base_none I1 (Nat.le_refl _)) c.fi (thn (ha.run pos _ s2 σ H1 _ I2 q) fun us s3 ⟨vs, H2, I3, rv, q2⟩ => ⟨⟨ClX.pin_at I3, I3.kIn⟩, ?_⟩) hst hpl
  have z : wpAny (model X.prog X.w) X.A (call (.ref s1.heap.objs.size) us) (EP X ((s1.heap.objs.size, PySem.W.methodObj (.ref g) (.ref C)) :: pins) σ Q) X.xe s3 :=
    wpAny_call (PySem.W.method_call (ClX.pin_at I3) (run_S (us := .ref C :: us) (vs := .ref C :: vs) G hr (hx σ) I3 (.cons rfl rv) q2))
  exact thn z fun _ _ y => ClX.unpinE y

/-! ### a class, called with n values and keywords ks; the callee any expression that gives the class -/
/-- its __init__ keeps the promise sp at [values, then keywords' values], once the new instance is there -/
structure CtG (P : Program) (w : World) (K : PySem.W.Frag) (mg : Str → Option Value) (base : Heap) (k : Nat) (C : Addr) (n : Nat) (ks : List Str) (sp : List V → List V → Hp → VK → XK → Prop) : Prop where
  ex : ∃ f fd ps spI g gV, Mk K C f ∧ FnOk P w K mg base (L2.CX P w) k f fd ps spI ∧ KBn K fd ps (n + 1) ks g gV ∧
    ∀ vs zs H Q E, sp vs zs H Q E → vs.length = n ∧ zs.length = ks.length ∧ ∀ x dx, H x = none → H dx = none → dx ≠ x → spI (gV (.ref x :: vs) zs) (upd (upd H dx (.own x)) x (.ins C dx [])) (fun v H2 => v = .non ∧ Q (.ref x) H2) E
def tMkG (C : Addr) (sp : List V → List V → Hp → VK → XK → Prop) (E : L2.St → XK) (tf : TE) (t tk : TA) : TE := fun σ H Q => tf σ H fun c H0 => c = .ref C ∧ t σ H0 fun vs H1 => tk σ H1 fun zs H2 => sp vs zs H2 Q (E σ)
variable {n : Nat} {ks : List Str} {spK : List V → List V → Hp → VK → XK → Prop} {tf : TE} {kws : List Keyword}
theorem run_mkG {pins : List (Addr × Obj)} {σ : L2.St} {H : Hp} {s : Shared} {Q : VK} {us ws : List Value} {vs zs : List V} {E : XK} (F : CtG X.prog X.w X.K X.mg X.base k C n ks spK) (hr : Room (k + 1) X.A) (hx : PassesAt (L2.CX X.prog X.w) X σ E)
    (I : Inv X pins σ H s) (r : Vals vs us) (rz : Vals zs ws) (h : spK vs zs H Q E) : wpAny (model X.prog X.w) X.A (call (.ref C) us (ks.zip ws)) (EP X pins σ Q) X.xe s := by
  obtain ⟨f, fd, ps, spI, g, gV, M, G, hb, hsp⟩ := F.ex
  obtain ⟨l1, l2, h⟩ := hsp _ _ _ _ _ h
  have hq := h (s.heap.objs.size + 1) s.heap.objs.size (I.hok.fresh (Nat.le_succ _)) (I.hok.fresh (Nat.le_refl _)) (Nat.ne_of_lt (Nat.lt_succ_self _))
  have I2 := Inv.made (C := C) I
  have r1 : Vals (V.ref (s.heap.objs.size + 1) :: vs) (Value.ref (s.heap.objs.size + 1) :: us) := .cons rfl r
  have r2 := hb.rel r1 rz
  have n1 : (Value.ref (s.heap.objs.size + 1) :: us).length = n + 1 := by
    rw [List.length_cons, ← r.length, l1]
  refine wpAny_call (make_map (f := f) I.kIn M.makes M.init (beq_iff_eq.mp M.fn) (codeAny_mono (G.run _ X.stack _ _ ⟨Value.ref (s.heap.objs.size + 1) :: us, ks.zip ws⟩ (g (Value.ref (s.heap.objs.size + 1) :: us) ws) _ _ E (hr.make C us (ks.zip ws))
    (I2.env0.make C us (ks.zip ws)) (hb.to _ (Value.ref (s.heap.objs.size + 1) :: us) ws I2.kIn n1 (rz.length.symm.trans l2)) r2 hq) fun r s' hq' => ?_))
  cases r with
  | error e => exact hx pins _ _ e s' I2 hq'
  | ok fl =>
    cases fl with
    | ret u =>
      obtain ⟨v, H', I3, rv, ev, q3⟩ := I2.after hq'
      subst ev
      exact ⟨rv, ⟨V.ref (s.heap.objs.size + 1), H', I3, rfl, q3⟩⟩
    | next => exact False.elim hq'
    | brk => exact False.elim hq'
    | cont => exact False.elim hq'
theorem CtG.kp (F : CtG X.prog X.w X.K X.mg X.base k C n ks spK) : PySem.W.keepIn X.K (.ref C) = true := by
  obtain ⟨f, fd, ps, spI, g, gV, M, G, hb, hsp⟩ := F.ex
  exact M.kp
theorem pe_mkG0 (F : CtG X.prog X.w X.K X.mg X.base k C n ks spK) (hr : Room (k + 1) X.A) (hx : ∀ σ, PassesAt (L2.CX X.prog X.w) X σ (E σ)) (hf : PE X (.Name x p) tf) (hkw : PK X kws tk)
    (hall : (backToKw pos (keywordEach kws X.env)).all (·.1.isSome) = true := by rfl) (hks : (backToKw pos (keywordEach kws X.env)).filterMap (·.1) = ks := by rfl)
    (hpl : ((backTo pos (starEach [] X.env)).any (·.1) || (backToKw pos (keywordEach kws X.env)).any (·.1.isNone)) = false := by rfl) :
    PE X (.Call (.Name x p) [] kws pos) (tMkG C spK E tf tNil tk) := by
  refine ⟨fun pins s σ H Q I h => ?_⟩
  refine wpAny_Call_Name_kw (thn (hf.run pins s σ H _ I h) fun u s0 ⟨c, H0, I0, rc, ec, q0⟩ => ?_)
  subst ec
  obtain rfl : u = Value.ref C := rc
  refine PySem.W.callWith_KW0 (h₀ := X.base) I.ok.mod.kin F.kp hall ?_ hpl
  refine thn (hkw.run pos pins s0 σ H0 _ I0 q0) fun ws s2 ⟨zs, H2, I2, rz, q2⟩ => ⟨I2.kIn, ?_⟩
  rw [hks]
  exact run_mkG (us := []) (vs := []) F hr (hx σ) I2 .nil rz q2
theorem pe_mkG (F : CtG X.prog X.w X.K X.mg X.base k C n ks spK) (hr : Room (k + 1) X.A) (hx : ∀ σ, PassesAt (L2.CX X.prog X.w) X σ (E σ)) (hf : PE X (.Name x p) tf) (ha : PA X (e :: es) t) (hkw : PK X kws tk)
    (hall : (backToKw pos (keywordEach kws X.env)).all (·.1.isSome) = true := by rfl) (hks : (backToKw pos (keywordEach kws X.env)).filterMap (·.1) = ks := by rfl)
    (he : starEach (e :: es) X.env = (false, eval e X.env) :: starEach es X.env := by rfl) (hpl : ((backTo pos (starEach (e :: es) X.env)).any (·.1) || (backToKw pos (keywordEach kws X.env)).any (·.1.isNone)) = false := by rfl) :
    PE X (.Call (.Name x p) (e :: es) kws pos) (tMkG C spK E tf t tk) := by
  refine ⟨fun pins s σ H Q I h => ?_⟩
  refine wpAny_Call_Name_kw (thn (hf.run pins s σ H _ I h) fun u s0 ⟨c, H0, I0, rc, ec, q0⟩ => ?_)
  subst ec
  obtain rfl : u = Value.ref C := rc
  refine PySem.W.callWith_KW (h₀ := X.base) I.ok.mod.kin F.kp hall (thn (ha.run pos pins s0 σ H0 _ I0 q0) fun us s1 ⟨vs, H1, I1, r, q⟩ => ?_) hpl he
  refine thn (hkw.run pos pins s1 σ H1 _ I1 q) fun ws s2 ⟨zs, H2, I2, rz, q2⟩ => ⟨I2.kIn, ?_⟩
  rw [hks]
  exact run_mkG F hr (hx σ) I2 r rz q2

/-! ### raise C() of a class without __init__ -/
theorem pmk_own0 {bmB : List Value} {B newId initId : String} (F : ExcBaseFacts B newId initId bmB) (q : PySem.W.excIn X.K C bmB newId = true) (gC : X.mg x = some (.ref C)) (kC : PySem.W.keepIn X.K (.ref C) = true) (r : Raises X (.ref C)) (hg : Gl X x)
    (hdb : (x == ("__debug__" : Str)) = false := by decide) : PMk X (.Call (.Name x p) [] [] pos) (fun _ H Q => Q (.ref C) none H) := by
  intro pins s σ H Q I h
  refine wpAny_Call_Name_kw (ld_glob I hg gC ?_ hdb)
  refine PySem.W.callWith_K0 I.kIn kC ?_
  obtain ⟨bm, N, nm, qn, bs, hdct, sn, sub, ab, col, dd, k0, k1, k2, k3, k5, mN, hC, hN, hni, T⟩ := exc_obj I.kIn q
  refine wpAny_call_exc_subT F T hC hN hni (fun h' e hm => ?_) (by show 0 ≤ sizeLine; exact Nat.zero_le _)
  exact mk_of I hm r h (I.hok.gone hm.new)
end
end MC
set_option maxHeartbeats 4000000
/-! MB8: readings, step by step; what stays of a heap -/
namespace MC
open PySem PySem.Spec PyProof.Rows L2

/-! ### what stays: all but the drawing lists [script, int, int] -/
def stSh : HO → Bool
  | .lst [.ref _, .int _, .int _] => true
  | _ => false
/-- all stays -/
structure Le (H H' : Hp) : Prop where
  at_ : ∀ a o, H a = some o → H' a = some o
  fr : ∀ a, H' a = none → H a = none
theorem Le.refl (H : Hp) : Le H H := ⟨fun _ _ h => h, fun _ h => h⟩
theorem Le.trans {H H1 H2 : Hp} (a : Le H H1) (b : Le H1 H2) : Le H H2 := ⟨fun x o h => b.at_ x o (a.at_ x o h), fun x h => a.fr x (b.fr x h)⟩
theorem Le.new {H : Hp} {p : Addr} {o : HO} (h : H p = none) : Le H (upd H p o) := ⟨fun a u e => by
  rw [upd_ne (ne_of_none e h)]
  exact e, fun a e => by
  by_cases hb : a = p
  · rw [hb]; exact h
  · rwa [upd_ne hb] at e⟩
theorem Le.keep {H H' : Hp} {a : Addr} {o : HO} (e : Le H H') (h : H a = some o) : H' a = some o := e.at_ a o h
/-- all but the drawing lists stays -/
structure Lw (H H' : Hp) : Prop where
  at_ : ∀ a o, H a = some o → stSh o = false → H' a = some o
  fr : ∀ a, H' a = none → H a = none
theorem Lw.refl (H : Hp) : Lw H H := ⟨fun _ _ h _ => h, fun _ h => h⟩
theorem Lw.trans {H H1 H2 : Hp} (a : Lw H H1) (b : Lw H1 H2) : Lw H H2 := ⟨fun x o h s => b.at_ x o (a.at_ x o h s) s, fun x h => a.fr x (b.fr x h)⟩
theorem Le.w {H H' : Hp} (a : Le H H') : Lw H H' := ⟨fun x o h _ => a.at_ x o h, a.fr⟩
theorem Lw.keep {H H' : Hp} {a : Addr} {o : HO} (e : Lw H H') (h : H a = some o) (s : stSh o = false) : H' a = some o := e.at_ a o h s
theorem Lw.st {H : Hp} {s : Addr} {xs ys : List V} (h : H s = some (.lst xs)) (hs : stSh (.lst xs) = true) : Lw H (upd H s (.lst ys)) := ⟨fun a u e hu => by
  by_cases hb : a = s
  · rw [hb, h] at e
    cases e
    rw [hs] at hu
    cases hu
  · rw [upd_ne hb]; exact e, fun a e => by
  by_cases hb : a = s
  · rw [hb, upd_same] at e; cases e
  · rwa [upd_ne hb] at e⟩
theorem sh_str (zs : List Str) : stSh (.lst (zs.map V.str)) = false := by cases zs <;> rfl
theorem sh_ints (zs : List Int) : stSh (.lst (zs.map V.int)) = false := by cases zs <;> rfl
theorem sh_sgns (z : Str) : stSh (.lst (sgns z)) = false := by
  unfold sgns
  cases z.cps.toList <;> rfl
theorem sql {K : PySem.W.Frag} {H : Hp} {a : Addr} {xs : List V} (h : H a = some (.lst xs)) : SqL K H a xs := SqL.of h
theorem sqt {K : PySem.W.Frag} {H : Hp} {a : Addr} {xs : List V} (h : H a = some (.tup xs)) : SqT K H a xs := SqT.of h
theorem szb {n : Nat} (h : n ≤ 1000000) : n ≤ sizeLine := by rw [sizeLine_eq]; omega

/-! ### expressions -/
section
variable {K : PySem.W.Frag} {σ : L2.St} {H : Hp} {ta tb tc te : TE} {t tr : TA} {Q : VK} {v x y : V} {i j : Int} {b : Bool} {z w : Str} {QL : List V → Hp → Prop} {QB : Bool → Hp → Prop} {QO : Option Int → Hp → Prop}
theorem x_var {n : Nat} (h : σ[n]? = some (some v)) (q : Q v H) : tVar n σ H Q := ⟨v, h, q⟩
theorem x_c (q : Q v H) : tC v σ H Q := q
theorem x_op {r : R2} (h : ta σ H fun x H1 => tb σ H1 fun y H2 => r x y H2 Q) : tOp r ta tb σ H Q := h
theorem x_opS {r : R2S} (h : ta σ H fun x H1 => tb σ H1 fun y H2 => r σ x y H2 Q) : tOpS r ta tb σ H Q := h
theorem x_un {r : V → Hp → VK → Prop} (h : ta σ H fun x H1 => r x H1 Q) : tUn r ta σ H Q := h
theorem x_neg (q : Q (.int (-i)) H) : rU (fun i => .int (-i)) (.int i) H Q := ⟨i, rfl, q⟩
def kB (QB : Bool → Hp → Prop) : VK := fun x H => ∃ k, x = .bl k ∧ QB k H
theorem x_kB (q : QB b H) : kB QB (.bl b) H := ⟨b, rfl, q⟩
theorem x_test (h : ta σ H (kB QB)) : tTest ta σ H QB := h
theorem x_tB (h : ta σ H (kB QB)) : tB ta σ H QB := h
theorem x_nil (q : QL [] H) : tNil σ H QL := q
theorem x_cons (h : ta σ H fun x H1 => tr σ H1 fun xs H2 => QL (x :: xs) H2) : tCons ta tr σ H QL := h
def kTup (Q : VK) : List V → Hp → Prop := fun xs H1 => xs.length ≤ sizeLine ∧ ∀ p, H1 p = none → Q (.ref p) (upd H1 p (.tup xs))
theorem x_tup (h : t σ H (kTup Q)) : tTup t σ H Q := h
theorem x_kTup {xs : List V} (hl : xs.length ≤ 1000000) (q : ∀ p H1, H p = none → Le H H1 → H1 p = some (.tup xs) → Q (.ref p) H1) : kTup Q xs H := ⟨szb hl, fun p hp => q p _ hp (Le.new hp) upd_same⟩
def kLst (Q : VK) : List V → Hp → Prop := fun xs H1 => xs.length ≤ sizeLine ∧ ∀ p, H1 p = none → Q (.ref p) (upd H1 p (.lst xs))
theorem x_lst (h : t σ H (kLst Q)) : tLst t σ H Q := h
theorem x_kLst {xs : List V} (hl : xs.length ≤ 1000000) (q : ∀ p H1, H p = none → Le H H1 → H1 p = some (.lst xs) → Q (.ref p) H1) : kLst Q xs H := ⟨szb hl, fun p hp => q p _ hp (Le.new hp) upd_same⟩
/-- an attribute -/
def FldOk (K : PySem.W.Frag) (C : Addr) (f : Str) : Prop := Cls K C ∧ NoAttr K C f
def kFld (K : PySem.W.Frag) (f : Str) (Q : VK) : VK := fun x H1 => ∃ a C dx fs v, x = .ref a ∧ H1 a = some (.ins C dx fs) ∧ Cls K C ∧ NoAttr K C f ∧ fs.lookup f = some v ∧ Q v H1
theorem x_fld {f : Str} (h : ta σ H (kFld K f Q)) : tFld K ta f σ H Q := h
theorem x_kFld {f : Str} {a C dx : Addr} {fs : List (Str × V)} (h : H a = some (.ins C dx fs)) (k : FldOk K C f) (hl : fs.lookup f = some v) (q : Q v H) : kFld K f Q (.ref a) H := ⟨a, C, dx, fs, v, rfl, h, k.1, k.2, hl, q⟩
/-- built-ins, methods of built-ins -/
theorem x_cb {r : List V → Hp → VK → Prop} (h : t σ H fun xs H1 => r xs H1 Q) : tCB r t σ H Q := h
theorem x_call {sp : Sp} {E : L2.St → XK} (h : t σ H fun vs H1 => sp vs H1 Q (E σ)) : tCallS sp E t σ H Q := h
theorem x_callE {a : Addr} {cls : Value} {d : Option Addr} {sp : SpE} (h : t σ H fun vs H1 => sp a cls d vs H1 Q XE0) : tCallE a cls d sp t σ H Q := h
def kMeth (C : Addr) (m : Str) (sp : Sp) (E : L2.St → XK) (t : TA) (σ : L2.St) (Q : VK) : VK := fun x H1 => ∃ a dx fs, x = .ref a ∧ H1 a = some (.ins C dx fs) ∧ fs.lookup m = none ∧ t σ H1 fun vs H2 => sp (.ref a :: vs) H2 Q (E σ)
theorem x_meth {C : Addr} {m : Str} {sp : Sp} {E : L2.St → XK} (h : ta σ H (kMeth C m sp E t σ Q)) : tMethG C m sp E ta t σ H Q := h
theorem x_kMeth {C : Addr} {m : Str} {sp : Sp} {E : L2.St → XK} {a dx : Addr} {fs : List (Str × V)} (h : H a = some (.ins C dx fs)) (hl : fs.lookup m = none) (q : t σ H fun vs H2 => sp (.ref a :: vs) H2 Q (E σ)) : kMeth C m sp E t σ Q (.ref a) H := ⟨a, dx, fs, rfl, h, hl, q⟩
def kCM (C : Addr) (sp : Sp) (E : L2.St → XK) (t : TA) (σ : L2.St) (Q : VK) : VK := fun x H1 => x = .ref C ∧ t σ H1 fun vs H2 => sp (.ref C :: vs) H2 Q (E σ)
theorem x_cm {C : Addr} {sp : Sp} {E : L2.St → XK} (h : ta σ H (kCM C sp E t σ Q)) : tCMethG C sp E ta t σ H Q := h
theorem x_kCM {C : Addr} {sp : Sp} {E : L2.St → XK} (q : t σ H fun vs H2 => sp (.ref C :: vs) H2 Q (E σ)) : kCM C sp E t σ Q (.ref C) H := ⟨rfl, q⟩
def kMk (C : Addr) (sp : List V → List V → Hp → VK → XK → Prop) (E : L2.St → XK) (t tk : TA) (σ : L2.St) (Q : VK) : VK := fun c H0 => c = .ref C ∧ t σ H0 fun vs H1 => tk σ H1 fun zs H2 => sp vs zs H2 Q (E σ)
theorem x_mk {C : Addr} {sp : List V → List V → Hp → VK → XK → Prop} {E : L2.St → XK} {tf : TE} {tk : TA} (h : tf σ H (kMk C sp E t tk σ Q)) : tMkG C sp E tf t tk σ H Q := h
theorem x_kMk {C : Addr} {sp : List V → List V → Hp → VK → XK → Prop} {E : L2.St → XK} {tk : TA} (q : t σ H fun vs H1 => tk σ H1 fun zs H2 => sp vs zs H2 Q (E σ)) : kMk C sp E t tk σ Q (.ref C) H := ⟨rfl, q⟩
def kTy (K : PySem.W.Frag) (T : String) (r : V → List V → Hp → VK → Prop) (t : TA) (σ : L2.St) (Q : VK) : VK := fun x H1 => tyV K T x H1 ∧ t σ H1 fun xs H2 => r x xs H2 Q
theorem x_bm {T : String} {r : V → List V → Hp → VK → Prop} (h : ta σ H (kTy K T r t σ Q)) : tBM K T r ta t σ H Q := h
theorem x_tyL {r : V → List V → Hp → VK → Prop} {p : Addr} {xs : List V} (h : H p = some (.lst xs)) (q : t σ H fun ys H2 => r (.ref p) ys H2 Q) : kTy K "list" r t σ Q (.ref p) H := ⟨Or.inl ⟨rfl, xs, SqL.of h⟩, q⟩
theorem x_tyS {r : V → List V → Hp → VK → Prop} (q : t σ H fun ys H2 => r (.str z) ys H2 Q) : kTy K "str" r t σ Q (.str z) H := ⟨by first | rfl | exact trivial | (show _ ∨ _; exact Or.inl rfl), q⟩
/-- parts of a slice -/
theorem x_np (q : QO none H) : tNoPart σ H QO := q
def kPart (QO : Option Int → Hp → Prop) : VK := fun x H1 => ∃ i, x = .int i ∧ QO (some i) H1
theorem x_part (h : ta σ H (kPart QO)) : tPart ta σ H QO := h
theorem x_kPart (q : QO (some i) H) : kPart QO (.int i) H := ⟨i, rfl, q⟩
theorem x_sl {r : V → Option Int → Option Int → Hp → VK → Prop} {tl th : TO} (h : te σ H fun x H1 => tl σ H1 fun l H2 => th σ H2 fun u H3 => r x l u H3 Q) : L2.tSl r te tl th σ H Q := h
theorem x_slS {lo hi : Option Int} (hz : z.length ≤ 1000000) (q : Q (.str (cutS z lo hi)) H) : rSlU K (.str z) lo hi H Q := Or.inl ⟨z, rfl, szb hz, q⟩
theorem x_slL {lo hi : Option Int} {a : Addr} {xs : List V} (h : SqL K H a xs) (q : ∀ p H1, H p = none → Le H H1 → H1 p = some (.lst (cutV xs lo hi)) → Q (.ref p) H1) : rSlU K (.ref a) lo hi H Q := Or.inr ⟨a, xs, rfl, h, fun p hp => q p _ hp (Le.new hp) upd_same⟩
def kRev (Q : VK) : VK := fun x H1 => ∃ z : Str, x = .str z ∧ z.length ≤ sizeLine ∧ Q (.str (revS z)) H1
theorem x_rev (h : te σ H (kRev Q)) : tRevS te σ H Q := h
theorem x_kRev (hz : z.length ≤ 1000000) (q : Q (.str (revS z)) H) : kRev Q (.str z) H := ⟨z, rfl, szb hz, q⟩
/-- operators -/
theorem x_addI (q : Q (.int (i + j)) H) : rAddU (.int i) (.int j) H Q := Or.inl (Or.inl ⟨i, j, rfl, rfl, q⟩)
theorem x_addS (h : z.length + w.length ≤ 1000000) (q : Q (.str (z ++ w)) H) : rAddU (.str z) (.str w) H Q := Or.inl (Or.inr ⟨z, w, rfl, rfl, szb h, q⟩)
theorem x_addL {a c : Addr} {xs ys : List V} (h1 : H a = some (.lst xs)) (h2 : H c = some (.lst ys)) (hz : xs.length + ys.length ≤ 1000000) (q : ∀ p H1, H p = none → Le H H1 → H1 p = some (.lst (xs ++ ys)) → Q (.ref p) H1) : rAddU (.ref a) (.ref c) H Q :=
  Or.inr ⟨a, c, xs, ys, rfl, rfl, h1, h2, szb hz, fun p hp => q p _ hp (Le.new hp) upd_same⟩
theorem x_I0 {g : Int → Int → V} (q : Q (g i j) H) : rI0 g (.int i) (.int j) H Q := ⟨i, j, rfl, rfl, q⟩
theorem x_I {C : Int → Int → Prop} {g : Int → Int → V} (h : C i j) (q : Q (g i j) H) : rI C g (.int i) (.int j) H Q := ⟨i, j, rfl, rfl, h, q⟩
theorem x_mulI (h : -(2 ^ 64) < i ∧ i < 2 ^ 64) (q : Q (.int (i * j)) H) : rMulU (.int i) (.int j) H Q := Or.inl ⟨i, j, rfl, rfl, .inl h, q⟩
theorem x_mulS (h1 : i < 1000) (h0 : -1000 < i) (hz : z.length ≤ 10000) (q : Q (.str (repS z i)) H) : rMulU (.str z) (.int i) H Q := Or.inr ⟨z, i, rfl, rfl, h1, h0, hz, q⟩
theorem x_eqS (q : Q (.bl (decide (z = w))) H) : rEqU K (.str z) (.str w) H Q := Or.inl ⟨rfl, by
  rw [show decide (V.str z = V.str w) = decide (z = w) from decide_eq_decide.mpr ⟨fun h => by cases h; rfl, fun h => by rw [h]⟩]; exact q⟩
theorem x_eqI (q : Q (.bl (decide (i = j))) H) : rEqU K (.int i) (.int j) H Q := Or.inl ⟨rfl, by
  rw [show decide (V.int i = V.int j) = decide (i = j) from decide_eq_decide.mpr ⟨fun h => by cases h; rfl, fun h => by rw [h]⟩]; exact q⟩
theorem x_eqB {c : Bool} (q : Q (.bl (b == c)) H) : rEqU K (.bl b) (.bl c) H Q := Or.inl ⟨rfl, by
  have e : decide (V.bl b = V.bl c) = (b == c) := by cases b <;> cases c <;> rfl
  rw [e]; exact q⟩
theorem x_neS (q : Q (.bl (!decide (z = w))) H) : rNeU K (.str z) (.str w) H Q := Or.inl ⟨rfl, by
  rw [show decide (V.str z = V.str w) = decide (z = w) from decide_eq_decide.mpr ⟨fun h => by cases h; rfl, fun h => by rw [h]⟩]; exact q⟩
theorem x_neI (q : Q (.bl (!decide (i = j))) H) : rNeU K (.int i) (.int j) H Q := Or.inl ⟨rfl, by
  rw [show decide (V.int i = V.int j) = decide (i = j) from decide_eq_decide.mpr ⟨fun h => by cases h; rfl, fun h => by rw [h]⟩]; exact q⟩
theorem x_neB {c : Bool} (q : Q (.bl (!(b == c))) H) : rNeU K (.bl b) (.bl c) H Q := Or.inl ⟨rfl, by
  have e : decide (V.bl b = V.bl c) = (b == c) := by cases b <;> cases c <;> rfl
  rw [e]; exact q⟩
theorem x_neD {d e : PyData} (h1 : Dp K H x d) (h2 : Dp K H y e) (s1 : SeqAt.shaped d = true) (s2 : SeqAt.shaped e = true) (q : Q (.bl (!PyData.eqv d e)) H) : rNeU K x y H Q := Or.inr ⟨d, e, h1, h2, s1, s2, q⟩
theorem x_eqD {d e : PyData} (h1 : Dp K H x d) (h2 : Dp K H y e) (s1 : SeqAt.shaped d = true) (s2 : SeqAt.shaped e = true) (q : Q (.bl (PyData.eqv d e)) H) : rEqU K x y H Q := Or.inr ⟨d, e, h1, h2, s1, s2, q⟩
theorem x_ltI (q : Q (.bl (decide (i < j))) H) : rLtU (.int i) (.int j) H Q := Or.inl ⟨i, j, rfl, rfl, q⟩
theorem x_ltS (q : Q (.bl (decide (z.cps.toList < w.cps.toList))) H) : rLtU (.str z) (.str w) H Q := Or.inr ⟨z, w, rfl, rfl, q⟩
theorem x_leI (q : Q (.bl (decide (i ≤ j))) H) : rLeU (.int i) (.int j) H Q := Or.inl ⟨i, j, rfl, rfl, q⟩
theorem x_leS (q : Q (.bl (!decide (w.cps.toList < z.cps.toList))) H) : rLeU (.str z) (.str w) H Q := Or.inr ⟨z, w, rfl, rfl, q⟩
/-- p in z, of texts -/
def isIn (p z : Str) : Bool := !(Builtin.Str.occurrences z p 0 z.length 1).isEmpty
def rInT : R2 := fun x y H Q => ∃ i j, x = .str i ∧ y = .str j ∧ Q (.bl (isIn i j)) H
def rNotInT : R2 := fun x y H Q => ∃ i j, x = .str i ∧ y = .str j ∧ Q (.bl (!isIn i j)) H
theorem op_inT {X : Cx} : OpR X (compareOp .In) rInT := op_in_str
theorem op_notInT {X : Cx} : OpR X (compareOp .NotIn) rNotInT := L2.op_notIn_str
theorem x_inT (q : Q (.bl (isIn z w)) H) : rInT (.str z) (.str w) H Q := ⟨z, w, rfl, rfl, q⟩
theorem x_notInT (q : Q (.bl (!isIn z w)) H) : rNotInT (.str z) (.str w) H Q := ⟨z, w, rfl, rfl, q⟩
/-- subscripts -/
theorem x_ixL {p : Addr} {xs : List V} (h : SqL K H p xs) (ha : atI xs i = some v) (q : Q v H) : rIx K (.ref p) (.int i) H Q := Or.inl ⟨p, xs, i, v, rfl, rfl, h, ha, q⟩
theorem x_ixT {p : Addr} {xs : List V} (h : H p = some (.tup xs)) (ha : atI xs i = some v) (q : Q v H) : rIx K (.ref p) (.int i) H Q := Or.inr (Or.inl ⟨p, xs, i, v, rfl, rfl, sqt h, ha, q⟩)
theorem x_ixS {c : Nat} (hz : z.length ≤ 1000000) (ha : atI z.cps.toList i = some c) (q : Q (.str ⟨#[c]⟩) H) : rIx K (.str z) (.int i) H Q := Or.inr (Or.inr ⟨z, i, c, rfl, rfl, szb hz, ha, q⟩)
/-- calls of built-ins -/
def rLenU (K : PySem.W.Frag) : List V → Hp → VK → Prop := fun xs H Q => ∃ x n, xs = [x] ∧ LenV K x H n ∧ Q (.int n) H
theorem call_lenU {X : Cx} : CallR X (.builtin "len") (rLenU X.K) := call_len
theorem x_lenS (hz : z.length ≤ 1000000) (q : Q (.int (z.length : Nat)) H) : rLenU K [.str z] H Q := ⟨_, z.length, rfl, ⟨szb hz, rfl⟩, q⟩
theorem x_lenL {p : Addr} {xs : List V} (h : SqL K H p xs) (q : Q (.int (xs.length : Nat)) H) : rLenU K [.ref p] H Q := ⟨_, xs.length, rfl, Or.inl ⟨xs, h, rfl⟩, q⟩
theorem x_lenT {p : Addr} {xs : List V} (h : H p = some (.tup xs)) (q : Q (.int (xs.length : Nat)) H) : rLenU K [.ref p] H Q := ⟨_, xs.length, rfl, Or.inr ⟨xs, sqt h, rfl⟩, q⟩
def rAbs : List V → Hp → VK → Prop := fun xs H Q => ∃ i, xs = [.int i] ∧ Q (.int (if i < 0 then -i else i)) H
theorem call_absU {X : Cx} : CallR X (.builtin "abs") rAbs := call_abs
theorem x_abs (q : Q (.int (if i < 0 then -i else i)) H) : rAbs [.int i] H Q := ⟨i, rfl, q⟩
def rInt1 : List V → Hp → VK → Prop := fun xs H Q => (∃ i, xs = [.int i] ∧ Q (.int i) H) ∨ ∃ k, xs = [.bl k] ∧ Q (.int (if k then 1 else 0)) H
theorem call_intU {X : Cx} : CallR X (.type "int") rInt1 := call_int1
theorem x_int (q : Q (.int i) H) : rInt1 [.int i] H Q := Or.inl ⟨i, rfl, q⟩
def rListU (K : PySem.W.Frag) : List V → Hp → VK → Prop := fun xs H Q => rListS0 xs H Q ∨ ∃ p ys, xs = [.ref p] ∧ (SqL K H p ys ∨ SqT K H p ys) ∧ ∀ l, H l = none → Q (.ref l) (upd H l (.lst ys))
theorem call_listU {X : Cx} (hc : X.calm = true) : CallR X (.type "list") (rListU X.K) := (call_listS hc).or call_list_of
theorem x_listS (hz : z.cps.size ≤ 1000000) (q : ∀ p H1, H p = none → Le H H1 → H1 p = some (.lst (sgns z)) → Q (.ref p) H1) : rListU K [.str z] H Q := Or.inl ⟨z, rfl, szb hz, fun p hp => q p _ hp (Le.new hp) upd_same⟩
theorem x_listL {a : Addr} {ys : List V} (h : SqL K H a ys) (q : ∀ p H1, H p = none → Le H H1 → H1 p = some (.lst ys) → Q (.ref p) H1) : rListU K [.ref a] H Q := Or.inr ⟨a, ys, rfl, Or.inl h, fun p hp => q p _ hp (Le.new hp) upd_same⟩
theorem x_isi {tt u : Value} (hc : ClsV y u) (ht : TyX K H x tt) (hk : PySem.W.kitOne K tt u = some b) (q : Q (.bl b) H) : rIsi K [x, y] H Q := ⟨x, y, tt, u, b, rfl, hc, ht, hk, q⟩
theorem x_isB {c : Bool} {n : String} (hk : PySem.W.kitOne K (.type "bool") (.type n) = some b) (q : Q (.bl b) H) : rIsi K [.bl c, .ty n] H Q := x_isi (.ty n) (.base (.bl c)) hk q
theorem x_isI {n : String} (hk : PySem.W.kitOne K (.type "int") (.type n) = some b) (q : Q (.bl b) H) : rIsi K [.int i, .ty n] H Q := x_isi (.ty n) (.base (.int i)) hk q
theorem x_isS {n : String} (hk : PySem.W.kitOne K (.type "str") (.type n) = some b) (q : Q (.bl b) H) : rIsi K [.str z, .ty n] H Q := x_isi (.ty n) (.base (.str z)) hk q
theorem x_isT {n : String} {p : Addr} {xs : List V} (h : H p = some (.tup xs)) (hk : PySem.W.kitOne K (.type "tuple") (.type n) = some b) (q : Q (.bl b) H) : rIsi K [.ref p, .ty n] H Q := x_isi (.ty n) (.base (.tup h)) hk q
theorem x_isL {n : String} {p : Addr} {xs : List V} (h : H p = some (.lst xs)) (hk : PySem.W.kitOne K (.type "list") (.type n) = some b) (q : Q (.bl b) H) : rIsi K [.ref p, .ty n] H Q := x_isi (.ty n) (.base (.lst h)) hk q
/-- what isinstance asks of an own class -/
def InsOk (K : PySem.W.Frag) (C : Addr) : Prop := ∀ {H : Hp} {a dx : Addr} {fs : List (Str × V)}, H a = some (.ins C dx fs) → TyOf K H (.ref a) (.ref C)
theorem x_isO {C D dx p : Addr} {fs : List (Str × V)} (h : H p = some (.ins C dx fs)) (k : InsOk K C) (hk : PySem.W.kitOne K (.ref C) (.ref D) = some b) (q : Q (.bl b) H) : rIsi K [.ref p, .ref D] H Q := x_isi (.own D) (.base (k h)) hk q
theorem x_isp {a D : Addr} {d : Option Addr} {cv : Value} (hcv : ∀ u, RelV y u → u = cv) (hd : ∀ dd, d = some dd → ∃ fs, H dd = some (.xd fs)) (hk : PySem.W.kitOne K (.ref D) cv = some b) (q : Q (.bl b) H) : rIsP K D a d [.ref a, y] H Q := ⟨y, cv, b, rfl, hcv, hd, hk, q⟩
theorem x_min {a : Addr} {zs : List Str} (h : H a = some (.lst (zs.map V.str))) (hn : 0 < zs.length) (q : Q (.str (minS zs)) H) : rMinS K [.ref a] H Q := ⟨a, zs, rfl, sql h, hn, q⟩
theorem x_cnt {p : Addr} {ys : List V} (h : H p = some (.lst ys)) (fy : flatV y = true) (fs : ys.all flatV = true) (q : Q (.int ((ys.countP fun z => eqV z y : Nat) : Int)) H) : rCntF K (.ref p) [y] H Q := ⟨p, ys, y, rfl, rfl, sql h, fy, fs, q⟩
def kCV (K : PySem.W.Frag) (f : Str) (Q : VK) : VK := fun x H1 => ∃ C mc v u, x = .ref C ∧ ClX.CRead K C mc ∧ ClX.CVal K C mc f v u ∧ Q v H1
theorem x_cv {f : Str} (h : ta σ H (kCV K f Q)) : ClX.tCVal K ta f σ H Q := h
def CvOk (K : PySem.W.Frag) (C : Addr) (f : Str) (v : V) : Prop := ∃ mc u, ClX.CRead K C mc ∧ ClX.CVal K C mc f v u
theorem x_kCV {f : Str} {C : Addr} (h : CvOk K C f v) (q : Q v H) : kCV K f Q (.ref C) H := by
  obtain ⟨mc, u, h1, h2⟩ := h
  exact ⟨C, mc, v, u, rfl, h1, h2, q⟩
/-- f-strings -/
def tJoined (ts : List TE) : TE := fun σ H Q => tJs ts Str.empty σ H fun out H1 => Q (.str out) H1
theorem pe_joinedU {X : Cx} {v1 v2 : Expr} {rest : List Expr} {ts : List TE} {pos : Pos} (h : PJ X (v1 :: v2 :: rest) ts) : PE X (.JoinedStr (v1 :: v2 :: rest) pos) (tJoined ts) := pe_joined h
def kJs (ts : List TE) (acc : Str) (σ : L2.St) (Q : Str → Hp → Prop) : VK := fun x H1 => ∃ y : Str, x = .str y ∧ (acc ++ y).length ≤ sizeLine ∧ tJs ts (acc ++ y) σ H1 Q
theorem x_joined {ts : List TE} (h : tJs ts Str.empty σ H fun out H1 => Q (.str out) H1) : tJoined ts σ H Q := h
theorem x_js {ts : List TE} {acc : Str} {Qs : Str → Hp → Prop} (h : ta σ H (kJs ts acc σ Qs)) : tJs (ta :: ts) acc σ H Qs := h
theorem x_js0 {acc : Str} {Qs : Str → Hp → Prop} (q : Qs acc H) : tJs [] acc σ H Qs := q
theorem x_kJs {ts : List TE} {acc : Str} {Qs : Str → Hp → Prop} (hz : (acc ++ z).length ≤ 1000000) (q : tJs ts (acc ++ z) σ H Qs) : kJs ts acc σ Qs (.str z) H := ⟨z, rfl, szb hz, q⟩
def kFmt (Q : VK) : VK := fun x H1 => (∃ y : Str, x = .str y ∧ y.length ≤ sizeLine ∧ Q (.str y) H1) ∨ ∃ i : Int, x = .int i ∧ i.natAbs.log2 < 1920 ∧ Q (.str (toString i)) H1
theorem x_fmt (h : te σ H (kFmt Q)) : tFmt te σ H Q := h
theorem x_fmtS (hz : z.length ≤ 1000000) (q : Q (.str z) H) : kFmt Q (.str z) H := Or.inl ⟨z, rfl, szb hz, q⟩
theorem x_fmtI (hz : i.natAbs.log2 < 1920) (q : Q (.str (toString i)) H) : kFmt Q (.int i) H := Or.inr ⟨i, rfl, hz, q⟩
/-- an attribute of the caught exception -/
def kXf (a : Addr) (cls : Value) (d : Option Addr) (C : Addr) (f : Str) (Q : VK) : VK := fun x H1 => x = .ref a ∧ cls = .ref C ∧ ∃ (dd : Addr) (fs : List (Str × V)) (v : V), d = some dd ∧ H1 dd = some (.xd fs) ∧ fs.lookup f = some v ∧ Q v H1
theorem x_xf {a C : Addr} {cls : Value} {d : Option Addr} {f : Str} (h : te σ H (kXf a cls d C f Q)) : tXf a cls d C f te σ H Q := h
theorem x_kXf {a C dd : Addr} {f : Str} {fs : List (Str × V)} (h : H dd = some (.xd fs)) (hl : fs.lookup f = some v) (q : Q v H) : kXf a (.ref C) (some dd) C f Q (.ref a) H := ⟨rfl, rfl, dd, fs, v, rfl, h, hl, q⟩

/-! ### and, or, not: the answer is known before it goes on -/
def EvT (tt : TT) (σ : L2.St) (H : Hp) (b : Bool) : Prop := ∀ H1, Le H H1 → ∀ Q : Bool → Hp → Prop, (∀ H2, Le H1 H2 → Q b H2) → tt σ H1 Q
def EvV (te : TE) (σ : L2.St) (H : Hp) (b : Bool) : Prop := ∀ H1, Le H H1 → ∀ Q : VK, (∀ H2, Le H1 H2 → Q (.bl b) H2) → te σ H1 Q
variable {t1 t2 : TT} {c : Bool}
theorem et_run (h : ∀ H1, Le H H1 → ∀ Q : Bool → Hp → Prop, (∀ H2, Le H1 H2 → Q b H2) → t1 σ H1 Q) : EvT t1 σ H b := h
theorem ev_run (h : ∀ H1, Le H H1 → ∀ Q : VK, (∀ H2, Le H1 H2 → Q (.bl b) H2) → te σ H1 Q) : EvV te σ H b := h
theorem et_and (h1 : EvT t1 σ H b) (h2 : b = true → EvT t2 σ H c) : EvT (tAnd t1 t2) σ H (b && c) := fun H1 e Q q => h1 H1 e _ fun H2 e2 => by
  cases b with
  | true =>
    show t2 σ H2 Q
    exact h2 rfl H2 (e.trans e2) Q fun H3 e3 => q H3 (e2.trans e3)
  | false =>
    show Q false H2
    exact q H2 e2
theorem et_or (h1 : EvT t1 σ H b) (h2 : b = false → EvT t2 σ H c) : EvT (tOr t1 t2) σ H (b || c) := fun H1 e Q q => h1 H1 e _ fun H2 e2 => by
  cases b with
  | true =>
    show Q true H2
    exact q H2 e2
  | false =>
    show t2 σ H2 Q
    exact h2 rfl H2 (e.trans e2) Q fun H3 e3 => q H3 (e2.trans e3)
theorem et_not (h1 : EvT t1 σ H b) : EvT (tNot t1) σ H (!b) := fun H1 e Q q => h1 H1 e _ fun H2 e2 => q H2 e2
theorem et_B (h : EvV te σ H b) : EvT (tB te) σ H b := fun H1 e Q q => h H1 e _ fun H2 e2 => ⟨b, rfl, q H2 e2⟩
theorem et_T (h : EvV te σ H b) : EvT (tTest te) σ H b := fun H1 e Q q => h H1 e _ fun H2 e2 => ⟨b, rfl, q H2 e2⟩
theorem ev_andV (h1 : EvV ta σ H b) (h2 : b = true → EvV tb σ H c) : EvV (tAndV ta tb) σ H (b && c) := fun H1 e Q q => h1 H1 e _ fun H2 e2 => ⟨b, rfl, by
  cases b with
  | true =>
    show tb σ H2 Q
    exact h2 rfl H2 (e.trans e2) Q fun H3 e3 => q H3 (e2.trans e3)
  | false =>
    show Q (.bl false) H2
    exact q H2 e2⟩
theorem ev_orV (h1 : EvV ta σ H b) (h2 : b = false → EvV tb σ H c) : EvV (tOrV ta tb) σ H (b || c) := fun H1 e Q q => h1 H1 e _ fun H2 e2 => ⟨b, rfl, by
  cases b with
  | true =>
    show Q (.bl true) H2
    exact q H2 e2
  | false =>
    show tb σ H2 Q
    exact h2 rfl H2 (e.trans e2) Q fun H3 e3 => q H3 (e2.trans e3)⟩
theorem ev_notV (h1 : EvV ta σ H b) : EvV (tNotV ta) σ H (!b) := fun H1 e Q q => h1 H1 e _ fun H2 e2 => ⟨b, rfl, q H2 e2⟩
theorem et_is (h : EvT t1 σ H b) (e : b = c) : EvT t1 σ H c := e ▸ h
theorem ev_is (h : EvV te σ H b) (e : b = c) : EvV te σ H c := e ▸ h
theorem x_andV (h : EvV (tAndV ta tb) σ H b) (q : ∀ H1, Le H H1 → Q (.bl b) H1) : tAndV ta tb σ H Q := h H (Le.refl H) Q q
theorem x_orV (h : EvV (tOrV ta tb) σ H b) (q : ∀ H1, Le H H1 → Q (.bl b) H1) : tOrV ta tb σ H Q := h H (Le.refl H) Q q
theorem x_notV (h : EvV (tNotV ta) σ H b) (q : ∀ H1, Le H H1 → Q (.bl b) H1) : tNotV ta σ H Q := h H (Le.refl H) Q q
/-- a < b < c -/
def kCh (r' : R2) (tc : TE) (σ : L2.St) (Q : VK) : VK := fun z H3 => ∃ k, z = .bl k ∧ (if k = true then tc σ H3 fun w' H4 => r' y w' H4 Q else Q (.bl false) H3)
theorem ev_chain {r r' : R2} {tx : TE} {x y u : V} (ha : ∀ H1, Le H H1 → ∀ Q : VK, (∀ H2, Le H1 H2 → Q x H2) → ta σ H1 Q) (hb : ∀ H1, Le H H1 → ∀ Q : VK, (∀ H2, Le H1 H2 → Q y H2) → tb σ H1 Q) (hc : ∀ H1, Le H H1 → ∀ Q : VK, (∀ H2, Le H1 H2 → Q u H2) → tx σ H1 Q)
    (h1 : ∀ H1, Le H H1 → ∀ Q : VK, Q (.bl b) H1 → r x y H1 Q) (h2 : ∀ H1, Le H H1 → ∀ Q : VK, Q (.bl c) H1 → r' y u H1 Q) : EvV (tChain r r' ta tb tx) σ H (b && c) := fun H1 e Q q => by
  refine ha H1 e _ fun H2 e2 => hb H2 (e.trans e2) _ fun H3 e3 => h1 H3 ((e.trans e2).trans e3) _ ⟨b, rfl, ?_⟩
  cases b with
  | true =>
    rw [if_pos rfl]
    exact hc H3 ((e.trans e2).trans e3) _ fun H4 e4 => h2 H4 (((e.trans e2).trans e3).trans e4) _ (q H4 ((e2.trans e3).trans e4))
  | false =>
    rw [if_neg Bool.false_ne_true]
    exact q H3 (e2.trans e3)

/-! ### statements -/
variable {D : Ends} {u1 u2 : TS} {tt : TT}
theorem x_seq (h : u1 { D with nx := u2 D } σ H) : tSeq u1 u2 D σ H := h
theorem x_next (q : D.nx σ H) : L2.tNext D σ H := q
theorem x_asg {n : Nat} (h : te σ H fun v H1 => D.nx (σ.set n (some v)) H1) : tAsg te (gName n) D σ H := h
theorem x_drop (h : te σ H fun _ H1 => D.nx σ H1) : tDrop te D σ H := h
theorem x_ret (h : te σ H D.rt) : tRet te D σ H := h
theorem x_if (h : EvT tt σ H b) (h1 : b = true → ∀ H1, Le H H1 → u1 D σ H1) (h2 : b = false → ∀ H1, Le H H1 → u2 D σ H1) : tIfS tt u1 u2 D σ H := h H (Le.refl H) _ fun H1 e => by
  cases b with
  | true =>
    rw [if_pos rfl]
    exact h1 rfl H1 e
  | false =>
    rw [if_neg Bool.false_ne_true]
    exact h2 rfl H1 e
theorem x_yes (h : EvT tt σ H true) (q : ∀ H1, Le H H1 → u1 D σ H1) : tIfS tt u1 u2 D σ H := x_if h (fun _ => q) fun z => Bool.noConfusion z
theorem x_no (h : EvT tt σ H false) (q : ∀ H1, Le H H1 → u2 D σ H1) : tIfS tt u1 u2 D σ H := x_if h (fun z => Bool.noConfusion z) fun _ => q
def kIf (u1 u2 : TS) (D : Ends) (σ : L2.St) : Bool → Hp → Prop := fun b H1 => if b = true then u1 D σ H1 else u2 D σ H1
theorem x_ifK (h : tt σ H (kIf u1 u2 D σ)) : tIfS tt u1 u2 D σ H := h
theorem x_kIf {b : Bool} (h1 : b = true → u1 D σ H) (h2 : b = false → u2 D σ H) : kIf u1 u2 D σ b H := by
  unfold kIf
  cases b with
  | true => rw [if_pos rfl]; exact h1 rfl
  | false => rw [if_neg Bool.false_ne_true]; exact h2 rfl
def kAnd (t2 : TT) (σ : L2.St) (QB : Bool → Hp → Prop) : Bool → Hp → Prop := fun c H1 => if c = true then t2 σ H1 QB else QB false H1
theorem x_andW {t1 t2 : TT} (h : t1 σ H (kAnd t2 σ QB)) : tAnd t1 t2 σ H QB := h
theorem x_kAnd {t2 : TT} {b : Bool} (h1 : b = true → t2 σ H QB) (h2 : b = false → QB false H) : kAnd t2 σ QB b H := by
  unfold kAnd
  cases b with
  | true => rw [if_pos rfl]; exact h1 rfl
  | false => rw [if_neg Bool.false_ne_true]; exact h2 rfl
/-- o[i] = e, o a list -/
theorem x_setL {to ti : TE} (h : te σ H fun v H1 => to σ H1 fun o H2 => ti σ H2 fun i H3 => rSetL o i v H3 fun H4 => D.nx σ H4) : tAsg te (gSub to ti rSetL) D σ H := h
theorem x_rSetL {p : Addr} {xs : List V} {n : Nat} {QH : Hp → Prop} (h : H p = some (.lst xs)) (hn : ixN xs.length i = some n) (q : QH (upd H p (.lst (xs.set n v)))) : rSetL (.ref p) (.int i) v H QH := ⟨p, xs, i, n, rfl, rfl, h, hn, q⟩
/-- xs.append(e) -/
theorem x_app {p : Addr} {xs : List V} (h : H p = some (.lst xs)) (hz : xs.length < 1000000) (q : Q .non (upd H p (.lst (xs ++ [v])))) : rAppend (.ref p) [v] H Q := ⟨p, xs, v, rfl, rfl, h, Nat.lt_of_lt_of_le hz (szb (Nat.le_refl _)), q⟩
end
end MC
set_option maxHeartbeats 4000000
/-! MB9: own special methods by bundles; loops and comprehensions, step by step -/
namespace MC
open PySem PySem.Spec PyProof.Rows L2

/-- an own special method with its promise -/
structure OpG (P : Program) (w : World) (K : PySem.W.Frag) (mg : Str → Option Value) (base : Heap) (k : Nat) (C : Addr) (m : Str) (sp : Sp) : Prop where
  ex : ∃ f fd ps, FnOk P w K mg base (L2.CX P w) k f fd ps sp ∧ Binds K fd ps [] ∧ Spec K C m f ∧ PySem.W.fnIn K f = true
section
variable {X : Cx} {k : Nat} {C : Addr} {sp spI spL : Sp} {W : WX} {a b : Expr} {ta tb : TE} {pos : Pos}
theorem call_lenG (F : OpG X.prog X.w X.K X.mg X.base k C "__len__" sp) (hr : Room (k + 1) X.A) : CallR X (.builtin "len") (rLenO C sp) := by
  obtain ⟨f, fd, ps, G, b, S, _⟩ := F.ex
  exact call_lenO G b S hr
theorem call_strG (F : OpG X.prog X.w X.K X.mg X.base k C "__str__" sp) (hr : Room (k + 2) X.A) : CallR X (.type "str") (rStrO C sp) := by
  obtain ⟨f, fd, ps, G, b, S, _⟩ := F.ex
  exact call_strO G b S hr
theorem call_listG (F : OpG X.prog X.w X.K X.mg X.base k C "__iter__" spI) (F2 : OpG X.prog X.w X.K X.mg X.base k C "__len__" spL) (hc : X.calm = true) (hr : Room (k + 3) X.A) : CallR X (.type "list") (rListO C spI spL) := by
  obtain ⟨f, fd, ps, G, b, S, _⟩ := F.ex
  obtain ⟨f2, fd2, ps2, G2, b2, S2, _⟩ := F2.ex
  exact call_listO G b S G2 b2 S2 hc hr
theorem op_inG (F : OpG X.prog X.w X.K X.mg X.base k C "__contains__" sp) (hr : Room k X.A) : OpR X (compareOp .In) (rInO C sp) := by
  obtain ⟨f, fd, ps, G, b, S, _⟩ := F.ex
  exact op_inO G b S hr
theorem op_eqG (F : OpG X.prog X.w X.K X.mg X.base k C "__eq__" sp) (hr : Room k X.A) : OpR X (compareOp .Eq) (rEqO X.K C sp) := by
  obtain ⟨f, fd, ps, G, b, S, _⟩ := F.ex
  exact op_eqO G b S hr
theorem op_addG (F : OpG X.prog X.w X.K X.mg X.base k C "__add__" sp) (hc : PySem.W.selfFirst X.K C = true) (hr : Room k X.A) (tk : Takes X W) : OpRS X (binaryOp .Add) (rBinO C sp W) := by
  obtain ⟨f, fd, ps, G, b, S, _⟩ := F.ex
  exact op_binO (op := .Add) G b S hc hr tk
theorem op_shrG (F : OpG X.prog X.w X.K X.mg X.base k C "__rshift__" sp) (hc : BinI X.K C .RShift) (hr : Room k X.A) (tk : Takes X W) : OpRS X (binaryOp .RShift) (rBinI C sp W) := by
  obtain ⟨f, fd, ps, G, b, S, _⟩ := F.ex
  exact op_binI (op := .RShift) G b S hc hr tk
theorem pe_subG (F : OpG X.prog X.w X.K X.mg X.base k C "__getitem__" sp) (hr : Room (k + 1) X.A) (tk : Takes X W) (ha : PE X a ta) (hi : PE X b tb)
    (hsl : ∀ x i, subscripted b true x i = runValue (.builtin "lifetime.subscript" ⟨[x, i], []⟩) := by intro _ _; with_unfolding_all rfl) : PE X (.Subscript a b pos) (tOpS (rSubO C sp W) ta tb) := by
  obtain ⟨f, fd, ps, G, b, S, fi⟩ := F.ex
  exact pe_subO G b S fi hr tk ha hi hsl
end
section
variable {K : PySem.W.Frag} {σ : L2.St} {H : Hp} {Q : VK} {C a dx : Addr} {fs : List (Str × V)} {sp spI spL : Sp} {y : V} {W : WX}
theorem x_lenO (h : H a = some (.ins C dx fs)) (q : sp [.ref a] H (fun v H' => ∃ n : Int, v = .int n ∧ (0 ≤ n ∧ n < 2 ^ 63) ∧ Q (.int n) H') XE0) : rLenO C sp [.ref a] H Q := ⟨a, dx, fs, rfl, h, q⟩
theorem x_strO (h : H a = some (.ins C dx fs)) (q : sp [.ref a] H (fun v H' => ∃ z : Str, v = .str z ∧ Q (.str z) H') XE0) : rStrO C sp [.ref a] H Q := ⟨a, dx, fs, rfl, h, q⟩
theorem x_inO (h : H a = some (.ins C dx fs)) (q : sp [.ref a, y] H (fun v H' => ∃ b : Bool, v = .bl b ∧ Q (.bl b) H') XE0) : rInO C sp y (.ref a) H Q := ⟨a, dx, fs, rfl, h, q⟩
theorem x_eqO {tb : Value} (h : H a = some (.ins C dx fs)) (t : TyOf K H y tb) (n : PySem.W.notFirst K C tb = true) (q : sp [.ref a, y] H (fun v H' => ∃ b : Bool, v = .bl b ∧ Q (.bl b) H') XE0) : rEqO K C sp (.ref a) y H Q := ⟨a, dx, fs, tb, rfl, h, t, n, q⟩
theorem x_binO {b dy : Addr} {gs : List (Str × V)} (h : H a = some (.ins C dx fs)) (h2 : H b = some (.ins C dy gs)) (q : sp [.ref a, .ref b] H (fun v H' => v ≠ .non ∧ Q v H') (WE W σ)) : rBinO C sp W σ (.ref a) (.ref b) H Q := ⟨a, b, dx, dy, fs, gs, rfl, rfl, h, h2, q⟩
theorem x_binI {i : Int} (h : H a = some (.ins C dx fs)) (q : sp [.ref a, .int i] H Q (WE W σ)) : rBinI C sp W σ (.ref a) (.int i) H Q := ⟨a, i, dx, fs, rfl, rfl, h, q⟩
theorem x_subO (h : H a = some (.ins C dx fs)) (q : sp [.ref a, y] H Q (WE W σ)) : rSubO C sp W σ (.ref a) y H Q := ⟨a, dx, fs, rfl, h, q⟩

/-! ### loops: Pv i what holds ahead of turn i -/
variable {D : Ends} {tu : TS} {t : TA} {tl te : TE} {n lo hi : Int} {j : Nat} {R : It → Hp → Prop} {g : TG} {tt : TT} {vs : List Nat} {wi : TI}
def kFor (g : TG) (tb : TS) (D : Ends) (σ : L2.St) : It → Hp → Prop := fun J H1 => ∃ W : Nat → Nat → L2.St → Hp → Prop, (∃ m, W 0 m σ H1) ∧ ∀ i m σ H, W i m σ H →
  (J.stop i H ∧ D.nx σ H) ∨ (J.go i H ∧ ∃ N : L2.St → Hp → Prop, (∀ σ' H', N σ' H' → ∃ m', m' < m ∧ W (i + 1) m' σ' H') ∧ ∀ x H', J.yld i H x H' → g x σ H' fun σ2 H2 => tb { D with nx := N, ct := N, bk := D.nx } σ2 H2)
theorem x_for (h : wi σ H (kFor g tu D σ)) : tFor wi g tu D σ H := h
def kR1 (R : It → Hp → Prop) : List V → Hp → Prop := fun vs H1 => ∃ j : Int, vs = [.int j] ∧ -(2 ^ 62) ≤ j ∧ j < 2 ^ 62 ∧ R (Itr 0 j.toNat) H1
theorem x_r1 (h : t σ H (kR1 R)) : iRng1 t σ H R := h
def kR2 (R : It → Hp → Prop) : List V → Hp → Prop := fun vs H1 => ∃ i j : Int, vs = [.int i, .int j] ∧ (-(2 ^ 62) ≤ i ∧ i < 2 ^ 62 ∧ -(2 ^ 62) ≤ j ∧ j < 2 ^ 62) ∧ R (Itr i (j - i).toNat) H1
theorem x_r2 (h : t σ H (kR2 R)) : iRng2 t σ H R := h
def kIL (K : PySem.W.Frag) (R : It → Hp → Prop) : VK := fun x H1 => ∃ a, x = .ref a ∧ (∃ xs, SqL K H1 a xs) ∧ R (Itl K a) H1
theorem x_il (h : tl σ H (kIL K R)) : iList K tl σ H R := h
/-- for x in range(n) -/
theorem x_for1 (hn : -(2 ^ 62) ≤ n ∧ n < 2 ^ 62) (Pv : Nat → L2.St → Hp → Prop) (h0 : Pv 0 σ H) (hs : ∀ (i : Nat) σ' H', (i : Int) < n → Pv i σ' H' → tu { D with nx := Pv (i + 1), ct := Pv (i + 1), bk := D.nx } (σ'.set j (some (.int (i : Nat)))) H')
    (hd : ∀ σ' H', Pv n.toNat σ' H' → D.nx σ' H') : kR1 (kFor (gName j) tu D σ) [.int n] H :=
  ⟨n, rfl, hn.1, hn.2, for_range (lo := 0) (n := n.toNat) (g := gName j) Pv h0 (fun i σ' H' hi p => by
      have e0 : (0 : Int) + (i : Int) = (i : Int) := Int.zero_add _
      show tu { D with nx := Pv (i + 1), ct := Pv (i + 1), bk := D.nx } (σ'.set j (some (.int ((0 : Int) + (i : Int))))) H'
      rw [e0]
      exact hs i σ' H' (by omega) p) hd⟩
theorem x_for2 (hn : -(2 ^ 62) ≤ lo ∧ lo < 2 ^ 62 ∧ -(2 ^ 62) ≤ n ∧ n < 2 ^ 62) (Pv : Nat → L2.St → Hp → Prop) (h0 : Pv 0 σ H) (hs : ∀ (i : Nat) σ' H', lo + (i : Int) < n → Pv i σ' H' → tu { D with nx := Pv (i + 1), ct := Pv (i + 1), bk := D.nx } (σ'.set j (some (.int (lo + (i : Nat))))) H')
    (hd : ∀ σ' H', Pv (n - lo).toNat σ' H' → D.nx σ' H') : kR2 (kFor (gName j) tu D σ) [.int lo, .int n] H :=
  ⟨lo, n, rfl, hn, for_range (lo := lo) (n := (n - lo).toNat) (g := gName j) Pv h0 (fun i σ' H' hi p => hs i σ' H' (by omega) p) hd⟩
/-- for x in xs -/
theorem x_forL {p : Addr} {xs : List V} (h : SqL K H p xs) (Pv : Nat → L2.St → Hp → Prop) (h0 : Pv 0 σ H) (hl : ∀ i σ' H', i ≤ xs.length → Pv i σ' H' → SqL K H' p xs) (hs : ∀ i x σ' H', xs[i]? = some x → Pv i σ' H' → tu { D with nx := Pv (i + 1), ct := Pv (i + 1), bk := D.nx } (σ'.set j (some x)) H')
    (hd : ∀ σ' H', Pv xs.length σ' H' → D.nx σ' H') : kIL K (kFor (gName j) tu D σ) (.ref p) H :=
  ⟨p, rfl, ⟨xs, h⟩, for_list (g := gName j) Pv h0 hl hs hd⟩
/-- for i, c in enumerate(text) -/
def kEn (R : It → Hp → Prop) : List V → Hp → Prop := fun vs H1 => ∃ z : Str, vs = [.str z] ∧ R (ItT z.cps.size fun i => [.int (i : Nat), sgn z i]) H1
theorem x_en (h : t σ H (kEn R)) : iEnumS t σ H R := h
theorem x_forE {z : Str} (Pv : Nat → L2.St → Hp → Prop) (h0 : Pv 0 σ H) (hs : ∀ (i : Nat) T σ' H' H2, i < z.cps.size → Pv i σ' H' → Le H' H2 → H2 T = some (.tup [.int (i : Nat), sgn z i]) → g (.ref T) σ' H2 fun σ2 H2 => tu { D with nx := Pv (i + 1), ct := Pv (i + 1), bk := D.nx } σ2 H2)
    (hd : ∀ σ' H', Pv z.cps.size σ' H' → D.nx σ' H') : kEn (kFor g tu D σ) [.str z] H :=
  ⟨z, rfl, for_it (walk_T (n := z.cps.size) (Y := fun i => [.int (i : Nat), sgn z i])) Pv h0 (fun _ _ _ _ _ => trivial) (fun i x σ' H' H2 hi p y => by
    obtain ⟨T, rfl, hT, rfl⟩ := y
    exact hs i T σ' H' _ hi p (Le.new hT) upd_same) hd⟩
/-- [e for x in range(n)], texts, no test -/
def kLc (g : TG) (tt : TT) (te : TE) (vs : List Nat) (σ : L2.St) (Q : VK) : It → Hp → Prop := fun J H1 => ∀ D, H1 D = none → ∃ W : Nat → Nat → Hp → Prop, (∃ m, W 0 m (upd H1 D (.lst []))) ∧ ∀ i m H, W i m H →
  (J.stop i H ∧ Q (.ref D) H) ∨ (J.go i H ∧ ∃ Nx : Hp → Prop, (∀ H', Nx H' → ∃ m', m' < m ∧ W (i + 1) m' H') ∧ ∀ x H', J.yld i H x H' → g x (wipe σ vs) H' fun σ2 H2 => wipe σ2 vs = wipe σ vs ∧ tt σ2 H2 fun b H3 =>
    if b = true then te σ2 H3 fun y H4 => ∃ acc, H4 D = some (.lst acc) ∧ acc.length < sizeLine ∧ Nx (upd H4 D (.lst (acc ++ [y]))) else Nx H3)
theorem x_lc (h : wi σ H (kLc g tt te vs σ Q)) : tLc wi g tt te vs σ H Q := h
theorem le_own {H H' : Hp} {p : Addr} {o : HO} (e : Le H H') (h : H p = none) : Le H (upd H' p o) := ⟨fun a u ha => by
  rw [upd_ne (ne_of_none ha h)]
  exact e.at_ a u ha, fun a ha => by
  by_cases hb : a = p
  · rw [hb]; exact h
  · rw [upd_ne hb] at ha; exact e.fr a ha⟩
theorem x_lcR {f : Nat → Str} (hn : n ≤ 1000000 ∧ -1000000 ≤ n) (hw : ∀ x, wipe ((wipe σ vs).set j x) vs = wipe σ vs) (he : ∀ (i : Nat) H', (i : Int) < n → Le H H' → ∀ Qe : VK, (∀ H2, Le H' H2 → Qe (.str (f i)) H2) → te ((wipe σ vs).set j (some (.int (i : Nat)))) H' Qe)
    (q : ∀ p H1, H p = none → Le H H1 → H1 p = some (.lst (((List.range n.toNat).map f).map V.str)) → Q (.ref p) H1) : kR1 (kLc (gName j) tYes te vs σ Q) [.int n] H := by
  refine ⟨n, rfl, by omega, by omega, fun D hD => lc_range (lo := 0) (n := n.toNat) (g := gName j) (Qd := fun H => Q (.ref D) H) (fun i H' => Le H H' ∧ H' D = some (.lst (((List.range i).map f).map V.str))) ⟨le_own (Le.refl H) hD, upd_same⟩ (fun i H' hi p => ?_) fun H' p => q D H' hD p.1 p.2⟩
  have e0 : (0 : Int) + (i : Int) = (i : Int) := Int.zero_add _
  rw [e0]
  refine ⟨hw _, ?_⟩
  simp only [tYes, if_true]
  refine he i H' (by omega) p.1 _ fun H2 e2 => ⟨_, e2.keep p.2, ?_, le_own (p.1.trans e2) hD, ?_⟩
  · rw [List.length_map, List.length_map, List.length_range, sizeLine_eq]; omega
  · rw [upd_same, List.range_succ, List.map_append, List.map_append]; rfl
end
end MC
set_option maxHeartbeats 4000000
/-! MB10: raise C(e) of a class whose __init__ says super().__init__(f"..") and self.f = e, e an int; raise C() -/
namespace MC
open PySem PySem.Spec PyProof.Rows L2

/-- what such an __init__ promises -/
def sp_exi (C : Addr) (f : Str) : Sp := fun vs H Q E => ∃ (e : Addr) (i : Int), vs = [.ref e, .int i] ∧ i.natAbs.log2 < 1000 ∧ H e = some (exo e C none) ∧
  ∀ dx, H dx = none → dx ≠ e → Q .non (upd (upd H dx (exd dx [(f, .int i)])) e (exo e C (some dx)))
structure ExG (P : Program) (w : World) (K : PySem.W.Frag) (mg : Str → Option Value) (base : Heap) (k : Nat) (x : Str) (C : Addr) (f : Str) : Prop where
  gl : mg x = some (.ref C)
  oex : OexC K C
  ex : ∃ fI fd ps, FnOk P w K mg base (L2.CX P w) k fI fd ps (sp_exi C f) ∧ Binds K fd ps [] ∧ PySem.W.findIn K (.ref C) "__init__" = some (some (.ref fI)) ∧ PySem.W.typeIn K (.ref fI) = some (.type "function")
section
variable {X : Cx} {k : Nat} {C : Addr} {x f : Str} {e : Expr} {es : List Expr} {p pos : Pos} {t : TA} {W : WX}
theorem pmk_exG (F : ExG X.prog X.w X.K X.mg X.base k x C f) (hr : Room (k + 1) X.A) (hg : Gl X x) (ha : PA X (e :: es) t) (hdb : (x == ("__debug__" : Str)) = false := by decide)
    (he : starEach (e :: es) X.env = (false, eval e X.env) :: starEach es X.env := by rfl) (hpl : (backTo pos (starEach es X.env)).any (·.1) = false := by rfl) :
    PMk X (.Call (.Name x p) (e :: es) [] pos) (tMkO C (sp_exi C f) [] t) := by
  obtain ⟨fI, fd, ps, G, b, iC, tI⟩ := F.ex
  exact pmk_oex (p := p) (pos := pos) (dvs := []) F.oex iC tI G hr b .nil (fun pins σ H s e s' I h => pass_none pins H s e s' I h) hg F.gl ha hdb he hpl
/-- raise .. -/
def tRse (W : WX) (m : L2.St → Hp → XK → Prop) : TS := fun _ σ H => m σ H fun cls d H' => W cls d σ H'
theorem ps_rse {m : L2.St → Hp → XK → Prop} (hc : X.calm = true) (tk : Takes X W) (he : PMk X e m) : PS X (.Raise (some e) none pos) (tRse W m) := ps_raise hc tk he
/-- C(), C without __init__ -/
structure Ex0 (K : PySem.W.Frag) (mg : Str → Option Value) (x : Str) (C : Addr) : Prop where
  gl : mg x = some (.ref C)
  kp : PySem.W.keepIn K (.ref C) = true
  ex : PySem.W.excIn K C [.type "ValueError", .type "Exception", .type "BaseException", .type "object"] "ValueError.__new__" = true
  su : PySem.W.subIn K (.ref C) (.type "BaseException") = some true
  ty : PySem.W.typeIn K (.ref C) = some (.type "type")
def tEx0 (C : Addr) : L2.St → Hp → XK → Prop := fun _ H Q => Q (.ref C) none H
theorem pmk_ex0 (F : Ex0 X.K X.mg x C) (hg : Gl X x) (hdb : (x == ("__debug__" : Str)) = false := by decide) : PMk X (.Call (.Name x p) [] [] pos) (tEx0 C) :=
  pmk_own0 PySem.F.excBase_ValueError F.ex F.gl F.kp (raises_own F.su F.ty) hg hdb
end
section
variable {σ : L2.St} {H : Hp} {t : TA} {C : Addr} {f : Str} {E : XK} {W : WX} {D : Ends} {i : Int}
theorem x_rse {m : L2.St → Hp → XK → Prop} (h : m σ H fun cls d H' => W cls d σ H') : tRse W m D σ H := h
def kEx (C : Addr) (f : Str) (E : XK) : List V → Hp → Prop := fun vs H1 => vs.length ≤ 1000 ∧ ∀ a, H1 a = none → sp_exi C f (.ref a :: (vs ++ [])) (upd H1 a (exo a C none))
  (fun v H2 => v = .non ∧ ∃ (d : Addr) (fs : List (Str × V)), H2 a = some (exo a C (some d)) ∧ H2 d = some (exd d fs) ∧ H1 d = none ∧ E (.ref C) (some d) (upd (del H2 a) d (.xd fs))) (fun _ _ _ => False)
theorem x_ex (h : t σ H (kEx C f E)) : tMkO C (sp_exi C f) [] t σ H E := h
theorem x_kEx (hi : i.natAbs.log2 < 1000) (q : ∀ d H2, Le H H2 → H2 d = some (.xd [(f, .int i)]) → E (.ref C) (some d) H2) : kEx C f E [.int i] H := by
  refine ⟨by show 1 ≤ 1000; decide, fun a ha => ⟨a, i, rfl, hi, upd_same, fun dx hdx hne => ⟨rfl, dx, _, upd_same, by rw [upd_ne hne, upd_same], by rwa [upd_ne hne] at hdx, ?_⟩⟩⟩
  have hdx1 : H dx = none := by rwa [upd_ne hne] at hdx
  refine q dx _ ⟨fun b o hb => ?_, fun b hb => ?_⟩ upd_same
  · have n1 : b ≠ dx := ne_of_none hb hdx1
    have n2 : b ≠ a := ne_of_none hb ha
    rw [upd_ne n1, del_ne n2, upd_ne n2, upd_ne n1, upd_ne n2]
    exact hb
  · by_cases n1 : b = dx
    · rw [n1]; exact hdx1
    · rw [upd_ne n1] at hb
      by_cases n2 : b = a
      · rw [n2]; exact ha
      · rw [del_ne n2, upd_ne n2, upd_ne n1, upd_ne n2] at hb
        exact hb
theorem x_ex0 (q : E (.ref C) none H) : tEx0 C σ H E := q
/-- self.f = e in such an __init__ -/
theorem x_ost {K : PySem.W.Frag} {to te : TE} (h : te σ H fun y H1 => to σ H1 fun x H2 => ∃ a C : Addr, x = .ref a ∧ OexC K C ∧ PySem.W.findIn K (.ref C) f = some none ∧
  ((H2 a = some (exo a C none) ∧ ∀ dx, H2 dx = none → dx ≠ a → D.nx σ (upd (upd H2 dx (exd dx [(f, y)])) a (exo a C (some dx)))) ∨
    ∃ (dx : Addr) (fs : List (Str × V)), H2 a = some (exo a C (some dx)) ∧ H2 dx = some (exd dx fs) ∧ fs.length ≤ 900 ∧ D.nx σ (upd H2 dx (exd dx ((f, y) :: fs))))) : tOst K f to te D σ H := h
end
end MC
set_option maxHeartbeats 4000000
/-! MB11: list(range(..)), str(text), join; defs within a suite, by bundles -/
namespace MC
open PySem PySem.Spec PyProof.Rows L2
section
variable {X : Cx}
def rListR : List V → Hp → VK → Prop := fun xs H Q => ∃ p lo hi, xs = [.ref p] ∧ H p = some (.rng lo hi) ∧ (-1000000 < lo ∧ lo < 1000000 ∧ -1000000 < hi ∧ hi < 1000000) ∧ ∀ l, H l = none → Q (.ref l) (upd H l (.lst ((List.range (hi - lo).toNat).map fun (i : Nat) => .int (lo + (i : Int)))))
theorem call_listR (hc : X.calm = true) : CallR X (.type "list") rListR := by
  intro pins s σ H xs us Q I rv h
  obtain ⟨p, lo, hi, rfl, hp, hb, q⟩ := h
  obtain ⟨u, rfl, ru⟩ := rv.one
  cases ru
  obtain ⟨t, u, v, hr⟩ := (show ∃ t u v, s.heap.get? p = some { cls := .type "range", data := .fields #[.int lo t, .int hi u, .int 1 v] } from I.hok p _ hp)
  refine call_list_range (n := (hi - lo).toNat) (I.ok.hd hc) hr (small_one (by omega) (by omega) (by omega) (by omega)) (rangeSize_nat lo hi) (by omega) fun h' tk acc' c' k e it => ?_
  have hv : Vals ((List.range (hi - lo).toNat).map fun (i : Nat) => V.int (lo + (i : Int))) acc'.toList := by
    refine vals_of (by rw [List.length_map, List.length_range, Array.length_toList, it.1]) fun i x w h1 h2 => ?_
    obtain ⟨t, e2⟩ := it.2 i w (by simpa using h2)
    rw [List.getElem?_map] at h1
    cases e3 : (List.range (hi - lo).toNat)[i]? with
    | none => rw [e3] at h1; cases h1
    | some j =>
      rw [e3] at h1
      have : j = i := by
        have := List.getElem?_eq_some_iff.mp e3
        obtain ⟨h5, h6⟩ := this
        rw [List.getElem_range] at h6
        exact h6.symm
      subst this
      cases h1
      exact ⟨t, by rw [e2, Int.mul_one]⟩
  exact ⟨.ref _, _, I.laid (t' := tk) (a := s.heap.objs.size) (o := .lst ((List.range (hi - lo).toNat).map fun (i : Nat) => V.int (lo + (i : Int)))) k (Nat.le_refl _) ⟨by rw [List.length_map, List.length_range, sizeLine_eq]; omega, acc'.toList, c', hv, e⟩, rfl, q _ (I.hok.fresh (Nat.le_refl _))⟩
def rRng2 : List V → Hp → VK → Prop := fun vs H Q => ∃ i j, vs = [V.int i, V.int j] ∧ ∀ p, H p = none → Q (.ref p) (upd H p (.rng i j))
theorem call_rng2 : CallR X (.type "range") rRng2 := cr_range2
def rStrS : List V → Hp → VK → Prop := fun xs H Q => ∃ a, xs = [.str a] ∧ Q (.str a) H
theorem call_strS : CallR X (.type "str") rStrS := SkE.call_str_str
def rJoin (K : PySem.W.Frag) : V → List V → Hp → VK → Prop := fun x xs H Q => ∃ a p, ∃ ys : List Str, x = .str a ∧ xs = [.ref p] ∧ (SqL K H p (ys.map V.str) ∨ SqT K H p (ys.map V.str)) ∧
    (ys.map (·.length)).sum + ys.length * a.length ≤ 16777216 ∧ Q (.str (Txt.join a ys)) H
theorem mt_joinU : MtR X "str.join" (rJoin X.K) := mt_join
end
section
variable {K : PySem.W.Frag} {H : Hp} {Q : VK} {lo hi : Int} {z : Str} {x y : V}
theorem x_listR {p : Addr} (h : H p = some (.rng lo hi)) (hb : -1000000 < lo ∧ lo < 1000000 ∧ -1000000 < hi ∧ hi < 1000000) (q : ∀ l H1, H l = none → Le H H1 → H1 l = some (.lst ((List.range (hi - lo).toNat).map fun (i : Nat) => V.int (lo + (i : Int)))) → Q (.ref l) H1) : rListR [.ref p] H Q :=
  ⟨p, lo, hi, rfl, h, hb, fun l hl => q l _ hl (Le.new hl) upd_same⟩
theorem x_rng2 (q : ∀ p H1, H p = none → Le H H1 → H1 p = some (.rng lo hi) → Q (.ref p) H1) : rRng2 [.int lo, .int hi] H Q := ⟨lo, hi, rfl, fun p hp => q p _ hp (Le.new hp) upd_same⟩
theorem x_strS (q : Q (.str z) H) : rStrS [.str z] H Q := ⟨z, rfl, q⟩
theorem x_join {p : Addr} {ys : List Str} (h : H p = some (.lst (ys.map V.str))) (hz : (ys.map (·.length)).sum + ys.length * z.length ≤ 1000000) (q : Q (.str (Txt.join z ys)) H) : rJoin K (.str z) [.ref p] H Q := ⟨z, p, ys, rfl, rfl, Or.inl (sql h), by omega, q⟩
theorem x_eqF (h : scal x y = true) (q : Q (.bl (decide (x = y))) H) : rEq x y H Q := ⟨h, q⟩
theorem x_eqFS {w : Str} (q : Q (.bl (decide (z = w))) H) : rEq (.str z) (.str w) H Q := ⟨rfl, by
  rw [show decide (V.str z = V.str w) = decide (z = w) from decide_eq_decide.mpr ⟨fun h => by cases h; rfl, fun h => by rw [h]⟩]; exact q⟩
theorem x_eqFI {i j : Int} (q : Q (.bl (decide (i = j))) H) : rEq (.int i) (.int j) H Q := ⟨rfl, by
  rw [show decide (V.int i = V.int j) = decide (i = j) from decide_eq_decide.mpr ⟨fun h => by cases h; rfl, fun h => by rw [h]⟩]; exact q⟩
end
/-! ### the same, K told (within a try's body) -/
section
variable {X : Cx} {k : Nat} (K : PySem.W.Frag) (hK : X.K = K)
include hK
theorem op_eqUk (hr : Room k X.A) : OpR X (compareOp .Eq) (rEqU K) := by subst hK; exact op_eqU hr
theorem op_neUk (hr : Room k X.A) : OpR X (compareOp .NotEq) (rNeU K) := by subst hK; exact op_neU hr
theorem ix_seqk : IxR X (rIx K) := by subst hK; exact ix_seq
theorem sl_Uk : SlR X (rSlU K) := by subst hK; exact sl_U
theorem call_lenUk : CallR X (.builtin "len") (rLenU K) := by subst hK; exact call_lenU
theorem call_isik : CallR X (.builtin "isinstance") (rIsi K) := by subst hK; exact call_isi
theorem call_listUk (hc : X.calm = true) : CallR X (.type "list") (rListU K) := by subst hK; exact call_listU hc
theorem pe_fldk {e : Expr} {ta : TE} {f : Str} {pos : Pos} (he : PE X e ta) (hb : attributeBase e f X.env (eval e X.env) = eval e X.env) : PE X (.Attribute e f pos) (tFld K ta f) := by subst hK; exact pe_fld he hb
theorem pi_listk {tg l : Expr} {tl : TE} (hl : PE X l tl) : PI X tg l (iList K tl) := by subst hK; exact pi_list hl
end
/-! ### in a suite -/
structure FnEG (P : Program) (w : World) (K : PySem.W.Frag) (mg : Str → Option Value) (base : Heap) (k : Nat) (x : Str) (sp : SpE) : Prop where
  ex : ∃ f fd ps, FnE P w K mg base k f fd ps sp ∧ mg x = some (.ref f) ∧ PySem.W.keepIn K (.ref f) = true ∧ Binds K fd ps []
theorem roomS {X : Cx} {k : Nat} {a : Addr} {pn : List (Addr × Obj)} (hr : Room k X.A) : L2H.RoomH k (X.suite a pn).A := ⟨hr.dp, hr.un⟩
section
variable {X : Cx} {k : Nat} {a : Addr} {oe : Obj} {cls : Value} {d : Option Addr} {pn : List (Addr × Obj)} {sp : SpE} {x : Str} {q pos : Pos} {e : Expr} {es : List Expr} {t : TA}
theorem pe_callEG (F : FnEG X.prog X.w X.K X.mg X.base k x sp) (hr : L2H.RoomH k (X.suite a ((a, oe) :: pn)).A) (hz : Zc cls d oe) (hf : ∃ vs, oe.data = .fields vs) (hg : Gl X x)
    (ha : PA (X.suite a ((a, oe) :: pn)) (e :: es) t) (hdb : (x == ("__debug__" : Str)) = false := by decide) (he : starEach (e :: es) X.env = (false, eval e X.env) :: starEach es X.env := by rfl) (hpl : (backTo pos (starEach es X.env)).any (·.1) = false := by rfl) :
    PE (X.suite a ((a, oe) :: pn)) (.Call (.Name x q) (e :: es) [] pos) (tCallE a cls d sp t) := by
  obtain ⟨f, fd, ps, G, hm, hk, hb⟩ := F.ex
  exact pe_callE G hr hz hf hg hm hk hb ha hdb he hpl
end
end MC
set_option maxHeartbeats 4000000
/-! MB12: instances called, properties, classes called with a starred argument or by an __init__ with a star, methods by keywords; what they let out, at the slots -/
namespace MC
open PySem PySem.Spec PyProof.Rows L2
section
variable {X : Cx} {k : Nat} {sp : Sp} {E : L2.St → XK} {x m f : Str} {p apos pos sp_ : Pos} {e o fe : Expr} {es : List Expr} {te ta tf : TE} {t tk : TA} {C : Addr} {pl : Sem Bool} {kws : List Keyword}
/-! ### o(e, ..), o an instance -/
structure CallG (P : Program) (w : World) (K : PySem.W.Frag) (mg : Str → Option Value) (base : Heap) (k : Nat) (C : Addr) (sp : Sp) : Prop where
  ex : ∃ g, StX.CallO K C g ∧ FnR P w K mg base (L2.CX P w) k g sp
def tCallOG (C : Addr) (sp : Sp) (E : L2.St → XK) (tf : TE) (t : TA) : TE := fun σ H Q => tf σ H fun y H1 => ∃ a, y = V.ref a ∧ t σ H1 fun vs H2 => (∃ dx fs, H2 a = some (.ins C dx fs)) ∧ sp (V.ref a :: vs) H2 Q (E σ)
theorem pe_callOG (F : CallG X.prog X.w X.K X.mg X.base k C sp) (hr : Room k X.A) (hx : ∀ σ, PassesAt (L2.CX X.prog X.w) X σ (E σ)) (hf : PE X fe tf) (ha : PA X (e :: es) t)
    (ht : eval (.Call fe (e :: es) [] pos) X.env = (do callWith pos (← eval fe X.env) [] (backTo pos (starEach (e :: es) X.env)) (backToKw pos (keywordEach [] X.env))) := by rfl)
    (he : starEach (e :: es) X.env = (false, eval e X.env) :: starEach es X.env := by rfl) (hpl : (backTo pos (starEach es X.env)).any (·.1) = false := by rfl) : PE X (.Call fe (e :: es) [] pos) (tCallOG C sp E tf t) := by
  obtain ⟨g, c, G⟩ := F.ex
  refine ⟨fun pins s σ H Q I h => ?_⟩
  refine Call_ (thn (hf.run pins s σ H _ I h) fun u s1 ⟨y, H1, I1, ry, a, ey, q⟩ => ?_) ht
  subst ey
  obtain rfl : u = Value.ref a := ry
  refine StX.callO_with (thn (ha.run pos pins s1 σ H1 _ I1 q) fun us s2 ⟨vs, H2, I2, r, hi, q2⟩ => ?_) he hpl
  obtain ⟨ox, od, J, hd⟩ := StX.insC_at (X := X) I2 (.inr hi)
  exact ⟨⟨C, ox, od, J, hd⟩, wpAny_call (PySem.W.kco_code I2.kIn J hd c.at_ c.fn c.fi (run_S (us := .ref a :: us) (vs := .ref a :: vs) G hr (hx σ) I2 (.cons rfl r) q2))⟩
/-! ### o.f, f a property that raises nothing -/
structure PrG (P : Program) (w : World) (K : PySem.W.Frag) (mg : Str → Option Value) (base : Heap) (k : Nat) (C : Addr) (f : Str) (sp : Sp) : Prop where
  cl : Cls K C
  ex : ∃ p g fd ps, PropOf K C f p g ∧ FnOk P w K mg base (L2.CX P w) k g fd ps sp ∧ Binds K fd ps []
def tPropG (C : Addr) (sp : Sp) (ta : TE) : TE := tProp C sp [] XE0 ta
theorem pe_propG (F : PrG X.prog X.w X.K X.mg X.base k C f sp) (hr : Room (k + 1) X.A) (he : PE X e ta) (hab : attributeBase e f X.env (eval e X.env) = eval e X.env := by rfl) : PE X (.Attribute e f pos) (tPropG C sp ta) := by
  obtain ⟨p, g, fd, ps, hp, G, b⟩ := F.ex
  refine pe_prop he F.cl hp G hr b .nil (fun pins σ H s e s' I h => ?_) hab
  obtain ⟨_, _, _, _, _, _, _, _, _, _, _, _, z⟩ := h
  exact z.elim
/-! ### a class called, its __init__ by a positional promise -/
structure CtR (P : Program) (w : World) (K : PySem.W.Frag) (mg : Str → Option Value) (base : Heap) (k : Nat) (C : Addr) (sp : List V → Hp → VK → XK → Prop) : Prop where
  ex : ∃ f spI, Mk K C f ∧ FnR P w K mg base (L2.CX P w) k f spI ∧ ∀ vs H Q E, sp vs H Q E → ∀ x dx, H x = none → H dx = none → dx ≠ x → spI (.ref x :: vs) (upd (upd H dx (.own x)) x (.ins C dx [])) (fun v H2 => v = .non ∧ Q (.ref x) H2) E
theorem CtR.kp (F : CtR X.prog X.w X.K X.mg X.base k C sp) : PySem.W.keepIn X.K (.ref C) = true := by
  obtain ⟨f, spI, M, G, hsp⟩ := F.ex
  exact M.kp
theorem run_mkR {pins : List (Addr × Obj)} {σ : L2.St} {H : Hp} {s : Shared} {Q : VK} {us : List Value} {vs : List V} {E : XK} (F : CtR X.prog X.w X.K X.mg X.base k C sp) (hr : Room (k + 1) X.A) (hx : PassesAt (L2.CX X.prog X.w) X σ E)
    (I : Inv X pins σ H s) (r : Vals vs us) (h : sp vs H Q E) : wpAny (model X.prog X.w) X.A (call (.ref C) us) (EP X pins σ Q) X.xe s := by
  obtain ⟨f, spI, M, G, hsp⟩ := F.ex
  have hq := hsp _ _ _ _ h (s.heap.objs.size + 1) s.heap.objs.size (I.hok.fresh (Nat.le_succ _)) (I.hok.fresh (Nat.le_refl _)) (Nat.ne_of_lt (Nat.lt_succ_self _))
  have I2 := Inv.made (C := C) I
  have r2 : Vals (V.ref (s.heap.objs.size + 1) :: vs) (Value.ref (s.heap.objs.size + 1) :: us) := .cons rfl r
  refine wpAny_call (make_map (f := f) I.kIn M.makes M.init (beq_iff_eq.mp M.fn) (codeAny_mono (G _ X.stack _ _ (Value.ref (s.heap.objs.size + 1) :: us) _ _ E (hr.make C us []) (I2.env0.make C us []) r2 hq) fun r s' hq' => ?_))
  cases r with
  | error e => exact hx pins _ _ e s' I2 hq'
  | ok fl =>
    cases fl with
    | ret u =>
      obtain ⟨v, H', I3, rv, ev, q3⟩ := I2.after hq'
      subst ev
      exact ⟨rv, ⟨V.ref (s.heap.objs.size + 1), H', I3, rfl, q3⟩⟩
    | next => exact False.elim hq'
    | brk => exact False.elim hq'
    | cont => exact False.elim hq'
def tMkRG (C : Addr) (sp : List V → Hp → VK → XK → Prop) (E : L2.St → XK) (tf : TE) (t : TA) : TE := fun σ H Q => tf σ H fun c H0 => c = .ref C ∧ t σ H0 fun vs H1 => sp vs H1 Q (E σ)
theorem pe_mkR (F : CtR X.prog X.w X.K X.mg X.base k C sp) (hr : Room (k + 1) X.A) (hx : ∀ σ, PassesAt (L2.CX X.prog X.w) X σ (E σ)) (hf : PE X (.Name x p) tf) (ha : PA X (e :: es) t)
    (he : starEach (e :: es) X.env = (false, eval e X.env) :: starEach es X.env := by rfl) (hpl : (backTo pos (starEach es X.env)).any (·.1) = false := by rfl) : PE X (.Call (.Name x p) (e :: es) [] pos) (tMkRG C sp E tf t) := by
  refine ⟨fun pins s σ H Q I h => ?_⟩
  refine wpAny_Call_Name_kw (thn (hf.run pins s σ H _ I h) fun u s0 ⟨c, H0, I0, rc, ec, q0⟩ => ?_)
  subst ec
  obtain rfl : u = Value.ref C := rc
  refine PySem.W.callWith_K (h₀ := X.base) I.ok.mod.kin F.kp (thn (ha.run pos pins s0 σ H0 _ I0 q0) fun us s1 ⟨vs, H1, I1, r, q⟩ => ⟨I1.kIn, ?_⟩) he hpl
  exact run_mkR F hr (hx σ) I1 r q
theorem pe_mkR0 (F : CtR X.prog X.w X.K X.mg X.base k C sp) (hr : Room (k + 1) X.A) (hx : ∀ σ, PassesAt (L2.CX X.prog X.w) X σ (E σ)) (hf : PE X (.Name x p) tf) : PE X (.Call (.Name x p) [] [] pos) (tMkRG C sp E tf tNil) := by
  refine ⟨fun pins s σ H Q I h => ?_⟩
  refine wpAny_Call_Name_kw (thn (hf.run pins s σ H _ I h) fun u s0 ⟨c, H0, I0, rc, ec, q0⟩ => ?_)
  subst ec
  obtain rfl : u = Value.ref C := rc
  exact PySem.W.callWith_K0 I0.kIn F.kp (run_mkR (us := []) (vs := []) F hr (hx σ) I0 .nil q0)
/-- C( *e) -/
def tMkSt (K : PySem.W.Frag) (C : Addr) (sp : List V → Hp → VK → XK → Prop) (E : L2.St → XK) (tf te : TE) : TE := fun σ H Q => tf σ H fun c H0 => c = .ref C ∧ te σ H0 fun y H1 => ∃ a xs, y = V.ref a ∧ (SqT K H1 a xs ∨ SqL K H1 a xs) ∧ sp xs H1 Q (E σ)
theorem pe_mkSt (F : CtR X.prog X.w X.K X.mg X.base k C sp) (hr : Room (k + 1) X.A) (hx : ∀ σ, PassesAt (L2.CX X.prog X.w) X σ (E σ)) (hf : PE X (.Name x p) tf) (he : PE X e te)
    (hst : starEach [.Starred e sp_] X.env = [(true, eval e X.env)] := by rfl) : PE X (.Call (.Name x p) [.Starred e sp_] [] pos) (tMkSt X.K C sp E tf te) := by
  refine ⟨fun pins s σ H Q I h => ?_⟩
  refine wpAny_Call_Name_kw (thn (hf.run pins s σ H _ I h) fun u s0 ⟨c, H0, I0, rc, ec, q0⟩ => ?_)
  subst ec
  obtain rfl : u = Value.ref C := rc
  refine PySem.W.callWith_S (h₀ := X.base) I.ok.mod.kin F.kp (thn (he.run pins s0 σ H0 _ I0 q0) fun v s1 ⟨y, H1, I1, ry, a, xs, ey, hxs, q⟩ => ?_) hst
  subst ey
  obtain rfl : v = Value.ref a := ry
  exact StX.star_any I1 hxs fun us s2 I2 rv => ⟨I2.kIn, run_mkR F hr (hx σ) I2 rv q⟩
/-! ### o.m(k = v, ..) -/
structure MeK (P : Program) (w : World) (K : PySem.W.Frag) (mg : Str → Option Value) (base : Heap) (k : Nat) (C : Addr) (m : Str) (ks : List Str) (sp : List V → Hp → VK → XK → Prop) : Prop where
  cl : Cls K C
  ex : ∃ f fd ps g gV spI, Meth K C m f ∧ FnOk P w K mg base (L2.CX P w) k f fd ps spI ∧ KBn K fd ps 1 ks g gV ∧ ∀ a zs H Q E, sp (.ref a :: zs) H Q E → zs.length = ks.length ∧ spI (gV [.ref a] zs) H Q E
def tMethK (C : Addr) (m : Str) (sp : List V → Hp → VK → XK → Prop) (E : L2.St → XK) (ta : TE) (tk : TA) : TE := fun σ H Q => ta σ H fun x H1 => ∃ a dx fs, x = .ref a ∧ H1 a = some (.ins C dx fs) ∧ fs.lookup m = none ∧ tk σ H1 fun zs H2 => sp (.ref a :: zs) H2 Q (E σ)
theorem pe_methK {ks : List Str} (F : MeK X.prog X.w X.K X.mg X.base k C m ks sp) (hr : Room k X.A) (hx : ∀ σ, PassesAt (L2.CX X.prog X.w) X σ (E σ)) (he : PE X o ta) (hkw : PK X kws tk)
    (hall : (backToKw pos (keywordEach kws X.env)).all (·.1.isSome) = true := by rfl) (hks : (backToKw pos (keywordEach kws X.env)).filterMap (·.1) = ks := by rfl)
    (hpl : ((backTo pos (starEach [] X.env)).any (·.1) || (backToKw pos (keywordEach kws X.env)).any (·.1.isNone)) = false := by rfl)
    (ht : eval (.Call (.Attribute o m apos) [] kws pos) X.env = (do
      let ov ← eval o X.env
      standAt apos.atName
      let (f, first) ← holding [ov] (getMethod ov m pl)
      callWith pos f first (backTo pos (starEach [] X.env)) (backToKw pos (keywordEach kws X.env))) := by rfl) :
    PE X (.Call (.Attribute o m apos) [] kws pos) (tMethK C m sp E ta tk) := by
  obtain ⟨f, fd, ps, g, gV, spI, hm, G, hb, hsp⟩ := F.ex
  refine ⟨fun pins s σ H Q I h => ?_⟩
  refine PySem.W.methodCall_KW (pl := pl) (thn (he.run pins s σ H _ I h) fun u s1 ⟨x, H1, I1, rx, a, dx, fs, ex, ea, l, q⟩ => ?_) ht
  subst ex
  obtain rfl : u = Value.ref a := rx
  refine getmeth_ok I1 ea F.cl hm l ?_
  refine PySem.W.callWith_KW0 (h₀ := X.base) (first := [.ref a]) I.ok.mod.kin hm.kp hall ?_ hpl
  refine thn (hkw.run pos pins s1 σ H1 _ I1 q) fun ws s2 ⟨zs, H2, I2, rz, q2⟩ => ⟨I2.kIn, ?_⟩
  rw [hks]
  obtain ⟨lz, q3⟩ := hsp _ _ _ _ _ q2
  have r1 : Vals [V.ref a] [Value.ref a] := .cons rfl .nil
  refine wpAny_call (codeAny_mono (G.run X.A X.stack s2 H2 ⟨[.ref a], ks.zip ws⟩ (g [.ref a] ws) _ Q (E σ) hr I2.env0 (hb.to _ [.ref a] ws I2.kIn rfl (rz.length.symm.trans lz)) (hb.rel r1 rz) q3) fun r s' hq => ?_)
  cases r with
  | error e => exact hx σ pins H2 s2 e s' I2 hq
  | ok fl =>
    cases fl with
    | ret u => exact I2.after hq
    | next => exact False.elim hq
    | brk => exact False.elim hq
    | cont => exact False.elim hq
end
end MC
set_option maxHeartbeats 4000000
/-! MB13: if and for in a generator's body; a try whose body raises nothing -/
namespace PySem
open Sem (wp)
section
variable {M : Model} {A : Around} {R : GenEnd} {Y : Protocol} {n : Nat} {s₀ : Shared} {c : Code} {fs : List Frame} {s : Shared} {env : Env} {K : Flow → Sem Fin} {H : Value → Sem Fin} {gd : Bool → Bool} {lv : List Value → List Value}
theorem mc_seg_If {test : Expr} {body orelse : List Stmt} {pos : Pos}
    (h : wpAny M (A.over c fs) (isTrue test env (eval test env)) (fun b s' => if b = true then Seg M A R Y n s₀ c ((execs body env).wrap K H gd lv) fs s' else Seg M A R Y n s₀ c ((execs orelse env).wrap K H gd lv) fs s') (fun x s' => Seg M A R Y n s₀ c (H x) fs s') s) :
    Seg M A R Y n s₀ c ((exec (.If test body orelse pos) env).wrap K H gd lv) fs s := by
  rw [exec_If]
  refine seg_bind_wrap (wpAny_standAt ?_)
  refine seg_bind_wrap (wpAny_mono h (fun b s' hb => ?_) fun _ _ x => x)
  cases b with
  | true => exact hb
  | false => exact hb
theorem mc_seg_For {target iter : Expr} {body orelse : List Stmt} {pos : Pos} (hs : ∀ x, foldedSetIterable iter env x = pure x)
    (h : wpAny M (A.over c fs) (eval iter env) (fun x s₁ => wpAny M (A.over c fs) (pyIter x) (fun it s₂ => ∀ p, Seg M A R Y n s₀ (.forLoop target it body orelse env) (M.den (.forLoop target it body orelse env))
      (.ret (fun r => ((match r with | .ok f => (.pure f : Sem Flow) | .error e => .raise e).onRaise fun (x : Value) => do
        if (← field x 1) == Value.none then unsupported "frame.own-activation:exception-without-traceback"
        setFlight x env.frame).wrap K H gd lv) none (gd false) (lv []) c p [] :: fs) s₂) (fun x s' => Seg M A R Y n s₀ c (H x) fs s') s₁) (fun x s' => Seg M A R Y n s₀ c (H x) fs s') s) :
    Seg M A R Y n s₀ c ((exec (.For target iter body orelse pos) env).wrap K H gd lv) fs s := by
  rw [exec_For]
  refine seg_bind_wrap (wpAny_standAt ?_)
  refine seg_bind_wrap (wpAny_mono h (fun x s₁ h₁ => ?_) fun _ _ x => x)
  refine seg_bind_wrap (wpAny_of_eq (hs x) ?_)
  refine seg_bind_wrap (wpAny_standAt ?_)
  refine seg_bind_wrap (wpAny_holding (wpAny_mono h₁ (fun it s₂ h₂ => ?_) fun _ _ x => x))
  exact seg_call h₂
end
section
variable {prog : Program} {w : World} {A : Around} {R : GenEnd} {Y : Protocol} {n : Nat} {s₀ : Shared} {fs : List Frame} {s : Shared} {env : Env}
/-- an exception of a loop's turn -/
def McX (prog : Program) (w : World) (A : Around) (R : GenEnd) (Y : Protocol) (n : Nat) (s₀ : Shared) (c : Code) (fs : List Frame) (env : Env) : Value → Shared → Prop := fun x s' =>
  Seg (model prog w) A R Y n s₀ c ((do noteFrame x env; theTreesLotGoes x : Sem Unit).wrap (fun _ => .raise x) .raise id id) fs s'
theorem mc_seg_forLoop {target : Expr} {it : Value} {body : List Stmt}
    (h : wpAny (model prog w) (A.over (.forLoop target it body [] env) fs) (pyNext it) (fun r s₁ => match r with
      | none => Seg (model prog w) A R Y n s₀ (.forLoop target it body [] env) (.pure (.again (.block [] env))) fs s₁
      | some v => wpAny (model prog w) (A.over (.forLoop target it body [] env) fs) (letOwnedTupleGo target it v) (fun _ s₂ => wpAny (model prog w) (A.over (.forLoop target it body [] env) fs) (assign target env v) (fun _ s₃ =>
          Seg (model prog w) A R Y n s₀ (.forLoop target it body [] env) ((execs body env).wrap (fun f => match f with
            | .next | .cont => .pure (.again (.forLoop target it body [] env))
            | .brk => .pure (.done .next)
            | .ret v => .pure (.done (.ret v))) (fun e => (do noteFrame e env; theTreesLotGoes e : Sem Unit).wrap (fun _ => .raise e) .raise id id) id id) fs s₃)
        (McX prog w A R Y n s₀ (.forLoop target it body [] env) fs env) s₂) (McX prog w A R Y n s₀ (.forLoop target it body [] env) fs env) s₁)
      (McX prog w A R Y n s₀ (.forLoop target it body [] env) fs env) s) :
    Seg (model prog w) A R Y n s₀ (.forLoop target it body [] env) ((model prog w).den (.forLoop target it body [] env)) fs s := by
  show Seg _ A R Y n s₀ _ ((forTurn target it body [] env).onRaise (fun x => do noteFrame x env; theTreesLotGoes x)) fs s
  have ex : ∀ x s', McX prog w A R Y n s₀ (.forLoop target it body [] env) fs env x s' → Seg (model prog w) A R Y n s₀ (.forLoop target it body [] env) ((do noteFrame x env; theTreesLotGoes x : Sem Unit).bind fun _ => .raise x) fs s' := fun x s' hx => by
    rw [Sem.bind_eq_wrap]; exact hx
  unfold forTurn
  rw [Sem.onRaise_eq_wrap]
  refine seg_bind_wrap (wpAny_standAt ?_)
  refine seg_bind_wrap (wpAny_onRaise (wpAny_mono h (fun r s₁ h₁ => ?_) fun x s' hx => wpAny_standAt (ex x s' hx)))
  cases r with
  | none => exact h₁
  | some v =>
    refine seg_bind_wrap (wpAny_mono h₁ (fun _ s₂ h₂ => ?_) ex)
    refine seg_bind_wrap (wpAny_mono h₂ (fun _ s₃ h₃ => ?_) ex)
    rw [Sem.bind_eq_wrap', Sem.wrap_wrap]
    rw [Sem.wrap_congr (execs body env) _ _ (K' := fun f => match f with
            | .next | .cont => .pure (.again (.forLoop target it body [] env))
            | .brk => .pure (.done .next)
            | .ret v => .pure (.done (.ret v))) (H' := (fun e => (do noteFrame e env; theTreesLotGoes e : Sem Unit).wrap (fun _ => .raise e) .raise id id))
        (fun f => by cases f <;> rfl)
        (fun e => by first | exact Sem.bind_eq_wrap _ _ | (show (do noteFrame e env; theTreesLotGoes e : Sem Unit).bind (fun _ => .raise e) = _; rw [Sem.bind_eq_wrap]))]
    exact h₃
end
end PySem
set_option maxHeartbeats 4000000
/-! MB14: if and for in a generator's body, as rules -/
namespace L2
open PySem PySem.Spec PyProof.Rows GenW
section
variable {X : Cx}
def tGIf (c : TT) (t u : TGn) : TGn := fun D ys σ H => c σ H fun b H1 => if b = true then t D ys σ H1 else u D ys σ H1
theorem gs_if {c : Expr} {a b : List Stmt} {pos : Pos} {tc : TT} {t u : TGn} (hc : PT X c tc) (ha : GSs X a t) (hb : GSs X b u) : GS X (.If c a b pos) (tGIf tc t u) := by
  refine ⟨fun A S ip R n ys s₀ c fs K J gd lv s σ H D g hn k hI ht => ?_⟩
  refine mc_seg_If ?_
  rw [g.over]
  obtain ⟨acc, cc, r, I⟩ := hI
  refine wpAny_mono (hc.run _ s σ H _ I ht) (fun b s' hb' => ?_) fun x s' hx => k.exc n s₀ x s' hx
  obtain ⟨H2, I2, q2⟩ := hb'
  cases b with
  | true =>
    rw [if_pos rfl]
    exact ha.run A S ip R n ys s₀ _ fs K J gd lv s' σ H2 D g hn k ⟨acc, cc, r, I2⟩ q2
  | false =>
    rw [if_neg Bool.false_ne_true]
    exact hb.run A S ip R n ys s₀ _ fs K J gd lv s' σ H2 D g hn k ⟨acc, cc, r, I2⟩ q2
def tGFor (wi : TI) (gt : TG) (tb : TGn) : TGn := fun D ys σ H => wi σ H fun It H1 => ∃ W : Nat → Nat → List V → St → Hp → Prop, (∃ m, W 0 m ys σ H1) ∧ ∀ i m ys σ H, W i m ys σ H →
  (It.stop i H ∧ D.nx ys σ H) ∨ (It.go i H ∧ ∃ N : List V → St → Hp → Prop, (∀ ys' σ' H', N ys' σ' H' → ∃ m', m' < m ∧ W (i + 1) m' ys' σ' H') ∧ ∀ x H', It.yld i H x H' → gt x σ H' fun σ2 H2 => tb { D with nx := N, ct := N, bk := D.nx } ys σ2 H2)
theorem gs_for {tg iter : Expr} {body : List Stmt} {pos : Pos} {wi : TI} {gt : TG} {tb : TGn} (hp : PassesOwn (model X.prog X.w) X.A X.env X.xe) (hc : X.calm = true) (hi : PI X tg iter wi) (hg : PG X tg gt) (hb : GSs X body tb)
    (hs : ∀ x, foldedSetIterable iter X.env x = pure x := by intro _; rfl) : GS X (.For tg iter body [] pos) (tGFor wi gt tb) := by
  refine ⟨fun A S ip R n ys s₀ c fs K J gd lv s σ H D g hn k hI ht => ?_⟩
  refine mc_seg_For hs ?_
  rw [g.over]
  obtain ⟨acc, cc, r, I⟩ := hI
  refine wpAny_mono (hi.run _ s σ H _ I ht) (fun v s1 h1 => wpAny_mono h1 (fun itv s2 h2 p => ?_) fun x s' hx => k.exc n s₀ x s' hx) fun x s' hx => k.exc n s₀ x s' hx
  obtain ⟨it, fp, tn, It, H2, e, I2, T, st2, f2, W, ⟨m0, w0⟩, turn⟩ := h2
  subst e
  have stat : ∀ {H' : Hp} {acc' : Array Value} {c' : Nat}, (∀ b ∈ fp, H' b = none) → ∀ b ∈ fp, FpOk X ((S, lstObj acc' c') :: ip) H' b := fun {H' acc' c'} hn b hb => by
    obtain ⟨_, q2, q3, q4, q5, q6⟩ := f2 b hb
    refine ⟨hn b hb, q2, q3, q4, q5, fun p hp => ?_⟩
    rcases List.mem_append.mp hp with hp | hp
    · exact q6 p (List.mem_append_left _ hp)
    · rcases List.mem_cons.mp hp with hp | hp
      · rw [hp]; exact q6 (S, lstObj acc cc) (List.mem_append_right _ List.mem_cons_self)
      · exact q6 p (List.mem_append_right _ (List.mem_cons_of_mem _ hp))
  have fpS : ∀ b ∈ fp, b ≠ S := fun b hb z => by
    obtain ⟨_, _, _, _, _, q6⟩ := f2 b hb
    exact q6 (S, lstObj acc cc) (List.mem_append_right _ List.mem_cons_self) z.symm
  have gl := fun (kk : Result → Sem PySem.Fin) => gc_loop (k := kk) (c' := .forLoop tg (.ref it) body [] X.env) (l := lv []) (kp := []) (p := p) g rfl rfl
  have loop : ∀ (m n : Nat) (i : Nat) (ys : List V) (s₀ s : Shared) (σ : St) (H : Hp), n + ys.length = sizeLine → W i m ys σ H → GI X S ip ys σ H s → tn i s.heap → (∀ b ∈ fp, H b = none) →
      Seg (model X.prog X.w) A R (GY X S) n s₀ (.forLoop tg (.ref it) body [] X.env) ((model X.prog X.w).den (.forLoop tg (.ref it) body [] X.env))
        (.ret (fun r => ((match r with | .ok f => (.pure f : Sem Flow) | .error e => .raise e).onRaise (cameBack X.env)).wrap K J gd lv) none (gd false) (lv []) c p [] :: fs) s := by
    intro m
    induction m using Nat.strongRecOn with
    | ind m ih =>
      intro n i ys s₀ s σ H hn w hI st fr
      have ee : ∀ (n : Nat) (s₀ : Shared) (x : Value) (s' : Shared), X.xe x s' → Seg (model X.prog X.w) A R (GY X S) n s₀ (.forLoop tg (.ref it) body [] X.env)
          ((do noteFrame x X.env; theTreesLotGoes x : Sem Unit).wrap (fun _ => .raise x) .raise id id)
          (.ret (fun r => ((match r with | .ok f => (.pure f : Sem Flow) | .error e => .raise e).onRaise (cameBack X.env)).wrap K J gd lv) none (gd false) (lv []) c p [] :: fs) s' := fun n s₀ x s' hx => by
        refine seg_wrap ?_
        rw [(gl _).over]
        refine wpAny_bind (wpAny_mono (hp x s' hx) (fun _ s'' hcb => wpAny_theTreesLotGoes ?_) fun y s'' hcb => ?_)
        · exact seg_leaf (.error x) (seg_cameBack g k hcb)
        · exact seg_leaf (.error y) (seg_cameBack g k hcb)
      refine mc_seg_forLoop ?_
      rw [(gl _).over]
      obtain ⟨acc3, cc3, r3, I3⟩ := hI
      rcases turn i m ys σ H w with ⟨stop, qn⟩ | ⟨go, N, hN, step⟩
      · refine wpAny_mono (T.done X rfl rfl rfl hc i _ s σ H X.xe I3 (stat fr) st stop) (fun r s4 h4 => ?_) fun x s' hx => ee n s₀ x s' hx
        obtain ⟨hr, I4⟩ := h4
        subst hr
        refine seg_again rfl ?_
        show Seg _ _ _ _ _ _ _ (leafOf (.ok .next)) _ _
        exact seg_leaf (.ok .next) (k.ok n ys s₀ s4 .next hn ⟨σ, H, ⟨acc3, cc3, r3, I4⟩, qn⟩)
      · refine wpAny_mono (T.item X rfl rfl rfl hc i _ s σ H X.xe I3 (stat fr) st go) (fun r s4 h4 => ?_) fun x s' hx => ee n s₀ x s' hx
        obtain ⟨u, hr, h4⟩ := h4
        subst hr
        refine wpAny_mono h4 (fun _ s5 h5 => ?_) fun x s' hx => ee n s₀ x s' hx
        obtain ⟨x, H5, I5, r5, y5, st5, fr5⟩ := h5
        have I5' := I5.pinned (stat fr5) (T.obj _ _ st5)
        refine wpAny_mono (hg.run _ s5 σ H5 x u _ I5' r5 (step x H5 y5)) (fun _ s6 h6 => ?_) fun x s' hx => ee n s₀ x s' hx
        obtain ⟨σ6, H6, I6, q6⟩ := h6
        have gl' : ∀ kk, GC X S (ip ++ pinsAt fp s5.heap) A (.forLoop tg (.ref it) body [] X.env) (.ret kk none (gd false) (lv []) c p [] :: fs) id := fun kk =>
          { pn := g.pn, ip := fun q hq => (List.mem_append.mp hq).elim (g.ip q) fun z => fpS _ (of_pinsAt z).1, apart := g.apart, over := (gl kk).over, split := (gl kk).split, guard := (gl kk).guard, gd := rfl }
        have again : ∀ {n' : Nat} {s₀' : Shared} {ys7 : List V} {σ7 : St} {H7 : Hp} {s7 : Shared}, n' + ys7.length = sizeLine → GI X S (ip ++ pinsAt fp s5.heap) ys7 σ7 H7 s7 → N ys7 σ7 H7 →
            Seg (model X.prog X.w) A R (GY X S) n' s₀' (.forLoop tg (.ref it) body [] X.env) (.pure (.again (.forLoop tg (.ref it) body [] X.env)))
              (.ret (fun r => ((match r with | .ok f => (.pure f : Sem Flow) | .error e => .raise e).onRaise (cameBack X.env)).wrap K J gd lv) none (gd false) (lv []) c p [] :: fs) s7 := fun {n' s₀' ys7 σ7 H7 s7} hn7 I7 n7 => by
          obtain ⟨m', hm, w7⟩ := hN ys7 σ7 H7 n7
          obtain ⟨acc7, cc7, r7, I7⟩ := I7
          refine seg_again rfl (ih m' hm n' (i + 1) ys7 s₀' s7 σ7 H7 hn7 w7 ⟨acc7, cc7, r7, Inv.unpinned (pins := (S, lstObj acc7 cc7) :: ip) I7⟩ ?_ fun b hb => ?_)
          · exact T.keep _ _ _ st5 fun b hb o e => (I7.pin (b, o) (List.mem_append_right _ (List.mem_cons_of_mem _ (List.mem_append_right _ (mem_pinsAt hb e))))).1
          · obtain ⟨o, e, d⟩ := T.obj _ _ st5 b hb
            exact (I7.pin (b, o) (List.mem_append_right _ (List.mem_cons_of_mem _ (List.mem_append_right _ (mem_pinsAt hb e))))).2.1
        have unp : ∀ {ys7 : List V} {σ7 : St} {H7 : Hp} {s7 : Shared}, GI X S (ip ++ pinsAt fp s5.heap) ys7 σ7 H7 s7 → GI X S ip ys7 σ7 H7 s7 := fun {ys7 σ7 H7 s7} I7 => by
          obtain ⟨acc7, cc7, r7, I7⟩ := I7
          exact ⟨acc7, cc7, r7, Inv.unpinned (pins := (S, lstObj acc7 cc7) :: ip) I7⟩
        refine hb.run A S (ip ++ pinsAt fp s5.heap) R n ys s₀ _ _ _ _ id id s6 σ6 H6 { D with nx := N, ct := N, bk := D.nx } (gl' _) hn ⟨fun n' ys' s₀' s7 f hn' hs' => ?_, fun n' s₀' x s3 hx => ee n' s₀' x s3 hx⟩ ⟨acc3, cc3, r3, I6⟩ q6
        cases f with
        | next => obtain ⟨σ7, H7, I7, n7⟩ := hs'; exact again hn' I7 n7
        | cont => obtain ⟨σ7, H7, I7, n7⟩ := hs'; exact again hn' I7 n7
        | brk => obtain ⟨σ7, H7, I7, q7⟩ := hs'; exact seg_leaf (.ok .next) (k.ok n' ys' s₀' s7 .next hn' ⟨σ7, H7, unp I7, q7⟩)
        | ret v => obtain ⟨x7, σ7, H7, I7, r7, q7⟩ := hs'; exact seg_leaf (.ok (.ret v)) (k.ok n' ys' s₀' s7 (.ret v) hn' ⟨x7, σ7, H7, unp I7, r7, q7⟩)
  exact loop m0 n 0 ys s₀ s2 σ H2 hn w0 ⟨acc, cc, r, I2⟩ st2 fun b hb => (f2 b hb).1
end
end L2
set_option maxHeartbeats 4000000
/-! MB15: enumerate(list, start=k) -/
namespace PySem
theorem mc_callWith_typeK {M : Model} {A : Around} {E : Value → Shared → Prop} {s : Shared} {pos : Pos} {T : String} {first : List Value} {args : List (Bool × Sem Value)} {keywords : List (Option Str × Sem Value)} {Q : Value → Shared → Prop}
    (hplain : args.any (·.1) = false) (hkw : keywords.any (·.1.isNone) = false)
    (h : wpAny M A (evalArgs (.type T) true args keywords) (fun a s₁ => wpAny M A (call (.type T) (first ++ a.pos) a.kw) Q E s₁) E s) :
    wpAny M A (callWith pos (.type T) first args keywords) Q E s := by
  unfold callWith
  refine wpAny_bind (wpAny_holding (wpAny_mono h (fun a s₁ h₁ => wpAny_bind (wpAny_standAt ?_)) fun _ _ x => x))
  simp only [hplain, hkw, Bool.or_false]
  refine wpAny_bind (wpAny_pure ?_)
  exact wpAny_bind (wpAny_mono h₁ (fun r s₂ hr => wpAny_bind (wpAny_holding (wpAny_point (wpAny_pure hr)))) fun _ _ x => x)
end PySem
namespace L2
open PySem PySem.Spec PyProof.Rows
/-- the list at a as it stands at each turn, each item in a new pair behind its number, from k0 on -/
def ItN (K : PySem.W.Frag) (k0 : Int) (a : Addr) : It :=
  ⟨fun i H => ∃ (xs : List V) (x : V), SqL K H a xs ∧ xs[i]? = some x, fun i H v H' => ∃ T x, v = .ref T ∧ H T = none ∧ H' = upd H T (.tup [.int (k0 + (i : Nat)), x]) ∧ ∀ xs, SqL K H a xs → xs[i]? = some x, fun i H => ∃ xs : List V, SqL K H a xs ∧ i = xs.length⟩
theorem turn_N {P : Program} {w : World} {K : PySem.W.Frag} {elts : List Expr} {kk : Nat} {tpos : Pos} {k0 : Int} (a e it : Addr) (hei : e ≠ it) (hea : e ≠ a) (hai : a ≠ it) :
    Turn P w K (.Tuple elts kk tpos) (ItN K k0 a) [e, it] e (fun i h => (∃ old, IsEnum h e it (k0 + ((i : Nat) : Int)) old) ∧ h.IsListIter it a i) where
  mem := by simp
  obj := fun i h st b hb => by
    obtain ⟨⟨old, he⟩, ⟨o, ho, hc, hd⟩⟩ := st
    rcases List.mem_cons.mp hb with z | hb
    · rw [z]; exact ⟨_, he, fun v q => nomatch q⟩
    · rw [List.mem_singleton.mp hb]; exact ⟨o, ho, fun v q => by rw [hd] at q; cases q⟩
  keep := fun i h h' st k => by
    obtain ⟨⟨old, he⟩, hi⟩ := st
    exact ⟨⟨old, k e (by simp) _ he⟩, hi.at fun o q => k it (by simp) o q⟩
  item := by
    intro X hP hw hK hc i pins s σ H E I hf st hg
    subst hP hw hK
    obtain ⟨hE, hit⟩ := st
    obtain ⟨xs, x, hq, hx⟩ := hg
    obtain ⟨its, rv, p, hz⟩ := I.list hq
    obtain ⟨u, hu, ru⟩ := rv.get hx
    have WW := WalksT.enumFrom k0 (Draws.list (prog := X.prog) (w := X.w) (A := X.A.in1) (I.ok.hd hc) it a hai its.toArray) e hei (by simp [hei, hea]) (by simp)
    have hlt : ∀ b ∈ [e, it], b < s.heap.objs.size := fun b hb => by
      rcases List.mem_cons.mp hb with z | hb
      · obtain ⟨old, he⟩ := hE; rw [z]; exact Heap.lt_size he
      · obtain ⟨o, ho, _⟩ := hit; rw [List.mem_singleton.mp hb]; exact Heap.lt_size ho
    have hi : i < its.toArray.size := by
      have := (List.getElem?_eq_some_iff.mp hu).1
      simpa using this
    refine WW.item i s _ _ hi ⟨hE, hit, p.isList⟩ fun T vals h' tk hPt hT htup hmid hk => ⟨_, rfl, WW.go elts kk tpos i T _ _ _ hmid fun h'' st' hk' => ?_⟩
    have hTw : T ∉ [e, it] := WW.apart i T h' hmid
    have ho2 : h''.IsTuple T vals := by
      obtain ⟨o, ho, r⟩ := htup
      exact ⟨o, hk' T o hTw ho, r⟩
    have hV : Vals [.int (k0 + (i : Nat)), x] vals.toList := by
      obtain ⟨t', x', hx', rfl⟩ := hPt
      have hx2 : its.toArray[i]? = some x' := hx'
      have : u = x' := by
        have h3 : its.toArray[i]? = some u := by simpa using hu
        rw [h3] at hx2; exact Option.some.inj hx2
      subst this
      exact .cons ⟨_, rfl⟩ (.cons ru .nil)
    have new : ObjOk X.prog X.w (upd H T (.tup [.int (k0 + (i : Nat)), x])) h'' T (.tup [.int (k0 + (i : Nat)), x]) := by
      obtain ⟨o, ho, hc, m, hd⟩ := ho2
      exact ⟨by show 2 ≤ sizeLine; decide, vals.toList, hV, ⟨o, ho, hc, m, by simpa using hd⟩⟩
    have I1 : Inv X pins σ (upd H T (.tup [.int (k0 + (i : Nat)), x])) { s with heap := h'', toks := tk } :=
      I.turnedNew (ch := [e, it]) (fun b ob hb q => hk' b ob hb (hk b ob hb q)) (fun b hb => hf b hb) hT new
    refine ⟨.ref T, _, I1, rfl, ⟨T, x, rfl, I.hok.fresh hT, rfl, fun ys hy => by rw [I.list_inj hy hq]; exact hx⟩, ⟨st'.1, st'.2.1⟩, fun b hb => ?_⟩
    rw [upd_ne (Nat.ne_of_lt (Nat.lt_of_lt_of_le (hlt b hb) hT))]
    exact (hf b hb).1
  done := by
    intro X hP hw hK hc i pins s σ H E I hf st hg
    subst hP hw hK
    obtain ⟨hE, hit⟩ := st
    obtain ⟨xs, hq, hx⟩ := hg
    obtain ⟨its, rv, p, hz⟩ := I.list hq
    have WW := WalksT.enumFrom k0 (Draws.list (prog := X.prog) (w := X.w) (A := X.A.in1) (I.ok.hd hc) it a hai its.toArray) e hei (by simp [hei, hea]) (by simp)
    have hl := rv.length
    have e1 : i = its.toArray.size := by simp; omega
    subst e1
    exact WW.done s _ _ ⟨hE, hit, p.isList⟩ fun h' tk hk => ⟨rfl, I.turnedL (ch := [e, it]) hk fun b hb => hf b hb⟩
  self := fun A i s Q E st h => by
    obtain ⟨⟨_, he⟩, _⟩ := st
    exact wpAny_pyIter_enum he h
def iEnumN (K : PySem.W.Frag) (ta tk : TA) : TI := fun σ H R => ta σ H fun vs H1 => tk σ H1 fun zs H2 => ∃ (a : Addr) (xs : List V) (k0 : Int), vs = [.ref a] ∧ zs = [.int k0] ∧ -1000000 < k0 ∧ k0 < 1000000 ∧ SqL K H2 a xs ∧ R (ItN K k0 a) H2
theorem pi_enumN {X : Cx} {e : Expr} {ta tk : TA} {p pos tpos : Pos} {elts : List Expr} {kk : Nat} {kws : List Keyword} (hg : Gl X "enumerate") (hm : X.mg "enumerate" = none) (ha : PA X [e] ta) (hk : PK X kws tk)
    (he : backTo pos (starEach [e] X.env) = (false, eval e X.env) :: backTo pos (starEach [] X.env) := by rfl) (hpl : (backTo pos (starEach [e] X.env)).any (·.1) = false := by rfl)
    (hall : (backToKw pos (keywordEach kws X.env)).all (·.1.isSome) = true := by rfl) (hnone : (backToKw pos (keywordEach kws X.env)).any (·.1.isNone) = false := by rfl) (hks : (backToKw pos (keywordEach kws X.env)).filterMap (·.1) = [Str.ofString "start"] := by rfl) :
    PI X (.Tuple elts kk tpos) (.Call (.Name "enumerate" p) [e] kws pos) (iEnumN X.K ta tk) := by
  refine ⟨fun pins s σ H R I h => ?_⟩
  refine wpAny_Call_Name_kw (ld_blt I hg hm boot_enumerate ?_)
  refine mc_callWith_typeK hpl hnone ?_
  rw [he]
  refine evalArgs_kwB hall ?_
  rw [← he, hks]
  refine thn (ha.run pos pins s σ H _ I h) fun us s1 ⟨vs, H1, I1, r1, q1⟩ => thn (hk.run pos pins s1 σ H1 _ I1 q1) fun ws s2 ⟨zs, H2, I2, r2, q2⟩ => ?_
  obtain ⟨a, xs, k0, ex, ez, hk0, hk1, hq, q⟩ := q2
  subst ex ez
  obtain ⟨u, rfl, ru⟩ := r1.one
  obtain ⟨u2, rfl, ru2⟩ := r2.one
  obtain ⟨t, rfl⟩ := ru2
  obtain rfl : u = Value.ref a := ru
  obtain ⟨its, rv, p', hz⟩ := I2.list hq
  show wpAny _ _ (call (.type "enumerate") [.ref a] [(Str.ofString "start", .int k0 t)]) _ _ _
  refine enum_begins_start (begins_list a its.toArray) p'.isList (by omega) (by omega) fun h' he hit hsz hk => wpAny_pyIter_enum he ?_
  have I3 : Inv X pins σ H2 { s2 with heap := h' } := I2.kept (t' := s2.toks) hk
  have hal : a < s2.heap.objs.size := by obtain ⟨o, ho, _⟩ := p'.isList; exact Heap.lt_size ho
  refine ⟨s2.heap.objs.size + 1, [s2.heap.objs.size + 1, s2.heap.objs.size], _, _, H2, rfl, I3, turn_N (k0 := k0) a (s2.heap.objs.size + 1) s2.heap.objs.size (Nat.succ_ne_self _) (Nat.ne_of_gt (Nat.lt_succ_of_lt hal)) (Nat.ne_of_lt hal), ⟨⟨.none, by simpa using he⟩, ⟨_, hit, rfl, rfl⟩⟩, fun b hb => ?_, q⟩
  have hle : s2.heap.objs.size ≤ b := by
    rcases List.mem_cons.mp hb with z | hb
    · rw [z]; exact Nat.le_add_right _ _
    · rw [List.mem_singleton.mp hb]; exact Nat.le_refl _
  exact I2.fpOk hle (I2.hok.fresh hle)
end L2
set_option maxHeartbeats 4000000
/-! MB16: list(o.m(..)) of a generator method; int(bool), max, split, find, count of texts, data of any depth -/
namespace MC
open PySem PySem.Spec PyProof.Rows L2
section
variable {X : Cx} {k : Nat} {C : Addr} {m : Str} {sp : SpG} {o e : Expr} {es : List Expr} {ta : TE} {t : TA} {apos pos : Pos} {pl : Sem Bool}
structure GeG (P : Program) (w : World) (K : PySem.W.Frag) (mg : Str → Option Value) (base : Heap) (k : Nat) (C : Addr) (m : Str) (sp : SpG) : Prop where
  cl : Cls K C
  ex : ∃ f fd ps, GFn P w K mg base k f fd ps sp ∧ Meth K C m f ∧ Binds K fd ps []
theorem pgen_mG (F : GeG X.prog X.w X.K X.mg X.base k C m sp) (hr : Room k X.A) (he : PE X o ta) (ha : PA X (e :: es) t)
    (hst : starEach (e :: es) X.env = (false, eval e X.env) :: starEach es X.env := by rfl) (hpl : (backTo pos (starEach es X.env)).any (·.1) = false := by rfl)
    (ht : eval (.Call (.Attribute o m apos) (e :: es) [] pos) X.env = (do
      let ov ← eval o X.env
      standAt apos.atName
      let (f, first) ← holding [ov] (getMethod ov m pl)
      callWith pos f first (backTo pos (starEach (e :: es) X.env)) (backToKw pos (keywordEach [] X.env))) := by rfl) :
    PGen X k (.Call (.Attribute o m apos) (e :: es) [] pos) (L2.tMethG C m sp [] XE0 ta t) XE0 := by
  obtain ⟨f, fd, ps, G, hm, hb⟩ := F.ex
  exact L2.pgen_meth (pl := pl) he F.cl hm G hr hb .nil ha hst hpl ht
theorem passes0 : Passes (L2.CX X.prog X.w) X XE0 := fun pins σ H s e s' I h => (pass_none : PassesAt (L2.CX X.prog X.w) X σ XE0) pins H s e s' I h
theorem nostop0 {K : PySem.W.Frag} : NoStop K XE0 := fun _ _ _ h => h.elim
theorem pe_listGen {g : Expr} {tg : TGen} {nm : Str} {p : Pos} (h : PGen X k g tg XE0) (hr : Room (k + 3) X.A) (hg : Gl X nm) (hmg : X.mg nm = none) (hv : bootBuiltins nm = some (.type "list")) (hnm : nm ≠ "__name__" := by decide) (hdb : (nm == ("__debug__" : Str)) = false := by decide)
    (he : starEach [g] X.env = (false, eval g X.env) :: starEach [] X.env := by rfl) : PE X (.Call (.Name nm p) [g] [] pos) (tListG tg) :=
  pe_listG h passes0 nostop0 hr hg hmg hv hnm hdb he
end
section
variable {X : Cx} {K : PySem.W.Frag} {σ : L2.St} {H : Hp} {Q : VK} {QL : List V → Hp → Prop}
/-! readings -/
theorem x_intB {b : Bool} (q : Q (.int (if b then 1 else 0)) H) : rInt1 [.bl b] H Q := Or.inr ⟨b, rfl, q⟩
def rMax2 : List V → Hp → VK → Prop := fun xs H Q => ∃ i j, xs = [.int i, .int j] ∧ Q (.int (if j > i then j else i)) H
theorem call_maxU (hc : X.calm = true) : CallR X (.builtin "max") rMax2 := call_max2 hc
theorem x_max {i j : Int} (q : Q (.int (if j > i then j else i)) H) : rMax2 [.int i, .int j] H Q := ⟨i, j, rfl, q⟩
def rFindS : V → List V → Hp → VK → Prop := fun x xs H Q => ∃ a b : Str, x = .str a ∧ xs = [.str b] ∧ Q (.int (Txt.find a b)) H
theorem mt_findS : MtR X "str.find" rFindS := mt_find
theorem x_findS {z y : Str} (q : Q (.int (Txt.find z y)) H) : rFindS (.str z) [.str y] H Q := ⟨z, y, rfl, rfl, q⟩
def rCountS : V → List V → Hp → VK → Prop := fun x xs H Q => ∃ a b : Str, x = .str a ∧ xs = [.str b] ∧ Q (.int (Txt.count a b)) H
theorem mt_countS : MtR X "str.count" rCountS := mt_count
theorem x_countS {z y : Str} (q : Q (.int (Txt.count z y)) H) : rCountS (.str z) [.str y] H Q := ⟨z, y, rfl, rfl, q⟩
theorem x_inD {x y : V} {d : PyData} {ds : List PyData} (h1 : Dp K H x d) (h2 : Dp K H y (.list ds)) (s1 : SeqAt.shaped d = true) (s2 : SeqAt.shaped (.list ds) = true) (q : Q (.bl (ds.any fun z => PyData.eqv z d)) H) : rInD K x y H Q := ⟨d, ds, h1, h2, s1, s2, q⟩
theorem x_notInD {x y : V} {d : PyData} {ds : List PyData} (h1 : Dp K H x d) (h2 : Dp K H y (.list ds)) (s1 : SeqAt.shaped d = true) (s2 : SeqAt.shaped (.list ds) = true) (q : Q (.bl (!ds.any fun z => PyData.eqv z d)) H) : rNotInD K x y H Q := ⟨d, ds, h1, h2, s1, s2, q⟩
def rIsN : R2 := fun x y H Q => y = .non ∧ Q (.bl (decide (x = .non))) H
theorem op_isNone : OpR X (compareOp .Is) rIsN := op_isN
theorem x_isN {x : V} (q : Q (.bl (decide (x = .non))) H) : rIsN x .non H Q := ⟨rfl, q⟩
end
/-! ### a tuple of four texts, and lists of them, as data -/
structure R4 where
  l : Str
  o : Str
  n : Str
  r : Str
deriving DecidableEq
def R4.vs (x : R4) : List V := [.str x.l, .str x.o, .str x.n, .str x.r]
def R4.dt (x : R4) : PyData := .tuple [.str x.l, .str x.o, .str x.n, .str x.r]
def R4.ok (x : R4) : Prop := PyData.strOk x.l = true ∧ PyData.strOk x.o = true ∧ PyData.strOk x.n = true ∧ PyData.strOk x.r = true
theorem R4.lay1 {x : R4} (h : x.ok) : x.dt.canLay0 = true := by
  obtain ⟨h1, h2, h3, h4⟩ := h
  simp [R4.dt, PyData.canLay0, PyData.canLayAll0, h1, h2, h3, h4]
theorem R4.dep1 (x : R4) : x.dt.depth = 1 := by simp [R4.dt, PyData.depth, PyData.depthAll]
theorem R4.shaped {x : R4} (h : x.ok) : SeqAt.shaped x.dt = true := by
  have e := R4.dep1 x
  show (x.dt.canLay0 && decide (x.dt.depth ≤ 64)) = true
  rw [Bool.and_eq_true]
  exact ⟨R4.lay1 h, decide_eq_true (by omega)⟩
theorem R4.eqv (x y : R4) : PyData.eqv x.dt y.dt = decide (x = y) := by
  obtain ⟨a, b, c, d⟩ := x
  obtain ⟨a', b', c', d'⟩ := y
  have e : PyData.eqv (R4.dt ⟨a, b, c, d⟩) (R4.dt ⟨a', b', c', d'⟩) = ((a == a') && ((b == b') && ((c == c') && ((d == d') && true)))) := by simp only [R4.dt, PyData.eqv, PyData.eqvAll]
  rw [e]
  by_cases h1 : a = a'
  · by_cases h2 : b = b'
    · by_cases h3 : c = c'
      · by_cases h4 : d = d'
        · subst h1 h2 h3 h4; simp
        · simp [h4]
      · simp [h3]
    · simp [h2]
  · simp [h1]
theorem R4.lays : ∀ xs : List R4, (∀ x ∈ xs, x.ok) → PyData.canLayAll0 (xs.map R4.dt) = true
  | [], _ => by simp [PyData.canLayAll0]
  | x :: xs, h => by
    have ih := R4.lays xs fun y hy => h y (List.mem_cons_of_mem _ hy)
    have h1 := R4.lay1 (h x List.mem_cons_self)
    simp only [List.map_cons, PyData.canLayAll0, ih, h1, Bool.and_true]
theorem R4.deps : ∀ xs : List R4, PyData.depthAll (xs.map R4.dt) ≤ 1
  | [] => by simp [PyData.depthAll]
  | x :: xs => by
    have ih := R4.deps xs
    have h1 := R4.dep1 x
    simp only [List.map_cons, PyData.depthAll]
    omega
theorem R4.shapeds {xs : List R4} (h : ∀ x ∈ xs, x.ok) : SeqAt.shaped (.list (xs.map R4.dt)) = true := by
  have h1 := R4.deps xs
  have h2 : PyData.depth (.list (xs.map R4.dt)) ≤ 64 := by
    simp only [PyData.depth]
    omega
  show (PyData.canLay0 (.list (xs.map R4.dt)) && decide (PyData.depth (.list (xs.map R4.dt)) ≤ 64)) = true
  rw [Bool.and_eq_true]
  exact ⟨by simp only [PyData.canLay0]; exact R4.lays xs h, decide_eq_true h2⟩
theorem R4.any (x : R4) : ∀ xs : List R4, ((xs.map R4.dt).any fun z => PyData.eqv z x.dt) = decide (x ∈ xs)
  | [] => by simp
  | y :: ys => by
    rw [List.map_cons, List.any_cons, R4.any x ys, R4.eqv]
    by_cases h : y = x
    · subst h; simp
    · by_cases h' : x ∈ ys
      · simp [h']
      · simp [h, h', Ne.symm h]
/-- the items of a list stand as tuples -/
def R4s (H : Hp) : List V → List R4 → Prop
  | [], [] => True
  | v :: vs, x :: xs => (∃ p, v = .ref p ∧ H p = some (.tup x.vs)) ∧ R4s H vs xs
  | _, _ => False
theorem R4s.len {H : Hp} : ∀ {vs : List V} {xs : List R4}, R4s H vs xs → vs.length = xs.length
  | [], [], _ => rfl
  | _ :: _, _ :: _, h => by simp [R4s.len h.2]
  | [], _ :: _, h => h.elim
  | _ :: _, [], h => h.elim
theorem R4s.get {H : Hp} : ∀ {vs : List V} {xs : List R4} {i : Nat} {x : R4}, R4s H vs xs → xs[i]? = some x → ∃ p, vs[i]? = some (.ref p) ∧ H p = some (.tup x.vs)
  | [], [], i, _, _, e => by simp at e
  | v :: vs, y :: ys, 0, x, h, e => by
    have : y = x := by simpa using e
    subst this
    obtain ⟨p, rfl, hp⟩ := h.1
    exact ⟨p, rfl, hp⟩
  | v :: vs, y :: ys, i + 1, x, h, e => R4s.get (i := i) h.2 (by simpa using e)
  | [], _ :: _, _, _, h, _ => h.elim
  | _ :: _, [], _, _, h, _ => h.elim
theorem R4s.app {H : Hp} {p : Addr} {x : R4} (hp : H p = some (.tup x.vs)) : ∀ {vs : List V} {xs : List R4}, R4s H vs xs → R4s H (vs ++ [.ref p]) (xs ++ [x])
  | [], [], _ => ⟨⟨p, rfl, hp⟩, trivial⟩
  | _ :: _, _ :: _, h => ⟨h.1, R4s.app hp h.2⟩
  | [], _ :: _, h => h.elim
  | _ :: _, [], h => h.elim
theorem R4s.set {H : Hp} {p : Addr} {x : R4} (hp : H p = some (.tup x.vs)) : ∀ {vs : List V} {xs : List R4} (i : Nat), R4s H vs xs → R4s H (vs.set i (.ref p)) (xs.set i x)
  | [], [], _, _ => trivial
  | _ :: _, _ :: _, 0, h => ⟨⟨p, rfl, hp⟩, h.2⟩
  | _ :: _, _ :: _, i + 1, h => ⟨h.1, R4s.set hp i h.2⟩
  | [], _ :: _, _, h => h.elim
  | _ :: _, [], _, h => h.elim
theorem R4s.lw {H H' : Hp} (e : Lw H H') : ∀ {vs : List V} {xs : List R4}, R4s H vs xs → R4s H' vs xs
  | [], [], _ => trivial
  | _ :: _, _ :: _, h => by
    obtain ⟨⟨p, q, hp⟩, h2⟩ := h
    exact ⟨⟨p, q, e.keep hp rfl⟩, R4s.lw e h2⟩
  | [], _ :: _, h => h.elim
  | _ :: _, [], h => h.elim
theorem R4s.le {H H' : Hp} (e : Le H H') {vs : List V} {xs : List R4} (h : R4s H vs xs) : R4s H' vs xs := h.lw e.w
theorem R4.dp {K : PySem.W.Frag} {H : Hp} {p : Addr} {x : R4} (h : H p = some (.tup x.vs)) : Dp K H (.ref p) x.dt :=
  .tup (SqT.of h) (.cons (.str _) (.cons (.str _) (.cons (.str _) (.cons (.str _) .nil))))
theorem R4s.dp {K : PySem.W.Frag} {H : Hp} : ∀ {vs : List V} {xs : List R4}, R4s H vs xs → DpAll K H vs (xs.map R4.dt)
  | [], [], _ => .nil
  | _ :: _, _ :: _, h => by
    obtain ⟨⟨p, rfl, hp⟩, h2⟩ := h
    exact .cons (R4.dp hp) (R4s.dp h2)
  | [], _ :: _, h => h.elim
  | _ :: _, [], h => h.elim
/-- x not in l -/
theorem x_notIn4 {K : PySem.W.Frag} {H : Hp} {Q : VK} {p l : Addr} {x : R4} {vs : List V} {xs : List R4} (hx : H p = some (.tup x.vs)) (hl : H l = some (.lst vs)) (hr : R4s H vs xs) (ox : x.ok) (oxs : ∀ y ∈ xs, y.ok) (q : Q (.bl (!decide (x ∈ xs))) H) :
    rNotInD K (.ref p) (.ref l) H Q :=
  x_notInD (R4.dp hx) (.lst (sql hl) hr.dp) (R4.shaped ox) (R4.shapeds oxs) (by rw [R4.any]; exact q)
end MC
set_option maxHeartbeats 4000000
/-! MB17: loops over anything that walks, readings; generators' loops; comprehensions over lists -/
namespace MC
open PySem PySem.Spec PyProof.Rows L2
section
variable {K : PySem.W.Frag} {σ : L2.St} {H : Hp} {D : Ends} {tu : TS} {g : TG} {J : It} {n : Nat} {G : Hp → Prop} {Y : Nat → Hp → V → Hp → Prop} {wi : TI} {t tk : TA} {tl te : TE} {tt : TT} {ws : List Nat} {Q : VK}
theorem x_forW (w : Walk J n G Y) (Pv : Nat → L2.St → Hp → Prop) (h0 : Pv 0 σ H) (hG : ∀ i σ' H', i ≤ n → Pv i σ' H' → G H')
    (hs : ∀ i x σ' H1 H2, i < n → Pv i σ' H1 → Y i H1 x H2 → g x σ' H2 fun σ2 H2 => tu { D with nx := Pv (i + 1), ct := Pv (i + 1), bk := D.nx } σ2 H2) (hd : ∀ σ' H', Pv n σ' H' → D.nx σ' H') : kFor g tu D σ J H := for_it w Pv h0 hG hs hd
/-- for i, x in enumerate(list) -/
def kEnL (K : PySem.W.Frag) (R : It → Hp → Prop) : List V → Hp → Prop := fun vs H1 => ∃ a xs, vs = [.ref a] ∧ SqL K H1 a xs ∧ R (Ite K a) H1
theorem x_enL {R : It → Hp → Prop} (h : t σ H (kEnL K R)) : iEnum K t σ H R := h
theorem x_forEn {a : Addr} {xs : List V} (h : SqL K H a xs) (Pv : Nat → L2.St → Hp → Prop) (h0 : Pv 0 σ H) (hG : ∀ i σ' H', i ≤ xs.length → Pv i σ' H' → SqL K H' a xs)
    (hs : ∀ i x T σ' H1 H2, xs[i]? = some x → Pv i σ' H1 → Le H1 H2 → H2 T = some (.tup [.int (i : Nat), x]) → g (.ref T) σ' H2 fun σ2 H2 => tu { D with nx := Pv (i + 1), ct := Pv (i + 1), bk := D.nx } σ2 H2)
    (hd : ∀ σ' H', Pv xs.length σ' H' → D.nx σ' H') : kEnL K (kFor g tu D σ) [.ref a] H :=
  ⟨a, xs, rfl, h, x_forW walk_enum Pv h0 hG (fun i x σ' H1 H2 hi p y => by
    obtain ⟨T, u, v, rfl, hT, rfl, e1, e2⟩ := y
    cases e1
    exact hs i v T σ' H1 _ e2 p (Le.new hT) upd_same) hd⟩
theorem walk_enumN {a : Addr} {xs : List V} {k0 : Int} : Walk (ItN K k0 a) xs.length (fun H => SqL K H a xs) (YPair (fun i => some (.int (k0 + (i : Nat)))) (fun i => xs[i]?)) := by
  refine ⟨fun i _ hi q => ⟨xs, xs[i], q, by simp [hi]⟩, fun _ q => ⟨xs, q, rfl⟩, fun i H v H' _ q y => ?_⟩
  obtain ⟨T, x, h1, h2, h3, h4⟩ := y
  exact ⟨T, _, x, h1, h2, h3, rfl, h4 xs q⟩
def kEnN (K : PySem.W.Frag) (R : It → Hp → Prop) (vs : List V) : List V → Hp → Prop := fun zs H2 => ∃ (a : Addr) (xs : List V) (k0 : Int), vs = [.ref a] ∧ zs = [.int k0] ∧ -1000000 < k0 ∧ k0 < 1000000 ∧ SqL K H2 a xs ∧ R (ItN K k0 a) H2
theorem x_enN {R : It → Hp → Prop} (h : t σ H fun vs H1 => tk σ H1 (kEnN K R vs)) : iEnumN K t tk σ H R := h
theorem x_forEnN {a : Addr} {xs : List V} {k0 : Int} (h : SqL K H a xs) (hk : -1000000 < k0 ∧ k0 < 1000000) (Pv : Nat → L2.St → Hp → Prop) (h0 : Pv 0 σ H) (hG : ∀ i σ' H', i ≤ xs.length → Pv i σ' H' → SqL K H' a xs)
    (hs : ∀ i x T σ' H1 H2, xs[i]? = some x → Pv i σ' H1 → Le H1 H2 → H2 T = some (.tup [.int (k0 + (i : Nat)), x]) → g (.ref T) σ' H2 fun σ2 H2 => tu { D with nx := Pv (i + 1), ct := Pv (i + 1), bk := D.nx } σ2 H2)
    (hd : ∀ σ' H', Pv xs.length σ' H' → D.nx σ' H') : kEnN K (kFor g tu D σ) [.ref a] [.int k0] H :=
  ⟨a, xs, k0, rfl, rfl, hk.1, hk.2, h, x_forW walk_enumN Pv h0 hG (fun i x σ' H1 H2 hi p y => by
    obtain ⟨T, u, v, rfl, hT, rfl, e1, e2⟩ := y
    cases e1
    exact hs i v T σ' H1 _ e2 p (Le.new hT) upd_same) hd⟩
/-- for x in tuple -/
def kIT (K : PySem.W.Frag) (R : It → Hp → Prop) : VK := fun x H1 => ∃ a, x = .ref a ∧ (∃ xs, SqT K H1 a xs) ∧ R (Itt K a) H1
theorem x_it {R : It → Hp → Prop} (h : tl σ H (kIT K R)) : iTup K tl σ H R := h
theorem x_forT {p : Addr} {xs : List V} {j : Nat} (h : H p = some (.tup xs)) (Pv : Nat → L2.St → Hp → Prop) (h0 : Pv 0 σ H) (hl : ∀ i σ' H', i ≤ xs.length → Pv i σ' H' → H' p = some (.tup xs)) (hs : ∀ i x σ' H', xs[i]? = some x → Pv i σ' H' → tu { D with nx := Pv (i + 1), ct := Pv (i + 1), bk := D.nx } (σ'.set j (some x)) H')
    (hd : ∀ σ' H', Pv xs.length σ' H' → D.nx σ' H') : kIT K (kFor (gName j) tu D σ) (.ref p) H :=
  ⟨p, rfl, ⟨xs, sqt h⟩, x_forW walk_tup Pv h0 (fun i σ' H' hi p => sqt (hl i σ' H' hi p)) (fun i x σ' H1 H2 hi p y => by
    obtain ⟨rfl, e⟩ := y
    exact hs i x σ' _ e p) hd⟩
/-- a, b = tuple, as a target -/
theorem x_g2 {T : Addr} {x y : V} {i j : Nat} {QH : L2.St → Hp → Prop} (h : H T = some (.tup [x, y])) (q : QH ((σ.set i (some x)).set j (some y)) H) : gTup K 2 (gCons (gName i) (gCons (gName j) gNil)) (.ref T) σ H QH :=
  ⟨T, [x, y], rfl, sqt h, rfl, x, [y], rfl, y, [], rfl, rfl, q⟩
theorem x_g3 {T : Addr} {x y z : V} {i j k : Nat} {QH : L2.St → Hp → Prop} (h : H T = some (.tup [x, y, z])) (q : QH (((σ.set i (some x)).set j (some y)).set k (some z)) H) : gTup K 3 (gCons (gName i) (gCons (gName j) (gCons (gName k) gNil))) (.ref T) σ H QH :=
  ⟨T, [x, y, z], rfl, sqt h, rfl, x, [y, z], rfl, y, [z], rfl, z, [], rfl, rfl, q⟩
theorem x_g4 {T : Addr} {x y z u : V} {i j k l : Nat} {QH : L2.St → Hp → Prop} (h : H T = some (.tup [x, y, z, u])) (q : QH ((((σ.set i (some x)).set j (some y)).set k (some z)).set l (some u)) H) : gTup K 4 (gCons (gName i) (gCons (gName j) (gCons (gName k) (gCons (gName l) gNil)))) (.ref T) σ H QH :=
  ⟨T, [x, y, z, u], rfl, sqt h, rfl, x, [y, z, u], rfl, y, [z, u], rfl, z, [u], rfl, u, [], rfl, rfl, q⟩
theorem x_asgT {m : Nat} {ts : TGs} (h : te σ H fun v H1 => gTup K m ts v σ H1 fun σ2 H2 => D.nx σ2 H2) : tAsg te (gTup K m ts) D σ H := h

theorem x_ixL2 {K : PySem.W.Frag} {H : Hp} {Q : VK} {p : Addr} {xs : List V} {i : Int} {v : V} (h : H p = some (.lst xs)) (ha : atI xs i = some v) (q : Q v H) : rIx K (.ref p) (.int i) H Q := x_ixL (sql h) ha q
theorem x_lenL2 {K : PySem.W.Frag} {H : Hp} {Q : VK} {p : Addr} {xs : List V} (h : H p = some (.lst xs)) (q : Q (.int (xs.length : Nat)) H) : rLenU K [.ref p] H Q := x_lenL (sql h) q
/-- o.f = e -/
def kSF (K : PySem.W.Frag) (f : Str) (y : V) (nx : Hp → Prop) : VK := fun x H2 => ∃ a C dx fs, x = .ref a ∧ H2 a = some (.ins C dx fs) ∧ Cls K C ∧ NoAttr K C f ∧ fs.length < 1000 ∧ nx (upd H2 a (.ins C dx (putF f y fs)))
theorem x_sfld {f : Str} {to : TE} (h : te σ H fun y H1 => to σ H1 (kSF K f y fun H3 => D.nx σ H3)) : sFld K to te f D σ H := h
theorem x_kSF {f : Str} {y : V} {nx : Hp → Prop} {a C dx : Addr} {fs : List (Str × V)} (h : H a = some (.ins C dx fs)) (k : FldOk K C f) (hl : fs.length < 1000) (q : nx (upd H a (.ins C dx (putF f y fs)))) : kSF K f y nx (.ref a) H := ⟨a, C, dx, fs, rfl, h, k.1, k.2, hl, q⟩
/-! ### all stays but at p -/
structure Lx (p : Addr) (H H' : Hp) : Prop where
  at_ : ∀ b o, b ≠ p → H b = some o → H' b = some o
  fr : ∀ b, H' b = none → H b = none
theorem Lx.refl {p : Addr} (H : Hp) : Lx p H H := ⟨fun _ _ _ h => h, fun _ h => h⟩
theorem Lx.of {p : Addr} {H H' : Hp} (e : Le H H') : Lx p H H' := ⟨fun b o _ h => e.at_ b o h, e.fr⟩
theorem Lx.trans {p : Addr} {H H1 H2 : Hp} (a : Lx p H H1) (b : Lx p H1 H2) : Lx p H H2 := ⟨fun x o n h => b.at_ x o n (a.at_ x o n h), fun x h => a.fr x (b.fr x h)⟩
theorem Lx.put {p : Addr} {H H' : Hp} {o o' : HO} (e : Lx p H H') (h : H' p = some o) : Lx p H (upd H' p o') := ⟨fun b u n hb => by
  rw [upd_ne n]; exact e.at_ b u n hb, fun b hb => by
  by_cases n : b = p
  · rw [n, upd_same] at hb; cases hb
  · rw [upd_ne n] at hb; exact e.fr b hb⟩
/-- what is new may change -/
theorem Lx.own {p l : Addr} {H H' : Hp} {o : HO} (e : Lx p H H') (h : H l = none) (hl : ∃ u, H' l = some u) : Lx p H (upd H' l o) := ⟨fun b u n hb => by
  rw [upd_ne (ne_of_none hb h)]; exact e.at_ b u n hb, fun b hb => by
  by_cases n : b = l
  · rw [n]; exact h
  · rw [upd_ne n] at hb; exact e.fr b hb⟩

/-! ### [e for x in list], no test: the i-th item keeps R i v, which stays -/
theorem x_lcL {p : Addr} {xs : List V} {j : Nat} (R : Nat → V → Hp → Prop) (h : H p = some (.lst xs)) (hz : xs.length ≤ 1000000)
    (st : ∀ i v H1 H2, Le H1 H2 → R i v H1 → R i v H2) (so : ∀ i v H1 D acc acc', H1 D = some (.lst acc) → R i v H1 → R i v (upd H1 D (.lst acc')))
    (hw : ∀ x, wipe ((wipe σ ws).set j x) ws = wipe σ ws)
    (he : ∀ i x H', xs[i]? = some x → Le H H' → ∀ Qe : VK, (∀ v H2, Le H' H2 → R i v H2 → Qe v H2) → te ((wipe σ ws).set j (some x)) H' Qe)
    (q : ∀ r H1 ys, H r = none → Le H H1 → H1 r = some (.lst ys) → ys.length = xs.length → (∀ i v, ys[i]? = some v → R i v H1) → Q (.ref r) H1) : kIL K (kLc (gName j) tYes te ws σ Q) (.ref p) H := by
  refine ⟨p, rfl, ⟨xs, sql h⟩, fun D hD => lc_it walk_list (Qd := fun H => Q (.ref D) H) (fun i H' => Le H H' ∧ ∃ ys, H' D = some (.lst ys) ∧ ys.length = i ∧ ∀ k v, ys[k]? = some v → R k v H')
    ⟨le_own (Le.refl H) hD, [], upd_same, rfl, fun k v e => by simp at e⟩ (fun i H' hi p => sql (p.1.keep h)) (fun i x H1 H2 hi p y => ?_) fun H' p => ?_⟩
  · obtain ⟨rfl, hx⟩ := y
    obtain ⟨e1, ys, hD1, hl, hr⟩ := p
    refine ⟨hw _, ?_⟩
    simp only [tYes, if_true]
    refine he i x _ hx e1 _ fun v H2 e2 hv => ⟨ys, e2.keep hD1, by rw [sizeLine_eq]; omega, le_own (e1.trans e2) hD, ys ++ [v], upd_same, by simp [hl], fun k u hk => ?_⟩
    refine so k u H2 D ys _ (e2.keep hD1) ?_
    by_cases hlt : k < ys.length
    · rw [List.getElem?_append_left hlt] at hk
      exact st k u _ _ e2 (hr k u hk)
    · rw [List.getElem?_append_right (by omega)] at hk
      have h0 : k - ys.length = 0 := by
        cases hh : k - ys.length with
        | zero => rfl
        | succ m => rw [hh] at hk; simp at hk
      rw [h0] at hk
      cases hk
      have : k = i := by omega
      rw [this]
      exact hv
  · obtain ⟨e1, ys, hD1, hl, hr⟩ := p
    exact q D H' ys hD e1 hD1 hl hr
/-- texts -/
theorem x_lcLS {p : Addr} {xs : List V} {j : Nat} (f : Nat → Str) (h : H p = some (.lst xs)) (hz : xs.length ≤ 1000000)
    (hw : ∀ x, wipe ((wipe σ ws).set j x) ws = wipe σ ws)
    (he : ∀ i x H', xs[i]? = some x → Le H H' → ∀ Qe : VK, (∀ H2, Le H' H2 → Qe (.str (f i)) H2) → te ((wipe σ ws).set j (some x)) H' Qe)
    (q : ∀ r H1, H r = none → Le H H1 → H1 r = some (.lst (((List.range xs.length).map f).map V.str)) → Q (.ref r) H1) : kIL K (kLc (gName j) tYes te ws σ Q) (.ref p) H :=
  x_lcL (fun i v _ => v = .str (f i)) h hz (fun _ _ _ _ _ h => h) (fun _ _ _ _ _ _ _ h => h) hw (fun i x H' hx e Qe hq => he i x H' hx e Qe fun H2 e2 => hq _ H2 e2 rfl) fun r H1 ys hr e h1 hl hys => q r H1 hr e (by
    rw [h1]
    congr 2
    refine List.ext_getElem? fun i => ?_
    by_cases hi : i < xs.length
    · have hi2 : i < ys.length := by omega
      rw [List.getElem?_eq_getElem hi2, hys i ys[i] (List.getElem?_eq_getElem hi2)]
      simp [hi]
    · rw [List.getElem?_eq_none (by omega), List.getElem?_eq_none (by simp; omega)])
end

/-! ### generators -/
section
variable {K : PySem.W.Frag} {σ : L2.St} {H : Hp} {D : GEnds} {tu t1 t2 : TGn} {g : TG} {J : It} {n : Nat} {G : Hp → Prop} {Y : Nat → Hp → V → Hp → Prop} {wi : TI} {te : TE} {tt : TT} {ys : List V}
def kGFor (g : TG) (tb : TGn) (D : GEnds) (ys : List V) (σ : L2.St) : It → Hp → Prop := fun J H1 => ∃ W : Nat → Nat → List V → L2.St → Hp → Prop, (∃ m, W 0 m ys σ H1) ∧ ∀ i m ys σ H, W i m ys σ H →
  (J.stop i H ∧ D.nx ys σ H) ∨ (J.go i H ∧ ∃ N : List V → L2.St → Hp → Prop, (∀ ys' σ' H', N ys' σ' H' → ∃ m', m' < m ∧ W (i + 1) m' ys' σ' H') ∧ ∀ x H', J.yld i H x H' → g x σ H' fun σ2 H2 => tb { D with nx := N, ct := N, bk := D.nx } ys σ2 H2)
theorem x_gfor (h : wi σ H (kGFor g tu D ys σ)) : tGFor wi g tu D ys σ H := h
theorem x_gforW (w : Walk J n G Y) (Pv : Nat → List V → L2.St → Hp → Prop) (h0 : Pv 0 ys σ H) (hG : ∀ i ys' σ' H', i ≤ n → Pv i ys' σ' H' → G H')
    (hs : ∀ i x ys' σ' H1 H2, i < n → Pv i ys' σ' H1 → Y i H1 x H2 → g x σ' H2 fun σ2 H2 => tu { D with nx := Pv (i + 1), ct := Pv (i + 1), bk := D.nx } ys' σ2 H2) (hd : ∀ ys' σ' H', Pv n ys' σ' H' → D.nx ys' σ' H') : kGFor g tu D ys σ J H := by
  refine ⟨fun i m ys σ H => m = n - i ∧ i ≤ n ∧ Pv i ys σ H, ⟨n, by simp, Nat.zero_le _, h0⟩, ?_⟩
  rintro i m ys σ H ⟨rfl, hi, p⟩
  have q := hG i ys σ H hi p
  by_cases hlt : i < n
  · exact .inr ⟨w.goes i H hlt q, Pv (i + 1), fun ys' σ' H' p' => ⟨n - (i + 1), by omega, rfl, hlt, p'⟩, fun x H' y => hs i x ys σ H H' hlt p (w.yields i H x H' hlt q y)⟩
  · have e : i = n := by omega
    subst e
    exact .inl ⟨w.stops H q, hd ys σ H p⟩
theorem x_gfor1 {j : Nat} {n : Int} (hn : -(2 ^ 62) ≤ n ∧ n < 2 ^ 62) (Pv : Nat → List V → L2.St → Hp → Prop) (h0 : Pv 0 ys σ H)
    (hs : ∀ (i : Nat) ys' σ' H', (i : Int) < n → Pv i ys' σ' H' → tu { D with nx := Pv (i + 1), ct := Pv (i + 1), bk := D.nx } ys' (σ'.set j (some (.int (i : Nat)))) H') (hd : ∀ ys' σ' H', Pv n.toNat ys' σ' H' → D.nx ys' σ' H') : kR1 (kGFor (gName j) tu D ys σ) [.int n] H :=
  ⟨n, rfl, hn.1, hn.2, x_gforW walk_range Pv h0 (fun _ _ _ _ _ _ => trivial) (fun i x ys' σ' H1 H2 hi p y => by
    obtain ⟨rfl, rfl⟩ := y
    have e0 : (0 : Int) + (i : Int) = (i : Int) := Int.zero_add _
    show tu _ ys' (σ'.set j (some (.int ((0 : Int) + (i : Int))))) _
    rw [e0]
    exact hs i ys' σ' _ (by omega) p) hd⟩
theorem x_gforEn {a : Addr} {xs : List V} (h : SqL K H a xs) (Pv : Nat → List V → L2.St → Hp → Prop) (h0 : Pv 0 ys σ H) (hG : ∀ i ys' σ' H', i ≤ xs.length → Pv i ys' σ' H' → SqL K H' a xs)
    (hs : ∀ i x T ys' σ' H1 H2, xs[i]? = some x → Pv i ys' σ' H1 → Le H1 H2 → H2 T = some (.tup [.int (i : Nat), x]) → g (.ref T) σ' H2 fun σ2 H2 => tu { D with nx := Pv (i + 1), ct := Pv (i + 1), bk := D.nx } ys' σ2 H2)
    (hd : ∀ ys' σ' H', Pv xs.length ys' σ' H' → D.nx ys' σ' H') : kEnL K (kGFor g tu D ys σ) [.ref a] H :=
  ⟨a, xs, rfl, h, x_gforW walk_enum Pv h0 hG (fun i x ys' σ' H1 H2 hi p y => by
    obtain ⟨T, u, v, rfl, hT, rfl, e1, e2⟩ := y
    cases e1
    exact hs i v T ys' σ' H1 _ e2 p (Le.new hT) upd_same) hd⟩
theorem x_gseq (h : t1 { D with nx := fun ys' σ' H' => t2 D ys' σ' H' } ys σ H) : tGThen t1 t2 D ys σ H := h
theorem x_g0 (h : D.nx ys σ H) : tG0 D ys σ H := h
theorem x_gif {b : Bool} (h : EvT tt σ H b) (h1 : b = true → ∀ H1, Le H H1 → t1 D ys σ H1) (h2 : b = false → ∀ H1, Le H H1 → t2 D ys σ H1) : tGIf tt t1 t2 D ys σ H := h H (Le.refl H) _ fun H1 e => by
  cases b with
  | true => rw [if_pos rfl]; exact h1 rfl H1 e
  | false => rw [if_neg Bool.false_ne_true]; exact h2 rfl H1 e
def kGIf (t1 t2 : TGn) (D : GEnds) (ys : List V) (σ : L2.St) : Bool → Hp → Prop := fun b H1 => if b = true then t1 D ys σ H1 else t2 D ys σ H1
theorem x_gifK (h : tt σ H (kGIf t1 t2 D ys σ)) : tGIf tt t1 t2 D ys σ H := h
theorem x_kGIf {b : Bool} (h1 : b = true → t1 D ys σ H) (h2 : b = false → t2 D ys σ H) : kGIf t1 t2 D ys σ b H := by
  unfold kGIf
  cases b with
  | true => rw [if_pos rfl]; exact h1 rfl
  | false => rw [if_neg Bool.false_ne_true]; exact h2 rfl
theorem x_gyield (hl : ys.length < 1000000) (h : te σ H fun x H1 => D.nx (ys ++ [x]) σ H1) : tGYield te D ys σ H := ⟨Nat.lt_of_lt_of_le hl (szb (Nat.le_refl _)), h⟩
theorem x_gps {u : TS} (h : u (D.at ys) σ H) : tPlain u D ys σ H := h
end
end MC
set_option maxHeartbeats 4000000
/-! MB18: texts: count, find, split by one sign -/
namespace MC
open PySem PySem.Spec PyProof.Rows L2
theorem str_ext' {z w : Str} (h : z.cps.toList = w.cps.toList) : z = w := by
  obtain ⟨a⟩ := z
  obtain ⟨b⟩ := w
  have h : a.toList = b.toList := h
  rw [show a = b from by cases a; cases b; simpa using h]
theorem at_one (x : Str) (c i : Nat) : StrLaws.At x ⟨#[c]⟩ x.length i ↔ x.cps.toList[i]? = some c := StrLaws.subAt_one x c i
theorem count_drop (l : List Nat) (c : Nat) : ∀ (k a : Nat), (∀ j, a ≤ j → j < a + k → l[j]? ≠ some c) → (l.drop a).count c = (l.drop (a + k)).count c
  | 0, a, _ => rfl
  | k + 1, a, h => by
    rw [show a + (k + 1) = (a + 1) + k by omega, ← count_drop l c k (a + 1) fun j h1 h2 => h j (by omega) (by omega)]
    by_cases ha : a < l.length
    · rw [List.drop_eq_getElem_cons ha, List.count_cons]
      have : l[a] ≠ c := fun z => h a (Nat.le_refl _) (by omega) (by rw [List.getElem?_eq_getElem ha, z])
      simp [this]
    · rw [List.drop_eq_nil_of_le (by omega), List.drop_eq_nil_of_le (by omega)]
theorem chain_count (x : Str) (c : Nat) : ∀ (cuts : List Nat) (a f : Nat), StrLaws.ChainG x ⟨#[c]⟩ x.length a cuts f → (∀ k, f ≤ k → ¬ StrLaws.At x ⟨#[c]⟩ x.length k) → cuts.length = (x.cps.toList.drop a).count c
  | [], a, f, h, hn => by
    have e : f = a := h
    subst e
    rw [count_drop x.cps.toList c x.cps.toList.length f fun j h1 _ => fun z => hn j h1 ((at_one x c j).mpr z), List.drop_eq_nil_of_le (by omega)]
    rfl
  | k :: r, a, f, h, hn => by
    obtain ⟨h1, h2, h3, h4⟩ := h
    have ih := chain_count x c r _ f h4 hn
    have hk : x.cps.toList[k]? = some c := (at_one x c k).mp h2
    obtain ⟨hlt, hkc⟩ := List.getElem?_eq_some_iff.mp hk
    have e : (x.cps.toList.drop a).count c = (x.cps.toList.drop k).count c := by
      have := count_drop x.cps.toList c (k - a) a fun j q1 q2 => fun z => h3 j q1 (by omega) ((at_one x c j).mpr z)
      rw [this, show a + (k - a) = k by omega]
    rw [e, List.drop_eq_getElem_cons hlt, List.count_cons, hkc, List.length_cons, ih]
    rw [show (⟨#[c]⟩ : Str).length = 1 from rfl]
    simp
theorem count_one (x : Str) (c : Nat) : Txt.count x ⟨#[c]⟩ = ((x.cps.toList.count c : Nat) : Int) := by
  obtain ⟨f, h1, h2⟩ := StrLaws.occ_tight x ⟨#[c]⟩ (Nat.le_refl _)
  unfold Txt.count
  rw [chain_count x c _ 0 f h1 h2]; rfl
theorem find_one {x : Str} {c : Nat} {u v : List Nat} (h : x.cps.toList = u ++ c :: v) (hu : c ∉ u) : Txt.find x ⟨#[c]⟩ = ((u.length : Nat) : Int) := by
  have hu' : x.cps.toList[u.length]? = some c := by rw [h]; simp
  rcases StrLaws.occ_head x ⟨#[c]⟩ 1 (Nat.le_refl _) with ⟨_, h2⟩ | ⟨i, r, h1, h2, h3⟩
  · exact absurd ((at_one x c _).mpr hu') (h2 _)
  · unfold Txt.find
    rw [h1]
    have hi := (at_one x c i).mp h2
    have e1 : ¬ u.length < i := fun z => h3 _ z ((at_one x c _).mpr hu')
    have e2 : ¬ i < u.length := fun z => by
      rw [h, List.getElem?_append_left z] at hi
      exact hu (List.mem_of_getElem? hi)
    show (i : Int) = _
    omega
theorem find_none {x : Str} {c : Nat} (h : c ∉ x.cps.toList) : Txt.find x ⟨#[c]⟩ = -1 := by
  rcases StrLaws.occ_head x ⟨#[c]⟩ 1 (Nat.le_refl _) with ⟨h1, _⟩ | ⟨i, r, h1, h2, _⟩
  · unfold Txt.find; rw [h1]
  · exact absurd (List.mem_of_getElem? ((at_one x c i).mp h2)) h
/-- lists glued by c -/
def glueL (c : Nat) : List (List Nat) → List Nat
  | [] => []
  | [x] => x
  | x :: y :: r => x ++ c :: glueL c (y :: r)
theorem join_glue (c : Nat) : ∀ ys : List Str, (Str.join ⟨#[c]⟩ ys).cps.toList = glueL c (ys.map (·.cps.toList))
  | [] => rfl
  | [x] => by simp [Str.join, glueL]
  | x :: y :: r => by
    have ih := join_glue c (y :: r)
    have e : Str.join ⟨#[c]⟩ (x :: y :: r) = x ++ ⟨#[c]⟩ ++ Str.join ⟨#[c]⟩ (y :: r) := by first | rfl | simp [Str.join]
    have e2 : ∀ a b : Str, (a ++ b).cps.toList = a.cps.toList ++ b.cps.toList := fun a b => by
      show (a.cps ++ b.cps).toList = _
      simp
    rw [e, e2, e2, ih]
    simp [glueL]
theorem cut_uniq {c : Nat} : ∀ {u u' v v' : List Nat}, c ∉ u → c ∉ u' → u ++ c :: v = u' ++ c :: v' → u = u' ∧ v = v'
  | [], [], v, v', _, _, h => ⟨rfl, by simpa using h⟩
  | [], x :: u', v, v', _, h2, h => by
    simp at h
    exact absurd (by rw [h.1]; exact List.mem_cons_self) h2
  | x :: u, [], v, v', h1, _, h => by
    simp at h
    exact absurd (by rw [h.1]; exact List.mem_cons_self) h1
  | x :: u, y :: u', v, v', h1, h2, h => by
    simp at h
    obtain ⟨e1, e2⟩ := cut_uniq (fun z => h1 (List.mem_cons_of_mem _ z)) (fun z => h2 (List.mem_cons_of_mem _ z)) h.2
    exact ⟨by rw [h.1, e1], e2⟩
theorem glue_uniq {c : Nat} : ∀ {xs ys : List (List Nat)}, xs ≠ [] → ys ≠ [] → (∀ x ∈ xs, c ∉ x) → (∀ y ∈ ys, c ∉ y) → glueL c xs = glueL c ys → xs = ys
  | [], _, h, _, _, _, _ => absurd rfl h
  | _, [], _, h, _, _, _ => absurd rfl h
  | [x], [y], _, _, _, _, h => by simpa [glueL] using h
  | [x], y :: z :: r, _, _, h1, _, h => by
    have h : x = y ++ c :: glueL c (z :: r) := h
    exact absurd (by rw [h]; simp) (h1 x List.mem_cons_self)
  | y :: z :: r, [x], _, _, _, h1, h => by
    have h : y ++ c :: glueL c (z :: r) = x := h
    exact absurd (by rw [← h]; simp) (h1 x List.mem_cons_self)
  | x :: y :: r, x' :: y' :: r', _, _, h1, h2, h => by
    have h : x ++ c :: glueL c (y :: r) = x' ++ c :: glueL c (y' :: r') := h
    obtain ⟨e1, e2⟩ := cut_uniq (h1 x List.mem_cons_self) (h2 x' List.mem_cons_self) h
    have ih := glue_uniq (xs := y :: r) (ys := y' :: r') (by simp) (by simp) (fun q hq => h1 q (List.mem_cons_of_mem _ hq)) (fun q hq => h2 q (List.mem_cons_of_mem _ hq)) e2
    rw [e1, ih]
theorem split_join {c : Nat} {ys : List Str} (h0 : ys ≠ []) (h : ∀ y ∈ ys, c ∉ y.cps.toList) : Txt.split (Txt.join ⟨#[c]⟩ ys) ⟨#[c]⟩ = ys := by
  have e0 : Txt.join ⟨#[c]⟩ ys = Str.join ⟨#[c]⟩ ys := StrLaws.glued_eq_join _ _
  rw [e0]
  have h1 := StrLaws.join_split (Str.join ⟨#[c]⟩ ys) ⟨#[c]⟩
  have h2 := StrLaws.split_free (Str.join ⟨#[c]⟩ ys) c
  have hn : Txt.split (Str.join ⟨#[c]⟩ ys) ⟨#[c]⟩ ≠ [] := by
    unfold Txt.split
    split
    · simp
    · rw [StrLaws.partsBetween_eq]
      obtain ⟨p, r, e⟩ := StrLaws.partsFrom_ne (Str.join ⟨#[c]⟩ ys) (⟨#[c]⟩ : Str).length 0 (Builtin.Str.occurrences (Str.join ⟨#[c]⟩ ys) ⟨#[c]⟩ 0 (Str.join ⟨#[c]⟩ ys).length ((Str.join ⟨#[c]⟩ ys).length + 1))
      rw [e]; split <;> simp
  generalize Txt.split (Str.join ⟨#[c]⟩ ys) ⟨#[c]⟩ = zs at *
  have e := congrArg (fun s : Str => s.cps.toList) h1
  simp only [join_glue] at e
  have := glue_uniq (xs := zs.map (·.cps.toList)) (ys := ys.map (·.cps.toList)) (by simpa using hn) (by simpa using h0) (fun x hx => by
    obtain ⟨y, hy, rfl⟩ := List.mem_map.mp hx
    exact h2 y hy) (fun x hx => by
    obtain ⟨y, hy, rfl⟩ := List.mem_map.mp hx
    exact h y hy) e
  have inj : ∀ {as bs : List Str}, as.map (·.cps.toList) = bs.map (·.cps.toList) → as = bs := by
    intro as
    induction as with
    | nil => intro bs h; cases bs with
      | nil => rfl
      | cons b bs => simp at h
    | cons a as ih => intro bs h; cases bs with
      | nil => simp at h
      | cons b bs =>
        simp only [List.map_cons, List.cons.injEq] at h
        rw [str_ext' h.1, ih h.2]
  exact inj this
/-! ### readings -/
section
variable {X : Cx} {K : PySem.W.Frag} {σ : L2.St} {H : Hp} {Q : VK}
def rSplitS : V → List V → Hp → VK → Prop := fun x xs H Q => ∃ a b, x = .str a ∧ xs = [.str b] ∧ (b.length == 0) = false ∧ a.length + 2 ≤ sizeLine ∧ rNewStrs (Txt.split a b) H Q
theorem mt_splitS : MtR X "str.split" rSplitS := mt_split
theorem x_splitS {z b : Str} (hb : (b.length == 0) = false) (hz : z.length ≤ 100000) (q : ∀ p H1, H p = none → Le H H1 → H1 p = some (.lst ((Txt.split z b).map V.str)) → Q (.ref p) H1) : rSplitS (.str z) [.str b] H Q :=
  ⟨z, b, rfl, rfl, hb, by rw [sizeLine_eq]; omega, fun p hp => q p _ hp (Le.new hp) upd_same⟩
def kMkSt (K : PySem.W.Frag) (C : Addr) (sp : List V → Hp → VK → XK → Prop) (E : L2.St → XK) (te : TE) (σ : L2.St) (Q : VK) : VK := fun c H0 => c = .ref C ∧ te σ H0 fun y H1 => ∃ a xs, y = V.ref a ∧ (SqT K H1 a xs ∨ SqL K H1 a xs) ∧ sp xs H1 Q (E σ)
theorem x_mkSt {C : Addr} {sp : List V → Hp → VK → XK → Prop} {E : L2.St → XK} {tf te : TE} (h : tf σ H (kMkSt K C sp E te σ Q)) : tMkSt K C sp E tf te σ H Q := h
def kSt (K : PySem.W.Frag) (sp : List V → Hp → VK → XK → Prop) (E : L2.St → XK) (σ : L2.St) (Q : VK) : VK := fun y H1 => ∃ a xs, y = V.ref a ∧ (SqT K H1 a xs ∨ SqL K H1 a xs) ∧ sp xs H1 Q (E σ)
theorem x_kMkSt {C : Addr} {sp : List V → Hp → VK → XK → Prop} {E : L2.St → XK} {te : TE} (h : te σ H (kSt K sp E σ Q)) : kMkSt K C sp E te σ Q (.ref C) H := ⟨rfl, h⟩
theorem x_kStL {sp : List V → Hp → VK → XK → Prop} {E : L2.St → XK} {a : Addr} {xs : List V} (h : H a = some (.lst xs)) (q : sp xs H Q (E σ)) : kSt K sp E σ Q (.ref a) H := ⟨a, xs, rfl, .inr (sql h), q⟩
theorem x_kStT {sp : List V → Hp → VK → XK → Prop} {E : L2.St → XK} {a : Addr} {xs : List V} (h : H a = some (.tup xs)) (q : sp xs H Q (E σ)) : kSt K sp E σ Q (.ref a) H := ⟨a, xs, rfl, .inl (sqt h), q⟩
end
section
variable {σ : L2.St} {H : Hp} {Q : VK}
def kMethK (C : Addr) (m : Str) (sp : List V → Hp → VK → XK → Prop) (E : L2.St → XK) (tk : TA) (σ : L2.St) (Q : VK) : VK := fun x H1 => ∃ a dx fs, x = .ref a ∧ H1 a = some (.ins C dx fs) ∧ fs.lookup m = none ∧ tk σ H1 fun zs H2 => sp (.ref a :: zs) H2 Q (E σ)
theorem x_methK {C : Addr} {m : Str} {sp : List V → Hp → VK → XK → Prop} {E : L2.St → XK} {ta : TE} {tk : TA} (h : ta σ H (kMethK C m sp E tk σ Q)) : tMethK C m sp E ta tk σ H Q := h
theorem x_kMethK {C : Addr} {m : Str} {sp : List V → Hp → VK → XK → Prop} {E : L2.St → XK} {tk : TA} {a dx : Addr} {fs : List (Str × V)} (h : H a = some (.ins C dx fs)) (hl : fs.lookup m = none) (q : tk σ H fun zs H2 => sp (.ref a :: zs) H2 Q (E σ)) : kMethK C m sp E tk σ Q (.ref a) H := ⟨a, dx, fs, rfl, h, hl, q⟩
end
/-! ### cuts -/
theorem cut_mid {z v : Str} {u w : List Nat} {i j : Int} (h : z.cps.toList = u ++ (v.cps.toList ++ w)) (hi : i = (u.length : Nat)) (hj : j = ((u.length + v.length : Nat) : Int)) : cutS z (some i) (some j) = v := by
  subst hi hj
  refine str_ext' ?_
  have hl : v.cps.toList.length = v.length := by simp [Str.length]
  have hz : z.cps.toList.length = z.length := by simp [Str.length]
  have hz2 : z.length = u.length + (v.length + w.length) := by rw [← hz, h, List.length_append, List.length_append, hl]
  unfold cutS
  rw [HT.sIx_nat, HT.sIx_nat]
  simp only [h]
  rw [Nat.min_eq_left (by omega), Nat.min_eq_left (by omega), List.drop_left, show u.length + v.length - u.length = v.cps.toList.length by rw [hl]; omega, List.take_left]
theorem cut_to {z v : Str} {w : List Nat} {j : Int} (h : z.cps.toList = v.cps.toList ++ w) (hj : j = ((v.length : Nat) : Int)) : cutS z none (some j) = v := by
  have e := cut_mid (i := 0) (j := j) (u := []) h rfl (by rw [hj]; simp)
  exact e
theorem cut_from {z v : Str} {u : List Nat} {i : Int} (h : z.cps.toList = u ++ v.cps.toList) (hi : i = (u.length : Nat)) : cutS z (some i) none = v := by
  have hl : v.cps.toList.length = v.length := by simp [Str.length]
  have hz : z.cps.toList.length = z.length := by simp [Str.length]
  have hz2 : z.length = u.length + v.length := by rw [← hz, h, List.length_append, hl]
  have e := cut_mid (z := z) (v := v) (u := u) (w := []) (i := i) (j := ((u.length + v.length : Nat) : Int)) (by rw [h, List.append_nil]) hi rfl
  rw [← e]
  unfold cutS
  rw [HT.sIx_none, HT.sIx_nat, hz2, Nat.min_self]
theorem vals_rev {zs : List V} {ws : List Value} (h : Vals zs ws) : Vals zs.reverse ws.reverse := by
  induction h with
  | nil => exact .nil
  | cons r _ ih =>
    rw [List.reverse_cons, List.reverse_cons]
    exact ih.append (.cons r .nil)
end MC
set_option maxHeartbeats 4000000
/-! MB19: what is drawn: the drawing list; letters; several except clauses, step by step -/
namespace MC
open PySem PySem.Spec PyProof.Rows L2
theorem Le.trans' {H H1 H2 : Hp} (b : Le H1 H2) (a : Le H H1) : Le H H2 := a.trans b
theorem Lw.trans' {H H1 H2 : Hp} (b : Lw H1 H2) (a : Lw H H1) : Lw H H2 := a.trans b
/-- the drawing list s, the numbers at l -/
def St (H : Hp) (s l : Addr) : Prop := ∃ ns pos rest, H s = some (.lst [.ref l, .int pos, .int rest]) ∧ H l = some (.lst ((ns : List Int).map V.int)) ∧ (0 : Int) ≤ pos ∧ (0 : Int) ≤ rest
theorem St.le {H H' : Hp} {s l : Addr} (e : Le H H') (h : St H s l) : St H' s l := by
  obtain ⟨ns, pos, rest, h1, h2, h3, h4⟩ := h
  exact ⟨ns, pos, rest, e.keep h1, e.keep h2, h3, h4⟩
theorem St.ne {H : Hp} {s l p : Addr} (h : St H s l) (hp : H p = none) : s ≠ p ∧ l ≠ p := by
  obtain ⟨ns, pos, rest, h1, h2, _⟩ := h
  exact ⟨ne_of_none h1 hp, ne_of_none h2 hp⟩
theorem St.put {H : Hp} {s l p : Addr} {o : HO} (h : St H s l) (n : s ≠ p ∧ l ≠ p) : St (upd H p o) s l := by
  obtain ⟨ns, pos, rest, h1, h2, h3, h4⟩ := h
  exact ⟨ns, pos, rest, by rw [upd_ne n.1]; exact h1, by rw [upd_ne n.2]; exact h2, h3, h4⟩
theorem lw_own {H H' : Hp} {p : Addr} {o : HO} (e : Lw H H') (h : H p = none) : Lw H (upd H' p o) := ⟨fun a u ha hs => by
  rw [upd_ne (ne_of_none ha h)]
  exact e.at_ a u ha hs, fun a ha => by
  by_cases hb : a = p
  · rw [hb]; exact h
  · rw [upd_ne hb] at ha; exact e.fr a ha⟩
theorem x_rSetSt {H : Hp} {s : Addr} {xs : List V} {i : Int} {n : Nat} {v : V} {QH : Hp → Prop} (h : H s = some (.lst xs)) (hs : stSh (.lst xs) = true) (hn : ixN xs.length i = some n) (q : ∀ H2, Lw H H2 → (∀ b, b ≠ s → H2 b = H b) → H2 s = some (.lst (xs.set n v)) → QH H2) : rSetL (.ref s) (.int i) v H QH :=
  x_rSetL h hn (q _ (Lw.st h hs) (fun b hb => upd_ne hb) upd_same)
def spNext : Sp := fun vs H Q E => ∃ s l n, vs = [.ref s, .int n] ∧ St H s l ∧ (0 < n ∧ n < 1000) ∧ ∀ r H', 0 ≤ r → r < n → Lw H H' → St H' s l → Q (.int r) H'
theorem c_next {H : Hp} {Q : VK} {E : XK} {s l : Addr} {n : Int} (hs : St H s l) (hn : 0 < n ∧ n < 1000) (q : ∀ r H', 0 ≤ r → r < n → Lw H H' → St H' s l → Q (.int r) H') : spNext [.ref s, .int n] H Q E := ⟨s, l, n, rfl, hs, hn, q⟩
theorem atI_ints {ns : List Int} {i : Int} (h : 0 ≤ i ∧ i < ns.length) : atI (ns.map V.int) i = some (.int (ns.getD i.toNat 0)) := by
  unfold atI ixN
  rw [if_pos h.1, List.length_map, if_pos h.2]
  show (ns.map V.int)[i.toNat]? = _
  have hi : i.toNat < ns.length := by have := h.2; have := h.1; omega
  rw [List.getElem?_map, List.getElem?_eq_getElem hi, List.getD_eq_getElem?_getD, List.getElem?_eq_getElem hi]
  rfl
/-- [..][i], numbers that keep P -/
theorem x_ixP {K : PySem.W.Frag} {H : Hp} {Q : VK} {p : Addr} {i : Int} (P : Int → Prop) (ns : List Int) (h : H p = some (.lst (ns.map V.int))) (hi : 0 ≤ i ∧ i < ns.length) (hP : ∀ n ∈ ns, P n) (q : ∀ n, P n → Q (.int n) H) : rIx K (.ref p) (.int i) H Q := by
  refine x_ixL2 h (atI_ints hi) (q _ (hP _ ?_))
  have hj : i.toNat < ns.length := by omega
  rw [List.getD_eq_getElem?_getD, List.getElem?_eq_getElem hj]
  exact List.getElem_mem hj
/-- an item of a list, by its number as an int -/
theorem atI_nat {α : Type} {l : List α} {i : Int} {v : α} (h : 0 ≤ i ∧ i < l.length) (e : l[i.toNat]? = some v) : atI l i = some v := by
  unfold atI ixN
  rw [if_pos h.1, if_pos h.2]
  exact e
theorem x_tryC {K : PySem.W.Frag} {Wout : WX} {l : List Cl} {tb : WX → TS} {D : Ends} {σ : L2.St} {H : Hp} (C : WX → Prop) (hW : C (wAsL K Wout D l)) (h : ∀ W, C W → tb W D σ H) : tTryAs K Wout l tb D σ H := h _ hW
theorem lk1 {f : Str} {v : V} : List.lookup f [(f, v)] = some v := by
  have e : (f == f) = true := beq_self_eq_true f
  simp only [List.lookup, e]
theorem x_notW {t1 : TT} {σ : L2.St} {H : Hp} {QB : Bool → Hp → Prop} (h : t1 σ H fun c H1 => QB (!c) H1) : tNot t1 σ H QB := h
theorem getI {ns : List Int} {i : Nat} {x : V} (h : (ns.map V.int)[i]? = some x) : ∃ k, x = .int k ∧ k ∈ ns := by
  rw [List.getElem?_map] at h
  cases e : ns[i]? with
  | none => rw [e] at h; cases h
  | some w =>
    rw [e] at h
    cases h
    exact ⟨w, rfl, List.mem_of_getElem? e⟩
theorem list_int (ns : List Int) (lo hi : Option Int) : ∃ ms : List Int, cutV (ns.map V.int) lo hi = ms.map V.int := by
  unfold cutV
  rw [← List.map_drop, ← List.map_take]
  exact ⟨_, rfl⟩
theorem rng_int (lo : Int) (n : Nat) : ((List.range n).map fun (i : Nat) => V.int (lo + (i : Int))) = (((List.range n).map fun (i : Nat) => lo + (i : Int)) : List Int).map V.int := by
  rw [List.map_map]; rfl
/-- [e for x in range(n)], texts, the heap as it is -/
theorem sum_ones' : ∀ ys : List Str, (∀ y ∈ ys, y.length = 1) → (ys.map (·.length)).sum = ys.length
  | [], _ => rfl
  | y :: r, h => by
    rw [List.map_cons, List.sum_cons, sum_ones' r fun x hx => h x (List.mem_cons_of_mem _ hx), h y List.mem_cons_self, List.length_cons]
    omega
theorem join_l : ∀ ys : List Str, (Str.join "" ys).cps.toList = (ys.map (·.cps.toList)).flatten
  | [] => rfl
  | [x] => by simp [Str.join]
  | x :: y :: r => by
    have ih := join_l (y :: r)
    have e : Str.join "" (x :: y :: r) = x ++ "" ++ Str.join "" (y :: r) := by first | rfl | simp [Str.join]
    have e2 : ∀ a b : Str, (a ++ b).cps.toList = a.cps.toList ++ b.cps.toList := fun a b => by
      show (a.cps ++ b.cps).toList = _
      simp
    rw [e, e2, e2, ih, show ("" : Str).cps.toList = [] from rfl]
    simp
theorem joinE_l (ys : List Str) : (Txt.join "" ys).cps.toList = (ys.map (·.cps.toList)).flatten := by
  rw [show Txt.join "" ys = Str.join "" ys from PySem.StrLaws.glued_eq_join _ _]
  exact join_l ys
/-- [..][i], items that keep P -/
theorem x_ixAll {K : PySem.W.Frag} {H : Hp} {Q : VK} {p : Addr} {i : Int} (P : V → Prop) {vs : List V} (h : H p = some (.lst vs)) (hi : 0 ≤ i ∧ i < vs.length) (hP : ∀ v ∈ vs, P v) (q : ∀ v, P v → Q v H) : rIx K (.ref p) (.int i) H Q := by
  have hj : i.toNat < vs.length := by omega
  exact x_ixL2 h (atI_nat hi (List.getElem?_eq_getElem hj)) (q _ (hP _ (List.getElem_mem hj)))
/-! ### lists of generator methods -/
section
variable {σ : L2.St} {H : Hp} {Q : VK}
def kLG (Q : VK) : List V → Hp → Prop := fun out H2 => ∀ p, H2 p = none → Q (.ref p) (upd H2 p (.lst out))
theorem x_listG {tg : TGen} (h : tg σ H (kLG Q)) : tListG tg σ H Q := h
theorem x_kLG {out : List V} (q : ∀ p H1, H p = none → Le H H1 → H1 p = some (.lst out) → Q (.ref p) H1) : kLG Q out H := fun p hp => q p _ hp (Le.new hp) upd_same
def kGM (C : Addr) (m : Str) (sp : SpG) (t : TA) (σ : L2.St) (cont : List V → Hp → Prop) : VK := fun x H1 => ∃ a dx fs, x = .ref a ∧ H1 a = some (.ins C dx fs) ∧ fs.lookup m = none ∧ t σ H1 fun vs H2 => sp (x :: (vs ++ [])) H2 cont XE0
theorem x_gm {C : Addr} {m : Str} {sp : SpG} {ta : TE} {t : TA} {cont : List V → Hp → Prop} (h : ta σ H (kGM C m sp t σ cont)) : L2.tMethG C m sp [] XE0 ta t σ H cont := h
theorem x_kGM {C : Addr} {m : Str} {sp : SpG} {t : TA} {cont : List V → Hp → Prop} {a dx : Addr} {fs : List (Str × V)} (h : H a = some (.ins C dx fs)) (hl : fs.lookup m = none) (q : t σ H fun vs H2 => sp (.ref a :: (vs ++ [])) H2 cont XE0) : kGM C m sp t σ cont (.ref a) H := ⟨a, dx, fs, rfl, h, hl, q⟩
end
/-! ### data of ints -/
theorem ev_self_int (i : Int) : PyData.eqv (.int i) (.int i) = true := by simp [PyData.eqv]
/-- pairs of numbers, as data -/
def prDt (x : Nat × Nat) : PyData := .tuple [.int x.1, .int x.2]
theorem prDt_self (x : Nat × Nat) : PyData.eqv (prDt x) (prDt x) = true := by simp [prDt, PyData.eqv, PyData.eqvAll]
theorem prAll_self : ∀ xs : List (Nat × Nat), PyData.eqvAll (xs.map prDt) (xs.map prDt) = true
  | [] => by simp [PyData.eqvAll]
  | x :: xs => by simp [PyData.eqvAll, prDt_self, prAll_self xs]
theorem prs_self (xs : List (Nat × Nat)) : PyData.eqv (.list (xs.map prDt)) (.list (xs.map prDt)) = true := by
  simp only [PyData.eqv]; exact prAll_self xs
theorem prDt_lay (x : Nat × Nat) : (prDt x).canLay0 = true := by simp [prDt, PyData.canLay0, PyData.canLayAll0]
theorem prs_lay : ∀ xs : List (Nat × Nat), PyData.canLayAll0 (xs.map prDt) = true
  | [] => by simp [PyData.canLayAll0]
  | x :: xs => by simp [PyData.canLayAll0, prDt_lay, prs_lay xs]
theorem prs_dep : ∀ xs : List (Nat × Nat), PyData.depthAll (xs.map prDt) ≤ 1
  | [] => by simp [PyData.depthAll]
  | x :: xs => by
    have ih := prs_dep xs
    have h1 : (prDt x).depth = 1 := by simp [prDt, PyData.depth, PyData.depthAll]
    simp only [List.map_cons, PyData.depthAll]
    omega
theorem prs_shaped (xs : List (Nat × Nat)) : SeqAt.shaped (.list (xs.map prDt)) = true := by
  have h1 := prs_dep xs
  have h2 : PyData.depth (.list (xs.map prDt)) ≤ 64 := by
    simp only [PyData.depth]
    omega
  show (PyData.canLay0 (.list (xs.map prDt)) && decide (PyData.depth (.list (xs.map prDt)) ≤ 64)) = true
  rw [Bool.and_eq_true]
  exact ⟨by simp only [PyData.canLay0]; exact prs_lay xs, decide_eq_true h2⟩
theorem x_cut {t u : TS} {D : Ends} {σ : L2.St} {H : Hp} (Mid : L2.St → Hp → Prop) (h1 : t { D with nx := Mid } σ H) (h2 : ∀ σ' H', Mid σ' H' → u D σ' H') : Evl.tCut t u D σ H := ⟨Mid, h1, h2⟩
def rRng1 : List V → Hp → VK → Prop := fun vs H Q => ∃ j, vs = [V.int j] ∧ ∀ p, H p = none → Q (.ref p) (upd H p (.rng 0 j))
theorem call_rng1 {X : Cx} : CallR X (.type "range") rRng1 := by
  intro pins s σ H vs us Q I r h
  obtain ⟨j, rfl, q⟩ := h
  obtain ⟨u1, rfl, ri⟩ := r.one
  obtain ⟨t, rfl⟩ := ri
  refine call_range_1 ⟨.ref s.heap.objs.size, upd H s.heap.objs.size (.rng 0 j), I.laid (fun b o e => Heap.get?_push_of_some _ e) (Nat.le_refl _) ?_, rfl, q _ (I.hok.fresh (Nat.le_refl _))⟩
  exact ⟨_, _, _, Heap.get?_push_size _ rfl⟩
theorem x_rng1 {H : Hp} {Q : VK} {j : Int} (q : ∀ p H1, H p = none → Le H H1 → H1 p = some (.rng 0 j) → Q (.ref p) H1) : rRng1 [.int j] H Q := ⟨j, rfl, fun p hp => q p _ hp (Le.new hp) upd_same⟩
/-! ### rules as tuples -/
theorem R4s.put {H : Hp} {p : Addr} {o : HO} {ys : List V} (hp : H p = some (.lst ys)) : ∀ {vs : List V} {xs : List R4}, R4s H vs xs → R4s (upd H p o) vs xs
  | [], [], _ => trivial
  | _ :: _, _ :: _, h => by
    obtain ⟨⟨r, q, hr⟩, h2⟩ := h
    refine ⟨⟨r, q, ?_⟩, R4s.put hp h2⟩
    rw [upd_ne (fun z => by rw [z, hp] at hr; cases hr)]
    exact hr
  | [], _ :: _, h => h.elim
  | _ :: _, [], h => h.elim
theorem R4s.sh {H : Hp} : ∀ {vs : List V} {xs : List R4}, R4s H vs xs → stSh (.lst vs) = false
  | [], [], _ => rfl
  | [_], [_], h => by obtain ⟨⟨p, rfl, _⟩, _⟩ := h; rfl
  | _ :: _ :: _, _ :: _ :: _, h => by obtain ⟨⟨p, rfl, _⟩, ⟨q, rfl, _⟩, _⟩ := h; rfl
  | [], _ :: _, h => h.elim
  | _ :: _, [], h => h.elim
  | [_], _ :: _ :: _, h => h.2.elim
  | _ :: _ :: _, [_], h => h.2.elim
/-- rules of a drawn list -/
def Rs (H : Hp) (p : Addr) (xs : List R4) : Prop := ∃ us, H p = some (.lst us) ∧ R4s H us xs
theorem Rs.le {H H' : Hp} {p : Addr} {xs : List R4} (e : Le H H') (h : Rs H p xs) : Rs H' p xs := by
  obtain ⟨us, h1, h2⟩ := h
  exact ⟨us, e.keep h1, h2.le e⟩
theorem Rs.lw {H H' : Hp} {p : Addr} {xs : List R4} (e : Lw H H') (h : Rs H p xs) : Rs H' p xs := by
  obtain ⟨us, h1, h2⟩ := h
  exact ⟨us, e.keep h1 h2.sh, h2.lw e⟩
/-- rules[i] -/
theorem x_ixRs {K : PySem.W.Frag} {H : Hp} {Q : VK} {p : Addr} {xs : List R4} {i : Int} (h : Rs H p xs) (hi : 0 ≤ i ∧ i < xs.length) (q : ∀ r x, xs[i.toNat]? = some x → H r = some (.tup x.vs) → Q (.ref r) H) : rIx K (.ref p) (.int i) H Q := by
  obtain ⟨us, h1, h2⟩ := h
  have hlen := h2.len
  have hlt : i.toNat < xs.length := by omega
  obtain ⟨r, hr, hr2⟩ := h2.get (List.getElem?_eq_getElem hlt)
  exact x_ixL2 h1 (atI_nat ⟨hi.1, by omega⟩ hr) (q r _ (List.getElem?_eq_getElem hlt) hr2)
theorem x_lenRs {K : PySem.W.Frag} {H : Hp} {Q : VK} {p : Addr} {xs : List R4} (h : Rs H p xs) (q : Q (.int (xs.length : Nat)) H) : rLenU K [.ref p] H Q := by
  obtain ⟨us, h1, h2⟩ := h
  refine x_lenL2 h1 ?_
  rw [h2.len]; exact q
/-- rule[0] .. rule[3] -/
theorem x_r0 {K : PySem.W.Frag} {H : Hp} {Q : VK} {p : Addr} {x : R4} (h : H p = some (.tup x.vs)) (q : Q (.str x.l) H) : rIx K (.ref p) (.int 0) H Q := x_ixT h rfl q
theorem x_r1' {K : PySem.W.Frag} {H : Hp} {Q : VK} {p : Addr} {x : R4} (h : H p = some (.tup x.vs)) (q : Q (.str x.o) H) : rIx K (.ref p) (.int 1) H Q := x_ixT h rfl q
theorem x_r2' {K : PySem.W.Frag} {H : Hp} {Q : VK} {p : Addr} {x : R4} (h : H p = some (.tup x.vs)) (q : Q (.str x.n) H) : rIx K (.ref p) (.int 2) H Q := x_ixT h rfl q
theorem x_r3 {K : PySem.W.Frag} {H : Hp} {Q : VK} {p : Addr} {x : R4} (h : H p = some (.tup x.vs)) (q : Q (.str x.r) H) : rIx K (.ref p) (.int 3) H Q := x_ixT h rfl q
theorem R4s.at {H : Hp} : ∀ {vs : List V} {xs : List R4} {i : Nat} {v : V}, R4s H vs xs → vs[i]? = some v → ∃ p x, xs[i]? = some x ∧ v = .ref p ∧ H p = some (.tup x.vs)
  | [], [], i, _, _, e => by simp at e
  | v :: vs, y :: ys, 0, x, h, e => by
    have : v = x := by simpa using e
    subst this
    obtain ⟨p, rfl, hp⟩ := h.1
    exact ⟨p, y, rfl, rfl, hp⟩
  | v :: vs, y :: ys, i + 1, x, h, e => R4s.at (i := i) h.2 (by simpa using e)
  | [], _ :: _, _, _, h, _ => h.elim
  | _ :: _, [], _, _, h, _ => h.elim
theorem map_range {α β : Type} (f : α → β) (d : α) (xs : List α) {n : Nat} (hn : n = xs.length) : (List.range n).map (fun i => f (xs.getD i d)) = xs.map f := by
  subst hn
  refine List.ext_getElem? fun i => ?_
  by_cases hi : i < xs.length
  · rw [List.getElem?_map, List.getElem?_map, List.getElem?_eq_getElem hi, List.getElem?_range hi]
    simp [List.getD_eq_getElem?_getD, hi]
  · rw [List.getElem?_eq_none (by simp; omega), List.getElem?_eq_none (by simp; omega)]
end MC
set_option maxHeartbeats 4000000
/-! MB20: what the head is asked, and what follows from it -/
namespace MC
open PySem PySem.Spec PyProof.Rows L2
abbrev Fr := PySem.W.Frag
/-- a classmethod's def -/
def cmA (K : Fr) (C : Addr) (m : Str) : Addr := match PySem.W.recIn K (He.ma K C m) "classmethod" with
  | some (.ref g :: _) => g
  | _ => 0
/-- a property's getter -/
def prA (K : Fr) (C : Addr) (m : Str) : Addr := match PySem.W.recIn K (He.ma K C m) "property" with
  | some (.ref g :: _) => g
  | _ => 0
/-- a def of the text: where it stands (by names), its statement, its keyword-only defaults, the class whose __init__ it is, if it says super() -/
structure Df where
  adr : Fr → Addr
  name : Str
  qual : Str
  st : Stmt
  kwd : List (Str × V) := []
  sup : Option Str := none
  dfl : List V := []
abbrev FnV2 : Type := Option (Str × Str × Arguments × FuncBody × Scope × Addr × List Str × Addr)
def fnV2 (K : Fr) (f : Addr) : FnV2 := match K.lookup f with
  | some ⟨_, _, .func fd, _⟩ => some (fd.name, fd.qualname, fd.params, fd.body, fd.scope, fd.globals, fd.closure.map (·.1), fd.builtins)
  | _ => none
def Df.val (d : Df) : FnV2 := some (d.name, d.qual, defArgs d.st, .stmts (defBody d.st), defScope d.st, mainGlobals, (match d.sup with
  | none => []
  | some _ => ["__class__"]), builtinsNs)
def supB (file : Str) (K : Fr) (C : Addr) (fd : FuncData) : Bool := match fd.closure, fd.code with
  | [(_, cc)], .ref cda => (match K.lookup cc with
    | some ⟨_, _, .cell (some (.ref D)), _⟩ => decide (D = C)
    | _ => false) && (match K.lookup cda with
    | some ⟨_, _, .fields vs, _⟩ => (match (vs[2]? : Option Value) with
      | some (Value.str x _) => file == x
      | _ => false)
    | _ => false)
  | _, _ => false
def Df.ok (file : Str) (K : Fr) (d : Df) : Bool := PySem.W.keepIn K (.ref (d.adr K)) && (match K.lookup (d.adr K) with
  | some ⟨_, _, .func fd, _⟩ => PySem.W.codeIn K fd.code d.qual && (He.dflB K fd.defaults d.dfl && (He.kwdB K fd.kwdefaults d.kwd && (match d.sup with
    | none => true
    | some c => supB file K (He.ga K c) fd)))
  | _ => false)
theorem Df.parts {file : Str} {K : Fr} {d : Df} (e : fnV2 K (d.adr K) = d.val) (c : d.ok file K = true) :
    PySem.W.keepIn K (.ref (d.adr K)) = true ∧ ∃ oc od osl dV kV doc pm an cdv ct cl, K.lookup (d.adr K) = some ⟨oc, od, .func (FuncData.mk d.name d.qual (defArgs d.st) (.stmts (defBody d.st)) (defScope d.st) mainGlobals cl dV kV doc pm an cdv ct builtinsNs), osl⟩ ∧
      cl.map (·.1) = (match d.sup with | none => [] | some _ => ["__class__"]) ∧ PySem.W.codeIn K cdv d.qual = true ∧ He.dflB K dV d.dfl = true ∧ He.kwdB K kV d.kwd = true ∧
      (match d.sup with | none => true | some c => supB file K (He.ga K c) (FuncData.mk d.name d.qual (defArgs d.st) (.stmts (defBody d.st)) (defScope d.st) mainGlobals cl dV kV doc pm an cdv ct builtinsNs)) = true := by
  obtain ⟨kp, c2⟩ := He.ba c
  refine ⟨kp, ?_⟩
  unfold fnV2 at e
  cases q : K.lookup (d.adr K) with
  | none =>
    rw [q] at c2
    cases c2
  | some o =>
    obtain ⟨oc, od, dt, osl⟩ := o
    rw [q] at c2 e
    cases dt with
    | func fd =>
      obtain ⟨n1, n2, n3, n4, n5, n6, n7, n8, n9, n10, n11, n12, n13, n14, n15⟩ := fd
      have e2 : (some (n1, n2, n3, n4, n5, n6, n7.map (·.1), n15) : FnV2) = some (d.name, d.qual, defArgs d.st, .stmts (defBody d.st), defScope d.st, mainGlobals, (match d.sup with | none => [] | some _ => ["__class__"]), builtinsNs) := e
      simp only [Option.some.injEq, Prod.mk.injEq] at e2
      obtain ⟨h1, h2, h3, h4, h5, h6, h7, h8⟩ := e2
      subst h1 h2 h3 h4 h5 h6 h8
      have c3 : (PySem.W.codeIn K n13 d.qual && (He.dflB K n8 d.dfl && (He.kwdB K n9 d.kwd && (match d.sup with | none => true | some c => supB file K (He.ga K c) (FuncData.mk d.name d.qual (defArgs d.st) (.stmts (defBody d.st)) (defScope d.st) mainGlobals n7 n8 n9 n10 n11 n12 n13 n14 builtinsNs))))) = true := c2
      obtain ⟨k1, k2⟩ := He.ba c3
      obtain ⟨k3, k4⟩ := He.ba k2
      obtain ⟨k5, k6⟩ := He.ba k4
      exact ⟨oc, od, osl, n8, n9, n10, n11, n12, n13, n14, n7, rfl, h7, k1, k3, k5, k6⟩
    | _ => cases c2
theorem Df.funD {file : Str} {K : Fr} {d : Df} (e : fnV2 K (d.adr K) = d.val) (c : d.ok file K = true) (hs : d.sup = none) : ∃ fd, FunD K d.name d.qual (defArgs d.st) (defBody d.st) (defScope d.st) d.dfl d.kwd (d.adr K) fd := by
  obtain ⟨kp, oc, od, osl, dV, kV, doc, pm, an, cdv, ct, cl, lk, hcl, h1, h2, h3, h4⟩ := Df.parts e c
  rw [hs] at hcl
  have e0 : cl = [] := List.map_eq_nil_iff.mp hcl
  subst e0
  exact ⟨_, ⟨oc, od, dV, kV, doc, pm, an, cdv, ct, osl, rfl, lk, h1, He.dflB_ok h2, He.kwdB_ok h3⟩, kp⟩
theorem Df.supF {P : Program} {K : Fr} {d : Df} {c : Str} (e : fnV2 K (d.adr K) = d.val) (k : d.ok P.main.file K = true) (hs : d.sup = some c) (h0 : d.dfl = []) : ∃ fd cc, SupF P K d.name d.qual (defArgs d.st) (defBody d.st) (defScope d.st) (d.adr K) fd (He.ga K c) cc ∧ ∃ kV doc pm an cdv ct, fd = PySem.W.ksFn d.name d.qual (defArgs d.st) (defBody d.st) (defScope d.st) .none kV doc pm an cdv ct cc := by
  obtain ⟨kp, oc, od, osl, dV, kV, doc, pm, an, cdv, ct, cl, lk, hcl, h1, h2, h3, h4⟩ := Df.parts e k
  rw [hs] at hcl h4
  rw [h0] at h2
  unfold supB at h4
  cases cl with
  | nil => cases hcl
  | cons p r =>
    obtain ⟨x, cc⟩ := p
    cases r with
    | cons _ _ => cases hcl
    | nil =>
      have hx : x = "__class__" := by simpa using hcl
      subst hx
      cases cdv with
      | ref cda =>
        dsimp only at h4
        obtain ⟨h5, h6⟩ := He.ba h4
        cases q : K.lookup cc with
        | none => rw [q] at h5; cases h5
        | some o =>
          obtain ⟨c1, c2, dt, c3⟩ := o
          rw [q] at h5
          cases dt with
          | cell v =>
            cases v with
            | none => cases h5
            | some v =>
              cases v with
              | ref D =>
                have hD : D = He.ga K c := of_decide_eq_true h5
                subst hD
                cases q2 : K.lookup cda with
                | none => rw [q2] at h6; cases h6
                | some o2 =>
                  obtain ⟨d1, d2, dt2, d3⟩ := o2
                  rw [q2] at h6
                  cases dt2 with
                  | fields vs =>
                    dsimp only at h6
                    cases q3 : vs[2]? with
                    | none => rw [q3] at h6; cases h6
                    | some u =>
                      rw [q3] at h6
                      cases u with
                      | str file tf =>
                        have hdv : dV = .none := by
                          rcases He.dflB_ok h2 with ⟨_, e⟩ | ⟨e, _⟩
                          · exact e
                          · exact absurd rfl e
                        subst hdv
                        exact ⟨_, cc, ⟨⟨oc, od, .none, kV, doc, pm, an, cda, ct, osl, rfl, lk, h1, d1, d2, vs, d3, file, tf, q2, q3, h6⟩, ⟨c1, c2, c3, q⟩, kp⟩, kV, doc, pm, an, .ref cda, ct, rfl⟩
                      | _ => cases h6
                  | _ => cases h6
              | _ => cases h5
          | _ => cases h5
      | _ => cases h4
/-! ### the Hook -/
abbrev Al2 : Type := Bool × List FnV2
def obs2 (file : Str) (fa : List He.Fa) (ds : List Df) (ex : Fr → Bool) (K : Fr) : Al2 := ((fa.all fun f => f.ok K) && ((ds.all fun d => d.ok file K) && ex K), ds.map fun d => fnV2 K (d.adr K))
def val2 (ds : List Df) : Al2 := (true, ds.map Df.val)
def Says2 (file : Str) (fa : List He.Fa) (ds : List Df) (ex : Fr → Bool) (K : Fr) : Prop := obs2 file fa ds ex K = val2 ds
def frS2 (n : Nat) (g : Addr → Option Obj) : Fr := He.frG g (cStatics :: He.asD g n)
def obs2G (n : Nat) (file : Str) (fa : List He.Fa) (ds : List Df) (ex : Fr → Bool) (g : Addr → Option Obj) : Al2 := obs2 file fa ds ex (frS2 n g)
/-! what the text's names reach, with no look for doubles -/
def leafs (g : Addr → Option Obj) (a : Addr) : List Addr := match g a with
  | some o => (match o.data with
    | .func fd => He.refV fd.code ++ (He.refV fd.defaults ++ (He.refV fd.kwdefaults ++ fd.closure.map (·.2)))
    | .fields vs => vs.toList.flatMap He.refV
    | _ => [])
  | none => []
def fnT (g : Addr → Option Obj) (a : Addr) : List Addr := a :: leafs g a
def recT (g : Addr → Option Obj) (a : Addr) : List Addr := a :: (leafs g a).flatMap (fnT g)
def valsT (g : Addr → Option Obj) (a : Addr) : List Addr := match g a with
  | some o => (match o.data with
    | .dict es _ => es.toList.flatMap fun e => He.refV e.val
    | _ => [])
  | none => []
def clT (g : Addr → Option Obj) (a : Addr) : List Addr := match g a with
  | some o => (match o.data with
    | .cls cd => a :: cd.ns :: (valsT g cd.ns).flatMap (recT g)
    | _ => recT g a)
  | none => []
def frT2 (g : Addr → Option Obj) : Fr := He.frG g (cStatics :: mainGlobals :: (valsT g mainGlobals).flatMap (clT g))
def obsT2 (file : Str) (fa : List He.Fa) (ds : List Df) (ex : Fr → Bool) (g : Addr → Option Obj) : Al2 := obs2 file fa ds ex (frT2 g)
def hookT2 (file : Str) (fa : List He.Fa) (ds : List Df) (ex : Fr → Bool) : PySem.W.Hook where
  α := Al2
  obs := fun s => obsT2 file fa ds ex s.heap.get?
  val := fun _ => val2 ds
  says := fun _ h => ∃ K : Fr, K.In h ∧ Says2 file fa ds ex K
  of := fun _ _ e => ⟨_, He.frG_in, e⟩
  keeps := fun _ _ _ ⟨K, hK, c⟩ k => ⟨K, PySem.W.Frag.In.keeps hK k, c⟩
theorem obsT2_eq {file : Str} {fa : List He.Fa} {ds : List Df} {ex : Fr → Bool} {g : Addr → Option Obj} {s : Shared} (h : ∀ a, g a = s.heap.get? a) : obsT2 file fa ds ex g = (hookT2 file fa ds ex).obs s := by
  have e : g = s.heap.get? := funext h
  rw [e] <;> rfl
def hook2 (n : Nat) (file : Str) (fa : List He.Fa) (ds : List Df) (ex : Fr → Bool) : PySem.W.Hook where
  α := Al2
  obs := fun s => obs2G n file fa ds ex s.heap.get?
  val := fun _ => val2 ds
  says := fun _ h => ∃ K : Fr, K.In h ∧ Says2 file fa ds ex K
  of := fun _ _ e => ⟨_, He.frG_in, e⟩
  keeps := fun _ _ _ ⟨K, hK, c⟩ k => ⟨K, PySem.W.Frag.In.keeps hK k, c⟩
theorem obs2G_eq {n : Nat} {file : Str} {fa : List He.Fa} {ds : List Df} {ex : Fr → Bool} {g : Addr → Option Obj} {s : Shared} (h : ∀ a, g a = s.heap.get? a) : obs2G n file fa ds ex g = (hook2 n file fa ds ex).obs s := by
  have e : g = s.heap.get? := funext h
  rw [e] <;> rfl
section
variable {file : Str} {fa : List He.Fa} {ds : List Df} {ex : Fr → Bool} {K : Fr}
theorem Says2.b (c : Says2 file fa ds ex K) : ((fa.all fun f => f.ok K) && ((ds.all fun d => d.ok file K) && ex K)) = true := congrArg (fun z : Al2 => z.1) c
theorem Says2.fact (c : Says2 file fa ds ex K) (i : Nat) {f : He.Fa} (h : fa[i]? = some f := by rfl) : f.ok K = true :=
  List.all_eq_true.mp (He.ba c.b).1 f (List.mem_of_getElem? h)
theorem Says2.more (c : Says2 file fa ds ex K) : ex K = true := (He.ba (He.ba c.b).2).2
theorem Says2.df (c : Says2 file fa ds ex K) (i : Nat) {d : Df} (h : ds[i]? = some d := by rfl) : fnV2 K (d.adr K) = d.val ∧ d.ok file K = true := by
  have e : ds.map (fun d => fnV2 K (d.adr K)) = ds.map Df.val := congrArg (fun z : Al2 => z.2) c
  have e2 : (ds.map fun d => fnV2 K (d.adr K))[i]? = (ds.map Df.val)[i]? := by rw [e]
  rw [List.getElem?_map, List.getElem?_map, h] at e2
  exact ⟨Option.some.inj e2, List.all_eq_true.mp (He.ba (He.ba c.b).2).1 d (List.mem_of_getElem? h)⟩
end
/-! ### an exception class with super() in its __init__, by a Bool -/
def oexB (K : Fr) (C : Addr) : Bool := match K.lookup C with
  | some ⟨.type t, _, .cls cd, sl⟩ => (match cd.mro, sl.toList with
    | .ref C' :: bm, [_, _, _, _, some (.builtin n), _] => decide (t = "type") && (decide (C' = C) && (decide (n = "ValueError.__new__") && (!cd.hasDel && (cd.hasDict && PySem.HandSPX.refsVE bm))))
    | _, _ => false) && (decide (PySem.W.findIn K (.ref C) "__setattr__" = some (some (.builtin "object.__setattr__"))) && (decide (PySem.W.subIn K (.ref C) (.type "BaseException") = some true) && (decide (PySem.W.typeIn K (.ref C) = some (.type "type")) && PySem.W.keepIn K (.ref C))))
  | _ => false
theorem oexB_ok {K : Fr} {C : Addr} (h : oexB K C = true) : OexC K C := by
  unfold oexB at h
  split at h
  · rename_i t dd cd sl ho
    obtain ⟨h0, h⟩ := He.ba h
    obtain ⟨h1, h⟩ := He.ba h
    obtain ⟨h2, h⟩ := He.ba h
    obtain ⟨h3, h4⟩ := He.ba h
    refine ⟨?_, of_decide_eq_true h1, of_decide_eq_true h2, of_decide_eq_true h3, h4⟩
    split at h0
    · rename_i C' bm k0 k1 k2 k3 n k5 hm hs
      obtain ⟨g1, h0⟩ := He.ba h0
      obtain ⟨g2, h0⟩ := He.ba h0
      obtain ⟨g3, h0⟩ := He.ba h0
      obtain ⟨g4, h0⟩ := He.ba h0
      obtain ⟨g5, g6⟩ := He.ba h0
      obtain ⟨nm, bs, mro, ns, qn, hd, sn, sub, ab, col, del⟩ := cd
      have g1 := of_decide_eq_true g1
      have g2 := of_decide_eq_true g2
      have g3 := of_decide_eq_true g3
      have g4 : del = false := by simpa using g4
      have g5 : hd = true := g5
      have hm : mro = .ref C' :: bm := hm
      have hsl : sl = #[k0, k1, k2, k3, some (.builtin n), k5] := by
        obtain ⟨l⟩ := sl
        simp only at hs
        rw [hs]
      subst g1 g2 g3 g4 g5 hm hsl
      exact ⟨nm, qn, ns, bs, bm, sn, sub, ab, col, dd, k0, k1, k2, k3, k5, ho, g6⟩
    · cases h0
  · cases h
def supCB (K : Fr) (C : Addr) : Bool := oexB K C && (decide (PySem.W.nsIn K cStatics "thirdparty.any" = some none) && ((match PySem.W.clsIn K C with
  | some cd => (match cd.mro with
    | .ref C' :: bm => decide (C' = C) && decide (PySem.W.alongIn K "__init__" bm = some (some (.builtin "ValueError.__init__")))
    | _ => false)
  | none => false) && (decide (PySem.W.subIn K (.ref C) (.type "ValueError") = some true) && decide (PySem.W.mroIn K C (.ref C) = some true))))
theorem supCB_ok {P : Program} {K : Fr} {mg : Str → Option Value} {C : Addr} (h : supCB K C = true) (ns : mg "super" = none) (tp : (P.main.scope.names.lookup ("super" : Str)).isSome = false) : SupC P K mg C := by
  obtain ⟨h1, h⟩ := He.ba h
  obtain ⟨h2, h⟩ := He.ba h
  obtain ⟨h3, h⟩ := He.ba h
  obtain ⟨h4, h5⟩ := He.ba h
  refine ⟨oexB_ok h1, of_decide_eq_true h2, ?_, of_decide_eq_true h4, of_decide_eq_true h5, ns, tp⟩
  cases q : PySem.W.clsIn K C with
  | none => rw [q] at h3; cases h3
  | some cd =>
    rw [q] at h3
    dsimp only at h3
    cases q2 : cd.mro with
    | nil => rw [q2] at h3; cases h3
    | cons v bm =>
      rw [q2] at h3
      cases v with
      | ref C' =>
        obtain ⟨g1, g2⟩ := He.ba h3
        have g1 := of_decide_eq_true g1
        subst g1
        exact ⟨cd, bm, rfl, q2, of_decide_eq_true g2⟩
      | _ => cases h3
def excTB (K : Fr) (D : Addr) : Bool := (PySem.W.clsIn K D).isSome && (decide (PySem.W.findIn K (.ref D) "__getattribute__" = some (some (.builtin "BaseException.__getattribute__"))) && (decide (PySem.W.findIn K (.ref D) "__getattr__" = some none) && (decide (PySem.W.subIn K (.ref D) (.type "BaseException") = some true) &&
  (decide (PySem.W.findIn K (.ref D) "__class__" = some (some (.builtin "object.__class__"))) && (decide (PySem.W.specialIn K (.builtin "object.__class__") "__get__" = some (some (.builtin "getset_descriptor.__get__"))) && (decide (PySem.W.takesIn K (.builtin "object.__class__") = some true) && decide (PySem.W.mroIn K D (.type "object") = some true)))))))
theorem excTB_ok {K : Fr} {D : Addr} (h : excTB K D = true) : ExcT K D := by
  obtain ⟨h1, h⟩ := He.ba h
  obtain ⟨h2, h⟩ := He.ba h
  obtain ⟨h3, h⟩ := He.ba h
  obtain ⟨h4, h⟩ := He.ba h
  obtain ⟨h5, h⟩ := He.ba h
  obtain ⟨h6, h⟩ := He.ba h
  obtain ⟨h7, h8⟩ := He.ba h
  exact ⟨h1, of_decide_eq_true h2, of_decide_eq_true h3, of_decide_eq_true h4, of_decide_eq_true h5, of_decide_eq_true h6, of_decide_eq_true h7, of_decide_eq_true h8⟩
/-! ### an own class's special methods, classmethods -/
def specB (K : Fr) (C : Addr) (m : Str) : Bool := decide (PySem.W.findIn K (.ref C) m = some (some (.ref (He.ma K C m)))) && (PySem.W.isFn K (.ref (He.ma K C m)) && PySem.W.fnIn K (He.ma K C m))
theorem specB_ok {K : Fr} {C : Addr} {m : Str} (h : specB K C m = true) : Spec K C m (He.ma K C m) ∧ PySem.W.fnIn K (He.ma K C m) = true := by
  obtain ⟨h1, h⟩ := He.ba h
  obtain ⟨h2, h3⟩ := He.ba h
  exact ⟨⟨of_decide_eq_true h1, h2⟩, h3⟩
def creadB (K : Fr) (C : Addr) : Bool := PySem.W.readsIn K C (.type "type") && decide (PySem.W.specialIn K (.ref C) "__getattribute__" = some (some (.builtin "type.__getattribute__")))
theorem creadB_ok {K : Fr} {C : Addr} (h : creadB K C = true) : ClX.CRead K C (.type "type") := by
  obtain ⟨h1, h2⟩ := He.ba h
  exact ⟨h1, of_decide_eq_true h2⟩
def cmetB (K : Fr) (C : Addr) (m : Str) : Bool := (match PySem.W.findCls K (.ref C) (.type "type") m with
  | some (.get (.builtin b) (.ref p) .none (.ref D)) => decide (b = "classmethod.__get__") && (decide (p = He.ma K C m) && decide (D = C))
  | _ => false) && ((match PySem.W.recIn K (He.ma K C m) "classmethod" with
  | some (.ref g :: _) => true
  | _ => false) && PySem.W.fnIn K (cmA K C m))
theorem cmetB_ok {K : Fr} {C : Addr} {m : Str} (h : cmetB K C m = true) : ClX.CMet K C (.type "type") m (He.ma K C m) (cmA K C m) := by
  obtain ⟨h1, h⟩ := He.ba h
  obtain ⟨h2, h3⟩ := He.ba h
  refine ⟨?_, ?_, h3⟩
  · split at h1
    · rename_i b p D q
      obtain ⟨g1, h1⟩ := He.ba h1
      obtain ⟨g2, g3⟩ := He.ba h1
      rw [q, of_decide_eq_true g1, of_decide_eq_true g2, of_decide_eq_true g3]
    · cases h1
  · unfold cmA
    split at h2
    · rename_i g rest q
      rw [q]
      exact ⟨rest, rfl⟩
    · cases h2
def propB (K : Fr) (C : Addr) (m : Str) : Bool := decide (PySem.W.findIn K (.ref C) m = some (some (.ref (He.ma K C m)))) && (decide (PySem.W.specialIn K (.ref (He.ma K C m)) "__get__" = some (some (.builtin "property.__get__"))) && (decide (PySem.W.takesIn K (.ref (He.ma K C m)) = some true) && (match PySem.W.recIn K (He.ma K C m) "property" with
  | some (.ref _ :: _) => true
  | _ => false)))
theorem propB_ok {K : Fr} {C : Addr} {m : Str} (h : propB K C m = true) : PropOf K C m (He.ma K C m) (prA K C m) := by
  obtain ⟨h1, h⟩ := He.ba h
  obtain ⟨h2, h⟩ := He.ba h
  obtain ⟨h3, h4⟩ := He.ba h
  refine ⟨of_decide_eq_true h1, of_decide_eq_true h2, of_decide_eq_true h3, ?_⟩
  unfold prA
  split at h4
  · rename_i g rest q
    rw [q]
    exact ⟨rest, rfl⟩
  · cases h4
theorem callB_ok {K : Fr} {C : Addr} (h : specB K C "__call__" = true) : StX.CallO K C (He.ma K C "__call__") := by
  obtain ⟨h1, h⟩ := He.ba h
  obtain ⟨h2, h3⟩ := He.ba h
  exact ⟨of_decide_eq_true h1, h2, h3⟩
def cvIntB (K : Fr) (C : Addr) (f : Str) (i : Int) : Bool := match PySem.W.findCls K (.ref C) (.type "type") f with
  | some (.val (.int j _)) => decide (j = i)
  | _ => false
theorem cvIntB_ok {K : Fr} {C : Addr} {f : Str} {i : Int} (r : creadB K C = true) (h : cvIntB K C f i = true) : CvOk K C f (.int i) := by
  unfold cvIntB at h
  split at h
  · rename_i j t q
    have := of_decide_eq_true h
    subst this
    exact ⟨_, _, creadB_ok r, ⟨q, ⟨t, rfl⟩⟩⟩
  · cases h
def insB (K : Fr) (C : Addr) : Bool := decide (PySem.W.findIn K (.ref C) "__class__" = some (some (.builtin "object.__class__"))) && (decide (PySem.W.specialIn K (.builtin "object.__class__") "__get__" = some (some (.builtin "getset_descriptor.__get__"))) && (decide (PySem.W.takesIn K (.builtin "object.__class__") = some true) && decide (PySem.W.mroIn K C (.type "object") = some true)))
theorem insB_ok {K : Fr} {C : Addr} (c : Cls K C) (h : insB K C = true) : InsOk K C := by
  obtain ⟨h1, h⟩ := He.ba h
  obtain ⟨h2, h⟩ := He.ba h
  obtain ⟨h3, h4⟩ := He.ba h
  exact fun e => .ins e c (of_decide_eq_true h1) (of_decide_eq_true h2) (of_decide_eq_true h3) (of_decide_eq_true h4)
def binIB (K : Fr) (C : Addr) (op : Operator) : Bool := PySem.W.selfFirst K C && ((match PySem.W.findIn K (.ref C) (dunderR op.info.2) with
  | some none => true
  | some (some (.ref _)) => true
  | _ => false) && ((PySem.W.findIn K (.type "int") (PySem.dunder op.info.2)).isSome && ((PySem.W.findIn K (.type "int") (dunderR op.info.2)).isSome && decide (PySem.W.subIn K (.type "int") (.ref C) = some false))))
theorem binIB_ok {K : Fr} {C : Addr} {op : Operator} (h : binIB K C op = true) : BinI K C op := by
  obtain ⟨h1, h⟩ := He.ba h
  obtain ⟨h2, h⟩ := He.ba h
  obtain ⟨h3, h⟩ := He.ba h
  obtain ⟨h4, h5⟩ := He.ba h
  refine ⟨h1, ?_, Option.isSome_iff_exists.mp h3, Option.isSome_iff_exists.mp h4, of_decide_eq_true h5⟩
  split at h2
  · rename_i q
    exact ⟨_, q, .inl rfl⟩
  · rename_i g q
    exact ⟨_, q, .inr ⟨g, rfl⟩⟩
  · cases h2
end MC
set_option maxHeartbeats 4000000
/-! K4A: k04's text, facts, answers, promises -/
namespace K4
open PySem PySem.Spec PyProof.Rows L2 MC

def top (i : Nat) : Stmt := PySem.Challenge.pw_manyclerks_k04_one_step.main.body.getD i (.Pass ⟨0, 0, 0, 0⟩)
abbrev FnP (K : PySem.W.Frag) (x q : Str) (st : Stmt) (f : Addr) (fd : FuncData) : Prop := FunD K x q (defArgs st) (defBody st) (defScope st) [] [] f fd
abbrev s__wall : Stmt := top 0
abbrev N__wall : List PySem.Str := ["k"]
abbrev s_BadSign___init__ : Stmt := inClass (top 3) 0
abbrev N_BadSign___init__ : List PySem.Str := ["self", "at"]
abbrev s_BadRule___init__ : Stmt := inClass (top 4) 0
abbrev N_BadRule___init__ : List PySem.Str := ["self", "part"]
abbrev s_BadLine___init__ : Stmt := inClass (top 5) 0
abbrev N_BadLine___init__ : List PySem.Str := ["self", "line"]
abbrev s_BadText___init__ : Stmt := inClass (top 6) 0
abbrev N_BadText___init__ : List PySem.Str := ["self", "size"]
abbrev s_NoRule___init__ : Stmt := inClass (top 8) 0
abbrev N_NoRule___init__ : List PySem.Str := ["self", "number"]
abbrev s_SameRule___init__ : Stmt := inClass (top 9) 0
abbrev N_SameRule___init__ : List PySem.Str := ["self", "number"]
abbrev s_NoPlace___init__ : Stmt := inClass (top 10) 0
abbrev N_NoPlace___init__ : List PySem.Str := ["self", "at"]
abbrev s_Mismatch___init__ : Stmt := inClass (top 11) 0
abbrev N_Mismatch___init__ : List PySem.Str := ["self", "at"]
abbrev s_is_sign : Stmt := top 15
abbrev N_is_sign : List PySem.Str := ["word"]
theorem sc_is_sign : FnScope ["word"] ["word"] (defScope s_is_sign) := ⟨rfl, rfl, rfl, by decide +kernel, rfl, by decide +kernel, by decide +kernel⟩
abbrev s__check_signs : Stmt := top 16
abbrev N__check_signs : List PySem.Str := ["signs", "at", "sign"]
theorem sc__check_signs : FnScope ["signs", "at", "sign"] ["signs"] (defScope s__check_signs) := ⟨rfl, rfl, rfl, by decide +kernel, rfl, by decide +kernel, by decide +kernel⟩
abbrev s_Text___init__ : Stmt := inClass (top 18) 1
abbrev N_Text___init__ : List PySem.Str := ["self", "signs", "closed"]
theorem sc_Text___init__ : FnScope ["self", "signs", "closed"] ["self", "signs", "closed"] (defScope s_Text___init__) := ⟨rfl, rfl, rfl, by decide +kernel, rfl, by decide +kernel, by decide +kernel⟩
abbrev s_Text___len__ : Stmt := inClass (top 18) 5
abbrev N_Text___len__ : List PySem.Str := ["self"]
theorem sc_Text___len__ : FnScope ["self"] ["self"] (defScope s_Text___len__) := ⟨rfl, rfl, rfl, by decide +kernel, rfl, by decide +kernel, by decide +kernel⟩
abbrev s_Text___eq__ : Stmt := inClass (top 18) 7
abbrev N_Text___eq__ : List PySem.Str := ["self", "other"]
theorem sc_Text___eq__ : FnScope ["self", "other"] ["self", "other"] (defScope s_Text___eq__) := ⟨rfl, rfl, rfl, by decide +kernel, rfl, by decide +kernel, by decide +kernel⟩
abbrev s__check_part : Stmt := top 20
abbrev N__check_part : List PySem.Str := ["part", "signs", "least", "most"]
theorem sc__check_part : FnScope ["part", "signs", "least", "most"] ["part", "signs", "least", "most"] (defScope s__check_part) := ⟨rfl, rfl, rfl, by decide +kernel, rfl, by decide +kernel, by decide +kernel⟩
abbrev s__split_line : Stmt := top 21
abbrev N__split_line : List PySem.Str := ["line", "begin", "middle", "stop"]
theorem sc__split_line : FnScope ["line", "begin", "middle", "stop"] ["line"] (defScope s__split_line) := ⟨rfl, rfl, rfl, by decide +kernel, rfl, by decide +kernel, by decide +kernel⟩
abbrev s__read_rule : Stmt := top 22
abbrev N__read_rule : List PySem.Str := ["line", "number", "parts", "old", "new", "left", "right", "e"]
theorem sc__read_rule : FnScope ["line", "number", "parts", "old", "new", "left", "right", "e"] ["line", "number"] (defScope s__read_rule) := ⟨rfl, rfl, rfl, by decide +kernel, rfl, by decide +kernel, by decide +kernel⟩
abbrev s_Rule___init__ : Stmt := inClass (top 23) 0
abbrev N_Rule___init__ : List PySem.Str := ["self", "old", "new", "left", "right"]
theorem sc_Rule___init__ : FnScope ["self", "old", "new", "left", "right"] ["self", "old", "new", "left", "right"] (defScope s_Rule___init__) := ⟨rfl, rfl, rfl, by decide +kernel, rfl, by decide +kernel, by decide +kernel⟩
abbrev s_Rule_pattern : Stmt := inClass (top 23) 2
abbrev N_Rule_pattern : List PySem.Str := ["self"]
theorem sc_Rule_pattern : FnScope ["self"] ["self"] (defScope s_Rule_pattern) := ⟨rfl, rfl, rfl, by decide +kernel, rfl, by decide +kernel, by decide +kernel⟩
abbrev s_Rule___eq__ : Stmt := inClass (top 23) 5
abbrev N_Rule___eq__ : List PySem.Str := ["self", "other"]
theorem sc_Rule___eq__ : FnScope ["self", "other"] ["self", "other"] (defScope s_Rule___eq__) := ⟨rfl, rfl, rfl, by decide +kernel, rfl, by decide +kernel, by decide +kernel⟩
abbrev s_Rule___str__ : Stmt := inClass (top 23) 6
abbrev N_Rule___str__ : List PySem.Str := ["self"]
theorem sc_Rule___str__ : FnScope ["self"] ["self"] (defScope s_Rule___str__) := ⟨rfl, rfl, rfl, by decide +kernel, rfl, by decide +kernel, by decide +kernel⟩
abbrev s_Rule___call__ : Stmt := inClass (top 23) 7
abbrev N_Rule___call__ : List PySem.Str := ["self", "text", "at", "size", "stop"]
theorem sc_Rule___call__ : FnScope ["self", "text", "at", "size", "stop"] ["self", "text", "at"] (defScope s_Rule___call__) := ⟨rfl, rfl, rfl, by decide +kernel, rfl, by decide +kernel, by decide +kernel⟩
abbrev s_Rule_fits : Stmt := inClass (top 23) 8
abbrev N_Rule_fits : List PySem.Str := ["self", "text", "at", "size", "pattern", "begin"]
theorem sc_Rule_fits : FnScope ["self", "text", "at", "size", "pattern", "begin"] ["self", "text", "at"] (defScope s_Rule_fits) := ⟨rfl, rfl, rfl, by decide +kernel, rfl, by decide +kernel, by decide +kernel⟩
abbrev s_Book___init__ : Stmt := inClass (top 25) 1
abbrev N_Book___init__ : List PySem.Str := ["self", "rules", "rule"]
theorem sc_Book___init__ : FnScope ["self", "rules", "rule"] ["self", "rules"] (defScope s_Book___init__) := ⟨rfl, rfl, rfl, by decide +kernel, rfl, by decide +kernel, by decide +kernel⟩
abbrev s_Book_read : Stmt := inClass (top 25) 2
abbrev N_Book_read : List PySem.Str := ["cls", "written", "rules", "number", "line"]
theorem sc_Book_read : FnScope ["cls", "written", "rules", "number", "line"] ["cls", "written"] (defScope s_Book_read) := ⟨rfl, rfl, rfl, by decide +kernel, rfl, by decide +kernel, by decide +kernel⟩
abbrev s_Book__check_number : Stmt := inClass (top 25) 5
abbrev N_Book__check_number : List PySem.Str := ["self", "number"]
theorem sc_Book__check_number : FnScope ["self", "number"] ["self", "number"] (defScope s_Book__check_number) := ⟨rfl, rfl, rfl, by decide +kernel, rfl, by decide +kernel, by decide +kernel⟩
abbrev s_Book___getitem__ : Stmt := inClass (top 25) 6
abbrev N_Book___getitem__ : List PySem.Str := ["self", "number"]
theorem sc_Book___getitem__ : FnScope ["self", "number"] ["self", "number"] (defScope s_Book___getitem__) := ⟨rfl, rfl, rfl, by decide +kernel, rfl, by decide +kernel, by decide +kernel⟩
abbrev s_Book_add : Stmt := inClass (top 25) 9
abbrev N_Book_add : List PySem.Str := ["self", "rule", "number", "known"]
theorem sc_Book_add : FnScope ["self", "rule", "number", "known"] ["self", "rule"] (defScope s_Book_add) := ⟨rfl, rfl, rfl, by decide +kernel, rfl, by decide +kernel, by decide +kernel⟩
abbrev s_Book_written : Stmt := inClass (top 25) 14
abbrev N_Book_written : List PySem.Str := ["self", "rule"]
theorem sc_Book_written : FnScope ["self", "rule"] ["self"] (defScope s_Book_written) := ⟨rfl, rfl, rfl, by decide +kernel, rfl, by decide +kernel, by decide +kernel⟩
abbrev s_Book_possible : Stmt := inClass (top 25) 15
abbrev N_Book_possible : List PySem.Str := ["self", "text", "at", "number", "rule"]
theorem sc_Book_possible : GScope ["self", "text", "at", "number", "rule"] ["self", "text"] (defScope s_Book_possible) := ⟨rfl, rfl, rfl, by decide +kernel, rfl, by decide +kernel, by decide +kernel⟩
abbrev s_Book_take : Stmt := inClass (top 25) 16
abbrev N_Book_take : List PySem.Str := ["self", "text", "number", "at", "rule"]
theorem sc_Book_take : FnScope ["self", "text", "number", "at", "rule"] ["self", "text", "number", "at"] (defScope s_Book_take) := ⟨rfl, rfl, rfl, by decide +kernel, rfl, by decide +kernel, by decide +kernel⟩
abbrev s__law_next : Stmt := top 27
abbrev N__law_next : List PySem.Str := ["_law_state", "_law_many", "_law_digit"]
theorem sc__law_next : FnScope ["_law_state", "_law_many", "_law_digit"] ["_law_state", "_law_many"] (defScope s__law_next) := ⟨rfl, rfl, rfl, by decide +kernel, rfl, by decide +kernel, by decide +kernel⟩
abbrev s__law_whole : Stmt := top 28
abbrev N__law_whole : List PySem.Str := ["_law_told"]
theorem sc__law_whole : FnScope ["_law_told"] ["_law_told"] (defScope s__law_whole) := ⟨rfl, rfl, rfl, by decide +kernel, rfl, by decide +kernel, by decide +kernel⟩
abbrev s__law_letters_of : Stmt := top 29
abbrev N__law_letters_of : List PySem.Str := ["_law_state", "_law_base", "_law_many", "_law_at", "_law_step", "_law_k"]
theorem sc__law_letters_of : FnScope ["_law_state", "_law_base", "_law_many", "_law_at", "_law_step", "_law_k"] ["_law_state"] (defScope s__law_letters_of) := ⟨rfl, rfl, rfl, by decide +kernel, rfl, by decide +kernel, by decide +kernel⟩
abbrev s__law_word_of : Stmt := top 30
abbrev N__law_word_of : List PySem.Str := ["_law_state", "_law_signs", "_law_size", "_law_shift", "_law_many", "_law_word", "_law_k", "_law_at"]
theorem sc__law_word_of : FnScope ["_law_state", "_law_signs", "_law_size", "_law_shift", "_law_many", "_law_word", "_law_k", "_law_at"] ["_law_state", "_law_signs", "_law_size", "_law_shift"] (defScope s__law_word_of) := ⟨rfl, rfl, rfl, by decide +kernel, rfl, by decide +kernel, by decide +kernel⟩
abbrev s__law_rule_of : Stmt := top 31
abbrev N__law_rule_of : List PySem.Str := ["_law_state", "_law_signs", "_law_k", "_law_size", "_law_left", "_law_old", "_law_new"]
theorem sc__law_rule_of : FnScope ["_law_state", "_law_signs", "_law_k", "_law_size", "_law_left", "_law_old", "_law_new"] ["_law_state", "_law_signs", "_law_k"] (defScope s__law_rule_of) := ⟨rfl, rfl, rfl, by decide +kernel, rfl, by decide +kernel, by decide +kernel⟩
abbrev s__law_rules_of : Stmt := top 32
abbrev N__law_rules_of : List PySem.Str := ["_law_state", "_law_signs", "_law_rules", "_law_k", "_law_rule"]
theorem sc__law_rules_of : FnScope ["_law_state", "_law_signs", "_law_rules", "_law_k", "_law_rule"] ["_law_state", "_law_signs"] (defScope s__law_rules_of) := ⟨rfl, rfl, rfl, by decide +kernel, rfl, by decide +kernel, by decide +kernel⟩
abbrev s__law_text_of : Stmt := top 33
abbrev N__law_text_of : List PySem.Str := ["_law_state", "_law_signs", "_law_rules", "_law_many", "_law_text", "_law_k", "_law_rule"]
theorem sc__law_text_of : FnScope ["_law_state", "_law_signs", "_law_rules", "_law_many", "_law_text", "_law_k", "_law_rule"] ["_law_state", "_law_signs", "_law_rules", "_law_many"] (defScope s__law_text_of) := ⟨rfl, rfl, rfl, by decide +kernel, rfl, by decide +kernel, by decide +kernel⟩
abbrev s__law_form_of : Stmt := top 34
abbrev N__law_form_of : List PySem.Str := ["_law_rule"]
theorem sc__law_form_of : FnScope ["_law_rule"] ["_law_rule"] (defScope s__law_form_of) := ⟨rfl, rfl, rfl, by decide +kernel, rfl, by decide +kernel, by decide +kernel⟩
abbrev s__law_book_of : Stmt := top 35
abbrev N__law_book_of : List PySem.Str := ["_law_rules", "_law_rule"]
theorem sc__law_book_of : FnScope ["_law_rules", "_law_rule"] ["_law_rules"] (defScope s__law_book_of) := ⟨rfl, rfl, rfl, by decide +kernel, rfl, by decide +kernel, by decide +kernel⟩
abbrev s__law_fits : Stmt := top 36
abbrev N__law_fits : List PySem.Str := ["_law_rule", "_law_shown", "_law_closed", "_law_at", "_law_many", "_law_pattern", "_law_begin", "_law_row", "_law_k"]
theorem sc__law_fits : FnScope ["_law_rule", "_law_shown", "_law_closed", "_law_at", "_law_many", "_law_pattern", "_law_begin", "_law_row", "_law_k"] ["_law_rule", "_law_shown", "_law_closed", "_law_at"] (defScope s__law_fits) := ⟨rfl, rfl, rfl, by decide +kernel, rfl, by decide +kernel, by decide +kernel⟩
abbrev s__law_over_the_end : Stmt := top 37
abbrev N__law_over_the_end : List PySem.Str := ["_law_state", "_law_signs", "_law_rules", "_law_rule", "_law_filler", "_law_row", "_law_cut"]
theorem sc__law_over_the_end : FnScope ["_law_state", "_law_signs", "_law_rules", "_law_rule", "_law_filler", "_law_row", "_law_cut"] ["_law_state", "_law_signs", "_law_rules"] (defScope s__law_over_the_end) := ⟨rfl, rfl, rfl, by decide +kernel, rfl, by decide +kernel, by decide +kernel⟩
abbrev s__law_long : Stmt := top 38
abbrev N__law_long : List PySem.Str := ["_law_state", "_law_signs", "_law_rule", "_law_many", "_law_filler", "_law_row"]
theorem sc__law_long : FnScope ["_law_state", "_law_signs", "_law_rule", "_law_many", "_law_filler", "_law_row"] ["_law_state", "_law_signs", "_law_rule"] (defScope s__law_long) := ⟨rfl, rfl, rfl, by decide +kernel, rfl, by decide +kernel, by decide +kernel⟩
abbrev s__law_written : Stmt := top 39
abbrev N__law_written : List PySem.Str := ["_law_rule", "_law_shown", "_law_at", "_law_stop"]
theorem sc__law_written : FnScope ["_law_rule", "_law_shown", "_law_at", "_law_stop"] ["_law_rule", "_law_shown", "_law_at"] (defScope s__law_written) := ⟨rfl, rfl, rfl, by decide +kernel, rfl, by decide +kernel, by decide +kernel⟩
abbrev s__law_due_of : Stmt := top 40
abbrev N__law_due_of : List PySem.Str := ["_law_rules", "_law_shown", "_law_closed", "_law_number", "_law_at", "_law_row"]
theorem sc__law_due_of : FnScope ["_law_rules", "_law_shown", "_law_closed", "_law_number", "_law_at", "_law_row"] ["_law_rules", "_law_shown", "_law_closed", "_law_number", "_law_at"] (defScope s__law_due_of) := ⟨rfl, rfl, rfl, by decide +kernel, rfl, by decide +kernel, by decide +kernel⟩
abbrev s__law_pure : Stmt := top 41
abbrev N__law_pure : List PySem.Str := ["_law_e", "_law_kinds", "_law_based"]
theorem sc__law_pure : FnScope ["_law_e", "_law_kinds", "_law_based"] ["_law_e"] (defScope s__law_pure) := ⟨rfl, rfl, rfl, by decide +kernel, rfl, by decide +kernel, by decide +kernel⟩
abbrev s__law_do : Stmt := top 42
abbrev N__law_do : List PySem.Str := ["_law_book", "_law_text", "_law_number", "_law_at", "_law_way", "_law_told", "_law_e", "_law_rule"]
theorem sc__law_do : FnScope ["_law_book", "_law_text", "_law_number", "_law_at", "_law_way", "_law_told", "_law_e", "_law_rule"] ["_law_book", "_law_text", "_law_number", "_law_at", "_law_way"] (defScope s__law_do) := ⟨rfl, rfl, rfl, by decide +kernel, rfl, by decide +kernel, by decide +kernel⟩
abbrev s__law_is_text : Stmt := top 43
abbrev N__law_is_text : List PySem.Str := ["_law_told", "_law_shown", "_law_closed", "_law_same"]
theorem sc__law_is_text : FnScope ["_law_told", "_law_shown", "_law_closed", "_law_same"] ["_law_told", "_law_shown", "_law_closed"] (defScope s__law_is_text) := ⟨rfl, rfl, rfl, by decide +kernel, rfl, by decide +kernel, by decide +kernel⟩
abbrev s__law_agrees : Stmt := top 44
abbrev N__law_agrees : List PySem.Str := ["_law_book", "_law_text", "_law_number", "_law_at", "_law_way", "_law_due", "_law_told"]
theorem sc__law_agrees : FnScope ["_law_book", "_law_text", "_law_number", "_law_at", "_law_way", "_law_due", "_law_told"] ["_law_book", "_law_text", "_law_number", "_law_at", "_law_way", "_law_due"] (defScope s__law_agrees) := ⟨rfl, rfl, rfl, by decide +kernel, rfl, by decide +kernel, by decide +kernel⟩
abbrev s__law_yields : Stmt := top 45
abbrev N__law_yields : List PySem.Str := ["_law_book", "_law_rules", "_law_text", "_law_shown", "_law_closed", "_law_due", "_law_at", "_law_number"]
theorem sc__law_yields : FnScope ["_law_book", "_law_rules", "_law_text", "_law_shown", "_law_closed", "_law_due", "_law_at", "_law_number"] ["_law_book", "_law_rules", "_law_text", "_law_shown", "_law_closed"] (defScope s__law_yields) := ⟨rfl, rfl, rfl, by decide +kernel, rfl, by decide +kernel, by decide +kernel⟩
abbrev s_law : Stmt := top 46
abbrev N_law : List PySem.Str := ["_law_script", "_law_state", "_law_kind", "_law_closed", "_law_signs", "_law_rules", "_law_book", "_law_text", "_law_many", "_law_places", "_law_way", "_law_number", "_law_lines", "_law_rule", "_law_gains", "_law_shown", "_law_at", "_law_due"]
theorem sc_law : FnScope ["_law_script", "_law_state", "_law_kind", "_law_closed", "_law_signs", "_law_rules", "_law_book", "_law_text", "_law_many", "_law_places", "_law_way", "_law_number", "_law_lines", "_law_rule", "_law_gains", "_law_shown", "_law_at", "_law_due"] ["_law_script"] (defScope s_law) := ⟨rfl, rfl, rfl, by decide +kernel, rfl, by decide +kernel, by decide +kernel⟩

/-! ### what the top has left -/
structure Ad where
  cClerkError : Addr
  cBadText : Addr
  cNoRule : Addr
  cMismatch : Addr
  cText : Addr
  cRule : Addr
  cBook : Addr
inductive ExK where
  | size | none | place
  deriving DecidableEq
def Ad.x (a : Ad) : ExK → Addr
  | .size => a.cBadText
  | .none => a.cNoRule
  | .place => a.cMismatch
def ExK.fld : ExK → Str
  | .size => "size"
  | .none => "number"
  | .place => "at"
structure Txt (K : PySem.W.Frag) (mg : Str → Option Value) (a : Ad) : Prop where
  f_len : mg "len" = none
  f_abs : mg "abs" = none
  f_int : mg "int" = none
  f_list : mg "list" = none
  f_str : mg "str" = none
  f_bool : mg "bool" = none
  f_tuple : mg "tuple" = none
  f_isinstance : mg "isinstance" = none
  f_iter : mg "iter" = none
  f_max : mg "max" = none
  f_range : mg "range" = none
  f_enumerate : mg "enumerate" = none
  f_ValueError : mg "ValueError" = none
  g_ClerkError : mg "ClerkError" = some (.ref a.cClerkError)
  g_BadText : mg "BadText" = some (.ref a.cBadText)
  g_NoRule : mg "NoRule" = some (.ref a.cNoRule)
  g_Mismatch : mg "Mismatch" = some (.ref a.cMismatch)
  g_Text : mg "Text" = some (.ref a.cText)
  g_Rule : mg "Rule" = some (.ref a.cRule)
  g_Book : mg "Book" = some (.ref a.cBook)
  fS : FldOk K a.cText "signs"
  fC : FldOk K a.cText "closed"
  fO : FldOk K a.cRule "old"
  fN : FldOk K a.cRule "new"
  fL : FldOk K a.cRule "left"
  fR : FldOk K a.cRule "right"
  fB : FldOk K a.cBook "_rules"
  cvT : CvOk K a.cText "MOST" (.int 120)
  cvB : CvOk K a.cBook "MOST" (.int 8)
  insT : InsOk K a.cText
  insR : InsOk K a.cRule
  insB : InsOk K a.cBook
  kTT : PySem.W.kitOne K (.ref a.cText) (.ref a.cText) = some true
  kRR : PySem.W.kitOne K (.ref a.cRule) (.ref a.cRule) = some true
  kNT : PySem.W.kitOne K (.type "NoneType") (.ref a.cText) = some false
  nfT : PySem.W.notFirst K a.cText (.ref a.cText) = true
  nfR : PySem.W.notFirst K a.cRule (.ref a.cRule) = true
  exm : ∀ i j, PySem.W.exmOne K (.ref (a.x i)) (.ref (a.x j)) = some (decide (i = j))
  kit : ∀ i j, PySem.W.kitOne K (.ref (a.x i)) (.ref (a.x j)) = some (decide (i = j))
  kitE : ∀ i, PySem.W.kitOne K (.ref (a.x i)) (.ref a.cClerkError) = some true
  kitV : ∀ i, PySem.W.kitOne K (.ref (a.x i)) (.type "ValueError") = some true
  exT : ∀ i, ExcT K (a.x i)
  xf : ∀ i, XfC K (a.x i)
  nf : ∀ i, PySem.W.findIn K (.ref (a.x i)) i.fld = some .none

/-! ### texts, rules, books, answers -/
def TextAt (a : Ad) (H : Hp) (p : Addr) (z : Str) (c : Bool) : Prop := ∃ dx, H p = some (.ins a.cText dx [("signs", .str z), ("closed", .bl c)])
def RuleAt (a : Ad) (H : Hp) (p : Addr) (x : R4) : Prop := ∃ dx, H p = some (.ins a.cRule dx [("old", .str x.o), ("new", .str x.n), ("left", .str x.l), ("right", .str x.r)])
/-- the items of a list are rules -/
def RulesAt (a : Ad) (H : Hp) : List V → List R4 → Prop
  | [], [] => True
  | v :: vs, x :: xs => (∃ p, v = .ref p ∧ RuleAt a H p x) ∧ RulesAt a H vs xs
  | _, _ => False
def BookAt (a : Ad) (H : Hp) (p : Addr) (xs : List R4) : Prop := ∃ dx l vs, H p = some (.ins a.cBook dx [("_rules", .ref l)]) ∧ H l = some (.lst vs) ∧ RulesAt a H vs xs
theorem Le.trans' {H H1 H2 : Hp} (b : Le H1 H2) (a : Le H H1) : Le H H2 := a.trans b
theorem Lw.trans' {H H1 H2 : Hp} (b : Lw H1 H2) (a : Lw H H1) : Lw H H2 := a.trans b
theorem TextAt.lw {a : Ad} {H H' : Hp} {p : Addr} {z : Str} {c : Bool} (e : Lw H H') (h : TextAt a H p z c) : TextAt a H' p z c := by
  obtain ⟨dx, h⟩ := h
  exact ⟨dx, e.keep h rfl⟩
theorem TextAt.le {a : Ad} {H H' : Hp} {p : Addr} {z : Str} {c : Bool} (e : Le H H') (h : TextAt a H p z c) : TextAt a H' p z c := h.lw e.w
theorem RuleAt.lw {a : Ad} {H H' : Hp} {p : Addr} {x : R4} (e : Lw H H') (h : RuleAt a H p x) : RuleAt a H' p x := by
  obtain ⟨dx, h⟩ := h
  exact ⟨dx, e.keep h rfl⟩
theorem RuleAt.le {a : Ad} {H H' : Hp} {p : Addr} {x : R4} (e : Le H H') (h : RuleAt a H p x) : RuleAt a H' p x := h.lw e.w
theorem RulesAt.lw {a : Ad} {H H' : Hp} (e : Lw H H') : ∀ {vs : List V} {xs : List R4}, RulesAt a H vs xs → RulesAt a H' vs xs
  | [], [], _ => trivial
  | _ :: _, _ :: _, h => by
    obtain ⟨⟨p, q, hp⟩, h2⟩ := h
    exact ⟨⟨p, q, hp.lw e⟩, RulesAt.lw e h2⟩
  | [], _ :: _, h => h.elim
  | _ :: _, [], h => h.elim
theorem RulesAt.le {a : Ad} {H H' : Hp} (e : Le H H') {vs : List V} {xs : List R4} (h : RulesAt a H vs xs) : RulesAt a H' vs xs := h.lw e.w
theorem RulesAt.len {a : Ad} {H : Hp} : ∀ {vs : List V} {xs : List R4}, RulesAt a H vs xs → vs.length = xs.length
  | [], [], _ => rfl
  | _ :: _, _ :: _, h => by simp [RulesAt.len h.2]
  | [], _ :: _, h => h.elim
  | _ :: _, [], h => h.elim
theorem RulesAt.get {a : Ad} {H : Hp} : ∀ {vs : List V} {xs : List R4} {i : Nat} {x : R4}, RulesAt a H vs xs → xs[i]? = some x → ∃ p, vs[i]? = some (.ref p) ∧ RuleAt a H p x
  | [], [], i, _, _, e => by simp at e
  | v :: vs, y :: ys, 0, x, h, e => by
    have : y = x := by simpa using e
    subst this
    obtain ⟨p, rfl, hp⟩ := h.1
    exact ⟨p, rfl, hp⟩
  | v :: vs, y :: ys, i + 1, x, h, e => RulesAt.get (i := i) h.2 (by simpa using e)
  | [], _ :: _, _, _, h, _ => h.elim
  | _ :: _, [], _, _, h, _ => h.elim
theorem RulesAt.app {a : Ad} {H : Hp} {p : Addr} {x : R4} (hp : RuleAt a H p x) : ∀ {vs : List V} {xs : List R4}, RulesAt a H vs xs → RulesAt a H (vs ++ [.ref p]) (xs ++ [x])
  | [], [], _ => ⟨⟨p, rfl, hp⟩, trivial⟩
  | _ :: _, _ :: _, h => ⟨h.1, RulesAt.app hp h.2⟩
  | [], _ :: _, h => h.elim
  | _ :: _, [], h => h.elim
/-- a list of rules is no drawing list -/
theorem RulesAt.sh {a : Ad} {H : Hp} : ∀ {vs : List V} {xs : List R4}, RulesAt a H vs xs → stSh (.lst vs) = false
  | [], [], _ => rfl
  | [_], [_], h => by obtain ⟨⟨p, rfl, _⟩, _⟩ := h; rfl
  | _ :: _ :: _, _ :: _ :: _, h => by obtain ⟨⟨p, rfl, _⟩, ⟨q, rfl, _⟩, _⟩ := h; rfl
  | [], _ :: _, h => h.elim
  | _ :: _, [], h => h.elim
  | [_], _ :: _ :: _, h => h.2.elim
  | _ :: _ :: _, [_], h => h.2.elim
theorem BookAt.lw {a : Ad} {H H' : Hp} {p : Addr} {xs : List R4} (e : Lw H H') (h : BookAt a H p xs) : BookAt a H' p xs := by
  obtain ⟨dx, l, vs, h1, h2, h3⟩ := h
  exact ⟨dx, l, vs, e.keep h1 rfl, e.keep h2 h3.sh, h3.lw e⟩
theorem BookAt.le {a : Ad} {H H' : Hp} {p : Addr} {xs : List R4} (e : Le H H') (h : BookAt a H p xs) : BookAt a H' p xs := h.lw e.w
inductive Ans where
  | val (v : V)
  | txt (z : Str) (c : Bool)
  | exn (k : ExK) (i : Int)
/-- cls, d: an exception of the kind k that tells i -/
def ExcIs (a : Ad) (k : ExK) (i : Int) (cls : Value) (d : Option Addr) (H : Hp) : Prop := cls = .ref (a.x k) ∧ ∃ dd, d = some dd ∧ H dd = some (.xd [(k.fld, .int i)])
def Tells (a : Ad) (r : Ans) (v : V) (H : Hp) : Prop := match r with
  | .val x => v = x
  | .txt z c => ∃ p, v = .ref p ∧ TextAt a H p z c
  | .exn _ _ => False
/-- a call that answers r -/
def Meets (a : Ad) (r : Ans) (H : Hp) (Q : VK) (E : XK) : Prop :=
  (∀ v H', Le H H' → Tells a r v H' → Q v H') ∧ ∀ k i, r = .exn k i → ∀ cls d H', Le H H' → ExcIs a k i cls d H' → E cls d H'
def sgOk (c : Nat) : Bool := decide (97 ≤ c) && decide (c ≤ 122)
def bad (z : Str) : Option Nat := z.cps.toList.findIdx? fun c => !sgOk c
def isSg (z : Str) : Bool := (z.length == 1) && sgOk (z.cps.getD 0 0)
/-- a rule that may be -/
structure Fine (x : R4) : Prop where
  l : bad x.l = none ∧ x.l.length ≤ 2
  o : bad x.o = none ∧ 1 ≤ x.o.length ∧ x.o.length ≤ 3
  n : bad x.n = none ∧ 1 ≤ x.n.length ∧ x.n.length ≤ 3
  r : bad x.r = none ∧ x.r.length ≤ 2
def Good (z : Str) (c : Bool) : Prop := bad z = none ∧ z.length ≤ 120 ∧ (c = true → z ≠ "")
/-- a text of signs, or too many of them, or none in a closed one -/
def mkT (z : Str) (c : Bool) : Ans := if z.length > 120 ∨ (c = true ∧ z = "") then .exn .size z.length else .txt z c
def pat (x : R4) : Str := x.l ++ x.o ++ x.r
def form (x : R4) : Str := x.l ++ "(" ++ x.o ++ ">" ++ x.n ++ ")" ++ x.r
def fits (x : R4) (z : Str) (c : Bool) (i : Int) : Bool :=
  if ¬(0 ≤ i ∧ i < z.length) ∨ (pat x).length > z.length then false
  else if c = true then decide (cutS (repS z 2) (some ((i - x.l.length).fmod z.length)) (some ((i - x.l.length).fmod z.length + (pat x).length)) = pat x)
  else decide (i - x.l.length ≥ 0) && decide (cutS z (some (i - x.l.length)) (some (i - x.l.length + (pat x).length)) = pat x)
def aCall (x : R4) (z : Str) (c : Bool) (i : Int) : Ans :=
  if fits x z c i = false then .exn .place i
  else if i + x.o.length > z.length then mkT (cutS z (some (i + x.o.length - z.length)) (some i) ++ x.n) true
  else mkT (cutS z none (some i) ++ x.n ++ cutS z (some (i + x.o.length)) none) c
def aTake (xs : List R4) (z : Str) (c : Bool) (k i : Int) : Ans := if 0 ≤ k ∧ k < xs.length then aCall (xs.getD k.toNat ⟨"", "", "", ""⟩) z c i else .exn .none k
def steps (xs : List R4) (z : Str) (c : Bool) : List (Nat × Nat) := (List.range z.length).flatMap fun (i : Nat) => ((List.range xs.length).filter fun (k : Nat) => fits (xs.getD k ⟨"", "", "", ""⟩) z c ((i : Nat) : Int)).map fun (k : Nat) => (k, i)

/-! ### promises: the program -/
abbrev Sm (z : Str) : Prop := z.length ≤ 1000
abbrev SmI (i : Int) : Prop := i.natAbs.log2 < 1000
abbrev SpK := List V → List V → Hp → VK → XK → Prop
def sp_is_sign (a : Ad) : Sp := fun vs H Q E => ∃ z, vs = [.str z] ∧ Sm z ∧ ∀ H', Le H H' → Q (.bl (isSg z)) H'
def sp__check_signs (a : Ad) : Sp := fun vs H Q E => ∃ z, vs = [.str z] ∧ Sm z ∧ bad z = none ∧ ∀ H', Le H H' → Q .non H'
def sp_Text___init__ (a : Ad) : Sp := fun vs H Q E => ∃ p z c dx, vs = [.ref p, .str z, .bl c] ∧ Sm z ∧ bad z = none ∧ H p = some (.ins a.cText dx []) ∧
  (mkT z c = .txt z c → ∀ H1, Le H H1 → Q .non (upd H1 p (.ins a.cText dx [("signs", .str z), ("closed", .bl c)]))) ∧ ∀ k i, mkT z c = .exn k i → ∀ cls d H', Le H H' → ExcIs a k i cls d H' → E cls d H'
def spCt_Text_1_closed (a : Ad) : SpK := fun vs zs H Q E => ∃ z c, (vs = [.str z] ∧ zs = [.bl c]) ∧ Sm z ∧ bad z = none ∧ Meets a (mkT z c) H Q E
def sp_Text___len__ (a : Ad) : Sp := fun vs H Q E => ∃ p z c, vs = [.ref p] ∧ Sm z ∧ TextAt a H p z c ∧ ∀ H', Le H H' → Q (.int (z.length : Nat)) H'
def sp_Text___eq__ (a : Ad) : Sp := fun vs H Q E => ∃ p z c q w d, vs = [.ref p, .ref q] ∧ TextAt a H p z c ∧ TextAt a H q w d ∧ ∀ H', Le H H' → Q (.bl (decide (z = w) && (c == d))) H'
def sp__check_part (a : Ad) : Sp := fun vs H Q E => ∃ (y z : Str) (i j : Nat), vs = [.str y, .str z, .int i, .int j] ∧ Sm z ∧ bad z = none ∧ i ≤ z.length ∧ z.length ≤ j ∧ ∀ H', Le H H' → Q .non H'
def sp__split_line (a : Ad) : Sp := fun vs H Q E => ∃ x, vs = [.str (form x)] ∧ Fine x ∧ ∀ p H', Le H H' → H' p = some (.tup [.str x.o, .str x.n, .str x.l, .str x.r]) → Q (.ref p) H'
def sp__read_rule (a : Ad) : Sp := fun vs H Q E => ∃ x i, vs = [.str (form x), .int i] ∧ Fine x ∧ ∀ p H', Le H H' → RuleAt a H' p x → Q (.ref p) H'
def sp_Rule___init__ (a : Ad) : Sp := fun vs H Q E => ∃ p x dx, vs = [.ref p, .str x.o, .str x.n, .str x.l, .str x.r] ∧ Fine x ∧ H p = some (.ins a.cRule dx []) ∧
  ∀ H1, Le H H1 → Q .non (upd H1 p (.ins a.cRule dx [("old", .str x.o), ("new", .str x.n), ("left", .str x.l), ("right", .str x.r)]))
def spCt_Rule_4 (a : Ad) : SpK := fun vs zs H Q E => ∃ x : R4, (vs = [.str x.o, .str x.n, .str x.l, .str x.r] ∧ zs = []) ∧ Fine x ∧ ∀ p H', Le H H' → RuleAt a H' p x → Q (.ref p) H'
def sp_Rule_pattern (a : Ad) : Sp := fun vs H Q E => ∃ p x, vs = [.ref p] ∧ Fine x ∧ RuleAt a H p x ∧ ∀ H', Le H H' → Q (.str (pat x)) H'
def sp_Rule___eq__ (a : Ad) : Sp := fun vs H Q E => ∃ p q x y, vs = [.ref p, .ref q] ∧ RuleAt a H p x ∧ RuleAt a H q y ∧ ∀ H', Le H H' → Q (.bl (decide (x = y))) H'
def sp_Rule___str__ (a : Ad) : Sp := fun vs H Q E => ∃ p x, vs = [.ref p] ∧ Fine x ∧ RuleAt a H p x ∧ ∀ H', Le H H' → Q (.str (form x)) H'
def sp_Rule_fits (a : Ad) : Sp := fun vs H Q E => ∃ p q x z c i, vs = [.ref p, .ref q, .int i] ∧ Fine x ∧ Good z c ∧ RuleAt a H p x ∧ TextAt a H q z c ∧ ∀ H', Le H H' → Q (.bl (fits x z c i)) H'
def sp_Rule___call__ (a : Ad) : Sp := fun vs H Q E => ∃ p q x z c i, vs = [.ref p, .ref q, .int i] ∧ Fine x ∧ Good z c ∧ SmI i ∧ RuleAt a H p x ∧ TextAt a H q z c ∧ Meets a (aCall x z c i) H Q E
/-- all stays but what stands at p -/
def LeX (p : Addr) (H H' : Hp) : Prop := (∀ b o, b ≠ p → H b = some o → H' b = some o) ∧ ∀ b, H' b = none → H b = none
def sp_Book___init__ (a : Ad) : Sp := fun vs H Q E => ∃ p t us xs dx, vs = [.ref p, .ref t] ∧ H p = some (.ins a.cBook dx []) ∧ H t = some (.tup us) ∧ RulesAt a H us xs ∧ xs.Nodup ∧ xs.length ≤ 8 ∧ ∀ H', LeX p H H' → BookAt a H' p xs → Q .non H'
def spR_Book (a : Ad) : List V → Hp → VK → XK → Prop := fun vs H Q E => ∃ xs, RulesAt a H vs xs ∧ xs.Nodup ∧ xs.length ≤ 8 ∧ ∀ p H', Le H H' → BookAt a H' p xs → Q (.ref p) H'
def lines (xs : List R4) : Str := Txt.join "\n" (xs.map form)
def sp_Book_read (a : Ad) : Sp := fun vs H Q E => ∃ xs, vs = [.ref a.cBook, .str (lines xs)] ∧ (∀ x ∈ xs, Fine x) ∧ xs.Nodup ∧ 1 ≤ xs.length ∧ xs.length ≤ 8 ∧ ∀ p H', Le H H' → BookAt a H' p xs → Q (.ref p) H'
def sp_Book__check_number (a : Ad) : Sp := fun vs H Q E => ∃ p xs i, vs = [.ref p, .int i] ∧ SmI i ∧ xs.length ≤ 8 ∧ BookAt a H p xs ∧ Meets a (if 0 ≤ i ∧ i < xs.length then .val .non else .exn .none i) H Q E
def sp_Book___getitem__ (a : Ad) : Sp := fun vs H Q E => ∃ p xs i, vs = [.ref p, .int i] ∧ SmI i ∧ xs.length ≤ 8 ∧ BookAt a H p xs ∧
  (∀ q x H', (0 ≤ i ∧ xs[i.toNat]? = some x) → Le H H' → RuleAt a H' q x → Q (.ref q) H') ∧ (¬(0 ≤ i ∧ i < xs.length) → ∀ cls d H', Le H H' → ExcIs a .none i cls d H' → E cls d H')
def sp_Book_add (a : Ad) : Sp := fun vs H Q E => ∃ p q l us xs x dx, vs = [.ref p, .ref q] ∧ H p = some (.ins a.cBook dx [("_rules", .ref l)]) ∧ H l = some (.lst us) ∧ RulesAt a H us xs ∧ RuleAt a H q x ∧ x ∉ xs ∧ xs.length < 8 ∧
  ∀ H1, Le H H1 → Q .non (upd H1 l (.lst (us ++ [.ref q])))
def sp_Book_written (a : Ad) : Sp := fun vs H Q E => ∃ p xs, vs = [.ref p] ∧ (∀ x ∈ xs, Fine x) ∧ xs.length ≤ 8 ∧ BookAt a H p xs ∧ ∀ H', Le H H' → Q (.str (lines xs)) H'
/-- the items of a list stand as pairs of numbers -/
def PrsAt (H : Hp) : List V → List (Nat × Nat) → Prop
  | [], [] => True
  | v :: vs, x :: xs => (∃ p, v = .ref p ∧ H p = some (.tup [.int x.1, .int x.2])) ∧ PrsAt H vs xs
  | _, _ => False
def sp_Book_possible (a : Ad) : SpG := fun vs H cont E => ∃ p q xs z c, vs = [.ref p, .ref q] ∧ (∀ x ∈ xs, Fine x) ∧ xs.length ≤ 8 ∧ Good z c ∧ BookAt a H p xs ∧ TextAt a H q z c ∧ ∀ ys H', Le H H' → PrsAt H' ys (steps xs z c) → cont ys H'
def sp_Book_take (a : Ad) : Sp := fun vs H Q E => ∃ p q xs z c k i, vs = [.ref p, .ref q, .int k, .int i] ∧ (∀ x ∈ xs, Fine x) ∧ xs.length ≤ 8 ∧ Good z c ∧ SmI k ∧ SmI i ∧ BookAt a H p xs ∧ TextAt a H q z c ∧ Meets a (aTake xs z c k i) H Q E
def spMK_Book_take_at_number_text (a : Ad) : Sp := fun vs H Q E => ∃ p q xs z c k i, vs = [.ref p, .int i, .int k, .ref q] ∧ (∀ x ∈ xs, Fine x) ∧ xs.length ≤ 8 ∧ Good z c ∧ SmI k ∧ SmI i ∧ BookAt a H p xs ∧ TextAt a H q z c ∧ Meets a (aTake xs z c k i) H Q E
end K4
set_option maxHeartbeats 0
/-! K4R: the head: what is looked at, the runs -/
namespace K4
open PySem PySem.Spec PyProof.Rows L2 MC
abbrev d_BadText___init__ : Df := ⟨fun K => He.ma K (He.ga K "BadText") "__init__", "__init__", "BadText.__init__", s_BadText___init__, [], (some "BadText"), []⟩
abbrev d_NoRule___init__ : Df := ⟨fun K => He.ma K (He.ga K "NoRule") "__init__", "__init__", "NoRule.__init__", s_NoRule___init__, [], (some "NoRule"), []⟩
abbrev d_Mismatch___init__ : Df := ⟨fun K => He.ma K (He.ga K "Mismatch") "__init__", "__init__", "Mismatch.__init__", s_Mismatch___init__, [], (some "Mismatch"), []⟩
abbrev d_is_sign : Df := ⟨fun K => He.ga K "is_sign", "is_sign", "is_sign", s_is_sign, [], none, []⟩
abbrev d__check_signs : Df := ⟨fun K => He.ga K "_check_signs", "_check_signs", "_check_signs", s__check_signs, [], none, []⟩
abbrev d_Text___init__ : Df := ⟨fun K => He.ma K (He.ga K "Text") "__init__", "__init__", "Text.__init__", s_Text___init__, [("closed", .bl false)], none, []⟩
abbrev d_Text___len__ : Df := ⟨fun K => He.ma K (He.ga K "Text") "__len__", "__len__", "Text.__len__", s_Text___len__, [], none, []⟩
abbrev d_Text___eq__ : Df := ⟨fun K => He.ma K (He.ga K "Text") "__eq__", "__eq__", "Text.__eq__", s_Text___eq__, [], none, []⟩
abbrev d__check_part : Df := ⟨fun K => He.ga K "_check_part", "_check_part", "_check_part", s__check_part, [], none, []⟩
abbrev d__split_line : Df := ⟨fun K => He.ga K "_split_line", "_split_line", "_split_line", s__split_line, [], none, []⟩
abbrev d__read_rule : Df := ⟨fun K => He.ga K "_read_rule", "_read_rule", "_read_rule", s__read_rule, [], none, []⟩
abbrev d_Rule___init__ : Df := ⟨fun K => He.ma K (He.ga K "Rule") "__init__", "__init__", "Rule.__init__", s_Rule___init__, [], none, [.str "", .str ""]⟩
abbrev d_Rule_pattern : Df := ⟨fun K => prA K (He.ga K "Rule") "pattern", "pattern", "Rule.pattern", s_Rule_pattern, [], none, []⟩
abbrev d_Rule___eq__ : Df := ⟨fun K => He.ma K (He.ga K "Rule") "__eq__", "__eq__", "Rule.__eq__", s_Rule___eq__, [], none, []⟩
abbrev d_Rule___str__ : Df := ⟨fun K => He.ma K (He.ga K "Rule") "__str__", "__str__", "Rule.__str__", s_Rule___str__, [], none, []⟩
abbrev d_Rule___call__ : Df := ⟨fun K => He.ma K (He.ga K "Rule") "__call__", "__call__", "Rule.__call__", s_Rule___call__, [], none, []⟩
abbrev d_Rule_fits : Df := ⟨fun K => He.ma K (He.ga K "Rule") "fits", "fits", "Rule.fits", s_Rule_fits, [], none, []⟩
abbrev d_Book___init__ : Df := ⟨fun K => He.ma K (He.ga K "Book") "__init__", "__init__", "Book.__init__", s_Book___init__, [], none, []⟩
abbrev d_Book_read : Df := ⟨fun K => cmA K (He.ga K "Book") "read", "read", "Book.read", s_Book_read, [], none, []⟩
abbrev d_Book__check_number : Df := ⟨fun K => He.ma K (He.ga K "Book") "_check_number", "_check_number", "Book._check_number", s_Book__check_number, [], none, []⟩
abbrev d_Book___getitem__ : Df := ⟨fun K => He.ma K (He.ga K "Book") "__getitem__", "__getitem__", "Book.__getitem__", s_Book___getitem__, [], none, []⟩
abbrev d_Book_add : Df := ⟨fun K => He.ma K (He.ga K "Book") "add", "add", "Book.add", s_Book_add, [], none, []⟩
abbrev d_Book_written : Df := ⟨fun K => He.ma K (He.ga K "Book") "written", "written", "Book.written", s_Book_written, [], none, []⟩
abbrev d_Book_possible : Df := ⟨fun K => He.ma K (He.ga K "Book") "possible", "possible", "Book.possible", s_Book_possible, [], none, []⟩
abbrev d_Book_take : Df := ⟨fun K => He.ma K (He.ga K "Book") "take", "take", "Book.take", s_Book_take, [], none, []⟩
abbrev d__law_next : Df := ⟨fun K => He.ga K "_law_next", "_law_next", "_law_next", s__law_next, [], none, []⟩
abbrev d__law_whole : Df := ⟨fun K => He.ga K "_law_whole", "_law_whole", "_law_whole", s__law_whole, [], none, []⟩
abbrev d__law_letters_of : Df := ⟨fun K => He.ga K "_law_letters_of", "_law_letters_of", "_law_letters_of", s__law_letters_of, [], none, []⟩
abbrev d__law_word_of : Df := ⟨fun K => He.ga K "_law_word_of", "_law_word_of", "_law_word_of", s__law_word_of, [], none, []⟩
abbrev d__law_rule_of : Df := ⟨fun K => He.ga K "_law_rule_of", "_law_rule_of", "_law_rule_of", s__law_rule_of, [], none, []⟩
abbrev d__law_rules_of : Df := ⟨fun K => He.ga K "_law_rules_of", "_law_rules_of", "_law_rules_of", s__law_rules_of, [], none, []⟩
abbrev d__law_text_of : Df := ⟨fun K => He.ga K "_law_text_of", "_law_text_of", "_law_text_of", s__law_text_of, [], none, []⟩
abbrev d__law_form_of : Df := ⟨fun K => He.ga K "_law_form_of", "_law_form_of", "_law_form_of", s__law_form_of, [], none, []⟩
abbrev d__law_book_of : Df := ⟨fun K => He.ga K "_law_book_of", "_law_book_of", "_law_book_of", s__law_book_of, [], none, []⟩
abbrev d__law_fits : Df := ⟨fun K => He.ga K "_law_fits", "_law_fits", "_law_fits", s__law_fits, [], none, []⟩
abbrev d__law_over_the_end : Df := ⟨fun K => He.ga K "_law_over_the_end", "_law_over_the_end", "_law_over_the_end", s__law_over_the_end, [], none, []⟩
abbrev d__law_long : Df := ⟨fun K => He.ga K "_law_long", "_law_long", "_law_long", s__law_long, [], none, []⟩
abbrev d__law_written : Df := ⟨fun K => He.ga K "_law_written", "_law_written", "_law_written", s__law_written, [], none, []⟩
abbrev d__law_due_of : Df := ⟨fun K => He.ga K "_law_due_of", "_law_due_of", "_law_due_of", s__law_due_of, [], none, []⟩
abbrev d__law_pure : Df := ⟨fun K => He.ga K "_law_pure", "_law_pure", "_law_pure", s__law_pure, [], none, []⟩
abbrev d__law_do : Df := ⟨fun K => He.ga K "_law_do", "_law_do", "_law_do", s__law_do, [], none, []⟩
abbrev d__law_is_text : Df := ⟨fun K => He.ga K "_law_is_text", "_law_is_text", "_law_is_text", s__law_is_text, [], none, []⟩
abbrev d__law_agrees : Df := ⟨fun K => He.ga K "_law_agrees", "_law_agrees", "_law_agrees", s__law_agrees, [], none, []⟩
abbrev d__law_yields : Df := ⟨fun K => He.ga K "_law_yields", "_law_yields", "_law_yields", s__law_yields, [], none, []⟩
abbrev d_law : Df := ⟨fun K => He.ga K "law", "law", "law", s_law, [], none, []⟩
def dsL0 : List Df := [d_BadText___init__, d_NoRule___init__, d_Mismatch___init__, d_is_sign, d__check_signs, d_Text___init__, d_Text___len__, d_Text___eq__, d__check_part, d__split_line, d__read_rule, d_Rule___init__, d_Rule_pattern, d_Rule___eq__, d_Rule___str__, d_Rule___call__, d_Rule_fits, d_Book___init__, d_Book_read, d_Book__check_number, d_Book___getitem__, d_Book_add, d_Book_written]
def dsL1 : List Df := [d_Book_possible, d_Book_take, d__law_next, d__law_whole, d__law_letters_of, d__law_word_of, d__law_rule_of, d__law_rules_of, d__law_text_of, d__law_form_of, d__law_book_of, d__law_fits, d__law_over_the_end, d__law_long, d__law_written, d__law_due_of, d__law_pure, d__law_do, d__law_is_text, d__law_agrees, d__law_yields, d_law]
def dsL : List Df := dsL0 ++ (dsL1)
def faL : List He.Fa := ([.free "ValueError", .free "abs", .free "bool", .free "enumerate", .free "int", .free "isinstance", .free "iter", .free "len", .free "list", .free "max", .free "range", .free "str", .free "super", .free "tuple", .glo "ClerkError", .glo "BadText"] : List He.Fa) ++ ([.glo "NoRule", .glo "Mismatch", .glo "Text", .glo "Rule", .glo "Book", .glo "is_sign", .glo "_check_signs", .glo "_check_part", .glo "_split_line", .glo "_read_rule", .glo "_law_next", .glo "_law_whole", .glo "_law_letters_of", .glo "_law_word_of", .glo "_law_rule_of", .glo "_law_rules_of"] : List He.Fa) ++ ([.glo "_law_text_of", .glo "_law_form_of", .glo "_law_book_of", .glo "_law_fits", .glo "_law_over_the_end", .glo "_law_long", .glo "_law_written", .glo "_law_due_of", .glo "_law_pure", .glo "_law_do", .glo "_law_is_text", .glo "_law_agrees", .glo "_law_yields", .glo "law", .cls "Text", .cls "Rule"] : List He.Fa) ++ ([.cls "Book", .noat "Text" "signs", .noat "Text" "closed", .noat "Rule" "old", .noat "Rule" "new", .noat "Rule" "left", .noat "Rule" "right", .noat "Book" "_rules", .meth "Book" "_check_number", .meth "Book" "add", .meth "Book" "possible", .meth "Book" "take", .meth "Book" "written", .meth "Rule" "fits", .mkr "Text", .mkr "Rule"] : List He.Fa) ++ ([.mkr "Book"] : List He.Fa)
def A (K : Fr) : Ad := ⟨He.ga K "ClerkError", He.ga K "BadText", He.ga K "NoRule", He.ga K "Mismatch", He.ga K "Text", He.ga K "Rule", He.ga K "Book"⟩
def exL (K : Fr) : List Bool := ([decide (PySem.W.kitOne K (.ref (A K).cText) (.ref (A K).cText) = some true), decide (PySem.W.kitOne K (.ref (A K).cRule) (.ref (A K).cRule) = some true), decide (PySem.W.kitOne K (.type "NoneType") (.ref (A K).cText) = some false), PySem.W.notFirst K (A K).cText (.ref (A K).cText), PySem.W.notFirst K (A K).cRule (.ref (A K).cRule), insB K (A K).cText, insB K (A K).cRule, insB K (A K).cBook, creadB K (A K).cText, creadB K (A K).cRule] : List Bool) ++ ([creadB K (A K).cBook, cvIntB K (A K).cText "MOST" 120, cvIntB K (A K).cBook "MOST" 8, specB K (A K).cText "__len__", propB K (A K).cRule "pattern", specB K (A K).cRule "__eq__", specB K (A K).cRule "__str__", specB K (A K).cRule "__call__", specB K (A K).cBook "__getitem__", cmetB K (A K).cBook "read"] : List Bool) ++ ([specB K (A K).cText "__eq__", supCB K (A K).cBadText, specB K (A K).cBadText "__init__", supCB K (A K).cMismatch, specB K (A K).cMismatch "__init__", supCB K (A K).cNoRule, specB K (A K).cNoRule "__init__"] : List Bool)
def kL : List ExK := [.size, .none, .place]
def tabB (K : Fr) : Bool := kL.all fun i => kL.all fun j => decide (PySem.W.exmOne K (.ref ((A K).x i)) (.ref ((A K).x j)) = some (decide (i = j))) && decide (PySem.W.kitOne K (.ref ((A K).x i)) (.ref ((A K).x j)) = some (decide (i = j)))
def oneB (K : Fr) : Bool := kL.all fun i => decide (PySem.W.kitOne K (.ref ((A K).x i)) (.ref (A K).cClerkError) = some true) && (decide (PySem.W.kitOne K (.ref ((A K).x i)) (.type "ValueError") = some true) && (excTB K ((A K).x i) && (xfB K ((A K).x i) && decide (PySem.W.findIn K (.ref ((A K).x i)) i.fld = some none))))
def exK (K : Fr) : Bool := (exL K).all id && (tabB K && oneB K)
abbrev R : PySem.W.OpenRow := PySem.W.OpenLaw.row PySem.Challenge.rw_manyclerks_k04_one_step
abbrev fileS : PySem.Str := PySem.Challenge.pw_manyclerks_k04_one_step.main.file
abbrev hk : PySem.W.Hook := hookT2 fileS faL dsL exK
def ob (s : PySem.W.SharedT) : Al2 := obsT2 fileS faL dsL exK (HandSHeadRun.getT s)
theorem ob_eq (s : PySem.W.SharedT) : ob s = hk.obs s.abs := obsT2_eq (HandSHeadRun.getT_eq s)
def loose : List PySem.Str := (["_wall", "__name__", "ClerkError", "BadSign", "BadRule", "BadLine", "BadText", "BookFull", "NoRule", "SameRule", "NoPlace", "Mismatch", "ClosedText", "OpenText", "is_sign", "_check_signs", "Text", "_check_part", "_split_line", "_read_rule"] : List PySem.Str) ++ (["Rule", "Book", "_law_next", "_law_whole", "_law_letters_of", "_law_word_of", "_law_rule_of", "_law_rules_of", "_law_text_of", "_law_form_of", "_law_book_of", "_law_fits", "_law_over_the_end", "_law_long", "_law_written", "_law_due_of", "_law_pure", "_law_do", "_law_is_text", "_law_agrees"] : List PySem.Str) ++ (["_law_yields"] : List PySem.Str)

open HandSHeadRun PySem.W
theorem t2 (w : World) (os : OsState) : (endF (stepQ (denQ tabQ) R.prog w) 20000 R.prog w os).map (fun s => looksF R.prog (boot_heap w.params) s.abs) = some true := by kernel_rfl
theorem t3 (w : World) (os : OsState) : (endF (stepQ (denQ tabQ) R.prog w) 20000 R.prog w os).map (fun s => seenQ (view R.prog [46]) loose (importedModules R.prog.main.body) (fun s => xlAt (view R.prog [46]) [] s && recOk R.toRowW.records s) s.abs) = some (openGood (view R.prog [46]) loose) := by kernel_rfl
theorem t4 (w : World) (os : OsState) : (endF (stepQ (denQ tabQ) R.prog w) 20000 R.prog w os).map (fun s => (ob s).1) = some true := by kernel_rfl
theorem t5_0 (w : World) (os : OsState) : (endF (stepQ (denQ tabQ) R.prog w) 20000 R.prog w os).map (fun s => dsL0.map fun d => fnV2 (frT2 (HandSHeadRun.getT s)) (d.adr (frT2 (HandSHeadRun.getT s)))) = some (dsL0.map Df.val) := by kernel_rfl
theorem t5_1 (w : World) (os : OsState) : (endF (stepQ (denQ tabQ) R.prog w) 20000 R.prog w os).map (fun s => dsL1.map fun d => fnV2 (frT2 (HandSHeadRun.getT s)) (d.adr (frT2 (HandSHeadRun.getT s)))) = some (dsL1.map Df.val) := by kernel_rfl
end K4
set_option maxHeartbeats 4000000
/-! K4M: k04: plain mathematics, readings -/
namespace K4
open PySem PySem.Spec PyProof.Rows L2 MC
theorem lkS {v w : V} : List.lookup ("signs" : Str) [("signs", v), ("closed", w)] = some v := by
  have e : (("signs" : Str) == "signs") = true := beq_self_eq_true _
  simp only [List.lookup, e]
theorem lkC {v w : V} : List.lookup ("closed" : Str) [("signs", v), ("closed", w)] = some w := by
  have e : (("closed" : Str) == "closed") = true := beq_self_eq_true _
  have e2 : (("closed" : Str) == "signs") = false := by decide +kernel
  simp only [List.lookup, e, e2]
theorem one_of_len {z : Str} (h : z.length = 1) : z = ⟨#[z.cps.getD 0 0]⟩ := by
  obtain ⟨c⟩ := z
  have h : c.size = 1 := h
  obtain ⟨l⟩ := c
  match l, h with
  | [x], _ => rfl
theorem isSg_eq (z : Str) : isSg z = (decide (((z.length : Nat) : Int) = 1) && (!decide (z.cps.toList < ("a" : Str).cps.toList) && !decide (("z" : Str).cps.toList < z.cps.toList))) := by
  by_cases h : z.length = 1
  · have e := one_of_len h
    generalize hc : z.cps.getD 0 0 = c at e
    subst e
    have h1 : ("a" : Str).cps.toList = [97] := by decide +kernel
    have h2 : ("z" : Str).cps.toList = [122] := by decide +kernel
    have h3 : (#[c] : Array Nat).getD 0 0 = c := rfl
    show ((#[c].size == 1) && sgOk ((#[c] : Array Nat).getD 0 0)) = _
    rw [h3, h1, h2]
    show (true && sgOk c) = (true && (!decide ([c] < [97]) && !decide ([122] < [c])))
    unfold sgOk
    have e1 : ([c] < [97]) ↔ c < 97 := by
      constructor
      · intro h
        cases h with
        | rel h => exact h
        | cons h => cases h
      · exact fun h => List.Lex.rel h
    have e2 : ([122] < [c]) ↔ 122 < c := by
      constructor
      · intro h
        cases h with
        | rel h => exact h
        | cons h => cases h
      · exact fun h => List.Lex.rel h
    have e3 : decide ([c] < [97]) = decide (c < 97) := decide_eq_decide.mpr e1
    have e4 : decide ([122] < [c]) = decide (122 < c) := decide_eq_decide.mpr e2
    rw [e3, e4]
    by_cases a1 : c < 97 <;> by_cases a2 : 122 < c <;> simp [a1, a2] <;> omega
  · have e1 : (z.length == 1) = false := by simpa using h
    have e2 : decide (((z.length : Nat) : Int) = 1) = false := decide_eq_false (by omega)
    unfold isSg
    rw [e1, e2]; rfl
theorem bad_none {z : Str} : bad z = none ↔ ∀ j, j < z.cps.size → sgOk (z.cps.getD j 0) = true := by
  unfold bad
  rw [List.findIdx?_eq_none_iff]
  constructor
  · intro h j hj
    have := h (z.cps.getD j 0) (by
      rw [Array.getD_eq_getD_getElem?, Array.getElem?_eq_getElem hj, Option.getD_some]
      exact Array.getElem_mem_toList hj)
    simpa using this
  · intro h x hx
    obtain ⟨j, hj, rfl⟩ := List.getElem_of_mem hx
    have hj' : j < z.cps.size := by simpa using hj
    have := h j hj'
    rw [Array.getD_eq_getD_getElem?, Array.getElem?_eq_getElem hj', Option.getD_some] at this
    simpa using this
theorem bad_some {z : Str} {i : Nat} (hi : i < z.cps.size) (h1 : sgOk (z.cps.getD i 0) = false) (h2 : ∀ j, j < i → sgOk (z.cps.getD j 0) = true) : bad z = some i := by
  unfold bad
  rw [List.findIdx?_eq_some_iff_getElem]
  refine ⟨by simpa using hi, ?_, fun j hj => ?_⟩
  · rw [Array.getD_eq_getD_getElem?, Array.getElem?_eq_getElem hi, Option.getD_some] at h1
    simpa using h1
  · have hj' : j < z.cps.size := by omega
    have := h2 j hj
    rw [Array.getD_eq_getD_getElem?, Array.getElem?_eq_getElem hj', Option.getD_some] at this
    simpa using this
theorem isSg_one (c : Nat) : isSg ⟨#[c]⟩ = sgOk c := by unfold isSg; rfl
theorem log_small {i : Int} (h : i.natAbs < 2 ^ 100) : i.natAbs.log2 < 1000 := by
  by_cases h0 : i.natAbs = 0
  · rw [h0]; decide
  · exact Nat.lt_trans ((Nat.log2_lt h0).mpr h) (by decide)
theorem str_ext {z w : Str} (h : z.cps.toList = w.cps.toList) : z = w := by
  obtain ⟨a⟩ := z
  obtain ⟨b⟩ := w
  have h : a.toList = b.toList := h
  rw [show a = b from by cases a; cases b; simpa using h]
theorem app_l (z w : Str) : (z ++ w).cps.toList = z.cps.toList ++ w.cps.toList := by
  show (z.cps ++ w.cps).toList = _
  simp
theorem len_l (z : Str) : z.cps.toList.length = z.length := by simp [Str.length]
theorem slen_app (z w : Str) : (z ++ w).length = z.length + w.length := by
  rw [← len_l, app_l, List.length_append, len_l, len_l]
theorem cut_l (z : Str) (lo hi : Option Int) : (cutS z lo hi).cps.toList = (z.cps.toList.drop (HT.sIx z.length 0 lo)).take (HT.sIx z.length z.length hi - HT.sIx z.length 0 lo) := by
  unfold cutS
  simp
theorem bad_l {z : Str} : bad z = none ↔ ∀ c ∈ z.cps.toList, sgOk c = true := by
  unfold bad
  rw [List.findIdx?_eq_none_iff]
  simp
theorem bad_app {z w : Str} (h1 : bad z = none) (h2 : bad w = none) : bad (z ++ w) = none := by
  rw [bad_l] at *
  intro c hc
  rw [app_l] at hc
  rcases List.mem_append.mp hc with hc | hc
  · exact h1 c hc
  · exact h2 c hc
theorem bad_cut {z : Str} {lo hi : Option Int} (h1 : bad z = none) : bad (cutS z lo hi) = none := by
  rw [bad_l] at *
  intro c hc
  rw [cut_l] at hc
  exact h1 c (List.mem_of_mem_drop (List.mem_of_mem_take hc))
theorem sIx_some (n d e : Nat) (k : Int) : HT.sIx n d (some k) = HT.sIx n e (some k) := rfl
theorem empty_iff {z : Str} : z = "" ↔ z.length = 0 := by
  constructor
  · intro h; rw [h]; rfl
  · intro h
    apply str_ext
    have e : z.cps.toList = [] := List.eq_nil_of_length_eq_zero (by rw [len_l]; exact h)
    rw [e]; rfl
theorem Good.cut {z : Str} {c : Bool} {lo hi : Option Int} (h : Good z c) : Good (cutS z lo hi) false :=
  ⟨bad_cut h.1, Nat.le_trans (cutS_length z lo hi) h.2.1, fun e => nomatch e⟩
theorem atI_get {z : Str} {i : Int} (h : 0 ≤ i ∧ i < z.length) : atI z.cps.toList i = some (z.cps.getD i.toNat 0) := by
  unfold atI ixN
  rw [if_pos h.1, len_l, if_pos h.2]
  show z.cps.toList[i.toNat]? = _
  have hi : i.toNat < z.cps.size := by have := h.2; show _ < z.length; omega
  rw [Array.getElem?_toList, Array.getElem?_eq_getElem hi, Array.getD_eq_getD_getElem?, Array.getElem?_eq_getElem hi]
  rfl
theorem atI_last {z : Str} (h : 0 < z.length) : atI z.cps.toList (-1) = some (z.cps.getD (z.length - 1) 0) := by
  unfold atI ixN
  rw [if_neg (by decide), len_l, if_pos (by omega)]
  show z.cps.toList[((-1 : Int) + (z.length : Int)).toNat]? = _
  have e : ((-1 : Int) + (z.length : Int)).toNat = z.length - 1 := by omega
  rw [e]
  have hi : z.length - 1 < z.cps.size := by show _ < z.length; omega
  rw [Array.getElem?_toList, Array.getElem?_eq_getElem hi, Array.getD_eq_getD_getElem?, Array.getElem?_eq_getElem hi]
  rfl
theorem one_eq {c d : Nat} : decide ((⟨#[c]⟩ : Str) = ⟨#[d]⟩) = decide (c = d) := decide_eq_decide.mpr ⟨fun h => by cases h; rfl, fun h => by rw [h]⟩
theorem all128 {z : Str} (h : bad z = none) : z.cps.all (· < 128) = true := by
  rw [Array.all_eq_true]
  intro i hi
  have h1 : sgOk (z.cps[i]) = true := bad_l.mp h _ (Array.getElem_mem_toList hi)
  unfold sgOk at h1
  simp at h1 ⊢
  omega
theorem meets_txt {a : Ad} {z : Str} {c : Bool} {H : Hp} {Q : VK} {E : XK} (q : ∀ p H', Le H H' → TextAt a H' p z c → Q (.ref p) H') : Meets a (.txt z c) H Q E :=
  ⟨fun v H' e h => by obtain ⟨p, rfl, h⟩ := h; exact q p H' e h, fun k i h => nomatch h⟩
theorem Meets.le {a : Ad} {r : Ans} {H H1 : Hp} {Q : VK} {E : XK} (e : Le H H1) (h : Meets a r H Q E) : Meets a r H1 Q E :=
  ⟨fun v H' e' t => h.1 v H' (e.trans e') t, fun k i r cls d H' e' x => h.2 k i r cls d H' (e.trans e') x⟩
theorem Meets.is {a : Ad} {r r' : Ans} {H : Hp} {Q : VK} {E : XK} (e : r = r') (h : Meets a r H Q E) : Meets a r' H Q E := e ▸ h

theorem elen : Str.empty.length = 0 := by decide +kernel
theorem len1a : (Str.ofString "(").length = 1 := by decide +kernel
theorem len1b : (Str.ofString ">").length = 1 := by decide +kernel
theorem len1c : (Str.ofString ")").length = 1 := by decide +kernel
theorem eapp (z : Str) : Str.empty ++ z = z := str_ext (by rw [app_l]; rfl)
theorem cut_len (z : Str) (lo hi : Option Int) : (cutS z lo hi).length ≤ z.length := by
  rw [← len_l, cut_l, List.length_take, List.length_drop, len_l]
  omega
theorem rep2 (z : Str) : repS z 2 = z ++ z := by
  refine str_ext ?_
  rw [app_l]
  unfold repS
  rw [if_neg (by decide)]
  simp
theorem lkF {v w x y : V} : List.lookup ("fits" : Str) [(("old" : Str), v), ("new", w), ("left", x), ("right", y)] = none := by
  have e : (("fits" : Str) == "old") = false := by decide +kernel
  have e2 : (("fits" : Str) == "new") = false := by decide +kernel
  have e3 : (("fits" : Str) == "left") = false := by decide +kernel
  have e4 : (("fits" : Str) == "right") = false := by decide +kernel
  simp only [List.lookup, e, e2, e3, e4]
theorem put1 {v : V} : putF ("signs" : Str) v [] = ([(("signs" : Str), v)] : List (Str × V)) := rfl
theorem put2 {v w : V} : putF ("closed" : Str) w ([(("signs" : Str), v)] : List (Str × V)) = ([(("signs" : Str), v), (("closed" : Str), w)] : List (Str × V)) := by
  have h : ¬ (("signs" : Str) = ("closed" : Str)) := by decide +kernel
  show (if ("signs" : Str) = ("closed" : Str) then (("signs" : Str), w) :: ([] : List (Str × V)) else (("signs" : Str), v) :: putF ("closed" : Str) w []) = _
  rw [if_neg h]
  rfl
/-! ### readings -/
def kCO (C : Addr) (sp : Sp) (E : L2.St → XK) (t : TA) (σ : L2.St) (Q : VK) : VK := fun y H1 => ∃ a, y = V.ref a ∧ t σ H1 fun vs H2 => (∃ dx fs, H2 a = some (.ins C dx fs)) ∧ sp (V.ref a :: vs) H2 Q (E σ)
theorem x_callO {C : Addr} {sp : Sp} {E : L2.St → XK} {tf : TE} {t : TA} {σ : L2.St} {H : Hp} {Q : VK} (h : tf σ H (kCO C sp E t σ Q)) : tCallOG C sp E tf t σ H Q := h
theorem x_kCO {C r : Addr} {sp : Sp} {E : L2.St → XK} {t : TA} {σ : L2.St} {H : Hp} {Q : VK} (q : t σ H fun vs H2 => (∃ dx fs, H2 r = some (.ins C dx fs)) ∧ sp (V.ref r :: vs) H2 Q (E σ)) : kCO C sp E t σ Q (.ref r) H := ⟨r, rfl, q⟩
def kPr (C : Addr) (sp : Sp) (Q : VK) : VK := fun y H1 => ∃ a dx fs, y = V.ref a ∧ H1 a = some (.ins C dx fs) ∧ sp [.ref a] H1 Q XE0
theorem x_prop {C : Addr} {sp : Sp} {ta : TE} {σ : L2.St} {H : Hp} {Q : VK} (h : ta σ H (kPr C sp Q)) : tPropG C sp ta σ H Q := h
theorem x_kPr {C a dx : Addr} {fs : List (Str × V)} {sp : Sp} {H : Hp} {Q : VK} (h : H a = some (.ins C dx fs)) (q : sp [.ref a] H Q XE0) : kPr C sp Q (.ref a) H := ⟨a, dx, fs, rfl, h, q⟩
theorem pat_len {x : R4} (fx : Fine x) : (pat x).length ≤ 7 := by
  have f1 := fx.l.2
  have f2 := fx.o.2.2
  have f3 := fx.r.2
  unfold pat
  simp only [slen_app]
  omega
theorem lkO {v w x y : V} : List.lookup ("old" : Str) [("old", v), ("new", w), ("left", x), ("right", y)] = some v := by
  have e : (("old" : Str) == "old") = true := beq_self_eq_true _
  simp only [List.lookup, e]
theorem lkN {v w x y : V} : List.lookup ("new" : Str) [("old", v), ("new", w), ("left", x), ("right", y)] = some w := by
  have e : (("new" : Str) == "new") = true := beq_self_eq_true _
  have e2 : (("new" : Str) == "old") = false := by decide +kernel
  simp only [List.lookup, e, e2]
theorem lkL {v w x y : V} : List.lookup ("left" : Str) [("old", v), ("new", w), ("left", x), ("right", y)] = some x := by
  have e : (("left" : Str) == "left") = true := beq_self_eq_true _
  have e2 : (("left" : Str) == "old") = false := by decide +kernel
  have e3 : (("left" : Str) == "new") = false := by decide +kernel
  simp only [List.lookup, e, e2, e3]
theorem lkR {v w x y : V} : List.lookup ("right" : Str) [("old", v), ("new", w), ("left", x), ("right", y)] = some y := by
  have e : (("right" : Str) == "right") = true := beq_self_eq_true _
  have e2 : (("right" : Str) == "old") = false := by decide +kernel
  have e3 : (("right" : Str) == "new") = false := by decide +kernel
  have e4 : (("right" : Str) == "left") = false := by decide +kernel
  simp only [List.lookup, e, e2, e3, e4]
theorem lkB {v : V} : List.lookup ("_rules" : Str) [("_rules", v)] = some v := by
  have e : (("_rules" : Str) == "_rules") = true := beq_self_eq_true _
  simp only [List.lookup, e]
section
variable {K : PySem.W.Frag} {mg : Str → Option Value} {a : Ad} {H : Hp} {p l dx : Addr} {z : Str} {c : Bool} {x : R4} {Q : VK}
theorem x_fS (T : Txt K mg a) (h : TextAt a H p z c) (q : Q (.str z) H) : kFld K "signs" Q (.ref p) H := by
  obtain ⟨dx, h⟩ := h
  exact x_kFld h T.fS lkS q
theorem x_fC (T : Txt K mg a) (h : TextAt a H p z c) (q : Q (.bl c) H) : kFld K "closed" Q (.ref p) H := by
  obtain ⟨dx, h⟩ := h
  exact x_kFld h T.fC lkC q
theorem x_fO (T : Txt K mg a) (h : RuleAt a H p x) (q : Q (.str x.o) H) : kFld K "old" Q (.ref p) H := by
  obtain ⟨dx, h⟩ := h
  exact x_kFld h T.fO lkO q
theorem x_fN (T : Txt K mg a) (h : RuleAt a H p x) (q : Q (.str x.n) H) : kFld K "new" Q (.ref p) H := by
  obtain ⟨dx, h⟩ := h
  exact x_kFld h T.fN lkN q
theorem x_fL (T : Txt K mg a) (h : RuleAt a H p x) (q : Q (.str x.l) H) : kFld K "left" Q (.ref p) H := by
  obtain ⟨dx, h⟩ := h
  exact x_kFld h T.fL lkL q
theorem x_fR (T : Txt K mg a) (h : RuleAt a H p x) (q : Q (.str x.r) H) : kFld K "right" Q (.ref p) H := by
  obtain ⟨dx, h⟩ := h
  exact x_kFld h T.fR lkR q
theorem x_fB (T : Txt K mg a) (h : H p = some (.ins a.cBook dx [("_rules", .ref l)])) (q : Q (.ref l) H) : kFld K "_rules" Q (.ref p) H := x_kFld h T.fB lkB q
theorem x_kCVT (T : Txt K mg a) (q : Q (.int 120) H) : kCV K "MOST" Q (.ref a.cText) H := x_kCV T.cvT q
theorem x_kCVB (T : Txt K mg a) (q : Q (.int 8) H) : kCV K "MOST" Q (.ref a.cBook) H := x_kCV T.cvB q
theorem x_isText (T : Txt K mg a) (h : TextAt a H p z c) (q : Q (.bl true) H) : rIsi K [.ref p, .ref a.cText] H Q := by
  obtain ⟨dx, h⟩ := h
  exact x_isi (.own _) (.base (T.insT h)) T.kTT q
theorem x_isRule (T : Txt K mg a) (h : RuleAt a H p x) (q : Q (.bl true) H) : rIsi K [.ref p, .ref a.cRule] H Q := by
  obtain ⟨dx, h⟩ := h
  exact x_isi (.own _) (.base (T.insR h)) T.kRR q
theorem x_isTextN (T : Txt K mg a) (q : Q (.bl false) H) : rIsi K [.non, .ref a.cText] H Q := x_isi (.own _) (.base .non) T.kNT q
end
end K4
set_option maxHeartbeats 4000000
/-! K4B: k04: signs, Text, Rule's fields -/
namespace K4
open PySem PySem.Spec PyProof.Rows L2 MC
local macro_rules | `(tactic| walk_at "hp") => `(tactic| first | assumption | (apply Le.keep; assumption; walk_at "hp") | (apply TextAt.le; assumption; walk_at "hp") | (apply Lw.keep; assumption; walk_at "hp"; first | rfl | exact sh_str _ | exact sh_ints _ | exact sh_sgns _) | (apply TextAt.lw; assumption; walk_at "hp"))
local macro_rules | `(tactic| walk_at "le") => `(tactic| first | exact Le.refl _ | assumption | (apply Le.trans'; assumption; walk_at "le"))
local macro_rules | `(tactic| walk_at "lw") => `(tactic| first | exact Lw.refl _ | assumption | exact Le.w (by assumption) | (apply Lw.trans'; (first | assumption | exact Le.w (by assumption)); walk_at "lw"))
local macro_rules | `(tactic| walk_at "sz") => `(tactic| first | omega | (simp only [slen_app]; omega) | (simp only [List.length_append, List.length_cons, List.length_nil, List.length_map, List.length_range]; omega) | omega | (simp; omega) | decide)
local macro_rules | `(tactic| walk_at "x") => `(tactic| first
  | with_reducible refine x_seq ?_ | with_reducible refine x_asg ?_ | with_reducible refine x_ret ?_ | with_reducible refine x_drop ?_
  | ((with_reducible apply x_var); exact rfl) | with_reducible refine x_c ?_ | with_reducible refine x_op ?_ | with_reducible refine x_opS ?_ | with_reducible refine x_un ?_ | with_reducible refine x_neg ?_
  | with_reducible refine x_test ?_ | with_reducible refine x_tB ?_ | with_reducible refine x_kB ?_
  | with_reducible refine x_nil ?_ | with_reducible refine x_cons ?_ | with_reducible refine x_tup ?_ | with_reducible refine x_lst ?_
  | ((with_reducible refine x_kTup ?_ ?_); (walk_at "sz"); (intro _ _ _ _ _)) | ((with_reducible refine x_kLst ?_ ?_); (walk_at "sz"); (intro _ _ _ _ _))
  | with_reducible refine x_fld ?_ | ((with_reducible apply x_fS); assumption; (walk_at "hp")) | ((with_reducible apply x_fC); assumption; (walk_at "hp"))
  | with_reducible refine x_cb ?_ | with_reducible refine x_call ?_ | with_reducible refine x_callE ?_ | with_reducible refine x_bm ?_ | with_reducible refine x_cv ?_
  | with_reducible refine x_meth ?_ | with_reducible refine x_cm ?_ | with_reducible refine x_kCM ?_ | with_reducible refine x_mk ?_ | with_reducible refine x_kMk ?_
  | with_reducible refine x_np ?_ | with_reducible refine x_part ?_ | with_reducible refine x_kPart ?_ | with_reducible refine x_sl ?_ | with_reducible refine x_rev ?_
  | with_reducible refine x_addI ?_ | ((with_reducible refine x_addS ?_ ?_); (walk_at "sz")) | with_reducible refine x_I0 ?_
  | with_reducible refine x_eqS ?_ | with_reducible refine x_eqI ?_ | with_reducible refine x_eqB ?_ | with_reducible refine x_neS ?_ | with_reducible refine x_neI ?_ | with_reducible refine x_neB ?_
  | with_reducible refine x_eqFS ?_ | with_reducible refine x_eqFI ?_
  | with_reducible refine x_ltI ?_ | with_reducible refine x_ltS ?_ | with_reducible refine x_leI ?_ | with_reducible refine x_leS ?_ | with_reducible refine x_inT ?_ | with_reducible refine x_notInT ?_
  | ((with_reducible refine x_slS ?_ ?_); (walk_at "sz")) | ((with_reducible refine x_kRev ?_ ?_); (walk_at "sz"))
  | ((with_reducible refine x_lenS ?_ ?_); (walk_at "sz")) | ((with_reducible apply x_lenT); (walk_at "hp"))
  | ((with_reducible apply x_ixT); (walk_at "hp"); exact rfl)
  | with_reducible refine x_abs ?_ | with_reducible refine x_int ?_ | with_reducible refine x_strS ?_
  | ((with_reducible apply x_isB); (first | exact kit_ty (r := true) (by decide +kernel) | exact kit_ty (r := false) (by decide +kernel))) | ((with_reducible apply x_isI); (first | exact kit_ty (r := true) (by decide +kernel) | exact kit_ty (r := false) (by decide +kernel))) | ((with_reducible apply x_isS); (first | exact kit_ty (r := true) (by decide +kernel) | exact kit_ty (r := false) (by decide +kernel)))
  | ((with_reducible apply x_isT); (walk_at "hp"); (first | exact kit_ty (r := true) (by decide +kernel) | exact kit_ty (r := false) (by decide +kernel)))
  | ((with_reducible apply x_isText); assumption; (walk_at "hp")) | ((with_reducible apply x_isTextS); assumption) | ((with_reducible apply x_isTextI); assumption) | ((with_reducible apply x_isTextN); assumption) | ((with_reducible apply x_kCVT); assumption)
  | ((with_reducible apply x_addL); (walk_at "hp"); (walk_at "hp"); (walk_at "sz"); (intro _ _ _ _ _)) | ((with_reducible apply x_tyL); (walk_at "hp")) | with_reducible refine x_tyS ?_
  | with_reducible refine x_joined ?_ | with_reducible refine x_js ?_ | with_reducible refine x_js0 ?_ | ((with_reducible refine x_kJs ?_ ?_); (walk_at "sz")) | with_reducible refine x_fmt ?_ | ((with_reducible refine x_fmtS ?_ ?_); (walk_at "sz")) | ((with_reducible refine x_fmtI ?_ ?_); omega)
  | with_reducible refine x_rse ?_ | with_reducible refine x_ex ?_ | with_reducible refine x_ex0 ?_ | with_reducible refine x_xf ?_
  | with_reducible refine x_for ?_ | with_reducible refine x_r1 ?_ | with_reducible refine x_r2 ?_ | with_reducible refine x_il ?_ | with_reducible refine x_en ?_ | with_reducible refine x_lc ?_ | with_reducible refine x_next ?_ | dsimp only)
local macro_rules | `(tactic| walk_at "xs") => `(tactic| repeat walk_at "x")
local macro_rules | `(tactic| walk_at "ev0") => `(tactic| (refine ev_run ?_; intro _ _ _ q; walk_at "xs"; refine q _ ?_; walk_at "le"))
local macro_rules | `(tactic| walk_at "ch") => `(tactic| (intro _ _ _ q; walk_at "xs"; refine q _ ?_; walk_at "le"))
local macro_rules | `(tactic| walk_at "ev") => `(tactic| first
  | (focus ((with_reducible refine ev_andV ?_ (fun _ => ?_)); (all_goals walk_at "ev"))) | (focus ((with_reducible refine ev_orV ?_ (fun _ => ?_)); (all_goals walk_at "ev")))
  | ((with_reducible refine ev_notV ?_); walk_at "ev")
  | (focus ((with_reducible apply ev_chain); (focus walk_at "ch"); (focus walk_at "ch"); (focus walk_at "ch"); (focus (intro _ _ _ q; walk_at "x"; exact q)); (focus (intro _ _ _ q; walk_at "x"; exact q))))
  | walk_at "ev0" | skip)
local macro_rules | `(tactic| walk_at "et") => `(tactic| first
  | (focus ((with_reducible refine et_and ?_ (fun _ => ?_)); (all_goals walk_at "et"))) | (focus ((with_reducible refine et_or ?_ (fun _ => ?_)); (all_goals walk_at "et")))
  | ((with_reducible refine et_not ?_); walk_at "et") | ((with_reducible refine et_B ?_); walk_at "ev") | ((with_reducible refine et_T ?_); walk_at "ev"))
local macro_rules | `(tactic| walk_at "hp") => `(tactic| first | assumption | (apply RuleAt.le; assumption; walk_at "hp") | (apply RulesAt.le; assumption; walk_at "hp") | (apply BookAt.le; assumption; walk_at "hp") | (apply RuleAt.lw; assumption; walk_at "hp") | (apply BookAt.lw; assumption; walk_at "hp") | (apply R4s.le; assumption; walk_at "hp") | (apply R4s.lw; assumption; walk_at "hp"))
local macro_rules | `(tactic| walk_at "x") => `(tactic| first
  | ((with_reducible apply x_fO); assumption; (walk_at "hp")) | ((with_reducible apply x_fN); assumption; (walk_at "hp")) | ((with_reducible apply x_fL); assumption; (walk_at "hp")) | ((with_reducible apply x_fR); assumption; (walk_at "hp")) | ((with_reducible apply x_fB); assumption; (walk_at "hp"))
  | ((with_reducible apply x_isRule); assumption; (walk_at "hp")) | ((with_reducible apply x_kCVB); assumption)
  | with_reducible refine x_callO ?_ | with_reducible refine x_kCO ?_ | with_reducible refine x_prop ?_ | with_reducible refine x_max ?_ | with_reducible refine x_intB ?_ | with_reducible refine x_findS ?_ | with_reducible refine x_countS ?_ | with_reducible refine x_isN ?_)
local macro_rules | `(tactic| walk_at "sz") => `(tactic| (simp only [slen_app, elen, len1a, len1b, len1c]; omega))
theorem ok_is_sign {P : Program} {w : World} {K : PySem.W.Frag} {mg : Str → Option Value} {base : Heap} {a : Ad} {f : Addr} {fd : FuncData} (F : FnP K "is_sign" "is_sign" s_is_sign f fd) (T : Txt K mg a)  :
    FnOk P w K mg base (L2.CX P w) 1 f fd ["word"] (sp_is_sign a) := by
  refine F.ok sc_is_sign (fun vs H Q E h => by obtain ⟨z, rfl, hz, q⟩ := h; rfl) (fun cdv A outer s H vs Q E hr h => ?_)
  refine ⟨_, (pss_one (ps_ret (pe_and (pe_cmpR (op_eqU hr) (pe_callB call_lenU (by rfl) T.f_len (by decide +kernel) (pa_cons (pv 0) pa_nil)) pe_int (nomark _)) (pe_one (pe_chain op_leU op_leU pe_str (pv 0) pe_str))))), ?_⟩
  obtain ⟨z, rfl, hz, q⟩ := h
  walk_at "xs"
  refine x_andV (b := isSg z) (ev_is ?_ (isSg_eq z).symm) q
  walk_at "ev"

theorem ok__check_signs {P : Program} {w : World} {K : PySem.W.Frag} {mg : Str → Option Value} {base : Heap} {a : Ad} {f : Addr} {fd : FuncData} (F : FnP K "_check_signs" "_check_signs" s__check_signs f fd) (T : Txt K mg a) (G_is_sign : FnG P w K mg base 1 "is_sign" (sp_is_sign a)) :
    FnOk P w K mg base (L2.CX P w) 2 f fd ["signs"] (sp__check_signs a) := by
  refine F.ok sc__check_signs (fun vs H Q E h => by obtain ⟨z, rfl, hz, hb, q⟩ := h; rfl) (fun cdv A outer s H vs Q E hr h => ?_)
  refine ⟨_, (pss_one (ps_for (by first | exact po | exact PassesOwn.never | exact passes_of rfl) rfl (pi_enumS (by rfl) T.f_enumerate (pa_cons (pv 0) pa_nil)) (pg_tup rfl (pgs_cons (pg_name (i := 1) sc__check_signs.nd rfl (Or.inl rfl)) (pgs_cons (pg_name (i := 2) sc__check_signs.nd rfl (Or.inl rfl)) pgs_nil))) (pss_one (ps_if (pt_not (pt_val (pe_callG G_is_sign (hr.mono (by decide)) passN rfl (pa_cons (pv 2) pa_nil)))) (pss_one ps_never) pss_nil)))), ?_⟩
  obtain ⟨z, rfl, hz, hb, q⟩ := h
  walk_at "xs"
  refine x_forE (fun i σ' H' => (∃ v1 v2, σ' = [some (V.str z), v1, v2]) ∧ Le H H') ⟨⟨_, _, rfl⟩, Le.refl H⟩ ?_ ?_
  · rintro i t σ' H1 H2 hi ⟨⟨v1, v2, rfl⟩, e1⟩ e2 hT
    refine ⟨t, _, rfl, sqt hT, rfl, ?_⟩
    refine ⟨_, _, rfl, ?_⟩
    refine ⟨_, _, rfl, ?_⟩
    refine ⟨rfl, ?_⟩
    refine x_no (et_is (b := !sgOk (z.cps.getD i 0)) (et_not (et_B (ev_run fun H3 e3 Q3 q3 => ?_))) (by rw [bad_none.mp hb i hi]; rfl)) (fun H3 e3 => ?_)
    · walk_at "xs"
      refine ⟨_, rfl, ?_, fun H4 e4 => ?_⟩
      · show #[z.cps.getD i 0].size ≤ 1000
        simp
      · rw [isSg_one]; exact q3 H4 e4
    · walk_at "xs"
      exact ⟨⟨_, _, rfl⟩, (e1.trans e2).trans e3⟩
  · rintro σ' H1 ⟨⟨v1, v2, rfl⟩, e1⟩
    exact q _ e1

theorem ok_Text___len__ {P : Program} {w : World} {K : PySem.W.Frag} {mg : Str → Option Value} {base : Heap} {a : Ad} {f : Addr} {fd : FuncData} (F : FnP K "__len__" "Text.__len__" s_Text___len__ f fd) (T : Txt K mg a)  :
    FnOk P w K mg base (L2.CX P w) 1 f fd ["self"] (sp_Text___len__ a) := by
  refine F.ok sc_Text___len__ (fun vs H Q E h => by obtain ⟨p, z, c, rfl, hz, h, q⟩ := h; rfl) (fun cdv A outer s H vs Q E hr h => ?_)
  refine ⟨_, (pss_one (ps_ret (pe_callB call_lenU (by rfl) T.f_len (by decide +kernel) (pa_cons (pe_fld (pv 0) rfl) pa_nil)))), ?_⟩
  obtain ⟨p, z, c, rfl, hz, h, q⟩ := h
  have hz2 : z.length ≤ 1000 := hz
  walk_at "xs"
  exact q _ (Le.refl _)

theorem ok_Text___eq__ {P : Program} {w : World} {K : PySem.W.Frag} {mg : Str → Option Value} {base : Heap} {a : Ad} {f : Addr} {fd : FuncData} (F : FnP K "__eq__" "Text.__eq__" s_Text___eq__ f fd) (T : Txt K mg a)  :
    FnOk P w K mg base (L2.CX P w) 1 f fd ["self", "other"] (sp_Text___eq__ a) := by
  refine F.ok sc_Text___eq__ (fun vs H Q E h => by obtain ⟨p, z, c, q, w, d, rfl, h1, h2, hq⟩ := h; rfl) (fun cdv A outer s H vs Q E hr h => ?_)
  refine ⟨_, (pss_one (ps_ret (pe_and (pe_callB call_isi (by rfl) T.f_isinstance (by decide +kernel) (pa_cons (pv 1) (pa_cons (pe_glob (v := .ref a.cText) rfl T.g_Text rfl) pa_nil))) (pe_and (pe_cmpR (op_eqU hr) (pe_fld (pv 0) rfl) (pe_fld (pv 1) rfl) (nomark _)) (pe_one (pe_cmpR (op_eqU hr) (pe_fld (pv 0) rfl) (pe_fld (pv 1) rfl) (nomark _))))))), ?_⟩
  obtain ⟨p, z, c, q, w, d, rfl, h1, h2, hq⟩ := h
  walk_at "xs"
  refine x_andV (b := (decide (z = w) && (c == d))) (ev_is (b := (true && (decide (z = w) && decide (c = d)))) ?_ ?_) hq
  · walk_at "ev"
  · rw [Bool.true_and]
    cases c <;> cases d <;> simp

theorem ok__check_part {P : Program} {w : World} {K : PySem.W.Frag} {mg : Str → Option Value} {base : Heap} {a : Ad} {f : Addr} {fd : FuncData} (F : FnP K "_check_part" "_check_part" s__check_part f fd) (T : Txt K mg a) (G__check_signs : FnG P w K mg base 2 "_check_signs" (sp__check_signs a)) :
    FnOk P w K mg base (L2.CX P w) 3 f fd ["part", "signs", "least", "most"] (sp__check_part a) := by
  refine F.ok sc__check_part (fun vs H Q E h => by obtain ⟨y, z, i, j, rfl, hz, hb, h1, h2, q⟩ := h; rfl) (fun cdv A outer s H vs Q E hr h => ?_)
  refine ⟨_, (pss_cons (ps_expr (pe_callG G__check_signs (hr.mono (by decide)) passN rfl (pa_cons (pv 1) pa_nil)))
    (pss_one (ps_if (pt_not (pt_chain op_leU op_leU (pv 2) (pe_callB call_lenU (by rfl) T.f_len (by decide +kernel) (pa_cons (pv 1) pa_nil)) (pv 3))) (pss_one ps_never) pss_nil))), ?_⟩
  obtain ⟨y, z, i, j, rfl, hz, hb, h1, h2, q⟩ := h
  have hz2 : z.length ≤ 1000 := hz
  walk_at "xs"
  refine ⟨z, rfl, hz, hb, fun H1 e1 => ?_⟩
  walk_at "xs"
  refine x_no ?_ (fun H2 e2 => ?_)
  · refine et_is (b := !(decide ((i : Int) ≤ ((z.length : Nat) : Int)) && decide (((z.length : Nat) : Int) ≤ (j : Int)))) ?_ ?_
    · walk_at "et"
    · rw [decide_eq_true (by omega : (i : Int) ≤ ((z.length : Nat) : Int)), decide_eq_true (by omega : ((z.length : Nat) : Int) ≤ (j : Int))]; rfl
  · walk_at "xs"
    exact q _ (e1.trans e2)

theorem ok_Rule_pattern {P : Program} {w : World} {K : PySem.W.Frag} {mg : Str → Option Value} {base : Heap} {a : Ad} {f : Addr} {fd : FuncData} (F : FnP K "pattern" "Rule.pattern" s_Rule_pattern f fd) (T : Txt K mg a)  :
    FnOk P w K mg base (L2.CX P w) 1 f fd ["self"] (sp_Rule_pattern a) := by
  refine F.ok sc_Rule_pattern (fun vs H Q E h => by obtain ⟨p, x, rfl, fx, h, q⟩ := h; rfl) (fun cdv A outer s H vs Q E hr h => ?_)
  refine ⟨_, (pss_one (ps_ret (pe_joinedU (.cons (pe_fmt (pe_fld (pv 0) rfl)) (.cons (pe_fmt (pe_fld (pv 0) rfl)) (.cons (pe_fmt (pe_fld (pv 0) rfl)) .nil)))))), ?_⟩
  obtain ⟨p, x, rfl, fx, h, q⟩ := h
  have h1 := fx.l.2
  have h2 := fx.o.2.2
  have h3 := fx.r.2
  walk_at "xs"
  rw [eapp]
  exact q _ (Le.refl _)

theorem ok_Rule___eq__ {P : Program} {w : World} {K : PySem.W.Frag} {mg : Str → Option Value} {base : Heap} {a : Ad} {f : Addr} {fd : FuncData} (F : FnP K "__eq__" "Rule.__eq__" s_Rule___eq__ f fd) (T : Txt K mg a)  :
    FnOk P w K mg base (L2.CX P w) 1 f fd ["self", "other"] (sp_Rule___eq__ a) := by
  refine F.ok sc_Rule___eq__ (fun vs H Q E h => by obtain ⟨p, q, x, y, rfl, h1, h2, hq⟩ := h; rfl) (fun cdv A outer s H vs Q E hr h => ?_)
  refine ⟨_, (pss_one (ps_ret (pe_and (pe_callB call_isi (by rfl) T.f_isinstance (by decide +kernel) (pa_cons (pv 1) (pa_cons (pe_glob (v := .ref a.cRule) rfl T.g_Rule rfl) pa_nil))) (pe_and (pe_cmpR (op_eqU hr) (pe_fld (pv 0) rfl) (pe_fld (pv 1) rfl) (nomark _)) (pe_and (pe_cmpR (op_eqU hr) (pe_fld (pv 0) rfl) (pe_fld (pv 1) rfl) (nomark _)) (pe_and (pe_cmpR (op_eqU hr) (pe_fld (pv 0) rfl) (pe_fld (pv 1) rfl) (nomark _)) (pe_one (pe_cmpR (op_eqU hr) (pe_fld (pv 0) rfl) (pe_fld (pv 1) rfl) (nomark _))))))))), ?_⟩
  obtain ⟨p, q, x, y, rfl, h1, h2, hq⟩ := h
  walk_at "xs"
  refine x_andV (b := decide (x = y)) (ev_is (b := (true && (decide (x.o = y.o) && (decide (x.n = y.n) && (decide (x.l = y.l) && decide (x.r = y.r)))))) ?_ ?_) hq
  · walk_at "ev"
  · obtain ⟨a1, a2, a3, a4⟩ := x
    obtain ⟨b1, b2, b3, b4⟩ := y
    rw [Bool.true_and]
    by_cases q1 : a1 = b1 <;> by_cases q2 : a2 = b2 <;> by_cases q3 : a3 = b3 <;> by_cases q4 : a4 = b4 <;> simp [q1, q2, q3, q4]

theorem ok_Rule___str__ {P : Program} {w : World} {K : PySem.W.Frag} {mg : Str → Option Value} {base : Heap} {a : Ad} {f : Addr} {fd : FuncData} (F : FnP K "__str__" "Rule.__str__" s_Rule___str__ f fd) (T : Txt K mg a)  :
    FnOk P w K mg base (L2.CX P w) 1 f fd ["self"] (sp_Rule___str__ a) := by
  refine F.ok sc_Rule___str__ (fun vs H Q E h => by obtain ⟨p, x, rfl, fx, h, q⟩ := h; rfl) (fun cdv A outer s H vs Q E hr h => ?_)
  refine ⟨_, (pss_one (ps_ret (pe_joinedU (.cons (pe_fmt (pe_fld (pv 0) rfl)) (.cons pe_str (.cons (pe_fmt (pe_fld (pv 0) rfl)) (.cons pe_str (.cons (pe_fmt (pe_fld (pv 0) rfl)) (.cons pe_str (.cons (pe_fmt (pe_fld (pv 0) rfl)) .nil)))))))))), ?_⟩
  obtain ⟨p, x, rfl, fx, h, q⟩ := h
  have h1 := fx.l.2
  have h2 := fx.o.2.2
  have h3 := fx.r.2
  have h4 := fx.n.2.2
  walk_at "xs"
  rw [eapp]
  exact q _ (Le.refl _)

theorem ok_Rule_fits {P : Program} {w : World} {K : PySem.W.Frag} {mg : Str → Option Value} {base : Heap} {a : Ad} {f : Addr} {fd : FuncData} (F : FnP K "fits" "Rule.fits" s_Rule_fits f fd) (T : Txt K mg a) (P_Rule_pattern : PrG P w K mg base 1 a.cRule "pattern" (sp_Rule_pattern a)) (O_Text___len__ : OpG P w K mg base 1 a.cText "__len__" (sp_Text___len__ a)) :
    FnOk P w K mg base (L2.CX P w) 3 f fd ["self", "text", "at"] (sp_Rule_fits a) := by
  refine F.ok sc_Rule_fits (fun vs H Q E h => by obtain ⟨p, q, x, z, c, i, rfl, fx, gz, h1, h2, hq⟩ := h; rfl) (fun cdv A outer s H vs Q E hr h => ?_)
  refine ⟨_, (pss_cons (ps_set (i := 3) sc_Rule_fits.nd rfl (Or.inl rfl) (pe_callB (call_lenG O_Text___len__ (hr.mono (by decide))) (by rfl) T.f_len (by decide +kernel) (pa_cons (pv 1) pa_nil)))
    (pss_cons (ps_set (i := 4) sc_Rule_fits.nd rfl (Or.inl rfl) (pe_propG P_Rule_pattern (hr.mono (by decide)) (pv 0)))
    (pss_cons (ps_if (PW.pt (pw_or (pt_not (pt_chain op_leU op_ltU pe_int (pv 2) (pv 3))) (pw_or1 (pt_cmpR op_gt (pe_callB call_lenU (by rfl) T.f_len (by decide +kernel) (pa_cons (pv 4) pa_nil)) (pv 3) (nomark _))))) (pss_one (ps_ret pe_bl)) pss_nil)
    (pss_cons (ps_set (i := 5) sc_Rule_fits.nd rfl (Or.inl rfl) (pe_op op_sub (pv 2) (pe_callB call_lenU (by rfl) T.f_len (by decide +kernel) (pa_cons (pe_fld (pv 0) rfl) pa_nil))))
    (pss_cons (ps_if (pt_val (pe_fld (pv 1) rfl)) (pss_cons (ps_set (i := 5) sc_Rule_fits.nd rfl (Or.inl rfl) (pe_op op_modN (pv 5) (pv 3)))
    (pss_one (ps_ret (pe_cmpR (op_eqU hr) (pe_slice sl_U (pe_op op_mulU (pe_fld (pv 1) rfl) pe_int) (po_some (pv 5)) (po_some (pe_op op_addU (pv 5) (pe_callB call_lenU (by rfl) T.f_len (by decide +kernel) (pa_cons (pv 4) pa_nil))))) (pv 4) (nomark _))))) pss_nil)
    (pss_one (ps_ret (pe_and (pe_cmpR op_ge (pv 5) pe_int (nomark _)) (pe_one (pe_cmpR (op_eqU hr) (pe_slice sl_U (pe_fld (pv 1) rfl) (po_some (pv 5)) (po_some (pe_op op_addU (pv 5) (pe_callB call_lenU (by rfl) T.f_len (by decide +kernel) (pa_cons (pv 4) pa_nil))))) (pv 4) (nomark _))))))))))), ?_⟩
  obtain ⟨p, q, x, z, c, i, rfl, fx, gz, h1, h2, hq⟩ := h
  have f1 := fx.l.2
  have f2 := fx.o.2.2
  have f3 := fx.r.2
  have hz2 : z.length ≤ 120 := gz.2.1
  have hpl := pat_len fx
  walk_at "xs"
  obtain ⟨dq, hq2⟩ := id h2
  obtain ⟨dp, hp2⟩ := id h1
  refine x_lenO hq2 ⟨q, z, c, rfl, by omega, h2, fun H1 e1 => ⟨_, rfl, by omega, ?_⟩⟩
  walk_at "xs"
  refine x_kPr (e1.keep hp2) ⟨p, x, rfl, fx, h1.le e1, fun H2 e2 => ?_⟩
  walk_at "xs"
  refine x_if (b := (!(decide ((0 : Int) ≤ i) && decide (i < ((z.length : Nat) : Int)))) || decide (((z.length : Nat) : Int) < (((pat x).length : Nat) : Int))) ?_ (fun hb H3 e3 => ?_) (fun hb H3 e3 => ?_)
  · walk_at "et"
  · walk_at "xs"
    have : fits x z c i = false := by
      unfold fits
      rw [if_pos]
      simp only [Bool.or_eq_true, Bool.not_eq_true', Bool.and_eq_false_iff, decide_eq_false_iff_not, decide_eq_true_eq] at hb
      omega
    rw [← this]
    exact hq _ ((e1.trans e2).trans e3)
  · simp only [Bool.or_eq_false_iff, Bool.not_eq_false', Bool.and_eq_true, decide_eq_false_iff_not, decide_eq_true_eq] at hb
    walk_at "xs"
    have hn : ¬(¬(0 ≤ i ∧ i < (z.length : Int)) ∨ (pat x).length > z.length) := by omega
    refine x_if (b := c) (by walk_at "et") (fun hc H4 e4 => ?_) (fun hc H4 e4 => ?_)
    · walk_at "xs"
      refine ⟨_, _, rfl, rfl, by omega, ?_⟩
      walk_at "xs"
      refine x_mulS (by decide) (by decide) (by omega) ?_
      walk_at "xs"
      have hr2 : (repS z 2).length ≤ 1000 := by rw [rep2, slen_app]; omega
      refine x_slS (by omega) ?_
      walk_at "xs"
      have : fits x z c i = decide (cutS (repS z 2) (some ((i - x.l.length).fmod z.length)) (some ((i - x.l.length).fmod z.length + (pat x).length)) = pat x) := by
        unfold fits
        rw [if_neg hn, if_pos hc]
      rw [this] at hq
      exact hq _ (((e1.trans e2).trans e3).trans e4)
    · walk_at "xs"
      have : fits x z c i = (decide (i - x.l.length ≥ 0) && decide (cutS z (some (i - x.l.length)) (some (i - x.l.length + (pat x).length)) = pat x)) := by
        unfold fits
        rw [if_neg hn, hc]; rfl
      rw [this] at hq
      refine x_andV ?_ (fun H5 e5 => hq _ ((((e1.trans e2).trans e3).trans e4).trans e5))
      walk_at "ev"

theorem ok_Rule___call__ {P : Program} {w : World} {K : PySem.W.Frag} {mg : Str → Option Value} {base : Heap} {a : Ad} {f : Addr} {fd : FuncData} (F : FnP K "__call__" "Rule.__call__" s_Rule___call__ f fd) (T : Txt K mg a) (Ct_Text_1_closed : CtG P w K mg base 3 a.cText 1 ["closed"] (spCt_Text_1_closed a)) (O_Text___len__ : OpG P w K mg base 1 a.cText "__len__" (sp_Text___len__ a)) (M_Rule_fits : MeG P w K mg base 3 a.cRule "fits" (sp_Rule_fits a)) (X_Mismatch : ExG P w K mg base 1 "Mismatch" a.cMismatch "at") :
    FnOk P w K mg base (L2.CX P w) 5 f fd ["self", "text", "at"] (sp_Rule___call__ a) := by
  refine F.ok sc_Rule___call__ (fun vs H Q E h => by obtain ⟨p, q, x, z, c, i, rfl, fx, gz, hi, h1, h2, hm⟩ := h; rfl) (fun cdv A outer s H vs Q E hr h => ?_)
  refine ⟨_, (pss_cons (ps_if (pt_not (pt_val (pe_methG M_Rule_fits (hr.mono (by decide)) passN (pv 0) (pa_cons (pv 1) (pa_cons (pv 2) pa_nil))))) (pss_one (ps_rse rfl (takes_of rfl rfl rfl rfl) (pmk_exG X_Mismatch (hr.mono (by decide)) rfl (pa_cons (pv 2) pa_nil)))) pss_nil)
    (pss_cons (ps_set (i := 3) sc_Rule___call__.nd rfl (Or.inl rfl) (pe_callB (call_lenG O_Text___len__ (hr.mono (by decide))) (by rfl) T.f_len (by decide +kernel) (pa_cons (pv 1) pa_nil)))
    (pss_cons (ps_set (i := 4) sc_Rule___call__.nd rfl (Or.inl rfl) (pe_op op_addU (pv 2) (pe_callB call_lenU (by rfl) T.f_len (by decide +kernel) (pa_cons (pe_fld (pv 0) rfl) pa_nil))))
    (pss_cons (ps_if (pt_cmpR op_gt (pv 4) (pv 3) (nomark _)) (pss_one (ps_ret (pe_mkG Ct_Text_1_closed (hr.mono (by decide)) (passW (takes_of rfl rfl rfl rfl)) (pe_glob (v := .ref a.cText) rfl T.g_Text rfl) (pa_cons (pe_op op_addU (pe_slice sl_U (pe_fld (pv 1) rfl) (po_some (pe_op op_sub (pv 4) (pv 3))) (po_some (pv 2))) (pe_fld (pv 0) rfl)) pa_nil) (pk_cons pe_bl pk_nil)))) pss_nil)
    (pss_one (ps_ret (pe_mkG Ct_Text_1_closed (hr.mono (by decide)) (passW (takes_of rfl rfl rfl rfl)) (pe_glob (v := .ref a.cText) rfl T.g_Text rfl) (pa_cons (pe_op op_addU (pe_op op_addU (pe_slice sl_U (pe_fld (pv 1) rfl) po_none (po_some (pv 2))) (pe_fld (pv 0) rfl)) (pe_slice sl_U (pe_fld (pv 1) rfl) (po_some (pv 4)) po_none)) pa_nil) (pk_cons (pe_fld (pv 1) rfl) pk_nil)))))))), ?_⟩
  obtain ⟨p, q, x, z, c, i, rfl, fx, gz, hi, h1, h2, hm⟩ := h
  have f1 := fx.l.2
  have f2 := fx.o.2.2
  have f3 := fx.r.2
  have f4 := fx.n.2.2
  have hz2 : z.length ≤ 120 := gz.2.1
  obtain ⟨dq, hq2⟩ := id h2
  obtain ⟨dp, hp2⟩ := id h1
  walk_at "xs"
  refine x_if (b := !fits x z c i) (et_not (et_B (ev_run fun H1 e1 Q1 q1 => ?_))) (fun hb H2 e2 => ?_) (fun hb H2 e2 => ?_)
  · walk_at "xs"
    refine x_kMeth (e1.keep hp2) lkF ?_
    walk_at "xs"
    exact ⟨p, q, x, z, c, i, rfl, fx, gz, h1.le e1, h2.le e1, q1⟩
  · walk_at "xs"
    refine x_kEx hi fun d H4 e4 hd => ?_
    exact hm.2 .place i (by unfold aCall; rw [if_pos (by simpa using hb)]) _ _ _ (e2.trans e4) ⟨rfl, d, rfl, hd⟩
  · have hb2 : ¬(fits x z c i = false) := by simpa using hb
    walk_at "xs"
    refine x_lenO (e2.keep hq2) ⟨q, z, c, rfl, by omega, h2.le e2, fun H3 e3 => ⟨_, rfl, by omega, ?_⟩⟩
    walk_at "xs"
    refine x_if (b := decide (((z.length : Nat) : Int) < i + ((x.o.length : Nat) : Int))) (by walk_at "et") (fun hs H4 e4 => ?_) (fun hs H4 e4 => ?_)
    · have hs2 : i + (x.o.length : Int) > (z.length : Int) := by simpa using hs
      have c1 := cut_len z (some (i + x.o.length - z.length)) (some i)
      walk_at "xs"
      refine ⟨_, true, ⟨rfl, rfl⟩, by show (_ : Str).length ≤ 1000; rw [slen_app]; omega, bad_app (bad_cut gz.1) fx.n.1, ?_⟩
      exact (hm.is (by unfold aCall; rw [if_neg hb2, if_pos hs2])).le ((e2.trans e3).trans e4)
    · have hs2 : ¬(i + (x.o.length : Int) > (z.length : Int)) := by simpa using hs
      have c1 := cut_len z none (some i)
      have c2 := cut_len z (some (i + x.o.length)) none
      walk_at "xs"
      refine ⟨_, c, ⟨rfl, rfl⟩, by show (_ : Str).length ≤ 1000; rw [slen_app, slen_app]; omega, bad_app (bad_app (bad_cut gz.1) fx.n.1) (bad_cut gz.1), ?_⟩
      exact (hm.is (by unfold aCall; rw [if_neg hb2, if_neg hs2])).le ((e2.trans e3).trans e4)
end K4
set_option maxHeartbeats 4000000
/-! K4C: k04: what makes a text, what a book looks up -/
namespace K4
open PySem PySem.Spec PyProof.Rows L2 MC
local macro_rules | `(tactic| walk_at "hp") => `(tactic| first | assumption | (apply Le.keep; assumption; walk_at "hp") | (apply TextAt.le; assumption; walk_at "hp") | (apply Lw.keep; assumption; walk_at "hp"; first | rfl | exact sh_str _ | exact sh_ints _ | exact sh_sgns _) | (apply TextAt.lw; assumption; walk_at "hp"))
local macro_rules | `(tactic| walk_at "le") => `(tactic| first | exact Le.refl _ | assumption | (apply Le.trans'; assumption; walk_at "le"))
local macro_rules | `(tactic| walk_at "lw") => `(tactic| first | exact Lw.refl _ | assumption | exact Le.w (by assumption) | (apply Lw.trans'; (first | assumption | exact Le.w (by assumption)); walk_at "lw"))
local macro_rules | `(tactic| walk_at "sz") => `(tactic| first | omega | (simp only [slen_app]; omega) | (simp only [List.length_append, List.length_cons, List.length_nil, List.length_map, List.length_range]; omega) | omega | (simp; omega) | decide)
local macro_rules | `(tactic| walk_at "x") => `(tactic| first
  | with_reducible refine x_seq ?_ | with_reducible refine x_asg ?_ | with_reducible refine x_ret ?_ | with_reducible refine x_drop ?_
  | ((with_reducible apply x_var); exact rfl) | with_reducible refine x_c ?_ | with_reducible refine x_op ?_ | with_reducible refine x_opS ?_ | with_reducible refine x_un ?_ | with_reducible refine x_neg ?_
  | with_reducible refine x_test ?_ | with_reducible refine x_tB ?_ | with_reducible refine x_kB ?_
  | with_reducible refine x_nil ?_ | with_reducible refine x_cons ?_ | with_reducible refine x_tup ?_ | with_reducible refine x_lst ?_
  | ((with_reducible refine x_kTup ?_ ?_); (walk_at "sz"); (intro _ _ _ _ _)) | ((with_reducible refine x_kLst ?_ ?_); (walk_at "sz"); (intro _ _ _ _ _))
  | with_reducible refine x_fld ?_ | ((with_reducible apply x_fS); assumption; (walk_at "hp")) | ((with_reducible apply x_fC); assumption; (walk_at "hp"))
  | with_reducible refine x_cb ?_ | with_reducible refine x_call ?_ | with_reducible refine x_callE ?_ | with_reducible refine x_bm ?_ | with_reducible refine x_cv ?_
  | with_reducible refine x_meth ?_ | with_reducible refine x_cm ?_ | with_reducible refine x_kCM ?_ | with_reducible refine x_mk ?_ | with_reducible refine x_kMk ?_
  | with_reducible refine x_np ?_ | with_reducible refine x_part ?_ | with_reducible refine x_kPart ?_ | with_reducible refine x_sl ?_ | with_reducible refine x_rev ?_
  | with_reducible refine x_addI ?_ | ((with_reducible refine x_addS ?_ ?_); (walk_at "sz")) | with_reducible refine x_I0 ?_
  | with_reducible refine x_eqS ?_ | with_reducible refine x_eqI ?_ | with_reducible refine x_eqB ?_ | with_reducible refine x_neS ?_ | with_reducible refine x_neI ?_ | with_reducible refine x_neB ?_
  | with_reducible refine x_eqFS ?_ | with_reducible refine x_eqFI ?_
  | with_reducible refine x_ltI ?_ | with_reducible refine x_ltS ?_ | with_reducible refine x_leI ?_ | with_reducible refine x_leS ?_ | with_reducible refine x_inT ?_ | with_reducible refine x_notInT ?_
  | ((with_reducible refine x_slS ?_ ?_); (walk_at "sz")) | ((with_reducible refine x_kRev ?_ ?_); (walk_at "sz"))
  | ((with_reducible refine x_lenS ?_ ?_); (walk_at "sz")) | ((with_reducible apply x_lenT); (walk_at "hp"))
  | ((with_reducible apply x_ixT); (walk_at "hp"); exact rfl)
  | with_reducible refine x_abs ?_ | with_reducible refine x_int ?_ | with_reducible refine x_strS ?_
  | ((with_reducible apply x_isB); (first | exact kit_ty (r := true) (by decide +kernel) | exact kit_ty (r := false) (by decide +kernel))) | ((with_reducible apply x_isI); (first | exact kit_ty (r := true) (by decide +kernel) | exact kit_ty (r := false) (by decide +kernel))) | ((with_reducible apply x_isS); (first | exact kit_ty (r := true) (by decide +kernel) | exact kit_ty (r := false) (by decide +kernel)))
  | ((with_reducible apply x_isT); (walk_at "hp"); (first | exact kit_ty (r := true) (by decide +kernel) | exact kit_ty (r := false) (by decide +kernel)))
  | ((with_reducible apply x_isText); assumption; (walk_at "hp")) | ((with_reducible apply x_isTextS); assumption) | ((with_reducible apply x_isTextI); assumption) | ((with_reducible apply x_isTextN); assumption) | ((with_reducible apply x_kCVT); assumption)
  | ((with_reducible apply x_addL); (walk_at "hp"); (walk_at "hp"); (walk_at "sz"); (intro _ _ _ _ _)) | ((with_reducible apply x_tyL); (walk_at "hp")) | with_reducible refine x_tyS ?_
  | with_reducible refine x_joined ?_ | with_reducible refine x_js ?_ | with_reducible refine x_js0 ?_ | ((with_reducible refine x_kJs ?_ ?_); (walk_at "sz")) | with_reducible refine x_fmt ?_ | ((with_reducible refine x_fmtS ?_ ?_); (walk_at "sz")) | ((with_reducible refine x_fmtI ?_ ?_); omega)
  | with_reducible refine x_rse ?_ | with_reducible refine x_ex ?_ | with_reducible refine x_ex0 ?_ | with_reducible refine x_xf ?_
  | with_reducible refine x_for ?_ | with_reducible refine x_r1 ?_ | with_reducible refine x_r2 ?_ | with_reducible refine x_il ?_ | with_reducible refine x_en ?_ | with_reducible refine x_lc ?_ | with_reducible refine x_next ?_ | dsimp only)
local macro_rules | `(tactic| walk_at "xs") => `(tactic| repeat walk_at "x")
local macro_rules | `(tactic| walk_at "ev0") => `(tactic| (refine ev_run ?_; intro _ _ _ q; walk_at "xs"; refine q _ ?_; walk_at "le"))
local macro_rules | `(tactic| walk_at "ch") => `(tactic| (intro _ _ _ q; walk_at "xs"; refine q _ ?_; walk_at "le"))
local macro_rules | `(tactic| walk_at "ev") => `(tactic| first
  | (focus ((with_reducible refine ev_andV ?_ (fun _ => ?_)); (all_goals walk_at "ev"))) | (focus ((with_reducible refine ev_orV ?_ (fun _ => ?_)); (all_goals walk_at "ev")))
  | ((with_reducible refine ev_notV ?_); walk_at "ev")
  | (focus ((with_reducible apply ev_chain); (focus walk_at "ch"); (focus walk_at "ch"); (focus walk_at "ch"); (focus (intro _ _ _ q; walk_at "x"; exact q)); (focus (intro _ _ _ q; walk_at "x"; exact q))))
  | walk_at "ev0" | skip)
local macro_rules | `(tactic| walk_at "et") => `(tactic| first
  | (focus ((with_reducible refine et_and ?_ (fun _ => ?_)); (all_goals walk_at "et"))) | (focus ((with_reducible refine et_or ?_ (fun _ => ?_)); (all_goals walk_at "et")))
  | ((with_reducible refine et_not ?_); walk_at "et") | ((with_reducible refine et_B ?_); walk_at "ev") | ((with_reducible refine et_T ?_); walk_at "ev"))
local macro_rules | `(tactic| walk_at "hp") => `(tactic| first | assumption | (apply RuleAt.le; assumption; walk_at "hp") | (apply RulesAt.le; assumption; walk_at "hp") | (apply BookAt.le; assumption; walk_at "hp") | (apply RuleAt.lw; assumption; walk_at "hp") | (apply BookAt.lw; assumption; walk_at "hp") | (apply R4s.le; assumption; walk_at "hp") | (apply R4s.lw; assumption; walk_at "hp"))
local macro_rules | `(tactic| walk_at "x") => `(tactic| first
  | ((with_reducible apply x_fO); assumption; (walk_at "hp")) | ((with_reducible apply x_fN); assumption; (walk_at "hp")) | ((with_reducible apply x_fL); assumption; (walk_at "hp")) | ((with_reducible apply x_fR); assumption; (walk_at "hp")) | ((with_reducible apply x_fB); assumption; (walk_at "hp"))
  | ((with_reducible apply x_isRule); assumption; (walk_at "hp")) | ((with_reducible apply x_kCVB); assumption)
  | with_reducible refine x_callO ?_ | with_reducible refine x_kCO ?_ | with_reducible refine x_prop ?_ | with_reducible refine x_max ?_ | with_reducible refine x_intB ?_ | with_reducible refine x_findS ?_ | with_reducible refine x_countS ?_ | with_reducible refine x_isN ?_)
local macro_rules | `(tactic| walk_at "sz") => `(tactic| (simp only [slen_app, elen, len1a, len1b, len1c]; omega))
theorem ok_Text___init__ {P : Program} {w : World} {K : PySem.W.Frag} {mg : Str → Option Value} {base : Heap} {a : Ad} {f : Addr} {fd : FuncData} (F : FunD K "__init__" "Text.__init__" (defArgs s_Text___init__) (defBody s_Text___init__) (defScope s_Text___init__) [] [("closed", .bl false)] f fd) (T : Txt K mg a) (X_BadText : ExG P w K mg base 1 "BadText" a.cBadText "size") (G__check_signs : FnG P w K mg base 2 "_check_signs" (sp__check_signs a)) :
    FnOk P w K mg base (L2.CX P w) 3 f fd ["self", "signs", "closed"] (sp_Text___init__ a) := by
  refine F.ok sc_Text___init__ (fun vs H Q E h => by obtain ⟨p, z, c, dx, rfl, hz, hb, hp, hm, hx⟩ := h; rfl) (fun cdv A outer s H vs Q E hr h => ?_)
  refine ⟨_, (pss_cons (ps_expr (pe_callG G__check_signs (hr.mono (by decide)) passN rfl (pa_cons (pv 1) pa_nil)))
    (pss_cons (ps_if (PW.pt (pw_or (pt_cmpR op_gt (pe_callB call_lenU (by rfl) T.f_len (by decide +kernel) (pa_cons (pv 1) pa_nil)) (ClX.pe_cval (pe_glob (v := .ref a.cText) rfl T.g_Text rfl)) (nomark _)) (pw_or1 (PW.pt (pw_and (pt_val (pv 2)) (pw_and1 (pt_cmpR (op_eqU hr) (pv 1) pe_str (nomark _)))))))) (pss_one (ps_rse rfl (takes_of rfl rfl rfl rfl) (pmk_exG X_BadText (hr.mono (by decide)) rfl (pa_cons (pe_callB call_lenU (by rfl) T.f_len (by decide +kernel) (pa_cons (pv 1) pa_nil)) pa_nil)))) pss_nil)
    (pss_cons (ps_fld (pv 0) (pv 1) rfl)
    (pss_one (ps_fld (pv 0) (pv 2) rfl))))), ?_⟩
  obtain ⟨p, z, c, dx, rfl, hz, hb, hp, hm, hx⟩ := h
  walk_at "xs"
  have hz2 : z.length ≤ 1000 := hz
  refine ⟨z, rfl, hz, hb, fun H1 e1 => ?_⟩
  walk_at "xs"
  refine x_if (b := decide ((120 : Int) < z.length) || (c && decide (z = ""))) ?_ (fun hb2 H2 e2 => ?_) (fun hb2 H2 e2 => ?_)
  · walk_at "et"
  · walk_at "xs"
    refine x_kEx (log_small (by omega)) fun d H4 e4 hd => ?_
    refine hx .size z.length ?_ _ _ _ ((e1.trans e2).trans e4) ⟨rfl, d, rfl, hd⟩
    unfold mkT
    refine if_pos ?_
    simp only [Bool.or_eq_true, Bool.and_eq_true, decide_eq_true_eq] at hb2
    rcases hb2 with h | h
    · left; omega
    · right; exact h
  · have hg : mkT z c = .txt z c := by
      unfold mkT
      refine if_neg fun q => ?_
      simp only [Bool.or_eq_false_iff, Bool.and_eq_false_iff, decide_eq_false_iff_not] at hb2
      rcases q with q | ⟨q1, q2⟩
      · omega
      · rcases hb2.2 with h | h
        · rw [q1] at h; cases h
        · exact h q2
    walk_at "xs"
    refine ⟨_, rfl, _, rfl, p, a.cText, dx, [], rfl, (e1.trans e2).keep hp, T.fS.1, T.fS.2, by show 0 < 1000; decide, ?_⟩
    refine ⟨_, rfl, _, rfl, p, a.cText, dx, _, rfl, upd_same, T.fC.1, T.fC.2, by show 1 < 1000; decide, ?_⟩
    rw [upd_upd]
    have := hm hg H2 (e1.trans e2)
    rw [put1, put2]
    exact this

theorem ok_Book__check_number {P : Program} {w : World} {K : PySem.W.Frag} {mg : Str → Option Value} {base : Heap} {a : Ad} {f : Addr} {fd : FuncData} (F : FnP K "_check_number" "Book._check_number" s_Book__check_number f fd) (T : Txt K mg a) (X_NoRule : ExG P w K mg base 1 "NoRule" a.cNoRule "number") :
    FnOk P w K mg base (L2.CX P w) 3 f fd ["self", "number"] (sp_Book__check_number a) := by
  refine F.ok sc_Book__check_number (fun vs H Q E h => by obtain ⟨p, xs, i, rfl, hi, hn, h, hm⟩ := h; rfl) (fun cdv A outer s H vs Q E hr h => ?_)
  refine ⟨_, (pss_one (ps_if (pt_not (pt_chain op_leU op_ltU pe_int (pv 1) (pe_callB call_lenU (by rfl) T.f_len (by decide +kernel) (pa_cons (pe_fld (pv 0) rfl) pa_nil)))) (pss_one (ps_rse rfl (takes_of rfl rfl rfl rfl) (pmk_exG X_NoRule (hr.mono (by decide)) rfl (pa_cons (pv 1) pa_nil)))) pss_nil)), ?_⟩
  obtain ⟨p, xs, i, rfl, hi, hn, h, hm⟩ := h
  obtain ⟨dx, l, vs, h1, h2, h3⟩ := id h
  have hl := h3.len
  walk_at "xs"
  refine x_if (b := !(decide ((0 : Int) ≤ i) && decide (i < ((vs.length : Nat) : Int)))) ?_ (fun hb H2 e2 => ?_) (fun hb H2 e2 => ?_)
  · refine et_not (et_T ?_)
    apply ev_chain
    · walk_at "ch"
    · walk_at "ch"
    · intro H1 e1 Q1 q1
      walk_at "xs"
      refine x_lenL (sql (e1.keep h2)) (q1 _ (Le.refl _))
    · intro _ _ _ q; walk_at "x"; exact q
    · intro _ _ _ q; walk_at "x"; exact q
  · walk_at "xs"
    refine x_kEx hi fun d H4 e4 hd => ?_
    refine hm.2 .none i (if_neg ?_) _ _ _ (e2.trans e4) ⟨rfl, d, rfl, hd⟩
    simp only [Bool.not_eq_true', Bool.and_eq_false_iff, decide_eq_false_iff_not] at hb
    omega
  · walk_at "xs"
    refine hm.1 _ _ e2 ?_
    simp only [Bool.not_eq_false', Bool.and_eq_true, decide_eq_true_eq] at hb
    rw [if_pos (by omega)]
    rfl

theorem ok_Book_take {P : Program} {w : World} {K : PySem.W.Frag} {mg : Str → Option Value} {base : Heap} {a : Ad} {f : Addr} {fd : FuncData} (F : FnP K "take" "Book.take" s_Book_take f fd) (T : Txt K mg a) (I_Rule : CallG P w K mg base 5 a.cRule (sp_Rule___call__ a)) (O_Book___getitem__ : OpG P w K mg base 4 a.cBook "__getitem__" (sp_Book___getitem__ a)) :
    FnOk P w K mg base (L2.CX P w) 6 f fd ["self", "text", "number", "at"] (sp_Book_take a) := by
  refine F.ok sc_Book_take (fun vs H Q E h => by obtain ⟨p, q, xs, z, c, k, i, rfl, fx, hn, gz, hk, hi, h, ht, hm⟩ := h; rfl) (fun cdv A outer s H vs Q E hr h => ?_)
  refine ⟨_, (pss_cons (ps_set (i := 4) sc_Book_take.nd rfl (Or.inl rfl) (pe_subG O_Book___getitem__ (hr.mono (by decide)) (takes_of rfl rfl rfl rfl) (pv 0) (pv 2)))
    (pss_one (ps_ret (pe_callOG I_Rule (hr.mono (by decide)) (passW (takes_of rfl rfl rfl rfl)) (pv 4) (pa_cons (pv 1) (pa_cons (pv 3) pa_nil)))))), ?_⟩
  obtain ⟨p, q, xs, z, c, k, i, rfl, fx, hn, gz, hk, hi, h, ht, hm⟩ := h
  obtain ⟨dx, l, vs, h1, h2, h3⟩ := id h
  walk_at "xs"
  refine x_subO h1 ⟨p, xs, k, rfl, hk, hn, h, fun r x H1 hx e1 hr1 => ?_, fun hb cls d H1 e1 hX => ?_⟩
  · walk_at "xs"
    have hlt : k.toNat < xs.length := (List.getElem?_eq_some_iff.mp hx.2).1
    have hin : 0 ≤ k ∧ k < xs.length := by omega
    have hxe : xs.getD k.toNat ⟨"", "", "", ""⟩ = x := by rw [List.getD_eq_getElem?_getD, hx.2]; rfl
    refine ⟨?_, r, q, x, z, c, i, rfl, fx x (List.mem_of_getElem? hx.2), gz, hi, hr1, ht.le e1, ?_⟩
    · obtain ⟨dr, hr2⟩ := hr1; exact ⟨dr, _, hr2⟩
    · exact (hm.is (by unfold aTake; rw [if_pos hin, hxe])).le e1
  · exact hm.2 .none k (by unfold aTake; rw [if_neg hb]) cls d H1 e1 hX
end K4
set_option maxHeartbeats 4000000
/-! K4D: k04: a book's items -/
namespace K4
open PySem PySem.Spec PyProof.Rows L2 MC
theorem atI_nat {α : Type} {l : List α} {i : Int} {v : α} (h : 0 ≤ i ∧ i < l.length) (e : l[i.toNat]? = some v) : atI l i = some v := by
  unfold atI ixN
  rw [if_pos h.1, if_pos h.2]
  exact e
local macro_rules | `(tactic| walk_at "hp") => `(tactic| first | assumption | (apply Le.keep; assumption; walk_at "hp") | (apply TextAt.le; assumption; walk_at "hp") | (apply Lw.keep; assumption; walk_at "hp"; first | rfl | exact sh_str _ | exact sh_ints _ | exact sh_sgns _) | (apply TextAt.lw; assumption; walk_at "hp"))
local macro_rules | `(tactic| walk_at "le") => `(tactic| first | exact Le.refl _ | assumption | (apply Le.trans'; assumption; walk_at "le"))
local macro_rules | `(tactic| walk_at "lw") => `(tactic| first | exact Lw.refl _ | assumption | exact Le.w (by assumption) | (apply Lw.trans'; (first | assumption | exact Le.w (by assumption)); walk_at "lw"))
local macro_rules | `(tactic| walk_at "sz") => `(tactic| first | omega | (simp only [slen_app]; omega) | (simp only [List.length_append, List.length_cons, List.length_nil, List.length_map, List.length_range]; omega) | omega | (simp; omega) | decide)
local macro_rules | `(tactic| walk_at "x") => `(tactic| first
  | with_reducible refine x_seq ?_ | with_reducible refine x_asg ?_ | with_reducible refine x_ret ?_ | with_reducible refine x_drop ?_
  | ((with_reducible apply x_var); exact rfl) | with_reducible refine x_c ?_ | with_reducible refine x_op ?_ | with_reducible refine x_opS ?_ | with_reducible refine x_un ?_ | with_reducible refine x_neg ?_
  | with_reducible refine x_test ?_ | with_reducible refine x_tB ?_ | with_reducible refine x_kB ?_
  | with_reducible refine x_nil ?_ | with_reducible refine x_cons ?_ | with_reducible refine x_tup ?_ | with_reducible refine x_lst ?_
  | ((with_reducible refine x_kTup ?_ ?_); (walk_at "sz"); (intro _ _ _ _ _)) | ((with_reducible refine x_kLst ?_ ?_); (walk_at "sz"); (intro _ _ _ _ _))
  | with_reducible refine x_fld ?_ | ((with_reducible apply x_fS); assumption; (walk_at "hp")) | ((with_reducible apply x_fC); assumption; (walk_at "hp"))
  | with_reducible refine x_cb ?_ | with_reducible refine x_call ?_ | with_reducible refine x_callE ?_ | with_reducible refine x_bm ?_ | with_reducible refine x_cv ?_
  | with_reducible refine x_meth ?_ | with_reducible refine x_cm ?_ | with_reducible refine x_kCM ?_ | with_reducible refine x_mk ?_ | with_reducible refine x_kMk ?_
  | with_reducible refine x_np ?_ | with_reducible refine x_part ?_ | with_reducible refine x_kPart ?_ | with_reducible refine x_sl ?_ | with_reducible refine x_rev ?_
  | with_reducible refine x_addI ?_ | ((with_reducible refine x_addS ?_ ?_); (walk_at "sz")) | with_reducible refine x_I0 ?_
  | with_reducible refine x_eqS ?_ | with_reducible refine x_eqI ?_ | with_reducible refine x_eqB ?_ | with_reducible refine x_neS ?_ | with_reducible refine x_neI ?_ | with_reducible refine x_neB ?_
  | with_reducible refine x_eqFS ?_ | with_reducible refine x_eqFI ?_
  | with_reducible refine x_ltI ?_ | with_reducible refine x_ltS ?_ | with_reducible refine x_leI ?_ | with_reducible refine x_leS ?_ | with_reducible refine x_inT ?_ | with_reducible refine x_notInT ?_
  | ((with_reducible refine x_slS ?_ ?_); (walk_at "sz")) | ((with_reducible refine x_kRev ?_ ?_); (walk_at "sz"))
  | ((with_reducible refine x_lenS ?_ ?_); (walk_at "sz")) | ((with_reducible apply x_lenT); (walk_at "hp"))
  | ((with_reducible apply x_ixT); (walk_at "hp"); exact rfl)
  | with_reducible refine x_abs ?_ | with_reducible refine x_int ?_ | with_reducible refine x_strS ?_
  | ((with_reducible apply x_isB); (first | exact kit_ty (r := true) (by decide +kernel) | exact kit_ty (r := false) (by decide +kernel))) | ((with_reducible apply x_isI); (first | exact kit_ty (r := true) (by decide +kernel) | exact kit_ty (r := false) (by decide +kernel))) | ((with_reducible apply x_isS); (first | exact kit_ty (r := true) (by decide +kernel) | exact kit_ty (r := false) (by decide +kernel)))
  | ((with_reducible apply x_isT); (walk_at "hp"); (first | exact kit_ty (r := true) (by decide +kernel) | exact kit_ty (r := false) (by decide +kernel)))
  | ((with_reducible apply x_isText); assumption; (walk_at "hp")) | ((with_reducible apply x_isTextS); assumption) | ((with_reducible apply x_isTextI); assumption) | ((with_reducible apply x_isTextN); assumption) | ((with_reducible apply x_kCVT); assumption)
  | ((with_reducible apply x_addL); (walk_at "hp"); (walk_at "hp"); (walk_at "sz"); (intro _ _ _ _ _)) | ((with_reducible apply x_tyL); (walk_at "hp")) | with_reducible refine x_tyS ?_
  | with_reducible refine x_joined ?_ | with_reducible refine x_js ?_ | with_reducible refine x_js0 ?_ | ((with_reducible refine x_kJs ?_ ?_); (walk_at "sz")) | with_reducible refine x_fmt ?_ | ((with_reducible refine x_fmtS ?_ ?_); (walk_at "sz")) | ((with_reducible refine x_fmtI ?_ ?_); omega)
  | with_reducible refine x_rse ?_ | with_reducible refine x_ex ?_ | with_reducible refine x_ex0 ?_ | with_reducible refine x_xf ?_
  | with_reducible refine x_for ?_ | with_reducible refine x_r1 ?_ | with_reducible refine x_r2 ?_ | with_reducible refine x_il ?_ | with_reducible refine x_en ?_ | with_reducible refine x_lc ?_ | with_reducible refine x_next ?_ | dsimp only)
local macro_rules | `(tactic| walk_at "xs") => `(tactic| repeat walk_at "x")
local macro_rules | `(tactic| walk_at "ev0") => `(tactic| (refine ev_run ?_; intro _ _ _ q; walk_at "xs"; refine q _ ?_; walk_at "le"))
local macro_rules | `(tactic| walk_at "ch") => `(tactic| (intro _ _ _ q; walk_at "xs"; refine q _ ?_; walk_at "le"))
local macro_rules | `(tactic| walk_at "ev") => `(tactic| first
  | (focus ((with_reducible refine ev_andV ?_ (fun _ => ?_)); (all_goals walk_at "ev"))) | (focus ((with_reducible refine ev_orV ?_ (fun _ => ?_)); (all_goals walk_at "ev")))
  | ((with_reducible refine ev_notV ?_); walk_at "ev")
  | (focus ((with_reducible apply ev_chain); (focus walk_at "ch"); (focus walk_at "ch"); (focus walk_at "ch"); (focus (intro _ _ _ q; walk_at "x"; exact q)); (focus (intro _ _ _ q; walk_at "x"; exact q))))
  | walk_at "ev0" | skip)
local macro_rules | `(tactic| walk_at "et") => `(tactic| first
  | (focus ((with_reducible refine et_and ?_ (fun _ => ?_)); (all_goals walk_at "et"))) | (focus ((with_reducible refine et_or ?_ (fun _ => ?_)); (all_goals walk_at "et")))
  | ((with_reducible refine et_not ?_); walk_at "et") | ((with_reducible refine et_B ?_); walk_at "ev") | ((with_reducible refine et_T ?_); walk_at "ev"))
local macro_rules | `(tactic| walk_at "hp") => `(tactic| first | assumption | (apply RuleAt.le; assumption; walk_at "hp") | (apply RulesAt.le; assumption; walk_at "hp") | (apply BookAt.le; assumption; walk_at "hp") | (apply RuleAt.lw; assumption; walk_at "hp") | (apply BookAt.lw; assumption; walk_at "hp") | (apply R4s.le; assumption; walk_at "hp") | (apply R4s.lw; assumption; walk_at "hp"))
local macro_rules | `(tactic| walk_at "x") => `(tactic| first
  | ((with_reducible apply x_fO); assumption; (walk_at "hp")) | ((with_reducible apply x_fN); assumption; (walk_at "hp")) | ((with_reducible apply x_fL); assumption; (walk_at "hp")) | ((with_reducible apply x_fR); assumption; (walk_at "hp")) | ((with_reducible apply x_fB); assumption; (walk_at "hp"))
  | ((with_reducible apply x_isRule); assumption; (walk_at "hp")) | ((with_reducible apply x_kCVB); assumption)
  | with_reducible refine x_callO ?_ | with_reducible refine x_kCO ?_ | with_reducible refine x_prop ?_ | with_reducible refine x_max ?_ | with_reducible refine x_intB ?_ | with_reducible refine x_findS ?_ | with_reducible refine x_countS ?_ | with_reducible refine x_isN ?_)
local macro_rules | `(tactic| walk_at "sz") => `(tactic| (simp only [slen_app, elen, len1a, len1b, len1c]; omega))
theorem ok_Book___getitem__ {P : Program} {w : World} {K : PySem.W.Frag} {mg : Str → Option Value} {base : Heap} {a : Ad} {f : Addr} {fd : FuncData} (F : FnP K "__getitem__" "Book.__getitem__" s_Book___getitem__ f fd) (T : Txt K mg a) (M_Book__check_number : MeG P w K mg base 3 a.cBook "_check_number" (sp_Book__check_number a)) :
    FnOk P w K mg base (L2.CX P w) 4 f fd ["self", "number"] (sp_Book___getitem__ a) := by
  refine F.ok sc_Book___getitem__ (fun vs H Q E h => by obtain ⟨p, xs, i, rfl, hi, hn, h, hm, hx⟩ := h; rfl) (fun cdv A outer s H vs Q E hr h => ?_)
  refine ⟨_, (pss_cons (ps_expr (pe_methG M_Book__check_number (hr.mono (by decide)) (passW (takes_of rfl rfl rfl rfl)) (pv 0) (pa_cons (pv 1) pa_nil)))
    (pss_one (ps_ret (pe_ix ix_seq (pe_fld (pv 0) rfl) (pv 1) (fun _ _ => rfl))))), ?_⟩
  obtain ⟨p, xs, i, rfl, hi, hn, h, hm, hx⟩ := h
  obtain ⟨dx, l, vs, h1, h2, h3⟩ := id h
  have hl := h3.len
  have hlk : List.lookup ("_check_number" : Str) [(("_rules" : Str), V.ref l)] = none := by
    have e : (("_check_number" : Str) == "_rules") = false := by decide +kernel
    simp only [List.lookup, e]
  walk_at "xs"
  refine x_kMeth h1 hlk ?_
  walk_at "xs"
  refine ⟨p, xs, i, rfl, hi, hn, h, fun v H1 e1 hv => ?_, fun k j hk cls d H1 e1 hX => ?_⟩
  · by_cases hin : 0 ≤ i ∧ i < xs.length
    · walk_at "xs"
      have hlt : i.toNat < xs.length := by omega
      have hx2 : xs[i.toNat]? = some xs[i.toNat] := List.getElem?_eq_getElem hlt
      obtain ⟨r, hr, hr2⟩ := h3.get hx2
      refine x_ixL (sql (e1.keep h2)) (atI_nat ⟨hin.1, by omega⟩ hr) (hm r _ H1 ⟨hin.1, hx2⟩ e1 (hr2.le e1))
    · rw [if_neg hin] at hv; exact hv.elim
  · by_cases hin : 0 ≤ i ∧ i < xs.length
    · rw [if_pos hin] at hk; cases hk
    · rw [if_neg hin] at hk
      cases hk
      exact hx hin cls d H1 e1 hX
theorem le_made {H H' : Hp} {x dx : Addr} {C : Addr} (hx : H x = none) (hd : H dx = none) (e : Le (upd (upd H dx (.own x)) x (.ins C dx [])) H') : Le H H' := by
  have h1 : Le H (upd H dx (.own x)) := Le.new hd
  by_cases q : x = dx
  · refine Le.trans ?_ e
    rw [q, upd_upd]
    exact Le.new hd
  · exact (h1.trans (Le.new (by rw [upd_ne q]; exact hx))).trans e
theorem le_set {H H1 : Hp} {x dx : Addr} {C : Addr} {o : HO} (hx : H x = none) (hd : H dx = none) (e : Le (upd (upd H dx (.own x)) x (.ins C dx [])) H1) : Le H (upd H1 x o) := le_own (le_made hx hd e) hx
section
variable {P : Program} {w : World} {K : PySem.W.Frag} {mg : Str → Option Value} {base : Heap} {a : Ad} {f : Addr} {fd : FuncData}
abbrev FI (K : PySem.W.Frag) (f : Addr) (fd : FuncData) : Prop := FunD K "__init__" "Text.__init__" (defArgs s_Text___init__) (defBody s_Text___init__) (defScope s_Text___init__) [] [("closed", .bl false)] f fd
theorem mkT_txt {z : Str} {c : Bool} {z' : Str} {c' : Bool} (h : mkT z c = .txt z' c') : z' = z ∧ c' = c := by
  unfold mkT at h
  split at h
  · cases h
  · cases h; exact ⟨rfl, rfl⟩
/-- __init__'s promise from the class's -/
theorem init_of {z : Str} {c : Bool} {H : Hp} {Q : VK} {E : XK} (hz : Sm z) (hb : bad z = none) (hm : Meets a (mkT z c) H Q E) {x dx : Addr} (hx : H x = none) (hd : H dx = none) (hne : dx ≠ x) :
    sp_Text___init__ a [.ref x, .str z, .bl c] (upd (upd H dx (.own x)) x (.ins a.cText dx [])) (fun v H2 => v = .non ∧ Q (.ref x) H2) E :=
  ⟨x, z, c, dx, rfl, hz, hb, upd_same, fun hg H1 e => ⟨rfl, hm.1 _ _ (le_set hx hd e) (by rw [hg]; exact ⟨x, rfl, dx, upd_same⟩)⟩, fun k i hk cls d H1 e hX => hm.2 k i hk cls d H1 (le_made hx hd e) hX⟩
theorem ct_Text_1_closed (F : FI K f fd) (G : FnOk P w K mg base (L2.CX P w) 3 f fd ["self", "signs", "closed"] (sp_Text___init__ a)) (M : Mk K a.cText f) : CtG P w K mg base 3 a.cText 1 ["closed"] (spCt_Text_1_closed a) := by
  obtain ⟨mv, kb⟩ := F.kbinds0 (ps := ["self", "signs", "closed"]) 2 ["closed"] [] (fun us mv ws => us ++ mv ++ ws) (by simp) (fun q h => by cases h) (fun r1 r2 r3 => (r1.append r2).append r3)
    (fun D doc pm an cdv ct us mv ws hu hmv hw => match us, mv, ws, hu, hmv, hw with | [_, _], [], [_], _, _, _ => rfl)
  refine ⟨⟨f, fd, _, _, _, _, M, G, kb, ?_⟩⟩
  rintro vs zs H Q E ⟨z, c, ⟨rfl, rfl⟩, hz, hb, hm⟩
  exact ⟨rfl, rfl, fun x dx hx hd hne => init_of hz hb hm hx hd hne⟩
end
end K4
set_option maxHeartbeats 4000000
/-! K4E: k04: what makes a rule -/
namespace K4
open PySem PySem.Spec PyProof.Rows L2 MC
local macro_rules | `(tactic| walk_at "hp") => `(tactic| first | assumption | (apply Le.keep; assumption; walk_at "hp") | (apply TextAt.le; assumption; walk_at "hp") | (apply Lw.keep; assumption; walk_at "hp"; first | rfl | exact sh_str _ | exact sh_ints _ | exact sh_sgns _) | (apply TextAt.lw; assumption; walk_at "hp"))
local macro_rules | `(tactic| walk_at "le") => `(tactic| first | exact Le.refl _ | assumption | (apply Le.trans'; assumption; walk_at "le"))
local macro_rules | `(tactic| walk_at "lw") => `(tactic| first | exact Lw.refl _ | assumption | exact Le.w (by assumption) | (apply Lw.trans'; (first | assumption | exact Le.w (by assumption)); walk_at "lw"))
local macro_rules | `(tactic| walk_at "sz") => `(tactic| first | omega | (simp only [slen_app]; omega) | (simp only [List.length_append, List.length_cons, List.length_nil, List.length_map, List.length_range]; omega) | omega | (simp; omega) | decide)
local macro_rules | `(tactic| walk_at "x") => `(tactic| first
  | with_reducible refine x_seq ?_ | with_reducible refine x_asg ?_ | with_reducible refine x_ret ?_ | with_reducible refine x_drop ?_
  | ((with_reducible apply x_var); exact rfl) | with_reducible refine x_c ?_ | with_reducible refine x_op ?_ | with_reducible refine x_opS ?_ | with_reducible refine x_un ?_ | with_reducible refine x_neg ?_
  | with_reducible refine x_test ?_ | with_reducible refine x_tB ?_ | with_reducible refine x_kB ?_
  | with_reducible refine x_nil ?_ | with_reducible refine x_cons ?_ | with_reducible refine x_tup ?_ | with_reducible refine x_lst ?_
  | ((with_reducible refine x_kTup ?_ ?_); (walk_at "sz"); (intro _ _ _ _ _)) | ((with_reducible refine x_kLst ?_ ?_); (walk_at "sz"); (intro _ _ _ _ _))
  | with_reducible refine x_fld ?_ | ((with_reducible apply x_fS); assumption; (walk_at "hp")) | ((with_reducible apply x_fC); assumption; (walk_at "hp"))
  | with_reducible refine x_cb ?_ | with_reducible refine x_call ?_ | with_reducible refine x_callE ?_ | with_reducible refine x_bm ?_ | with_reducible refine x_cv ?_
  | with_reducible refine x_meth ?_ | with_reducible refine x_cm ?_ | with_reducible refine x_kCM ?_ | with_reducible refine x_mk ?_ | with_reducible refine x_kMk ?_
  | with_reducible refine x_np ?_ | with_reducible refine x_part ?_ | with_reducible refine x_kPart ?_ | with_reducible refine x_sl ?_ | with_reducible refine x_rev ?_
  | with_reducible refine x_addI ?_ | ((with_reducible refine x_addS ?_ ?_); (walk_at "sz")) | with_reducible refine x_I0 ?_
  | with_reducible refine x_eqS ?_ | with_reducible refine x_eqI ?_ | with_reducible refine x_eqB ?_ | with_reducible refine x_neS ?_ | with_reducible refine x_neI ?_ | with_reducible refine x_neB ?_
  | with_reducible refine x_eqFS ?_ | with_reducible refine x_eqFI ?_
  | with_reducible refine x_ltI ?_ | with_reducible refine x_ltS ?_ | with_reducible refine x_leI ?_ | with_reducible refine x_leS ?_ | with_reducible refine x_inT ?_ | with_reducible refine x_notInT ?_
  | ((with_reducible refine x_slS ?_ ?_); (walk_at "sz")) | ((with_reducible refine x_kRev ?_ ?_); (walk_at "sz"))
  | ((with_reducible refine x_lenS ?_ ?_); (walk_at "sz")) | ((with_reducible apply x_lenT); (walk_at "hp"))
  | ((with_reducible apply x_ixT); (walk_at "hp"); exact rfl)
  | with_reducible refine x_abs ?_ | with_reducible refine x_int ?_ | with_reducible refine x_strS ?_
  | ((with_reducible apply x_isB); (first | exact kit_ty (r := true) (by decide +kernel) | exact kit_ty (r := false) (by decide +kernel))) | ((with_reducible apply x_isI); (first | exact kit_ty (r := true) (by decide +kernel) | exact kit_ty (r := false) (by decide +kernel))) | ((with_reducible apply x_isS); (first | exact kit_ty (r := true) (by decide +kernel) | exact kit_ty (r := false) (by decide +kernel)))
  | ((with_reducible apply x_isT); (walk_at "hp"); (first | exact kit_ty (r := true) (by decide +kernel) | exact kit_ty (r := false) (by decide +kernel)))
  | ((with_reducible apply x_isText); assumption; (walk_at "hp")) | ((with_reducible apply x_isTextS); assumption) | ((with_reducible apply x_isTextI); assumption) | ((with_reducible apply x_isTextN); assumption) | ((with_reducible apply x_kCVT); assumption)
  | ((with_reducible apply x_addL); (walk_at "hp"); (walk_at "hp"); (walk_at "sz"); (intro _ _ _ _ _)) | ((with_reducible apply x_tyL); (walk_at "hp")) | with_reducible refine x_tyS ?_
  | with_reducible refine x_joined ?_ | with_reducible refine x_js ?_ | with_reducible refine x_js0 ?_ | ((with_reducible refine x_kJs ?_ ?_); (walk_at "sz")) | with_reducible refine x_fmt ?_ | ((with_reducible refine x_fmtS ?_ ?_); (walk_at "sz")) | ((with_reducible refine x_fmtI ?_ ?_); omega)
  | with_reducible refine x_rse ?_ | with_reducible refine x_ex ?_ | with_reducible refine x_ex0 ?_ | with_reducible refine x_xf ?_
  | with_reducible refine x_for ?_ | with_reducible refine x_r1 ?_ | with_reducible refine x_r2 ?_ | with_reducible refine x_il ?_ | with_reducible refine x_en ?_ | with_reducible refine x_lc ?_ | with_reducible refine x_next ?_ | dsimp only)
local macro_rules | `(tactic| walk_at "xs") => `(tactic| repeat walk_at "x")
local macro_rules | `(tactic| walk_at "ev0") => `(tactic| (refine ev_run ?_; intro _ _ _ q; walk_at "xs"; refine q _ ?_; walk_at "le"))
local macro_rules | `(tactic| walk_at "ch") => `(tactic| (intro _ _ _ q; walk_at "xs"; refine q _ ?_; walk_at "le"))
local macro_rules | `(tactic| walk_at "ev") => `(tactic| first
  | (focus ((with_reducible refine ev_andV ?_ (fun _ => ?_)); (all_goals walk_at "ev"))) | (focus ((with_reducible refine ev_orV ?_ (fun _ => ?_)); (all_goals walk_at "ev")))
  | ((with_reducible refine ev_notV ?_); walk_at "ev")
  | (focus ((with_reducible apply ev_chain); (focus walk_at "ch"); (focus walk_at "ch"); (focus walk_at "ch"); (focus (intro _ _ _ q; walk_at "x"; exact q)); (focus (intro _ _ _ q; walk_at "x"; exact q))))
  | walk_at "ev0" | skip)
local macro_rules | `(tactic| walk_at "et") => `(tactic| first
  | (focus ((with_reducible refine et_and ?_ (fun _ => ?_)); (all_goals walk_at "et"))) | (focus ((with_reducible refine et_or ?_ (fun _ => ?_)); (all_goals walk_at "et")))
  | ((with_reducible refine et_not ?_); walk_at "et") | ((with_reducible refine et_B ?_); walk_at "ev") | ((with_reducible refine et_T ?_); walk_at "ev"))
local macro_rules | `(tactic| walk_at "hp") => `(tactic| first | assumption | (apply RuleAt.le; assumption; walk_at "hp") | (apply RulesAt.le; assumption; walk_at "hp") | (apply BookAt.le; assumption; walk_at "hp") | (apply RuleAt.lw; assumption; walk_at "hp") | (apply BookAt.lw; assumption; walk_at "hp") | (apply R4s.le; assumption; walk_at "hp") | (apply R4s.lw; assumption; walk_at "hp"))
local macro_rules | `(tactic| walk_at "x") => `(tactic| first
  | ((with_reducible apply x_fO); assumption; (walk_at "hp")) | ((with_reducible apply x_fN); assumption; (walk_at "hp")) | ((with_reducible apply x_fL); assumption; (walk_at "hp")) | ((with_reducible apply x_fR); assumption; (walk_at "hp")) | ((with_reducible apply x_fB); assumption; (walk_at "hp"))
  | ((with_reducible apply x_isRule); assumption; (walk_at "hp")) | ((with_reducible apply x_kCVB); assumption)
  | with_reducible refine x_callO ?_ | with_reducible refine x_kCO ?_ | with_reducible refine x_prop ?_ | with_reducible refine x_max ?_ | with_reducible refine x_intB ?_ | with_reducible refine x_findS ?_ | with_reducible refine x_countS ?_ | with_reducible refine x_isN ?_)
local macro_rules | `(tactic| walk_at "sz") => `(tactic| (simp only [slen_app, elen, len1a, len1b, len1c]; omega))
theorem put4 {v w x y : V} : putF ("right" : Str) y (putF ("left" : Str) x (putF ("new" : Str) w (putF ("old" : Str) v []))) = ([(("old" : Str), v), (("new" : Str), w), (("left" : Str), x), (("right" : Str), y)] : List (Str × V)) := by
  have h1 : ¬ (("old" : Str) = ("new" : Str)) := by decide +kernel
  have h2 : ¬ (("old" : Str) = ("left" : Str)) := by decide +kernel
  have h3 : ¬ (("old" : Str) = ("right" : Str)) := by decide +kernel
  have h4 : ¬ (("new" : Str) = ("left" : Str)) := by decide +kernel
  have h5 : ¬ (("new" : Str) = ("right" : Str)) := by decide +kernel
  have h6 : ¬ (("left" : Str) = ("right" : Str)) := by decide +kernel
  simp only [putF, if_neg h1, if_neg h2, if_neg h3, if_neg h4, if_neg h5, if_neg h6]
theorem ok_Rule___init__ {P : Program} {w : World} {K : PySem.W.Frag} {mg : Str → Option Value} {base : Heap} {a : Ad} {f : Addr} {fd : FuncData} (F : FunD K "__init__" "Rule.__init__" (defArgs s_Rule___init__) (defBody s_Rule___init__) (defScope s_Rule___init__) [.str "", .str ""] [] f fd) (T : Txt K mg a) (G__check_part : FnG P w K mg base 3 "_check_part" (sp__check_part a)) :
    FnOk P w K mg base (L2.CX P w) 4 f fd ["self", "old", "new", "left", "right"] (sp_Rule___init__ a) := by
  refine F.ok sc_Rule___init__ (fun vs H Q E h => by obtain ⟨p, x, dx, rfl, fx, hp, q⟩ := h; rfl) (fun cdv A outer s H vs Q E hr h => ?_)
  refine ⟨_, (pss_cons (ps_expr (pe_callG G__check_part (hr.mono (by decide)) passN rfl (pa_cons pe_str (pa_cons (pv 1) (pa_cons pe_int (pa_cons pe_int pa_nil))))))
    (pss_cons (ps_expr (pe_callG G__check_part (hr.mono (by decide)) passN rfl (pa_cons pe_str (pa_cons (pv 2) (pa_cons pe_int (pa_cons pe_int pa_nil))))))
    (pss_cons (ps_expr (pe_callG G__check_part (hr.mono (by decide)) passN rfl (pa_cons pe_str (pa_cons (pv 3) (pa_cons pe_int (pa_cons pe_int pa_nil))))))
    (pss_cons (ps_expr (pe_callG G__check_part (hr.mono (by decide)) passN rfl (pa_cons pe_str (pa_cons (pv 4) (pa_cons pe_int (pa_cons pe_int pa_nil))))))
    (pss_cons (ps_fld (pv 0) (pv 1) rfl)
    (pss_cons (ps_fld (pv 0) (pv 2) rfl)
    (pss_cons (ps_fld (pv 0) (pv 3) rfl)
    (pss_one (ps_fld (pv 0) (pv 4) rfl))))))))), ?_⟩
  obtain ⟨p, x, dx, rfl, fx, hp, q⟩ := h
  have f1 := fx.l.2
  have f2 := fx.o.2
  have f3 := fx.r.2
  have f4 := fx.n.2
  walk_at "xs"
  refine ⟨_, x.o, 1, 3, rfl, by show _ ≤ 1000; omega, fx.o.1, by omega, by omega, fun H1 e1 => ?_⟩
  walk_at "xs"
  refine ⟨_, x.n, 1, 3, rfl, by show _ ≤ 1000; omega, fx.n.1, by omega, by omega, fun H2 e2 => ?_⟩
  walk_at "xs"
  refine ⟨_, x.l, 0, 2, rfl, by show _ ≤ 1000; omega, fx.l.1, by omega, by omega, fun H3 e3 => ?_⟩
  walk_at "xs"
  refine ⟨_, x.r, 0, 2, rfl, by show _ ≤ 1000; omega, fx.r.1, by omega, by omega, fun H4 e4 => ?_⟩
  walk_at "xs"
  have e := ((e1.trans e2).trans e3).trans e4
  refine ⟨_, rfl, _, rfl, p, a.cRule, dx, [], rfl, e.keep hp, T.fO.1, T.fO.2, by show 0 < 1000; decide, ?_⟩
  refine ⟨_, rfl, _, rfl, p, a.cRule, dx, _, rfl, upd_same, T.fN.1, T.fN.2, by show 1 < 1000; decide, ?_⟩
  refine ⟨_, rfl, _, rfl, p, a.cRule, dx, _, rfl, upd_same, T.fL.1, T.fL.2, by show 2 < 1000; decide, ?_⟩
  refine ⟨_, rfl, _, rfl, p, a.cRule, dx, _, rfl, upd_same, T.fR.1, T.fR.2, by show 3 < 1000; decide, ?_⟩
  rw [upd_upd, upd_upd, upd_upd, put4]
  exact q H4 e
section
variable {P : Program} {w : World} {K : PySem.W.Frag} {mg : Str → Option Value} {base : Heap} {a : Ad} {f : Addr} {fd : FuncData}
theorem ct_Rule_4 (F : FunD K "__init__" "Rule.__init__" (defArgs s_Rule___init__) (defBody s_Rule___init__) (defScope s_Rule___init__) [.str "", .str ""] [] f fd) (G : FnOk P w K mg base (L2.CX P w) 4 f fd ["self", "old", "new", "left", "right"] (sp_Rule___init__ a)) (M : Mk K a.cRule f) : CtG P w K mg base 4 a.cRule 4 [] (spCt_Rule_4 a) := by
  obtain ⟨its, kb⟩ := F.kbindsD (ps := ["self", "old", "new", "left", "right"]) 5 [] (fun us _ _ => us) (by simp) (fun r1 _ _ => r1)
    (fun Ta kV doc pm an cdv ct us its ws hu hi hw => match us, its, ws, hu, hi, hw with | [_, _, _, _, _], [_, _], [], _, _, _ => ⟨_, rfl, rfl⟩)
  refine ⟨⟨f, fd, _, _, _, _, M, G, kb, ?_⟩⟩
  rintro vs zs H Q E ⟨x, ⟨rfl, rfl⟩, fx, hq⟩
  exact ⟨rfl, rfl, fun y dx hx hd hne => ⟨y, x, dx, rfl, fx, upd_same, fun H1 e => ⟨rfl, hq _ _ (le_set hx hd e) ⟨dx, upd_same⟩⟩⟩⟩
end
end K4
set_option maxHeartbeats 4000000
/-! K4F: k04: a rule from its line -/
namespace K4
open PySem PySem.Spec PyProof.Rows L2 MC
local macro_rules | `(tactic| walk_at "hp") => `(tactic| first | assumption | (apply Le.keep; assumption; walk_at "hp") | (apply TextAt.le; assumption; walk_at "hp") | (apply Lw.keep; assumption; walk_at "hp"; first | rfl | exact sh_str _ | exact sh_ints _ | exact sh_sgns _) | (apply TextAt.lw; assumption; walk_at "hp"))
local macro_rules | `(tactic| walk_at "le") => `(tactic| first | exact Le.refl _ | assumption | (apply Le.trans'; assumption; walk_at "le"))
local macro_rules | `(tactic| walk_at "lw") => `(tactic| first | exact Lw.refl _ | assumption | exact Le.w (by assumption) | (apply Lw.trans'; (first | assumption | exact Le.w (by assumption)); walk_at "lw"))
local macro_rules | `(tactic| walk_at "sz") => `(tactic| first | omega | (simp only [slen_app]; omega) | (simp only [List.length_append, List.length_cons, List.length_nil, List.length_map, List.length_range]; omega) | omega | (simp; omega) | decide)
local macro_rules | `(tactic| walk_at "x") => `(tactic| first
  | with_reducible refine x_seq ?_ | with_reducible refine x_asg ?_ | with_reducible refine x_ret ?_ | with_reducible refine x_drop ?_
  | ((with_reducible apply x_var); exact rfl) | with_reducible refine x_c ?_ | with_reducible refine x_op ?_ | with_reducible refine x_opS ?_ | with_reducible refine x_un ?_ | with_reducible refine x_neg ?_
  | with_reducible refine x_test ?_ | with_reducible refine x_tB ?_ | with_reducible refine x_kB ?_
  | with_reducible refine x_nil ?_ | with_reducible refine x_cons ?_ | with_reducible refine x_tup ?_ | with_reducible refine x_lst ?_
  | ((with_reducible refine x_kTup ?_ ?_); (walk_at "sz"); (intro _ _ _ _ _)) | ((with_reducible refine x_kLst ?_ ?_); (walk_at "sz"); (intro _ _ _ _ _))
  | with_reducible refine x_fld ?_ | ((with_reducible apply x_fS); assumption; (walk_at "hp")) | ((with_reducible apply x_fC); assumption; (walk_at "hp"))
  | with_reducible refine x_cb ?_ | with_reducible refine x_call ?_ | with_reducible refine x_callE ?_ | with_reducible refine x_bm ?_ | with_reducible refine x_cv ?_
  | with_reducible refine x_meth ?_ | with_reducible refine x_cm ?_ | with_reducible refine x_kCM ?_ | with_reducible refine x_mk ?_ | with_reducible refine x_kMk ?_
  | with_reducible refine x_np ?_ | with_reducible refine x_part ?_ | with_reducible refine x_kPart ?_ | with_reducible refine x_sl ?_ | with_reducible refine x_rev ?_
  | with_reducible refine x_addI ?_ | ((with_reducible refine x_addS ?_ ?_); (walk_at "sz")) | with_reducible refine x_I0 ?_
  | with_reducible refine x_eqS ?_ | with_reducible refine x_eqI ?_ | with_reducible refine x_eqB ?_ | with_reducible refine x_neS ?_ | with_reducible refine x_neI ?_ | with_reducible refine x_neB ?_
  | with_reducible refine x_eqFS ?_ | with_reducible refine x_eqFI ?_
  | with_reducible refine x_ltI ?_ | with_reducible refine x_ltS ?_ | with_reducible refine x_leI ?_ | with_reducible refine x_leS ?_ | with_reducible refine x_inT ?_ | with_reducible refine x_notInT ?_
  | ((with_reducible refine x_slS ?_ ?_); (walk_at "sz")) | ((with_reducible refine x_kRev ?_ ?_); (walk_at "sz"))
  | ((with_reducible refine x_lenS ?_ ?_); (walk_at "sz")) | ((with_reducible apply x_lenT); (walk_at "hp"))
  | ((with_reducible apply x_ixT); (walk_at "hp"); exact rfl)
  | with_reducible refine x_abs ?_ | with_reducible refine x_int ?_ | with_reducible refine x_strS ?_
  | ((with_reducible apply x_isB); (first | exact kit_ty (r := true) (by decide +kernel) | exact kit_ty (r := false) (by decide +kernel))) | ((with_reducible apply x_isI); (first | exact kit_ty (r := true) (by decide +kernel) | exact kit_ty (r := false) (by decide +kernel))) | ((with_reducible apply x_isS); (first | exact kit_ty (r := true) (by decide +kernel) | exact kit_ty (r := false) (by decide +kernel)))
  | ((with_reducible apply x_isT); (walk_at "hp"); (first | exact kit_ty (r := true) (by decide +kernel) | exact kit_ty (r := false) (by decide +kernel)))
  | ((with_reducible apply x_isText); assumption; (walk_at "hp")) | ((with_reducible apply x_isTextS); assumption) | ((with_reducible apply x_isTextI); assumption) | ((with_reducible apply x_isTextN); assumption) | ((with_reducible apply x_kCVT); assumption)
  | ((with_reducible apply x_addL); (walk_at "hp"); (walk_at "hp"); (walk_at "sz"); (intro _ _ _ _ _)) | ((with_reducible apply x_tyL); (walk_at "hp")) | with_reducible refine x_tyS ?_
  | with_reducible refine x_joined ?_ | with_reducible refine x_js ?_ | with_reducible refine x_js0 ?_ | ((with_reducible refine x_kJs ?_ ?_); (walk_at "sz")) | with_reducible refine x_fmt ?_ | ((with_reducible refine x_fmtS ?_ ?_); (walk_at "sz")) | ((with_reducible refine x_fmtI ?_ ?_); omega)
  | with_reducible refine x_rse ?_ | with_reducible refine x_ex ?_ | with_reducible refine x_ex0 ?_ | with_reducible refine x_xf ?_
  | with_reducible refine x_for ?_ | with_reducible refine x_r1 ?_ | with_reducible refine x_r2 ?_ | with_reducible refine x_il ?_ | with_reducible refine x_en ?_ | with_reducible refine x_lc ?_ | with_reducible refine x_next ?_ | dsimp only)
local macro_rules | `(tactic| walk_at "xs") => `(tactic| repeat walk_at "x")
local macro_rules | `(tactic| walk_at "ev0") => `(tactic| (refine ev_run ?_; intro _ _ _ q; walk_at "xs"; refine q _ ?_; walk_at "le"))
local macro_rules | `(tactic| walk_at "ch") => `(tactic| (intro _ _ _ q; walk_at "xs"; refine q _ ?_; walk_at "le"))
local macro_rules | `(tactic| walk_at "ev") => `(tactic| first
  | (focus ((with_reducible refine ev_andV ?_ (fun _ => ?_)); (all_goals walk_at "ev"))) | (focus ((with_reducible refine ev_orV ?_ (fun _ => ?_)); (all_goals walk_at "ev")))
  | ((with_reducible refine ev_notV ?_); walk_at "ev")
  | (focus ((with_reducible apply ev_chain); (focus walk_at "ch"); (focus walk_at "ch"); (focus walk_at "ch"); (focus (intro _ _ _ q; walk_at "x"; exact q)); (focus (intro _ _ _ q; walk_at "x"; exact q))))
  | walk_at "ev0" | skip)
local macro_rules | `(tactic| walk_at "et") => `(tactic| first
  | (focus ((with_reducible refine et_and ?_ (fun _ => ?_)); (all_goals walk_at "et"))) | (focus ((with_reducible refine et_or ?_ (fun _ => ?_)); (all_goals walk_at "et")))
  | ((with_reducible refine et_not ?_); walk_at "et") | ((with_reducible refine et_B ?_); walk_at "ev") | ((with_reducible refine et_T ?_); walk_at "ev"))
local macro_rules | `(tactic| walk_at "hp") => `(tactic| first | assumption | (apply RuleAt.le; assumption; walk_at "hp") | (apply RulesAt.le; assumption; walk_at "hp") | (apply BookAt.le; assumption; walk_at "hp") | (apply RuleAt.lw; assumption; walk_at "hp") | (apply BookAt.lw; assumption; walk_at "hp") | (apply R4s.le; assumption; walk_at "hp") | (apply R4s.lw; assumption; walk_at "hp"))
local macro_rules | `(tactic| walk_at "x") => `(tactic| first
  | ((with_reducible apply x_fO); assumption; (walk_at "hp")) | ((with_reducible apply x_fN); assumption; (walk_at "hp")) | ((with_reducible apply x_fL); assumption; (walk_at "hp")) | ((with_reducible apply x_fR); assumption; (walk_at "hp")) | ((with_reducible apply x_fB); assumption; (walk_at "hp"))
  | ((with_reducible apply x_isRule); assumption; (walk_at "hp")) | ((with_reducible apply x_kCVB); assumption)
  | with_reducible refine x_callO ?_ | with_reducible refine x_kCO ?_ | with_reducible refine x_prop ?_ | with_reducible refine x_max ?_ | with_reducible refine x_intB ?_ | with_reducible refine x_findS ?_ | with_reducible refine x_countS ?_ | with_reducible refine x_isN ?_)
local macro_rules | `(tactic| walk_at "sz") => `(tactic| (simp only [slen_app, elen, len1a, len1b, len1c]; omega))
theorem ok__read_rule {P : Program} {w : World} {K : PySem.W.Frag} {mg : Str → Option Value} {base : Heap} {a : Ad} {f : Addr} {fd : FuncData} (F : FnP K "_read_rule" "_read_rule" s__read_rule f fd) (T : Txt K mg a) (Ct_Rule_4 : CtG P w K mg base 4 a.cRule 4 [] (spCt_Rule_4 a)) (G__split_line : FnG P w K mg base 1 "_split_line" (sp__split_line a)) :
    FnOk P w K mg base (L2.CX P w) 6 f fd ["line", "number"] (sp__read_rule a) := by
  refine F.ok sc__read_rule (fun vs H Q E h => by obtain ⟨x, i, rfl, fx, q⟩ := h; rfl) (fun cdv A outer s H vs Q E hr h => ?_)
  refine ⟨_, (pss_cons (ps_set (i := 2) sc__read_rule.nd rfl (Or.inl rfl) (pe_callG G__split_line (hr.mono (by decide)) passN rfl (pa_cons (pv 0) pa_nil)))
    (pss_cons (ps_if (pt_cmpR op_isNone (pv 2) pe_non (nomark _)) (pss_one ps_never) pss_nil)
    (pss_cons (ps_asg (pv 2) (pg_tup rfl (pgs_cons (pg_name (i := 3) sc__read_rule.nd rfl (Or.inl rfl)) (pgs_cons (pg_name (i := 4) sc__read_rule.nd rfl (Or.inl rfl)) (pgs_cons (pg_name (i := 5) sc__read_rule.nd rfl (Or.inl rfl)) (pgs_cons (pg_name (i := 6) sc__read_rule.nd rfl (Or.inl rfl)) pgs_nil))))))
    (pss_one (ps_try_thru0 (pss_one (ps_ret (pe_mkG Ct_Rule_4 (hr.mono (by decide)) passN (pe_glob (v := .ref a.cRule) rfl T.g_Rule rfl) (pa_cons (pv 3) (pa_cons (pv 4) (pa_cons (pv 5) (pa_cons (pv 6) pa_nil)))) pk_nil)))))))), ?_⟩
  obtain ⟨x, i, rfl, fx, q⟩ := h
  walk_at "xs"
  refine ⟨x, rfl, fx, fun p H1 e1 hp => ?_⟩
  walk_at "xs"
  refine x_no (et_is (b := decide (V.ref p = V.non)) ?_ (by simp)) (fun H2 e2 => ?_)
  · walk_at "et"
  · walk_at "xs"
    refine ⟨_, rfl, p, _, rfl, sqt (e2.keep hp), rfl, ?_⟩
    refine ⟨_, _, rfl, ?_⟩
    refine ⟨_, _, rfl, ?_⟩
    refine ⟨_, _, rfl, ?_⟩
    refine ⟨_, _, rfl, ?_⟩
    refine ⟨rfl, ?_⟩
    walk_at "xs"
    exact ⟨x, ⟨rfl, rfl⟩, fx, fun r H3 e3 hr => q r H3 ((e1.trans e2).trans e3) hr⟩
end K4
set_option maxHeartbeats 4000000
/-! K4G: k04: a book is filled, written, its steps -/
namespace K4
open PySem PySem.Spec PyProof.Rows L2 MC
local macro_rules | `(tactic| walk_at "hp") => `(tactic| first | assumption | (apply Le.keep; assumption; walk_at "hp") | (apply TextAt.le; assumption; walk_at "hp") | (apply Lw.keep; assumption; walk_at "hp"; first | rfl | exact sh_str _ | exact sh_ints _ | exact sh_sgns _) | (apply TextAt.lw; assumption; walk_at "hp"))
local macro_rules | `(tactic| walk_at "le") => `(tactic| first | exact Le.refl _ | assumption | (apply Le.trans'; assumption; walk_at "le"))
local macro_rules | `(tactic| walk_at "lw") => `(tactic| first | exact Lw.refl _ | assumption | exact Le.w (by assumption) | (apply Lw.trans'; (first | assumption | exact Le.w (by assumption)); walk_at "lw"))
local macro_rules | `(tactic| walk_at "sz") => `(tactic| first | omega | (simp only [slen_app]; omega) | (simp only [List.length_append, List.length_cons, List.length_nil, List.length_map, List.length_range]; omega) | omega | (simp; omega) | decide)
local macro_rules | `(tactic| walk_at "x") => `(tactic| first
  | with_reducible refine x_seq ?_ | with_reducible refine x_asg ?_ | with_reducible refine x_ret ?_ | with_reducible refine x_drop ?_
  | ((with_reducible apply x_var); exact rfl) | with_reducible refine x_c ?_ | with_reducible refine x_op ?_ | with_reducible refine x_opS ?_ | with_reducible refine x_un ?_ | with_reducible refine x_neg ?_
  | with_reducible refine x_test ?_ | with_reducible refine x_tB ?_ | with_reducible refine x_kB ?_
  | with_reducible refine x_nil ?_ | with_reducible refine x_cons ?_ | with_reducible refine x_tup ?_ | with_reducible refine x_lst ?_
  | ((with_reducible refine x_kTup ?_ ?_); (walk_at "sz"); (intro _ _ _ _ _)) | ((with_reducible refine x_kLst ?_ ?_); (walk_at "sz"); (intro _ _ _ _ _))
  | with_reducible refine x_fld ?_ | ((with_reducible apply x_fS); assumption; (walk_at "hp")) | ((with_reducible apply x_fC); assumption; (walk_at "hp"))
  | with_reducible refine x_cb ?_ | with_reducible refine x_call ?_ | with_reducible refine x_callE ?_ | with_reducible refine x_bm ?_ | with_reducible refine x_cv ?_
  | with_reducible refine x_meth ?_ | with_reducible refine x_cm ?_ | with_reducible refine x_kCM ?_ | with_reducible refine x_mk ?_ | with_reducible refine x_kMk ?_
  | with_reducible refine x_np ?_ | with_reducible refine x_part ?_ | with_reducible refine x_kPart ?_ | with_reducible refine x_sl ?_ | with_reducible refine x_rev ?_
  | with_reducible refine x_addI ?_ | ((with_reducible refine x_addS ?_ ?_); (walk_at "sz")) | with_reducible refine x_I0 ?_
  | with_reducible refine x_eqS ?_ | with_reducible refine x_eqI ?_ | with_reducible refine x_eqB ?_ | with_reducible refine x_neS ?_ | with_reducible refine x_neI ?_ | with_reducible refine x_neB ?_
  | with_reducible refine x_eqFS ?_ | with_reducible refine x_eqFI ?_
  | with_reducible refine x_ltI ?_ | with_reducible refine x_ltS ?_ | with_reducible refine x_leI ?_ | with_reducible refine x_leS ?_ | with_reducible refine x_inT ?_ | with_reducible refine x_notInT ?_
  | ((with_reducible refine x_slS ?_ ?_); (walk_at "sz")) | ((with_reducible refine x_kRev ?_ ?_); (walk_at "sz"))
  | ((with_reducible refine x_lenS ?_ ?_); (walk_at "sz")) | ((with_reducible apply x_lenT); (walk_at "hp"))
  | ((with_reducible apply x_ixT); (walk_at "hp"); exact rfl)
  | with_reducible refine x_abs ?_ | with_reducible refine x_int ?_ | with_reducible refine x_strS ?_
  | ((with_reducible apply x_isB); (first | exact kit_ty (r := true) (by decide +kernel) | exact kit_ty (r := false) (by decide +kernel))) | ((with_reducible apply x_isI); (first | exact kit_ty (r := true) (by decide +kernel) | exact kit_ty (r := false) (by decide +kernel))) | ((with_reducible apply x_isS); (first | exact kit_ty (r := true) (by decide +kernel) | exact kit_ty (r := false) (by decide +kernel)))
  | ((with_reducible apply x_isT); (walk_at "hp"); (first | exact kit_ty (r := true) (by decide +kernel) | exact kit_ty (r := false) (by decide +kernel)))
  | ((with_reducible apply x_isText); assumption; (walk_at "hp")) | ((with_reducible apply x_isTextS); assumption) | ((with_reducible apply x_isTextI); assumption) | ((with_reducible apply x_isTextN); assumption) | ((with_reducible apply x_kCVT); assumption)
  | ((with_reducible apply x_addL); (walk_at "hp"); (walk_at "hp"); (walk_at "sz"); (intro _ _ _ _ _)) | ((with_reducible apply x_tyL); (walk_at "hp")) | with_reducible refine x_tyS ?_
  | with_reducible refine x_joined ?_ | with_reducible refine x_js ?_ | with_reducible refine x_js0 ?_ | ((with_reducible refine x_kJs ?_ ?_); (walk_at "sz")) | with_reducible refine x_fmt ?_ | ((with_reducible refine x_fmtS ?_ ?_); (walk_at "sz")) | ((with_reducible refine x_fmtI ?_ ?_); omega)
  | with_reducible refine x_rse ?_ | with_reducible refine x_ex ?_ | with_reducible refine x_ex0 ?_ | with_reducible refine x_xf ?_
  | with_reducible refine x_for ?_ | with_reducible refine x_r1 ?_ | with_reducible refine x_r2 ?_ | with_reducible refine x_il ?_ | with_reducible refine x_en ?_ | with_reducible refine x_lc ?_ | with_reducible refine x_next ?_ | dsimp only)
local macro_rules | `(tactic| walk_at "xs") => `(tactic| repeat walk_at "x")
local macro_rules | `(tactic| walk_at "ev0") => `(tactic| (refine ev_run ?_; intro _ _ _ q; walk_at "xs"; refine q _ ?_; walk_at "le"))
local macro_rules | `(tactic| walk_at "ch") => `(tactic| (intro _ _ _ q; walk_at "xs"; refine q _ ?_; walk_at "le"))
local macro_rules | `(tactic| walk_at "ev") => `(tactic| first
  | (focus ((with_reducible refine ev_andV ?_ (fun _ => ?_)); (all_goals walk_at "ev"))) | (focus ((with_reducible refine ev_orV ?_ (fun _ => ?_)); (all_goals walk_at "ev")))
  | ((with_reducible refine ev_notV ?_); walk_at "ev")
  | (focus ((with_reducible apply ev_chain); (focus walk_at "ch"); (focus walk_at "ch"); (focus walk_at "ch"); (focus (intro _ _ _ q; walk_at "x"; exact q)); (focus (intro _ _ _ q; walk_at "x"; exact q))))
  | walk_at "ev0" | skip)
local macro_rules | `(tactic| walk_at "et") => `(tactic| first
  | (focus ((with_reducible refine et_and ?_ (fun _ => ?_)); (all_goals walk_at "et"))) | (focus ((with_reducible refine et_or ?_ (fun _ => ?_)); (all_goals walk_at "et")))
  | ((with_reducible refine et_not ?_); walk_at "et") | ((with_reducible refine et_B ?_); walk_at "ev") | ((with_reducible refine et_T ?_); walk_at "ev"))
local macro_rules | `(tactic| walk_at "hp") => `(tactic| first | assumption | (apply RuleAt.le; assumption; walk_at "hp") | (apply RulesAt.le; assumption; walk_at "hp") | (apply BookAt.le; assumption; walk_at "hp") | (apply RuleAt.lw; assumption; walk_at "hp") | (apply BookAt.lw; assumption; walk_at "hp") | (apply R4s.le; assumption; walk_at "hp") | (apply R4s.lw; assumption; walk_at "hp"))
local macro_rules | `(tactic| walk_at "x") => `(tactic| first
  | ((with_reducible apply x_fO); assumption; (walk_at "hp")) | ((with_reducible apply x_fN); assumption; (walk_at "hp")) | ((with_reducible apply x_fL); assumption; (walk_at "hp")) | ((with_reducible apply x_fR); assumption; (walk_at "hp")) | ((with_reducible apply x_fB); assumption; (walk_at "hp"))
  | ((with_reducible apply x_isRule); assumption; (walk_at "hp")) | ((with_reducible apply x_kCVB); assumption)
  | with_reducible refine x_callO ?_ | with_reducible refine x_kCO ?_ | with_reducible refine x_prop ?_ | with_reducible refine x_max ?_ | with_reducible refine x_intB ?_ | with_reducible refine x_findS ?_ | with_reducible refine x_countS ?_ | with_reducible refine x_isN ?_)
local macro_rules | `(tactic| walk_at "sz") => `(tactic| (simp only [slen_app, elen, len1a, len1b, len1c]; omega))
local macro_rules | `(tactic| walk_at "x") => `(tactic| first
  | with_reducible refine x_sfld ?_ | with_reducible refine x_enL ?_ | with_reducible refine x_enN ?_ | with_reducible refine x_it ?_ | with_reducible refine x_asgT ?_ | ((with_reducible apply x_g2); (walk_at "hp")) | ((with_reducible apply x_g3); (walk_at "hp")) | ((with_reducible apply x_g4); (walk_at "hp"))
  | ((with_reducible apply x_lenL2); (walk_at "hp")) | with_reducible refine x_gseq ?_ | with_reducible refine x_g0 ?_ | with_reducible refine x_gfor ?_ | with_reducible refine x_gps ?_)
local macro_rules | `(tactic| walk_at "x") => `(tactic| first | ((with_reducible refine x_splitS ?_ ?_ ?_); (decide +kernel); (walk_at "sz"); (intro _ _ _ _ _)) | with_reducible refine x_methK ?_ | with_reducible refine x_mkSt ?_ | with_reducible refine x_kMkSt ?_ | ((with_reducible apply x_kStL); (walk_at "hp")))
theorem RulesAt.at {a : Ad} {H : Hp} : ∀ {vs : List V} {xs : List R4} {i : Nat} {v : V}, RulesAt a H vs xs → vs[i]? = some v → ∃ p x, xs[i]? = some x ∧ v = .ref p ∧ RuleAt a H p x
  | [], [], i, _, _, e => by simp at e
  | v :: vs, y :: ys, 0, x, h, e => by
    have : v = x := by simpa using e
    subst this
    obtain ⟨p, rfl, hp⟩ := h.1
    exact ⟨p, y, rfl, rfl, hp⟩
  | v :: vs, y :: ys, i + 1, x, h, e => RulesAt.at (i := i) h.2 (by simpa using e)
  | [], _ :: _, _, _, h, _ => h.elim
  | _ :: _, [], _, _, h, _ => h.elim
theorem RulesAt.lx {a : Ad} {H H' : Hp} {p : Addr} (e : Lx p H H') (hp : ∀ y, ¬ RuleAt a H p y) : ∀ {vs : List V} {xs : List R4}, RulesAt a H vs xs → RulesAt a H' vs xs
  | [], [], _ => trivial
  | _ :: _, _ :: _, h => by
    obtain ⟨⟨r, q, dx, hr⟩, h2⟩ := h
    refine ⟨⟨r, q, dx, e.at_ r _ (fun z => ?_) hr⟩, RulesAt.lx e hp h2⟩
    rw [z] at hr
    exact hp _ ⟨dx, hr⟩
  | [], _ :: _, h => h.elim
  | _ :: _, [], h => h.elim
theorem RulesAt.take {a : Ad} {H : Hp} : ∀ {vs : List V} {xs : List R4} (i : Nat), RulesAt a H vs xs → RulesAt a H (vs.take i) (xs.take i)
  | [], [], i, _ => by simp [RulesAt]
  | v :: vs, x :: xs, 0, h => by simp [RulesAt]
  | v :: vs, x :: xs, i + 1, h => by
    rw [List.take_succ_cons, List.take_succ_cons]
    exact ⟨h.1, RulesAt.take i h.2⟩
  | [], _ :: _, _, h => h.elim
  | _ :: _, [], _, h => h.elim
theorem take_put {α : Type} {l : List α} {i : Nat} {x : α} (h : l[i]? = some x) : l.take (i + 1) = l.take i ++ [x] := by
  rw [List.take_add_one, h]; rfl
theorem ok_Book_add {P : Program} {w : World} {K : PySem.W.Frag} {mg : Str → Option Value} {base : Heap} {a : Ad} {f : Addr} {fd : FuncData} (F : FnP K "add" "Book.add" s_Book_add f fd) (T : Txt K mg a) (O_Rule___eq__ : OpG P w K mg base 1 a.cRule "__eq__" (sp_Rule___eq__ a)) :
    FnOk P w K mg base (L2.CX P w) 2 f fd ["self", "rule"] (sp_Book_add a) := by
  refine F.ok sc_Book_add (fun vs H Q E h => by obtain ⟨p, q, l, us, xs, x, dx, rfl, hp, hl, hr, hq, hx, hn, hk⟩ := h; rfl) (fun cdv A outer s H vs Q E hr h => ?_)
  refine ⟨_, (pss_cons (ps_if (pt_cmpR op_ge (pe_callB call_lenU (by rfl) T.f_len (by decide +kernel) (pa_cons (pe_fld (pv 0) rfl) pa_nil)) (ClX.pe_cval (pe_glob (v := .ref a.cBook) rfl T.g_Book rfl)) (nomark _)) (pss_one ps_never) pss_nil)
    (pss_cons (ps_for (by first | exact po | exact PassesOwn.never | exact passes_of rfl) rfl (pi_enum (by rfl) T.f_enumerate (pa_cons (pe_fld (pv 0) rfl) pa_nil)) (pg_tup rfl (pgs_cons (pg_name (i := 2) sc_Book_add.nd rfl (Or.inl rfl)) (pgs_cons (pg_name (i := 3) sc_Book_add.nd rfl (Or.inl rfl)) pgs_nil))) (pss_one (ps_if (pt_cmpR (op_eqG O_Rule___eq__ (hr.mono (by decide))) (pv 3) (pv 1) (nomark _)) (pss_one ps_never) pss_nil)))
    (pss_one (ps_expr (pe_bm PySem.F.plainAttrs_list PySem.F.slot_list_append PySem.F.type_list_append mt_append (pe_fld (pv 0) rfl) (pa_cons (pv 1) pa_nil)))))), ?_⟩
  obtain ⟨p, q, l, us, xs, x, dx, rfl, hp, hl, hr, hq, hx, hn, hk⟩ := h
  have hlen := hr.len
  walk_at "xs"
  refine x_no (et_is (b := decide ((us.length : Int) ≥ 8)) (by walk_at "et") (decide_eq_false (by omega))) fun H1 e1 => ?_
  walk_at "xs"
  refine x_forEn (sql (e1.keep hl)) (fun i σ' H' => (∃ v1 v2, σ' = [some (V.ref p), some (V.ref q), v1, v2]) ∧ Le H1 H') ⟨⟨_, _, rfl⟩, Le.refl _⟩ (fun i σ' H' _ h => sql (h.2.keep (e1.keep hl))) ?_ ?_
  · rintro i v t σ' H2 H3 hv ⟨⟨v1, v2, rfl⟩, e2⟩ e3 hT
    refine x_g2 hT ?_
    obtain ⟨r, y, hy, rfl, hry⟩ := hr.at hv
    have hne : y ≠ x := fun z => hx (z ▸ List.mem_of_getElem? hy)
    refine x_no (et_is (b := decide (y = x)) (et_T (ev_run fun H4 e4 Q4 q4 => ?_)) (decide_eq_false hne)) fun H4 e4 => ?_
    · walk_at "xs"
      obtain ⟨dr, hr4⟩ : RuleAt a H4 r y := ((hry.le e1).le e2 |>.le e3).le e4
      have hq4 : RuleAt a H4 q x := ((hq.le e1).le e2 |>.le e3).le e4
      obtain ⟨dq, hq5⟩ := id hq4
      refine x_eqO hr4 (T.insR hq5) T.nfR ⟨r, q, y, x, rfl, ⟨dr, hr4⟩, hq4, fun H5 e5 => ⟨_, rfl, q4 _ e5⟩⟩
    · walk_at "xs"
      exact ⟨⟨_, _, rfl⟩, (e2.trans e3).trans e4⟩
  · rintro σ' H2 ⟨⟨v1, v2, rfl⟩, e2⟩
    have e := e1.trans e2
    walk_at "xs"
    refine x_app (e.keep hl) (by omega) ?_
    exact hk H2 e

theorem ok_Book___init__ {P : Program} {w : World} {K : PySem.W.Frag} {mg : Str → Option Value} {base : Heap} {a : Ad} {f : Addr} {fd : FuncData} (F : FnP K "__init__" "Book.__init__" s_Book___init__ f fd) (T : Txt K mg a) (M_Book_add : MeG P w K mg base 2 a.cBook "add" (sp_Book_add a)) :
    FnR P w K mg base (L2.CX P w) 3 f (fun vs H Q E => ∃ ws rest, vs = ws ++ rest ∧ ws.length = 1 ∧ rest.length ≤ sizeLine ∧ ∀ p, H p = none → sp_Book___init__ a (ws ++ [V.ref p]) (upd H p (.tup rest)) Q E) := by
  obtain ⟨oc, od, dV, kV, doc, pm, an, cdv, ct, osl, rfl, lk, hcd, hD, _⟩ := F.ex
  obtain ⟨_, rfl⟩ | ⟨e, _⟩ := hD
  rotate_left
  · exact absurd rfl e
  refine StX.fn_star (ps := ["self"]) (pv := "rules") lk hcd sc_Book___init__ StX.cxUp (fun us rest hl => match us, hl, rest with | [_], _, [] => rfl | [_], _, _ :: _ => rfl) (fun A outer s H vs Q E hr h => ?_)
  refine ⟨_, (pss_cons (ps_fld (pv 0) (pe_lst pa_nil) rfl)
    (pss_one (ps_for (by first | exact po | exact PassesOwn.never | exact passes_of rfl) rfl (pi_tup (pv 1)) (pg_name (i := 2) sc_Book___init__.nd rfl (Or.inl rfl)) (pss_one (ps_expr (pe_methG M_Book_add (hr.mono (by decide)) passN (pv 0) (pa_cons (pv 2) pa_nil))))))), ?_⟩
  obtain ⟨p, t, us, xs, dx, rfl, hp, ht, hr, hd, hn, hq⟩ := h
  have hlen := hr.len
  walk_at "xs"
  rename_i l H1 n1 e1 h1
  refine x_kSF (e1.keep hp) T.fB (by show 0 < 1000; decide) ?_
  have hpl : l ≠ p := fun z => by rw [z, hp] at n1; cases n1
  have htp : t ≠ p := fun z => by rw [z, hp] at ht; cases ht
  have hnr : ∀ y, ¬ RuleAt a H p y := fun y ⟨d, z⟩ => by
    rw [hp] at z
    injection z with z
    injection z with z1 z2 z3
    cases z3
  walk_at "xs"
  refine x_forT (xs := us) (by rw [upd_ne htp]; exact e1.keep ht) (fun i σ' H' => (∃ v, σ' = [some (V.ref p), some (V.ref t), v]) ∧ Lx p H H' ∧ H' p = some (.ins a.cBook dx [("_rules", .ref l)]) ∧ H' l = some (.lst (us.take i))) ?_ ?_ ?_ ?_
  · refine ⟨⟨_, rfl⟩, ?_, ?_, ?_⟩
    · exact (Lx.of e1).put (e1.keep hp)
    · rw [upd_same]; rfl
    · rw [upd_ne hpl, h1]; rfl
  · rintro i σ' H' _ ⟨_, h2, _, _⟩
    exact h2.at_ t _ htp ht
  · rintro i x σ' H2 hx ⟨⟨v, rfl⟩, e2, h3, h4⟩
    walk_at "xs"
    refine x_kMeth h3 (by have e : (("add" : Str) == "_rules") = false := by decide +kernel
                          simp only [List.lookup, e]) ?_
    walk_at "xs"
    obtain ⟨r, y, hy, rfl, hry⟩ := hr.at hx
    have hr2 : RulesAt a H2 us xs := hr.lx e2 hnr
    obtain ⟨r', hr', hry2⟩ := hr2.get hy
    rw [hx] at hr'; cases hr'
    have hin := (List.getElem?_eq_some_iff.mp hx).1
    refine ⟨p, r, l, us.take i, xs.take i, y, dx, rfl, h3, h4, hr2.take i, hry2, ?_, ?_, fun H3 e3 => ?_⟩
    · intro hm
      obtain ⟨j, hj, hjy⟩ := List.getElem_of_mem hm
      have hj2 : j < i := by rw [List.length_take] at hj; omega
      have hj3 : xs[j]? = some y := by
        rw [List.getElem_take] at hjy
        rw [← hjy]; exact List.getElem?_eq_getElem _
      have : j = i := (List.getElem?_inj (List.getElem?_eq_some_iff.mp hj3).1 hd).mp (by rw [hj3, hy])
      omega
    · rw [List.length_take]; omega
    · refine ⟨⟨_, rfl⟩, ((e2.trans (Lx.of e3)).own n1 ⟨_, e3.keep h4⟩), ?_, ?_⟩
      · rw [upd_ne (Ne.symm hpl)]; exact e3.keep h3
      · rw [upd_same, take_put hx]
  · rintro σ' H2 ⟨⟨v, rfl⟩, e2, h3, h4⟩
    refine hq H2 ⟨e2.at_, e2.fr⟩ ⟨dx, l, us, h3, by rw [h4, List.take_length], hr.lx e2 hnr⟩
section
variable {P : Program} {w : World} {K : PySem.W.Frag} {mg : Str → Option Value} {base : Heap} {a : Ad} {f : Addr}
theorem r_Book {k : Nat} (G : FnR P w K mg base (L2.CX P w) k f (fun vs H Q E => ∃ ws rest, vs = ws ++ rest ∧ ws.length = 1 ∧ rest.length ≤ sizeLine ∧ ∀ p, H p = none → sp_Book___init__ a (ws ++ [V.ref p]) (upd H p (.tup rest)) Q E)) (M : Mk K a.cBook f) : CtR P w K mg base k a.cBook (spR_Book a) := by
  refine ⟨f, _, M, G, ?_⟩
  rintro vs H Q E ⟨xs, hr, hd, hn, hq⟩ x dx hx hdx hne
  have hlen := hr.len
  refine ⟨[.ref x], vs, rfl, rfl, by rw [sizeLine_eq]; omega, fun t ht => ?_⟩
  have e0 : Le H (upd (upd H dx (.own x)) x (.ins a.cBook dx [])) := le_made hx hdx (Le.refl _)
  have hxt : x ≠ t := fun z => by rw [← z, upd_same] at ht; cases ht
  refine ⟨x, t, vs, xs, dx, rfl, by rw [upd_ne hxt, upd_same], upd_same, (hr.le e0).le (Le.new ht), hd, hn, fun H' e hb => ⟨rfl, hq x H' ?_ hb⟩⟩
  have e1 := e0.trans (Le.new ht (o := .tup vs))
  refine ⟨fun b o hb => e.1 b o (ne_of_none hb hx) (e1.at_ b o hb), fun b hb => e1.fr b (e.2 b hb)⟩
end

theorem ok_Book_written {P : Program} {w : World} {K : PySem.W.Frag} {mg : Str → Option Value} {base : Heap} {a : Ad} {f : Addr} {fd : FuncData} (F : FnP K "written" "Book.written" s_Book_written f fd) (T : Txt K mg a) (O_Rule___str__ : OpG P w K mg base 1 a.cRule "__str__" (sp_Rule___str__ a)) :
    FnOk P w K mg base (L2.CX P w) 4 f fd ["self"] (sp_Book_written a) := by
  refine F.ok sc_Book_written (fun vs H Q E h => by obtain ⟨p, xs, rfl, fx, hn, h, q⟩ := h; rfl) (fun cdv A outer s H vs Q E hr h => ?_)
  refine ⟨_, (pss_one (ps_ret (pe_bm PySem.F.plainAttrs_str PySem.F.slot_str_join PySem.F.type_str_join mt_joinU pe_str (pa_cons (pe_lc (own := [("rule", 1)]) (g := gName 1) (tt := tYes) rfl sc_Book_written.nd (pi_list (pe_fld (pv 0) rfl)) (blkOk_by (N := ["self", "rule"]) (sc := defScope s_Book_written) (by decide +kernel)) (fun _ _ _ _ _ => pg_name (i := 1) sc_Book_written.nd rfl (Or.inl rfl)) (fun _ _ _ _ _ => pts_nil) (fun _ _ _ _ _ => (pe_callTy (call_strG O_Rule___str__ (hr.mono (by decide))) (by rfl) T.f_str (by decide +kernel) (pa_cons (pv 1) pa_nil)))) pa_nil)))), ?_⟩
  obtain ⟨p, xs, rfl, fx, hn, h, q⟩ := h
  obtain ⟨dx, l, vs, h1, h2, h3⟩ := id h
  have hlen := h3.len
  walk_at "xs"
  have l1 : ("\n" : Str).length = 1 := by decide +kernel
  have c1 : (Str.ofString "(").length = 1 := by decide +kernel
  have c2 : (Str.ofString ">").length = 1 := by decide +kernel
  have c3 : (Str.ofString ")").length = 1 := by decide +kernel
  refine x_lcLS (fun i => form (xs.getD i ⟨"", "", "", ""⟩)) h2 (by omega) (fun _ => rfl) (fun i v H' hv e Qe qe => ?_) fun r H1 hr e1 hr1 => ?_
  · obtain ⟨r, y, hy, rfl, hry⟩ := h3.at hv
    obtain ⟨dr, hr4⟩ : RuleAt a H' r y := hry.le e
    walk_at "xs"
    refine x_strO hr4 ⟨r, y, rfl, fx y (List.mem_of_getElem? hy), ⟨dr, hr4⟩, fun H5 e5 => ⟨_, rfl, ?_⟩⟩
    have hg : xs.getD i ⟨"", "", "", ""⟩ = y := by rw [List.getD_eq_getElem?_getD, hy]; rfl
    rw [hg] at qe
    exact qe _ e5
  · have hf : (List.range vs.length).map (fun i => form (xs.getD i ⟨"", "", "", ""⟩)) = xs.map form := by
      refine List.ext_getElem? fun i => ?_
      by_cases hi : i < xs.length
      · rw [List.getElem?_map, List.getElem?_map, List.getElem?_eq_getElem hi, List.getElem?_range (by omega)]
        simp [List.getD_eq_getElem?_getD, hi]
      · rw [List.getElem?_eq_none (by simp; omega), List.getElem?_eq_none (by simp; omega)]
    rw [hf] at hr1
    have hs : ((xs.map form).map (·.length)).sum ≤ 13 * xs.length := by
      clear hr1 hf h h3 hn hlen q
      induction xs with
      | nil => simp
      | cons x r ih =>
        have := ih fun y hy => fx y (List.mem_cons_of_mem _ hy)
        have fx1 := fx x List.mem_cons_self
        have f1 := fx1.l.2
        have f2 := fx1.o.2.2
        have f3 := fx1.r.2
        have f4 := fx1.n.2.2
        have : (form x).length ≤ 13 := by
          unfold form
          simp only [slen_app]
          omega
        simp only [List.map_cons, List.sum_cons, List.length_cons]
        omega
    refine x_join hr1 ?_ (q _ e1)
    rw [List.length_map, l1]
    omega
/-! ### the steps -/
theorem PrsAt.le {H H' : Hp} (e : Le H H') : ∀ {vs : List V} {xs : List (Nat × Nat)}, PrsAt H vs xs → PrsAt H' vs xs
  | [], [], _ => trivial
  | _ :: _, _ :: _, h => by
    obtain ⟨⟨p, q, hp⟩, h2⟩ := h
    exact ⟨⟨p, q, e.keep hp⟩, PrsAt.le e h2⟩
  | [], _ :: _, h => h.elim
  | _ :: _, [], h => h.elim
theorem PrsAt.app {H : Hp} {p : Addr} {x : Nat × Nat} (hp : H p = some (.tup [.int x.1, .int x.2])) : ∀ {vs : List V} {xs : List (Nat × Nat)}, PrsAt H vs xs → PrsAt H (vs ++ [.ref p]) (xs ++ [x])
  | [], [], _ => ⟨⟨p, rfl, hp⟩, trivial⟩
  | _ :: _, _ :: _, h => ⟨h.1, PrsAt.app hp h.2⟩
  | [], _ :: _, h => h.elim
  | _ :: _, [], h => h.elim
theorem PrsAt.len {H : Hp} : ∀ {vs : List V} {xs : List (Nat × Nat)}, PrsAt H vs xs → vs.length = xs.length
  | [], [], _ => rfl
  | _ :: _, _ :: _, h => by simp [PrsAt.len h.2]
  | [], _ :: _, h => h.elim
  | _ :: _, [], h => h.elim
/-- the steps at the place i by the first k rules -/
def stepsAt (xs : List R4) (z : Str) (c : Bool) (i k : Nat) : List (Nat × Nat) := ((List.range k).filter fun (k : Nat) => fits (xs.getD k ⟨"", "", "", ""⟩) z c ((i : Nat) : Int)).map fun (k : Nat) => (k, i)
def stepsTo (xs : List R4) (z : Str) (c : Bool) (i : Nat) : List (Nat × Nat) := (List.range i).flatMap fun (i : Nat) => stepsAt xs z c i xs.length
theorem stepsTo_succ (xs : List R4) (z : Str) (c : Bool) (i : Nat) : stepsTo xs z c (i + 1) = stepsTo xs z c i ++ stepsAt xs z c i xs.length := by
  unfold stepsTo
  rw [List.range_succ, List.flatMap_append]; simp
theorem stepsAt_succ (xs : List R4) (z : Str) (c : Bool) (i k : Nat) : stepsAt xs z c i (k + 1) = stepsAt xs z c i k ++ (if fits (xs.getD k ⟨"", "", "", ""⟩) z c ((i : Nat) : Int) = true then [(k, i)] else []) := by
  unfold stepsAt
  rw [List.range_succ, List.filter_append, List.map_append]
  congr 1
  cases h : fits (xs.getD k ⟨"", "", "", ""⟩) z c ((i : Nat) : Int) <;> simp only [List.filter_cons, List.filter_nil, h, if_true, List.map_cons, List.map_nil, Bool.false_eq_true, if_false]
theorem stepsAt_len (xs : List R4) (z : Str) (c : Bool) (i k : Nat) : (stepsAt xs z c i k).length ≤ k := by
  unfold stepsAt
  rw [List.length_map]
  exact Nat.le_trans (List.length_filter_le _ _) (by simp)
theorem stepsTo_len (xs : List R4) (z : Str) (c : Bool) (i : Nat) : (stepsTo xs z c i).length ≤ i * xs.length := by
  induction i with
  | zero => simp [stepsTo]
  | succ i ih =>
    rw [stepsTo_succ, List.length_append, Nat.succ_mul]
    have := stepsAt_len xs z c i xs.length
    omega
theorem ok_Book_possible {P : Program} {w : World} {K : PySem.W.Frag} {mg : Str → Option Value} {base : Heap} {a : Ad} {f : Addr} {fd : FuncData} (F : FnP K "possible" "Book.possible" s_Book_possible f fd) (T : Txt K mg a) (O_Text___len__ : OpG P w K mg base 1 a.cText "__len__" (sp_Text___len__ a)) (M_Rule_fits : MeG P w K mg base 3 a.cRule "fits" (sp_Rule_fits a)) :
    GFn P w K mg base 4 f fd ["self", "text"] (sp_Book_possible a) := by
  obtain ⟨oc, od, dV, kV, doc, pm, an, cdv, ct, osl, rfl, lk, hcd, hD, _⟩ := F.ex
  refine gfn_of lk hcd sc_Book_possible (fun vs H Q E h => by obtain ⟨p, q, xs, z, c, rfl, fx, hn, gz, h, ht, hq⟩ := h; rfl) (fun A outer s H vs Q E pn hr h => ?_)
  refine ⟨_, (gss_cons (gs_for (by first | exact po | exact PassesOwn.never | exact passes_of rfl) rfl (pi_range1 (by rfl) T.f_range (pa_cons (pe_callB (call_lenG O_Text___len__ (hr.mono (by decide))) (by rfl) T.f_len (by decide +kernel) (pa_cons (pv 1) pa_nil)) pa_nil)) (pg_name (i := 2) sc_Book_possible.nd rfl (Or.inl rfl)) (gss_cons (gs_for (by first | exact po | exact PassesOwn.never | exact passes_of rfl) rfl (pi_enum (by rfl) T.f_enumerate (pa_cons (pe_fld (pv 0) rfl) pa_nil)) (pg_tup rfl (pgs_cons (pg_name (i := 3) sc_Book_possible.nd rfl (Or.inl rfl)) (pgs_cons (pg_name (i := 4) sc_Book_possible.nd rfl (Or.inl rfl)) pgs_nil))) (gss_cons (gs_if (pt_val (pe_methG M_Rule_fits (hr.mono (by decide)) passN (pv 4) (pa_cons (pv 1) (pa_cons (pv 2) pa_nil)))) (gss_cons (gs_yield (pe_tup (pa_cons (pv 3) (pa_cons (pv 2) pa_nil))))
    gss_nil) gss_nil)
    gss_nil))
    gss_nil))
    gss_nil), ?_⟩
  obtain ⟨p, q, xs, z, c, rfl, fx, hn, gz, h, ht, hq⟩ := h
  obtain ⟨dx, l, vs, h1, h2, h3⟩ := id h
  have hlen := h3.len
  have hz : z.length ≤ 120 := gz.2.1
  walk_at "xs"
  obtain ⟨dq, hq2⟩ := id ht
  refine x_lenO hq2 ⟨q, z, c, rfl, by show z.length ≤ 1000; omega, ht, fun H1 e1 => ⟨_, rfl, by omega, ?_⟩⟩
  have hzt : ((z.length : Nat) : Int).toNat = z.length := by omega
  refine x_gfor1 (by omega) (fun i ys σ' H' => (∃ v2 v3 v4, σ' = [some (V.ref p), some (V.ref q), v2, v3, v4]) ∧ Le H1 H' ∧ PrsAt H' ys (stepsTo xs z c i)) ⟨⟨_, _, _, rfl⟩, Le.refl _, trivial⟩ ?_ ?_
  · rintro i ys σ' H3 hi ⟨⟨v2, v3, v4, rfl⟩, e2, hys⟩
    walk_at "xs"
    refine x_gforEn (sql ((e1.trans e2).keep h2)) (fun k ys' σ' H' => (∃ v3 v4, σ' = [some (V.ref p), some (V.ref q), some (V.int i), v3, v4]) ∧ Le H3 H' ∧ PrsAt H' ys' (stepsTo xs z c i ++ stepsAt xs z c i k)) ⟨⟨_, _, rfl⟩, Le.refl _, by simpa [stepsAt] using hys⟩ (fun k _ _ H' _ hh => sql ((e1.trans (e2.trans hh.2.1)).keep h2)) ?_ ?_
    · rintro k v t ys' σ' H4 H5 hy ⟨⟨v3, v4, rfl⟩, e4, hys'⟩ e5 hT5
      obtain ⟨r, y', hy', rfl, hry⟩ := h3.at hy
      have hk := (List.getElem?_eq_some_iff.mp hy).1
      have eA := ((e1.trans e2).trans e4).trans e5
      refine x_g2 hT5 ?_
      have hg : xs.getD k ⟨"", "", "", ""⟩ = y' := by rw [List.getD_eq_getElem?_getD, hy']; rfl
      have hl2 := hys'.len
      have hb1 := stepsTo_len xs z c i
      have hb2 := stepsAt_len xs z c i k
      have hkx : k < xs.length := by omega
      have hib : i * xs.length ≤ 120 * 8 := Nat.mul_le_mul (by omega) hn
      walk_at "xs"
      refine x_gif (b := fits y' z c (i : Nat)) (et_B (ev_run fun H6 e6 Q6 q6 => ?_)) (fun hb H6 e6 => ?_) (fun hb H6 e6 => ?_)
      · walk_at "xs"
        obtain ⟨dr, hr4⟩ : RuleAt a H6 r y' := (hry.le eA).le e6
        refine x_kMeth hr4 lkF ?_
        walk_at "xs"
        exact ⟨r, q, y', z, c, _, rfl, fx y' (List.mem_of_getElem? hy'), gz, ⟨dr, hr4⟩, (ht.le eA).le e6, q6⟩
      · walk_at "xs"
        refine x_gyield (by rw [hl2, List.length_append]; omega) ?_
        walk_at "xs"
        rename_i T2 H7 n7 e7 h7
        refine ⟨⟨_, _, rfl⟩, ((e4.trans e5).trans e6).trans e7, ?_⟩
        rw [stepsAt_succ, hg, if_pos hb, ← List.append_assoc]
        exact PrsAt.app h7 (hys'.le ((e5.trans e6).trans e7))
      · walk_at "xs"
        refine ⟨⟨_, _, rfl⟩, (e4.trans e5).trans e6, ?_⟩
        rw [stepsAt_succ, hg, if_neg (by rw [hb]; exact Bool.false_ne_true), List.append_nil]
        exact hys'.le (e5.trans e6)
    · rintro ys' σ' H4 ⟨⟨v3, v4, rfl⟩, e4, hys'⟩
      walk_at "xs"
      refine ⟨⟨_, _, _, rfl⟩, e2.trans e4, ?_⟩
      rw [stepsTo_succ, ← hlen]
      exact hys'
  · rintro ys' σ' H4 ⟨⟨v2, v3, v4, rfl⟩, e4, hys'⟩
    rw [hzt] at hys'
    walk_at "xs"
    exact hq ys' H4 (e1.trans e4) hys'
end K4
set_option maxHeartbeats 4000000
/-! K4H: k04: a book from its lines -/
namespace K4
open PySem PySem.Spec PyProof.Rows L2 MC
local macro_rules | `(tactic| walk_at "hp") => `(tactic| first | assumption | (apply Le.keep; assumption; walk_at "hp") | (apply TextAt.le; assumption; walk_at "hp") | (apply Lw.keep; assumption; walk_at "hp"; first | rfl | exact sh_str _ | exact sh_ints _ | exact sh_sgns _) | (apply TextAt.lw; assumption; walk_at "hp"))
local macro_rules | `(tactic| walk_at "le") => `(tactic| first | exact Le.refl _ | assumption | (apply Le.trans'; assumption; walk_at "le"))
local macro_rules | `(tactic| walk_at "lw") => `(tactic| first | exact Lw.refl _ | assumption | exact Le.w (by assumption) | (apply Lw.trans'; (first | assumption | exact Le.w (by assumption)); walk_at "lw"))
local macro_rules | `(tactic| walk_at "sz") => `(tactic| first | omega | (simp only [slen_app]; omega) | (simp only [List.length_append, List.length_cons, List.length_nil, List.length_map, List.length_range]; omega) | omega | (simp; omega) | decide)
local macro_rules | `(tactic| walk_at "x") => `(tactic| first
  | with_reducible refine x_seq ?_ | with_reducible refine x_asg ?_ | with_reducible refine x_ret ?_ | with_reducible refine x_drop ?_
  | ((with_reducible apply x_var); exact rfl) | with_reducible refine x_c ?_ | with_reducible refine x_op ?_ | with_reducible refine x_opS ?_ | with_reducible refine x_un ?_ | with_reducible refine x_neg ?_
  | with_reducible refine x_test ?_ | with_reducible refine x_tB ?_ | with_reducible refine x_kB ?_
  | with_reducible refine x_nil ?_ | with_reducible refine x_cons ?_ | with_reducible refine x_tup ?_ | with_reducible refine x_lst ?_
  | ((with_reducible refine x_kTup ?_ ?_); (walk_at "sz"); (intro _ _ _ _ _)) | ((with_reducible refine x_kLst ?_ ?_); (walk_at "sz"); (intro _ _ _ _ _))
  | with_reducible refine x_fld ?_ | ((with_reducible apply x_fS); assumption; (walk_at "hp")) | ((with_reducible apply x_fC); assumption; (walk_at "hp"))
  | with_reducible refine x_cb ?_ | with_reducible refine x_call ?_ | with_reducible refine x_callE ?_ | with_reducible refine x_bm ?_ | with_reducible refine x_cv ?_
  | with_reducible refine x_meth ?_ | with_reducible refine x_cm ?_ | with_reducible refine x_kCM ?_ | with_reducible refine x_mk ?_ | with_reducible refine x_kMk ?_
  | with_reducible refine x_np ?_ | with_reducible refine x_part ?_ | with_reducible refine x_kPart ?_ | with_reducible refine x_sl ?_ | with_reducible refine x_rev ?_
  | with_reducible refine x_addI ?_ | ((with_reducible refine x_addS ?_ ?_); (walk_at "sz")) | with_reducible refine x_I0 ?_
  | with_reducible refine x_eqS ?_ | with_reducible refine x_eqI ?_ | with_reducible refine x_eqB ?_ | with_reducible refine x_neS ?_ | with_reducible refine x_neI ?_ | with_reducible refine x_neB ?_
  | with_reducible refine x_eqFS ?_ | with_reducible refine x_eqFI ?_
  | with_reducible refine x_ltI ?_ | with_reducible refine x_ltS ?_ | with_reducible refine x_leI ?_ | with_reducible refine x_leS ?_ | with_reducible refine x_inT ?_ | with_reducible refine x_notInT ?_
  | ((with_reducible refine x_slS ?_ ?_); (walk_at "sz")) | ((with_reducible refine x_kRev ?_ ?_); (walk_at "sz"))
  | ((with_reducible refine x_lenS ?_ ?_); (walk_at "sz")) | ((with_reducible apply x_lenT); (walk_at "hp"))
  | ((with_reducible apply x_ixT); (walk_at "hp"); exact rfl)
  | with_reducible refine x_abs ?_ | with_reducible refine x_int ?_ | with_reducible refine x_strS ?_
  | ((with_reducible apply x_isB); (first | exact kit_ty (r := true) (by decide +kernel) | exact kit_ty (r := false) (by decide +kernel))) | ((with_reducible apply x_isI); (first | exact kit_ty (r := true) (by decide +kernel) | exact kit_ty (r := false) (by decide +kernel))) | ((with_reducible apply x_isS); (first | exact kit_ty (r := true) (by decide +kernel) | exact kit_ty (r := false) (by decide +kernel)))
  | ((with_reducible apply x_isT); (walk_at "hp"); (first | exact kit_ty (r := true) (by decide +kernel) | exact kit_ty (r := false) (by decide +kernel)))
  | ((with_reducible apply x_isText); assumption; (walk_at "hp")) | ((with_reducible apply x_isTextS); assumption) | ((with_reducible apply x_isTextI); assumption) | ((with_reducible apply x_isTextN); assumption) | ((with_reducible apply x_kCVT); assumption)
  | ((with_reducible apply x_addL); (walk_at "hp"); (walk_at "hp"); (walk_at "sz"); (intro _ _ _ _ _)) | ((with_reducible apply x_tyL); (walk_at "hp")) | with_reducible refine x_tyS ?_
  | with_reducible refine x_joined ?_ | with_reducible refine x_js ?_ | with_reducible refine x_js0 ?_ | ((with_reducible refine x_kJs ?_ ?_); (walk_at "sz")) | with_reducible refine x_fmt ?_ | ((with_reducible refine x_fmtS ?_ ?_); (walk_at "sz")) | ((with_reducible refine x_fmtI ?_ ?_); omega)
  | with_reducible refine x_rse ?_ | with_reducible refine x_ex ?_ | with_reducible refine x_ex0 ?_ | with_reducible refine x_xf ?_
  | with_reducible refine x_for ?_ | with_reducible refine x_r1 ?_ | with_reducible refine x_r2 ?_ | with_reducible refine x_il ?_ | with_reducible refine x_en ?_ | with_reducible refine x_lc ?_ | with_reducible refine x_next ?_ | dsimp only)
local macro_rules | `(tactic| walk_at "xs") => `(tactic| repeat walk_at "x")
local macro_rules | `(tactic| walk_at "ev0") => `(tactic| (refine ev_run ?_; intro _ _ _ q; walk_at "xs"; refine q _ ?_; walk_at "le"))
local macro_rules | `(tactic| walk_at "ch") => `(tactic| (intro _ _ _ q; walk_at "xs"; refine q _ ?_; walk_at "le"))
local macro_rules | `(tactic| walk_at "ev") => `(tactic| first
  | (focus ((with_reducible refine ev_andV ?_ (fun _ => ?_)); (all_goals walk_at "ev"))) | (focus ((with_reducible refine ev_orV ?_ (fun _ => ?_)); (all_goals walk_at "ev")))
  | ((with_reducible refine ev_notV ?_); walk_at "ev")
  | (focus ((with_reducible apply ev_chain); (focus walk_at "ch"); (focus walk_at "ch"); (focus walk_at "ch"); (focus (intro _ _ _ q; walk_at "x"; exact q)); (focus (intro _ _ _ q; walk_at "x"; exact q))))
  | walk_at "ev0" | skip)
local macro_rules | `(tactic| walk_at "et") => `(tactic| first
  | (focus ((with_reducible refine et_and ?_ (fun _ => ?_)); (all_goals walk_at "et"))) | (focus ((with_reducible refine et_or ?_ (fun _ => ?_)); (all_goals walk_at "et")))
  | ((with_reducible refine et_not ?_); walk_at "et") | ((with_reducible refine et_B ?_); walk_at "ev") | ((with_reducible refine et_T ?_); walk_at "ev"))
local macro_rules | `(tactic| walk_at "hp") => `(tactic| first | assumption | (apply RuleAt.le; assumption; walk_at "hp") | (apply RulesAt.le; assumption; walk_at "hp") | (apply BookAt.le; assumption; walk_at "hp") | (apply RuleAt.lw; assumption; walk_at "hp") | (apply BookAt.lw; assumption; walk_at "hp") | (apply R4s.le; assumption; walk_at "hp") | (apply R4s.lw; assumption; walk_at "hp"))
local macro_rules | `(tactic| walk_at "x") => `(tactic| first
  | ((with_reducible apply x_fO); assumption; (walk_at "hp")) | ((with_reducible apply x_fN); assumption; (walk_at "hp")) | ((with_reducible apply x_fL); assumption; (walk_at "hp")) | ((with_reducible apply x_fR); assumption; (walk_at "hp")) | ((with_reducible apply x_fB); assumption; (walk_at "hp"))
  | ((with_reducible apply x_isRule); assumption; (walk_at "hp")) | ((with_reducible apply x_kCVB); assumption)
  | with_reducible refine x_callO ?_ | with_reducible refine x_kCO ?_ | with_reducible refine x_prop ?_ | with_reducible refine x_max ?_ | with_reducible refine x_intB ?_ | with_reducible refine x_findS ?_ | with_reducible refine x_countS ?_ | with_reducible refine x_isN ?_)
local macro_rules | `(tactic| walk_at "sz") => `(tactic| (simp only [slen_app, elen, len1a, len1b, len1c]; omega))
local macro_rules | `(tactic| walk_at "x") => `(tactic| first
  | with_reducible refine x_sfld ?_ | with_reducible refine x_enL ?_ | with_reducible refine x_enN ?_ | with_reducible refine x_it ?_ | with_reducible refine x_asgT ?_ | ((with_reducible apply x_g2); (walk_at "hp")) | ((with_reducible apply x_g3); (walk_at "hp")) | ((with_reducible apply x_g4); (walk_at "hp"))
  | ((with_reducible apply x_lenL2); (walk_at "hp")) | with_reducible refine x_gseq ?_ | with_reducible refine x_g0 ?_ | with_reducible refine x_gfor ?_ | with_reducible refine x_gps ?_)
local macro_rules | `(tactic| walk_at "x") => `(tactic| first | ((with_reducible refine x_splitS ?_ ?_ ?_); (decide +kernel); (walk_at "sz"); (intro _ _ _ _ _)) | with_reducible refine x_methK ?_ | with_reducible refine x_mkSt ?_ | with_reducible refine x_kMkSt ?_ | ((with_reducible apply x_kStL); (walk_at "hp")))
theorem form_l (x : R4) : (form x).cps.toList = x.l.cps.toList ++ 40 :: (x.o.cps.toList ++ 62 :: (x.n.cps.toList ++ 41 :: x.r.cps.toList)) := by
  have e1 : ("(" : Str).cps.toList = [40] := by decide +kernel
  have e2 : (">" : Str).cps.toList = [62] := by decide +kernel
  have e3 : (")" : Str).cps.toList = [41] := by decide +kernel
  unfold form
  simp only [app_l, e1, e2, e3]
  simp
theorem notin {z : Str} {c : Nat} (h : bad z = none) (hc : sgOk c = false) : c ∉ z.cps.toList := fun z => by
  rw [bad_l.mp h c z] at hc; cases hc
theorem cnt0 {z : Str} {c : Nat} (h : bad z = none) (hc : sgOk c = false) : z.cps.toList.count c = 0 := List.count_eq_zero.mpr (notin h hc)
theorem s40 : ("(" : Str) = ⟨#[40]⟩ := by decide +kernel
theorem s62 : (">" : Str) = ⟨#[62]⟩ := by decide +kernel
theorem s41 : (")" : Str) = ⟨#[41]⟩ := by decide +kernel
theorem s10 : ("\n" : Str) = ⟨#[10]⟩ := by decide +kernel
theorem form_len (x : R4) : (form x).length = x.l.length + x.o.length + x.n.length + x.r.length + 3 := by
  rw [← len_l, form_l]
  simp only [List.length_append, List.length_cons, len_l]
  omega
theorem form_cnt {x : R4} (f : Fine x) : Txt.count (form x) "(" = 1 ∧ Txt.count (form x) ">" = 1 ∧ Txt.count (form x) ")" = 1 := by
  have h1 : ∀ c, sgOk c = false → (form x).cps.toList.count c = (if 40 = c then 1 else 0) + (if 62 = c then 1 else 0) + (if 41 = c then 1 else 0) := fun c hc => by
    rw [form_l]
    simp only [List.count_append, List.count_cons, cnt0 f.l.1 hc, cnt0 f.o.1 hc, cnt0 f.n.1 hc, cnt0 f.r.1 hc, beq_iff_eq]
    omega
  rw [s40, s62, s41, count_one, count_one, count_one, h1 40 rfl, h1 62 rfl, h1 41 rfl]
  exact ⟨rfl, rfl, rfl⟩
theorem form_find {x : R4} (f : Fine x) : Txt.find (form x) "(" = (x.l.length : Nat) ∧ Txt.find (form x) ">" = ((x.l.length + 1 + x.o.length : Nat) : Int) ∧ Txt.find (form x) ")" = ((x.l.length + 1 + x.o.length + 1 + x.n.length : Nat) : Int) := by
  rw [s40, s62, s41]
  refine ⟨?_, ?_, ?_⟩
  · rw [find_one (form_l x) (notin f.l.1 rfl), len_l]
  · rw [find_one (x := form x) (u := x.l.cps.toList ++ 40 :: x.o.cps.toList) (v := x.n.cps.toList ++ 41 :: x.r.cps.toList) (by rw [form_l]; simp) ?_]
    · simp only [List.length_append, List.length_cons, len_l]
      omega
    · intro h
      rcases List.mem_append.mp h with h | h
      · exact notin f.l.1 rfl h
      · rcases List.mem_cons.mp h with h | h
        · cases h
        · exact notin f.o.1 rfl h
  · rw [find_one (x := form x) (u := x.l.cps.toList ++ 40 :: (x.o.cps.toList ++ 62 :: x.n.cps.toList)) (v := x.r.cps.toList) (by rw [form_l]; simp) ?_]
    · simp only [List.length_append, List.length_cons, len_l]
      omega
    · intro h
      rcases List.mem_append.mp h with h | h
      · exact notin f.l.1 rfl h
      · rcases List.mem_cons.mp h with h | h
        · cases h
        · rcases List.mem_append.mp h with h | h
          · exact notin f.o.1 rfl h
          · rcases List.mem_cons.mp h with h | h
            · cases h
            · exact notin f.n.1 rfl h
theorem ok__split_line {P : Program} {w : World} {K : PySem.W.Frag} {mg : Str → Option Value} {base : Heap} {a : Ad} {f : Addr} {fd : FuncData} (F : FnP K "_split_line" "_split_line" s__split_line f fd) (T : Txt K mg a)  :
    FnOk P w K mg base (L2.CX P w) 1 f fd ["line"] (sp__split_line a) := by
  refine F.ok sc__split_line (fun vs H Q E h => by obtain ⟨x, rfl, fx, q⟩ := h; rfl) (fun cdv A outer s H vs Q E hr h => ?_)
  refine ⟨_, (pss_cons (ps_if (PW.pt (pw_or (pt_cmpR (op_neU hr) (pe_bm PySem.F.plainAttrs_str PySem.F.slot_str_count PySem.F.type_str_count mt_countS (pv 0) (pa_cons pe_str pa_nil)) pe_int (nomark _)) (pw_or (pt_cmpR (op_neU hr) (pe_bm PySem.F.plainAttrs_str PySem.F.slot_str_count PySem.F.type_str_count mt_countS (pv 0) (pa_cons pe_str pa_nil)) pe_int (nomark _)) (pw_or1 (pt_cmpR (op_neU hr) (pe_bm PySem.F.plainAttrs_str PySem.F.slot_str_count PySem.F.type_str_count mt_countS (pv 0) (pa_cons pe_str pa_nil)) pe_int (nomark _)))))) (pss_one ps_never) pss_nil)
    (pss_cons (ps_set (i := 1) sc__split_line.nd rfl (Or.inl rfl) (pe_bm PySem.F.plainAttrs_str PySem.F.slot_str_find PySem.F.type_str_find mt_findS (pv 0) (pa_cons pe_str pa_nil)))
    (pss_cons (ps_set (i := 2) sc__split_line.nd rfl (Or.inl rfl) (pe_bm PySem.F.plainAttrs_str PySem.F.slot_str_find PySem.F.type_str_find mt_findS (pv 0) (pa_cons pe_str pa_nil)))
    (pss_cons (ps_set (i := 3) sc__split_line.nd rfl (Or.inl rfl) (pe_bm PySem.F.plainAttrs_str PySem.F.slot_str_find PySem.F.type_str_find mt_findS (pv 0) (pa_cons pe_str pa_nil)))
    (pss_cons (ps_if (pt_not (pt_chain op_ltU op_ltU (pv 1) (pv 2) (pv 3))) (pss_one ps_never) pss_nil)
    (pss_one (ps_ret (pe_tup (pa_cons (pe_slice sl_U (pv 0) (po_some (pe_op op_addU (pv 1) pe_int)) (po_some (pv 2))) (pa_cons (pe_slice sl_U (pv 0) (po_some (pe_op op_addU (pv 2) pe_int)) (po_some (pv 3))) (pa_cons (pe_slice sl_U (pv 0) po_none (po_some (pv 1))) (pa_cons (pe_slice sl_U (pv 0) (po_some (pe_op op_addU (pv 3) pe_int)) po_none) pa_nil)))))))))))), ?_⟩
  obtain ⟨x, rfl, fx, q⟩ := h
  have f1 := fx.l.2
  have f2 := fx.o.2.2
  have f3 := fx.r.2
  have f4 := fx.n.2.2
  have hz := form_len x
  obtain ⟨c1, c2, c3⟩ := form_cnt fx
  obtain ⟨d1, d2, d3⟩ := form_find fx
  walk_at "xs"
  refine x_no (et_is (b := !decide (Txt.count (form x) "(" = 1) || (!decide (Txt.count (form x) ">" = 1) || !decide (Txt.count (form x) ")" = 1))) (by walk_at "et") (by rw [c1, c2, c3]; rfl)) fun H1 e1 => ?_
  walk_at "xs"
  refine x_no (et_is (b := !(decide (Txt.find (form x) "(" < Txt.find (form x) ">") && decide (Txt.find (form x) ">" < Txt.find (form x) ")"))) (by walk_at "et") (by rw [d1, d2, d3, decide_eq_true (by omega), decide_eq_true (by omega)]; rfl)) fun H2 e2 => ?_
  walk_at "xs"
  rename_i p H3 n3 e3 h3
  refine q p H3 ((e1.trans e2).trans e3) ?_
  rw [h3]
  have g1 : cutS (form x) (some (Txt.find (form x) "(" + 1)) (some (Txt.find (form x) ">")) = x.o := by
    rw [d1, d2]
    refine cut_mid (u := x.l.cps.toList ++ [40]) (w := 62 :: (x.n.cps.toList ++ 41 :: x.r.cps.toList)) (by rw [form_l]; simp) ?_ ?_ <;> simp only [List.length_append, List.length_cons, List.length_nil, len_l] <;> omega
  have g2 : cutS (form x) (some (Txt.find (form x) ">" + 1)) (some (Txt.find (form x) ")")) = x.n := by
    rw [d2, d3]
    refine cut_mid (u := x.l.cps.toList ++ 40 :: (x.o.cps.toList ++ [62])) (w := 41 :: x.r.cps.toList) (by rw [form_l]; simp) ?_ ?_ <;> simp only [List.length_append, List.length_cons, List.length_nil, len_l] <;> omega
  have g3 : cutS (form x) none (some (Txt.find (form x) "(")) = x.l := by
    rw [d1]
    exact cut_to (form_l x) rfl
  have g4 : cutS (form x) (some (Txt.find (form x) ")" + 1)) none = x.r := by
    rw [d3]
    refine cut_from (u := x.l.cps.toList ++ 40 :: (x.o.cps.toList ++ 62 :: (x.n.cps.toList ++ [41]))) (by rw [form_l]; simp) ?_
    simp only [List.length_append, List.length_cons, List.length_nil, len_l]; omega
  rw [g1, g2, g3, g4]
theorem lines_split {xs : List R4} (h : xs ≠ []) (f : ∀ x ∈ xs, Fine x) : Txt.split (lines xs) "\n" = xs.map form := by
  unfold lines
  rw [s10]
  refine split_join (by simpa using h) fun y hy => ?_
  obtain ⟨x, hx, rfl⟩ := List.mem_map.mp hy
  have fx := f x hx
  rw [form_l]
  simp only [List.mem_append, List.mem_cons, not_or]
  exact ⟨notin fx.l.1 rfl, by decide, notin fx.o.1 rfl, by decide, notin fx.n.1 rfl, by decide, notin fx.r.1 rfl⟩
theorem lines_len : ∀ {xs : List R4}, (∀ x ∈ xs, Fine x) → (lines xs).length ≤ 14 * xs.length := by
  intro xs f
  have e : lines xs = Str.join "\n" (xs.map form) := StrLaws.glued_eq_join _ _
  rw [e, s10, ← len_l, join_glue]
  have : ∀ {xs : List R4}, (∀ x ∈ xs, Fine x) → (glueL 10 ((xs.map form).map (·.cps.toList))).length ≤ 14 * xs.length := by
    intro xs
    induction xs with
    | nil => intro _; simp [glueL]
    | cons x r ih =>
      intro f
      have fx := f x List.mem_cons_self
      have f1 := fx.l.2
      have f2 := fx.o.2.2
      have f3 := fx.r.2
      have f4 := fx.n.2.2
      have hz := form_len x
      have ih := ih fun y hy => f y (List.mem_cons_of_mem _ hy)
      cases r with
      | nil =>
        simp only [List.map_cons, List.map_nil, glueL, len_l, List.length_cons, List.length_nil]
        omega
      | cons y r =>
        simp only [List.map_cons, glueL, List.length_append, List.length_cons, len_l] at ih ⊢
        omega
  exact this f
theorem lines_ne {xs : List R4} (h : xs ≠ []) : lines xs ≠ "" := by
  intro z
  have e : lines xs = Str.join "\n" (xs.map form) := StrLaws.glued_eq_join _ _
  rw [e, s10, empty_iff, ← len_l, join_glue] at z
  match xs, h with
  | [x], _ =>
    simp only [List.map_cons, List.map_nil, glueL, len_l] at z
    rw [form_len] at z
    omega
  | x :: y :: r, _ =>
    simp only [List.map_cons, glueL, List.length_append, List.length_cons] at z
    omega
theorem ok_Book_read {P : Program} {w : World} {K : PySem.W.Frag} {mg : Str → Option Value} {base : Heap} {a : Ad} {f : Addr} {fd : FuncData} (F : FnP K "read" "Book.read" s_Book_read f fd) (T : Txt K mg a) (R_Book : CtR P w K mg base 3 a.cBook (spR_Book a)) (G__read_rule : FnG P w K mg base 6 "_read_rule" (sp__read_rule a)) :
    FnOk P w K mg base (L2.CX P w) 7 f fd ["cls", "written"] (sp_Book_read a) := by
  refine F.ok sc_Book_read (fun vs H Q E h => by obtain ⟨xs, rfl, fx, hd, hn1, hn8, hq⟩ := h; rfl) (fun cdv A outer s H vs Q E hr h => ?_)
  refine ⟨_, (pss_cons (ps_set (i := 2) sc_Book_read.nd rfl (Or.inl rfl) (pe_lst pa_nil))
    (pss_cons (ps_if (pt_cmpR (op_neU hr) (pv 1) pe_str (nomark _)) (pss_one (ps_for (by first | exact po | exact PassesOwn.never | exact passes_of rfl) rfl (pi_enumN (by rfl) T.f_enumerate (pa_cons (pe_bm PySem.F.plainAttrs_str PySem.F.slot_str_split PySem.F.type_str_split mt_splitS (pv 1) (pa_cons pe_str pa_nil)) pa_nil) (pk_cons pe_int pk_nil)) (pg_tup rfl (pgs_cons (pg_name (i := 3) sc_Book_read.nd rfl (Or.inl rfl)) (pgs_cons (pg_name (i := 4) sc_Book_read.nd rfl (Or.inl rfl)) pgs_nil))) (pss_one (ps_expr (pe_bm PySem.F.plainAttrs_list PySem.F.slot_list_append PySem.F.type_list_append mt_append (pv 2) (pa_cons (pe_callG G__read_rule (hr.mono (by decide)) passN rfl (pa_cons (pv 4) (pa_cons (pv 3) pa_nil))) pa_nil)))))) pss_nil)
    (pss_one (ps_ret (pe_mkSt R_Book (hr.mono (by decide)) passN (pv 0) (pv 2)))))), ?_⟩
  obtain ⟨xs, rfl, fx, hd, hn1, hn8, hq⟩ := h
  have hne : xs ≠ [] := fun z => by rw [z] at hn1; simp at hn1
  have hll := lines_len fx
  walk_at "xs"
  rename_i l H1 n1 e1 hl1
  refine x_yes (et_is (b := !decide (lines xs = "")) (by walk_at "et") (by simp [lines_ne hne])) fun H2 e2 => ?_
  walk_at "xs"
  rename_i sp H3 n3 e3 h3
  rw [lines_split hne fx] at h3
  have hsl : sp ≠ l := fun z => by rw [z, e2.keep hl1] at n3; cases n3
  have hl3 := e3.keep (e2.keep hl1)
  refine x_forEnN (xs := (xs.map form).map V.str) (sql h3) (by omega) (fun i σ' H' => (∃ v1 v2, σ' = [some (V.ref a.cBook), some (V.str (lines xs)), some (V.ref l), v1, v2]) ∧ Le H H' ∧ H' sp = some (.lst ((xs.map form).map V.str)) ∧ ∃ us, H' l = some (.lst us) ∧ RulesAt a H' us (xs.take i)) ⟨⟨_, _, rfl⟩, (e1.trans e2).trans e3, h3, [], hl3, trivial⟩ (fun i σ' H' _ h => sql h.2.2.1) ?_ ?_
  · rintro i v t σ' H4 H5 hv ⟨⟨v1, v2, rfl⟩, e4, h4, us, hl4, hr4⟩ e5 hT
    refine x_g2 hT ?_
    rw [List.getElem?_map, List.getElem?_map] at hv
    cases hx : xs[i]? with
    | none => rw [hx] at hv; cases hv
    | some x =>
      rw [hx] at hv
      cases hv
      have hlen := hr4.len
      have hil := (List.getElem?_eq_some_iff.mp hx).1
      have hl5 := e5.keep hl4
      walk_at "xs"
      refine ⟨x, _, rfl, fx x (List.mem_of_getElem? hx), fun r H6 e6 hr6 => ?_⟩
      have hl6 := e6.keep hl5
      walk_at "xs"
      refine x_app hl6 (by rw [hlen, List.length_take]; omega) ?_
      have hnr : ∀ y, ¬ RuleAt a H6 l y := fun y ⟨d, z⟩ => by rw [hl6] at z; cases z
      have ex : Lx l H6 (upd H6 l (.lst (us ++ [.ref r]))) := (Lx.refl _).put hl6
      refine ⟨⟨_, _, rfl⟩, le_own ((e4.trans e5).trans e6) n1, ?_, us ++ [.ref r], upd_same, ?_⟩
      · rw [upd_ne hsl]
        exact e6.keep (e5.keep h4)
      · rw [take_put hx]
        exact RulesAt.lx ex hnr (RulesAt.app hr6 ((hr4.le e5).le e6))
  · rintro σ' H4 ⟨⟨v1, v2, rfl⟩, e4, h4, us, hl4, hr4⟩
    walk_at "xs"
    rw [List.length_map, List.length_map, List.take_length] at hr4
    exact ⟨xs, hr4, hd, hn8, fun p H5 e5 hb => hq p H5 (e4.trans e5) hb⟩
section
variable {P : Program} {w : World} {K : PySem.W.Frag} {mg : Str → Option Value} {base : Heap} {a : Ad} {f : Addr} {fd : FuncData}
theorem mk_Book_take {k : Nat} (F : FnP K "take" "Book.take" s_Book_take f fd) (G : FnOk P w K mg base (L2.CX P w) k f fd ["self", "text", "number", "at"] (sp_Book_take a)) (M : Meth K a.cBook "take" f) (cl : Cls K a.cBook) : MeK P w K mg base k a.cBook "take" ["at", "number", "text"] (spMK_Book_take_at_number_text a) := by
  obtain ⟨oc, od, dV, kV, doc, pm, an, cdv, ct, osl, rfl, lk, hcd, hD, _⟩ := F.ex
  obtain ⟨_, rfl⟩ | ⟨e, _⟩ := hD
  rotate_left
  · exact absurd rfl e
  refine ⟨cl, f, _, _, fun us ws => us ++ ws.reverse, fun us ws => us ++ ws.reverse, _, M, G, ⟨fun s us ws hk hu hw => ?_, fun r1 r2 => r1.append (vals_rev r2)⟩, ?_⟩
  · match us, ws, hu, hw with
    | [_], [_, _, _], _, _ => exact .of_eq rfl
  · rintro b zs H Q E ⟨p, q, xs, z, c, k, i, hv, h⟩
    cases hv
    exact ⟨rfl, b, q, xs, z, c, k, i, rfl, h⟩
end
end K4
set_option maxHeartbeats 4000000
/-! K4I: k04: the exceptions; a call's end; a text looked at -/
namespace K4
open PySem PySem.Spec PyProof.Rows L2 MC
local macro_rules | `(tactic| walk_at "hp") => `(tactic| first | assumption | (apply Le.keep; assumption; walk_at "hp") | (apply TextAt.le; assumption; walk_at "hp") | (apply Lw.keep; assumption; walk_at "hp"; first | rfl | exact sh_str _ | exact sh_ints _ | exact sh_sgns _) | (apply TextAt.lw; assumption; walk_at "hp"))
local macro_rules | `(tactic| walk_at "le") => `(tactic| first | exact Le.refl _ | assumption | (apply Le.trans'; assumption; walk_at "le"))
local macro_rules | `(tactic| walk_at "lw") => `(tactic| first | exact Lw.refl _ | assumption | exact Le.w (by assumption) | (apply Lw.trans'; (first | assumption | exact Le.w (by assumption)); walk_at "lw"))
local macro_rules | `(tactic| walk_at "sz") => `(tactic| first | omega | (simp only [slen_app]; omega) | (simp only [List.length_append, List.length_cons, List.length_nil, List.length_map, List.length_range]; omega) | omega | (simp; omega) | decide)
local macro_rules | `(tactic| walk_at "x") => `(tactic| first
  | with_reducible refine x_seq ?_ | with_reducible refine x_asg ?_ | with_reducible refine x_ret ?_ | with_reducible refine x_drop ?_
  | ((with_reducible apply x_var); exact rfl) | with_reducible refine x_c ?_ | with_reducible refine x_op ?_ | with_reducible refine x_opS ?_ | with_reducible refine x_un ?_ | with_reducible refine x_neg ?_
  | with_reducible refine x_test ?_ | with_reducible refine x_tB ?_ | with_reducible refine x_kB ?_
  | with_reducible refine x_nil ?_ | with_reducible refine x_cons ?_ | with_reducible refine x_tup ?_ | with_reducible refine x_lst ?_
  | ((with_reducible refine x_kTup ?_ ?_); (walk_at "sz"); (intro _ _ _ _ _)) | ((with_reducible refine x_kLst ?_ ?_); (walk_at "sz"); (intro _ _ _ _ _))
  | with_reducible refine x_fld ?_ | ((with_reducible apply x_fS); assumption; (walk_at "hp")) | ((with_reducible apply x_fC); assumption; (walk_at "hp"))
  | with_reducible refine x_cb ?_ | with_reducible refine x_call ?_ | with_reducible refine x_callE ?_ | with_reducible refine x_bm ?_ | with_reducible refine x_cv ?_
  | with_reducible refine x_meth ?_ | with_reducible refine x_cm ?_ | with_reducible refine x_kCM ?_ | with_reducible refine x_mk ?_ | with_reducible refine x_kMk ?_
  | with_reducible refine x_np ?_ | with_reducible refine x_part ?_ | with_reducible refine x_kPart ?_ | with_reducible refine x_sl ?_ | with_reducible refine x_rev ?_
  | with_reducible refine x_addI ?_ | ((with_reducible refine x_addS ?_ ?_); (walk_at "sz")) | with_reducible refine x_I0 ?_
  | with_reducible refine x_eqS ?_ | with_reducible refine x_eqI ?_ | with_reducible refine x_eqB ?_ | with_reducible refine x_neS ?_ | with_reducible refine x_neI ?_ | with_reducible refine x_neB ?_
  | with_reducible refine x_eqFS ?_ | with_reducible refine x_eqFI ?_
  | with_reducible refine x_ltI ?_ | with_reducible refine x_ltS ?_ | with_reducible refine x_leI ?_ | with_reducible refine x_leS ?_ | with_reducible refine x_inT ?_ | with_reducible refine x_notInT ?_
  | ((with_reducible refine x_slS ?_ ?_); (walk_at "sz")) | ((with_reducible refine x_kRev ?_ ?_); (walk_at "sz"))
  | ((with_reducible refine x_lenS ?_ ?_); (walk_at "sz")) | ((with_reducible apply x_lenT); (walk_at "hp"))
  | ((with_reducible apply x_ixT); (walk_at "hp"); exact rfl)
  | with_reducible refine x_abs ?_ | with_reducible refine x_int ?_ | with_reducible refine x_strS ?_
  | ((with_reducible apply x_isB); (first | exact kit_ty (r := true) (by decide +kernel) | exact kit_ty (r := false) (by decide +kernel))) | ((with_reducible apply x_isI); (first | exact kit_ty (r := true) (by decide +kernel) | exact kit_ty (r := false) (by decide +kernel))) | ((with_reducible apply x_isS); (first | exact kit_ty (r := true) (by decide +kernel) | exact kit_ty (r := false) (by decide +kernel)))
  | ((with_reducible apply x_isT); (walk_at "hp"); (first | exact kit_ty (r := true) (by decide +kernel) | exact kit_ty (r := false) (by decide +kernel)))
  | ((with_reducible apply x_isText); assumption; (walk_at "hp")) | ((with_reducible apply x_isTextS); assumption) | ((with_reducible apply x_isTextI); assumption) | ((with_reducible apply x_isTextN); assumption) | ((with_reducible apply x_kCVT); assumption)
  | ((with_reducible apply x_addL); (walk_at "hp"); (walk_at "hp"); (walk_at "sz"); (intro _ _ _ _ _)) | ((with_reducible apply x_tyL); (walk_at "hp")) | with_reducible refine x_tyS ?_
  | with_reducible refine x_joined ?_ | with_reducible refine x_js ?_ | with_reducible refine x_js0 ?_ | ((with_reducible refine x_kJs ?_ ?_); (walk_at "sz")) | with_reducible refine x_fmt ?_ | ((with_reducible refine x_fmtS ?_ ?_); (walk_at "sz")) | ((with_reducible refine x_fmtI ?_ ?_); omega)
  | with_reducible refine x_rse ?_ | with_reducible refine x_ex ?_ | with_reducible refine x_ex0 ?_ | with_reducible refine x_xf ?_
  | with_reducible refine x_for ?_ | with_reducible refine x_r1 ?_ | with_reducible refine x_r2 ?_ | with_reducible refine x_il ?_ | with_reducible refine x_en ?_ | with_reducible refine x_lc ?_ | with_reducible refine x_next ?_ | dsimp only)
local macro_rules | `(tactic| walk_at "xs") => `(tactic| repeat walk_at "x")
local macro_rules | `(tactic| walk_at "ev0") => `(tactic| (refine ev_run ?_; intro _ _ _ q; walk_at "xs"; refine q _ ?_; walk_at "le"))
local macro_rules | `(tactic| walk_at "ch") => `(tactic| (intro _ _ _ q; walk_at "xs"; refine q _ ?_; walk_at "le"))
local macro_rules | `(tactic| walk_at "ev") => `(tactic| first
  | (focus ((with_reducible refine ev_andV ?_ (fun _ => ?_)); (all_goals walk_at "ev"))) | (focus ((with_reducible refine ev_orV ?_ (fun _ => ?_)); (all_goals walk_at "ev")))
  | ((with_reducible refine ev_notV ?_); walk_at "ev")
  | (focus ((with_reducible apply ev_chain); (focus walk_at "ch"); (focus walk_at "ch"); (focus walk_at "ch"); (focus (intro _ _ _ q; walk_at "x"; exact q)); (focus (intro _ _ _ q; walk_at "x"; exact q))))
  | walk_at "ev0" | skip)
local macro_rules | `(tactic| walk_at "et") => `(tactic| first
  | (focus ((with_reducible refine et_and ?_ (fun _ => ?_)); (all_goals walk_at "et"))) | (focus ((with_reducible refine et_or ?_ (fun _ => ?_)); (all_goals walk_at "et")))
  | ((with_reducible refine et_not ?_); walk_at "et") | ((with_reducible refine et_B ?_); walk_at "ev") | ((with_reducible refine et_T ?_); walk_at "ev"))
local macro_rules | `(tactic| walk_at "hp") => `(tactic| first | assumption | (apply RuleAt.le; assumption; walk_at "hp") | (apply RulesAt.le; assumption; walk_at "hp") | (apply BookAt.le; assumption; walk_at "hp") | (apply RuleAt.lw; assumption; walk_at "hp") | (apply BookAt.lw; assumption; walk_at "hp") | (apply R4s.le; assumption; walk_at "hp") | (apply R4s.lw; assumption; walk_at "hp"))
local macro_rules | `(tactic| walk_at "x") => `(tactic| first
  | ((with_reducible apply x_fO); assumption; (walk_at "hp")) | ((with_reducible apply x_fN); assumption; (walk_at "hp")) | ((with_reducible apply x_fL); assumption; (walk_at "hp")) | ((with_reducible apply x_fR); assumption; (walk_at "hp")) | ((with_reducible apply x_fB); assumption; (walk_at "hp"))
  | ((with_reducible apply x_isRule); assumption; (walk_at "hp")) | ((with_reducible apply x_kCVB); assumption)
  | with_reducible refine x_callO ?_ | with_reducible refine x_kCO ?_ | with_reducible refine x_prop ?_ | with_reducible refine x_max ?_ | with_reducible refine x_intB ?_ | with_reducible refine x_findS ?_ | with_reducible refine x_countS ?_ | with_reducible refine x_isN ?_)
local macro_rules | `(tactic| walk_at "sz") => `(tactic| (simp only [slen_app, elen, len1a, len1b, len1c]; omega))
local macro_rules | `(tactic| walk_at "x") => `(tactic| first
  | with_reducible refine x_sfld ?_ | with_reducible refine x_enL ?_ | with_reducible refine x_enN ?_ | with_reducible refine x_it ?_ | with_reducible refine x_asgT ?_ | ((with_reducible apply x_g2); (walk_at "hp")) | ((with_reducible apply x_g3); (walk_at "hp")) | ((with_reducible apply x_g4); (walk_at "hp"))
  | ((with_reducible apply x_lenL2); (walk_at "hp")) | with_reducible refine x_gseq ?_ | with_reducible refine x_g0 ?_ | with_reducible refine x_gfor ?_ | with_reducible refine x_gps ?_)
local macro_rules | `(tactic| walk_at "x") => `(tactic| first | ((with_reducible refine x_splitS ?_ ?_ ?_); (decide +kernel); (walk_at "sz"); (intro _ _ _ _ _)) | with_reducible refine x_methK ?_ | with_reducible refine x_mkSt ?_ | with_reducible refine x_kMkSt ?_ | ((with_reducible apply x_kStL); (walk_at "hp")))
theorem int_len {i : Int} (hi : i.natAbs.log2 < 1000) : ((toString i : String) : Str).length ≤ 1001 := by
  have e := int_text_length_le (k := 1000) (by decide) hi
  rw [PySem.ofString_length]; exact e
theorem ini_BadText {P : Program} {w : World} {K : PySem.W.Frag} {mg : Str → Option Value} {base : Heap} {f cc : Addr} {fd : FuncData} {C : Addr} (F : SupF P K "__init__" "BadText.__init__" (defArgs s_BadText___init__) (defBody s_BadText___init__) (defScope s_BadText___init__) f fd C cc) (T : SupC P K mg C) (no : PySem.W.findIn K (.ref C) "size" = some none) :
    FnOk P w K mg base (L2.CX P w) 1 f fd ["self", "size"] (sp_exi C "size") := by
  refine fn_sup (N := ["self", "size"]) F ⟨rfl, rfl, rfl, by decide +kernel, rfl, by decide +kernel, by decide +kernel, by decide +kernel, rfl, rfl⟩ rfl rfl (by decide) T (fun vs H Q E h => by obtain ⟨e, i, rfl, _⟩ := h; rfl) (fun cd A outer s H vs Q E hr h => ?_)
  obtain ⟨e, i, rfl, hi, he, q⟩ := h
  have hl := int_len hi
  have l1 : ("a text cannot have " : Str).length = 19 := by decide +kernel
  have l2 : (" signs" : Str).length = 6 := by decide +kernel
  have l3 : Str.empty.length = 0 := by decide +kernel
  have hi2 : i.natAbs.log2 < 1920 := by omega
  refine ⟨_, _, e, pa_cons (pe_joinedU (.cons pe_str (.cons (pe_fmt (pv 1)) (.cons pe_str .nil)))) pa_nil, pss_one (ps_ost (pv 0) (pv 1)), rfl, he, ?_⟩
  walk_at "xs"
  refine ⟨by show 1 ≤ 1000; decide, he, ?_⟩
  refine x_ost ?_
  walk_at "xs"
  exact ⟨e, C, rfl, T.oex, no, Or.inl ⟨he, fun dx hdx hne => q dx hdx hne⟩⟩
theorem ini_NoRule {P : Program} {w : World} {K : PySem.W.Frag} {mg : Str → Option Value} {base : Heap} {f cc : Addr} {fd : FuncData} {C : Addr} (F : SupF P K "__init__" "NoRule.__init__" (defArgs s_NoRule___init__) (defBody s_NoRule___init__) (defScope s_NoRule___init__) f fd C cc) (T : SupC P K mg C) (no : PySem.W.findIn K (.ref C) "number" = some none) :
    FnOk P w K mg base (L2.CX P w) 1 f fd ["self", "number"] (sp_exi C "number") := by
  refine fn_sup (N := ["self", "number"]) F ⟨rfl, rfl, rfl, by decide +kernel, rfl, by decide +kernel, by decide +kernel, by decide +kernel, rfl, rfl⟩ rfl rfl (by decide) T (fun vs H Q E h => by obtain ⟨e, i, rfl, _⟩ := h; rfl) (fun cd A outer s H vs Q E hr h => ?_)
  obtain ⟨e, i, rfl, hi, he, q⟩ := h
  have hl := int_len hi
  have l1 : ("there is no rule " : Str).length = 17 := by decide +kernel
  have l3 : Str.empty.length = 0 := by decide +kernel
  have hi2 : i.natAbs.log2 < 1920 := by omega
  refine ⟨_, _, e, pa_cons (pe_joinedU (.cons pe_str (.cons (pe_fmt (pv 1)) .nil))) pa_nil, pss_one (ps_ost (pv 0) (pv 1)), rfl, he, ?_⟩
  walk_at "xs"
  refine ⟨by show 1 ≤ 1000; decide, he, ?_⟩
  refine x_ost ?_
  walk_at "xs"
  exact ⟨e, C, rfl, T.oex, no, Or.inl ⟨he, fun dx hdx hne => q dx hdx hne⟩⟩
theorem ini_Mismatch {P : Program} {w : World} {K : PySem.W.Frag} {mg : Str → Option Value} {base : Heap} {f cc : Addr} {fd : FuncData} {C : Addr} (F : SupF P K "__init__" "Mismatch.__init__" (defArgs s_Mismatch___init__) (defBody s_Mismatch___init__) (defScope s_Mismatch___init__) f fd C cc) (T : SupC P K mg C) (no : PySem.W.findIn K (.ref C) "at" = some none) :
    FnOk P w K mg base (L2.CX P w) 1 f fd ["self", "at"] (sp_exi C "at") := by
  refine fn_sup (N := ["self", "at"]) F ⟨rfl, rfl, rfl, by decide +kernel, rfl, by decide +kernel, by decide +kernel, by decide +kernel, rfl, rfl⟩ rfl rfl (by decide) T (fun vs H Q E h => by obtain ⟨e, i, rfl, _⟩ := h; rfl) (fun cd A outer s H vs Q E hr h => ?_)
  obtain ⟨e, i, rfl, hi, he, q⟩ := h
  have hl := int_len hi
  have l1 : ("the rule does not fit at " : Str).length = 25 := by decide +kernel
  have l3 : Str.empty.length = 0 := by decide +kernel
  have hi2 : i.natAbs.log2 < 1920 := by omega
  refine ⟨_, _, e, pa_cons (pe_joinedU (.cons pe_str (.cons (pe_fmt (pv 1)) .nil))) pa_nil, pss_one (ps_ost (pv 0) (pv 1)), rfl, he, ?_⟩
  walk_at "xs"
  refine ⟨by show 1 ≤ 1000; decide, he, ?_⟩
  refine x_ost ?_
  walk_at "xs"
  exact ⟨e, C, rfl, T.oex, no, Or.inl ⟨he, fun dx hdx hne => q dx hdx hne⟩⟩
/-! ### promises of the law's small defs -/
def ExK.nm : ExK → Str
  | .size => "size"
  | .none => "none"
  | .place => "place"
def sE__law_pure (a : Ad) : SpE := fun e c d vs H Q E => vs = [.ref e] ∧ (∃ k i, ExcIs a k i c d H) ∧ ∀ H', Le H H' → Q (.bl true) H'
def sp__law_whole (a : Ad) : Sp := fun vs H Q E => ∃ i, vs = [.int i] ∧ ∀ H', Le H H' → Q (.bl true) H'
def sp__law_is_text (a : Ad) : Sp := fun vs H Q E => ∃ p z c, vs = [.ref p, .str z, .bl c] ∧ Good z c ∧ TextAt a H p z c ∧ ∀ H', Le H H' → Q (.bl true) H'
def ToldAt (a : Ad) (H : Hp) (p : Addr) (r : Ans) : Prop := match r with
  | .exn k i => H p = some (.tup [.str k.nm, .int i, .bl true])
  | .txt z c => ∃ q, H p = some (.tup [.str "good", .ref q, .bl true]) ∧ TextAt a H q z c
  | .val _ => False
def sp__law_do (a : Ad) : Sp := fun vs H Q E => ∃ p q xs z c k i way, vs = [.ref p, .ref q, .int k, .int i, .int way] ∧ (∀ x ∈ xs, Fine x) ∧ xs.length ≤ 8 ∧ Good z c ∧ SmI k ∧ SmI i ∧ (0 ≤ way ∧ way ≤ 2) ∧ BookAt a H p xs ∧ TextAt a H q z c ∧ ∀ t H', Le H H' → ToldAt a H' t (aTake xs z c k i) → Q (.ref t) H'
theorem ok__law_whole {P : Program} {w : World} {K : PySem.W.Frag} {mg : Str → Option Value} {base : Heap} {a : Ad} {f : Addr} {fd : FuncData} (F : FnP K "_law_whole" "_law_whole" s__law_whole f fd) (T : Txt K mg a)  :
    FnOk P w K mg base (L2.CX P w) 1 f fd ["_law_told"] (sp__law_whole a) := by
  refine F.ok sc__law_whole (fun vs H Q E h => by obtain ⟨i, rfl, q⟩ := h; rfl) (fun cdv A outer s H vs Q E hr h => ?_)
  refine ⟨_, (pss_one (ps_ret (pe_and (pe_callB call_isi (by rfl) T.f_isinstance (by decide +kernel) (pa_cons (pv 0) (pa_cons (pe_bltn (v := .ty "int") (by rfl) T.f_int (by decide +kernel) rfl) pa_nil))) (pe_one (pe_not (pe_callB call_isi (by rfl) T.f_isinstance (by decide +kernel) (pa_cons (pv 0) (pa_cons (pe_bltn (v := .ty "bool") (by rfl) T.f_bool (by decide +kernel) rfl) pa_nil)))))))), ?_⟩
  obtain ⟨i, rfl, q⟩ := h
  walk_at "xs"
  refine x_andV (b := true) (ev_is (ev_andV (b := true) ?_ (fun _ => ev_notV (b := false) ?_)) rfl) q
  · walk_at "ev"
  · walk_at "ev"
theorem okE__law_pure {P : Program} {w : World} {K : PySem.W.Frag} {mg : Str → Option Value} {base : Heap} {a : Ad} {f : Addr} {fd : FuncData} (F : FnP K "_law_pure" "_law_pure" s__law_pure f fd) (T : Txt K mg a)  :
    FnE P w K mg base 1 f fd ["_law_e"] (sE__law_pure a) := by
  refine fn_ofE F sc__law_pure (fun e c d vs H Q E h => by obtain ⟨rfl, ⟨k, i, rfl, hx⟩, q⟩ := h; rfl) (fun cdv A outer s H vs Q p c d hr hz hf h => ?_)
  obtain ⟨e, oe⟩ := p
  obtain ⟨rfl, ⟨k, i, rfl, hx⟩, q⟩ := h
  have hT := T.exT k
  have hp : (e, oe) ∈ [(e, oe)] := List.mem_cons_self
  have hd : ∀ H', Le H H' → ∀ dd, d = some dd → ∃ fs, H' dd = some (.xd fs) := by
    intro H' le dd hdd
    obtain ⟨d2, e2, h2⟩ := hx
    rw [hdd] at e2
    cases e2
    exact ⟨_, le.keep h2⟩
  refine ⟨_, (pss_cons (ps_set (i := 1) sc__law_pure.nd rfl (Or.inl rfl) (pe_lst (pa_cons (pe_callB (call_isP hT hp hz hf) (by rfl) T.f_isinstance (by decide +kernel) (pa_cons (pv 0) (pa_cons (pe_glob (v := .ref a.cBadText) rfl T.g_BadText rfl) pa_nil))) (pa_cons (pe_callB (call_isP hT hp hz hf) (by rfl) T.f_isinstance (by decide +kernel) (pa_cons (pv 0) (pa_cons (pe_glob (v := .ref a.cMismatch) rfl T.g_Mismatch rfl) pa_nil))) (pa_cons (pe_callB (call_isP hT hp hz hf) (by rfl) T.f_isinstance (by decide +kernel) (pa_cons (pv 0) (pa_cons (pe_glob (v := .ref a.cNoRule) rfl T.g_NoRule rfl) pa_nil))) pa_nil)))))
    (pss_cons (ps_set (i := 2) sc__law_pure.nd rfl (Or.inl rfl) (pe_and (pe_callB (call_isP hT hp hz hf) (by rfl) T.f_isinstance (by decide +kernel) (pa_cons (pv 0) (pa_cons (pe_glob (v := .ref a.cClerkError) rfl T.g_ClerkError rfl) pa_nil))) (pe_one (pe_callB (call_isP hT hp hz hf) (by rfl) T.f_isinstance (by decide +kernel) (pa_cons (pv 0) (pa_cons (pe_bltn (v := .ty "ValueError") (by rfl) T.f_ValueError (by decide +kernel) rfl) pa_nil))))))
    (pss_one (ps_ret (pe_and (pv 2) (pe_one (pe_cmpR op_eq (pe_bm PySem.F.plainAttrs_list PySem.F.slot_list_count PySem.F.type_list_count mt_cntF (pv 1) (pa_cons pe_bl pa_nil)) pe_int (nomark _)))))))), ?_⟩
  walk_at "xs"
  refine x_isp (fun u h => h) (hd _ (by walk_at "le")) (T.kit k .size) ?_
  walk_at "xs"
  refine x_isp (fun u h => h) (hd _ (by walk_at "le")) (T.kit k .place) ?_
  walk_at "xs"
  refine x_isp (fun u h => h) (hd _ (by walk_at "le")) (T.kit k .none) ?_
  walk_at "xs"
  refine x_andV (b := true) (ev_is (ev_andV (b := true) (ev_run fun H1 e1 Q1 q1 => ?_) (fun _ => ev_run fun H1 e1 Q1 q1 => ?_)) rfl) fun H1 e1 => ?_
  · walk_at "xs"
    refine x_isp (fun u h => h) (hd _ (by walk_at "le")) (T.kitE k) ?_
    exact q1 _ (Le.refl _)
  · walk_at "xs"
    refine x_isp (fun u h => h) (hd _ (by walk_at "le")) (T.kitV k) ?_
    exact q1 _ (Le.refl _)
  · walk_at "xs"
    refine x_andV (b := true) (ev_is (ev_andV (b := true) (ev_run fun H2 e2 Q2 q2 => ?_) (fun _ => ev_run fun H2 e2 Q2 q2 => ?_)) rfl) fun H2 e2 => q _ (by walk_at "le")
    · walk_at "xs"
      exact q2 _ (Le.refl _)
    · walk_at "xs"
      refine x_cnt (by walk_at "hp") rfl rfl ?_
      walk_at "xs"
      have e : ([V.bl (decide (k = .size)), V.bl (decide (k = .place)), V.bl (decide (k = .none))].countP fun z => eqV z (.bl true)) = 1 := by
        cases k <;> decide +kernel
      rw [e]
      exact q2 _ (Le.refl _)
theorem c_pure {a : Ad} {e : Addr} {k : ExK} {i : Int} {d : Option Addr} {H : Hp} {Q : VK} {E : XK} (hx : ExcIs a k i (.ref (a.x k)) d H) (q : ∀ H', Le H H' → Q (.bl true) H') : sE__law_pure a e (.ref (a.x k)) d [.ref e] H Q E := ⟨rfl, ⟨k, i, hx⟩, q⟩
theorem mkT_good {z : Str} {c : Bool} (h : Good z c) : mkT z c = .txt z c := by
  unfold mkT
  refine if_neg fun q => ?_
  rcases q with q | ⟨q1, q2⟩
  · have := h.2.1; omega
  · exact h.2.2 q1 q2
theorem meets_good {a : Ad} {z : Str} {c : Bool} {H : Hp} {Q : VK} {E : XK} (h : Good z c) (q : ∀ p H', Le H H' → TextAt a H' p z c → Q (.ref p) H') : Meets a (mkT z c) H Q E := by
  rw [mkT_good h]; exact meets_txt q
theorem ok__law_is_text {P : Program} {w : World} {K : PySem.W.Frag} {mg : Str → Option Value} {base : Heap} {a : Ad} {f : Addr} {fd : FuncData} (F : FnP K "_law_is_text" "_law_is_text" s__law_is_text f fd) (T : Txt K mg a) (O_Text___eq__ : OpG P w K mg base 1 a.cText "__eq__" (sp_Text___eq__ a)) (Ct_Text_1_closed : CtG P w K mg base 3 a.cText 1 ["closed"] (spCt_Text_1_closed a)) :
    FnOk P w K mg base (L2.CX P w) 5 f fd ["_law_told", "_law_shown", "_law_closed"] (sp__law_is_text a) := by
  refine F.ok sc__law_is_text (fun vs H Q E h => by obtain ⟨p, z, c, rfl, hg, ht, q⟩ := h; rfl) (fun cdv A outer s H vs Q E hr h => ?_)
  refine ⟨_, (pss_cons (ps_if (PW.pt (pw_or (pt_not (pt_val (pe_callB call_isi (by rfl) T.f_isinstance (by decide +kernel) (pa_cons (pv 0) (pa_cons (pe_glob (v := .ref a.cText) rfl T.g_Text rfl) pa_nil))))) (pw_or1 (pt_not (pt_val (pe_callB call_isi (by rfl) T.f_isinstance (by decide +kernel) (pa_cons (pe_fld (pv 0) rfl) (pa_cons (pe_bltn (v := .ty "str") (by rfl) T.f_str (by decide +kernel) rfl) pa_nil)))))))) (pss_one (ps_ret pe_bl)) pss_nil)
    (pss_cons (ps_if (PW.pt (pw_or (pt_not (pt_val (pe_callB call_isi (by rfl) T.f_isinstance (by decide +kernel) (pa_cons (pe_fld (pv 0) rfl) (pa_cons (pe_bltn (v := .ty "bool") (by rfl) T.f_bool (by decide +kernel) rfl) pa_nil))))) (pw_or1 (pt_cmpR (op_neU hr) (pe_fld (pv 0) rfl) (pv 2) (nomark _))))) (pss_one (ps_ret pe_bl)) pss_nil)
    (pss_cons (ps_set (i := 3) sc__law_is_text.nd rfl (Or.inl rfl) (pe_cmpR (op_eqG O_Text___eq__ (hr.mono (by decide))) (pv 0) (pe_mkG Ct_Text_1_closed (hr.mono (by decide)) (passW (takes_of rfl rfl rfl rfl)) (pe_glob (v := .ref a.cText) rfl T.g_Text rfl) (pa_cons (pv 1) pa_nil) (pk_cons (pv 2) pk_nil)) (nomark _)))
    (pss_one (ps_ret (pe_and (pe_cmpR (op_eqU hr) (pe_fld (pv 0) rfl) (pv 1) (nomark _)) (pe_and (pe_callB call_isi (by rfl) T.f_isinstance (by decide +kernel) (pa_cons (pv 3) (pa_cons (pe_bltn (v := .ty "bool") (by rfl) T.f_bool (by decide +kernel) rfl) pa_nil))) (pe_one (pv 3))))))))), ?_⟩
  obtain ⟨p, z, c, rfl, hg, ht, q⟩ := h
  have hz2 : z.length ≤ 120 := hg.2.1
  walk_at "xs"
  refine x_no (et_is (b := !true || !true) (by walk_at "et") rfl) fun H1 e1 => ?_
  walk_at "xs"
  refine x_no (et_is (b := !true || !(c == c)) (by walk_at "et") (by simp)) fun H2 e2 => ?_
  walk_at "xs"
  refine ⟨_, c, ⟨rfl, rfl⟩, by show z.length ≤ 1000; omega, hg.1, meets_good hg fun p6 H6 e6 h6 => ?_⟩
  have ht6 : TextAt a H6 p z c := by walk_at "hp"
  obtain ⟨dp, hp6⟩ := id ht6
  obtain ⟨dq, hq6⟩ := id h6
  refine x_eqO hp6 (T.insT hq6) T.nfT ⟨p, z, c, p6, z, c, rfl, ht6, h6, fun H7 e7 => ⟨_, rfl, ?_⟩⟩
  walk_at "xs"
  refine x_andV (b := true) (ev_is (b := decide (z = z) && (true && (decide (z = z) && (c == c)))) (by walk_at "ev") (by simp)) fun H8 e8 => q _ (by walk_at "le")
theorem call_kinds {x : R4} {z : Str} {c : Bool} {i : Int} : (∃ w d, aCall x z c i = .txt w d) ∨ ∃ k j, aCall x z c i = .exn k j := by
  unfold aCall mkT
  split
  · exact .inr ⟨_, _, rfl⟩
  · split
    · split
      · exact .inr ⟨_, _, rfl⟩
      · exact .inl ⟨_, _, rfl⟩
    · split
      · exact .inr ⟨_, _, rfl⟩
      · exact .inl ⟨_, _, rfl⟩
theorem told_txt {a : Ad} {H : Hp} {p q : Addr} {r : Ans} {v : V} (h : H p = some (.tup [.str "good", v, .bl true])) (t : Tells a r v H) (hr : ∀ x, r ≠ .val x) : ToldAt a H p r := by
  cases r with
  | exn k i => exact t.elim
  | val x => exact absurd rfl (hr x)
  | txt z c =>
    obtain ⟨p, rfl, h2⟩ := t
    exact ⟨p, h, h2⟩
theorem Tells.le {a : Ad} {H H' : Hp} {r : Ans} {v : V} (e : Le H H') (t : Tells a r v H) : Tells a r v H' := by
  cases r with
  | exn k i => exact t.elim
  | val x => exact t
  | txt z c =>
    obtain ⟨p, h1, h2⟩ := t
    exact ⟨p, h1, h2.le e⟩
theorem take_noval {xs : List R4} {z : Str} {c : Bool} {k i : Int} : ∀ x, aTake xs z c k i ≠ .val x := by
  intro x h
  unfold aTake at h
  split at h
  · rcases call_kinds (x := xs.getD k.toNat ⟨"", "", "", ""⟩) (z := z) (c := c) (i := i) with ⟨w, d, e⟩ | ⟨k, j, e⟩ <;> rw [e] at h <;> cases h
  · cases h
theorem ok__law_do {P : Program} {w : World} {K : PySem.W.Frag} {mg : Str → Option Value} {base : Heap} {a : Ad} {f : Addr} {fd : FuncData} (F : FnP K "_law_do" "_law_do" s__law_do f fd) (T : Txt K mg a) (M_Book_take : MeG P w K mg base 6 a.cBook "take" (sp_Book_take a)) (MK_Book_take_at_number_text : MeK P w K mg base 6 a.cBook "take" ["at", "number", "text"] (spMK_Book_take_at_number_text a)) (I_Rule : CallG P w K mg base 5 a.cRule (sp_Rule___call__ a)) (O_Book___getitem__ : OpG P w K mg base 4 a.cBook "__getitem__" (sp_Book___getitem__ a)) (E__law_pure : FnEG P w K mg base 1 "_law_pure" (sE__law_pure a)) :
    FnOk P w K mg base (L2.CX P w) 7 f fd ["_law_book", "_law_text", "_law_number", "_law_at", "_law_way"] (sp__law_do a) := by
  refine F.ok sc__law_do (fun vs H Q E h => by obtain ⟨p, q, xs, z, c, k, i, way, rfl, fx, hn, gz, hk, hi, hw, hb, ht, hq⟩ := h; rfl) (fun cdv A outer s H vs Q E hr h => ?_)
  refine ⟨_, (pss_cons (ps_set (i := 5) sc__law_do.nd rfl (Or.inl rfl) pe_non)
    (pss_cons (ps_try_asL rfl rfl sc__law_do.nd (takes_of rfl rfl rfl rfl) (fun W pn xe tk po => (pss_one (ps_if (pt_cmpR (op_eqUk K rfl hr) (pv 4) pe_int (nomark _)) (pss_one (ps_set (i := 5) sc__law_do.nd rfl (Or.inl rfl) (pe_methG M_Book_take (hr.mono (by decide)) (passW tk) (pv 0) (pa_cons (pv 1) (pa_cons (pv 2) (pa_cons (pv 3) pa_nil)))))) (pss_one (ps_if (pt_cmpR (op_eqUk K rfl hr) (pv 4) pe_int (nomark _)) (pss_one (ps_set (i := 5) sc__law_do.nd rfl (Or.inl rfl) (pe_methK MK_Book_take_at_number_text (hr.mono (by decide)) (passW tk) (pv 0) (pk_cons (pv 3) (pk_cons (pv 2) (pk_cons (pv 1) pk_nil)))))) (pss_cons (ps_set (i := 7) sc__law_do.nd rfl (Or.inl rfl) (pe_subG O_Book___getitem__ (hr.mono (by decide)) tk (pv 0) (pv 2)))
    (pss_one (ps_set (i := 5) sc__law_do.nd rfl (Or.inl rfl) (pe_callOG I_Rule (hr.mono (by decide)) (passW tk) (pv 7) (pa_cons (pv 1) (pa_cons (pv 3) pa_nil))))))))))) (.cons (i := 6) ⟨rfl, by decide, .inl T.g_NoRule⟩ rfl rfl (fun a0 oe cls d pn hz hf => (pss_one (ps_ret (pe_tup (pa_cons pe_str (pa_cons (pe_xf (T.xf .none) (T.nf .none) hz hf (pv 6)) (pa_cons (pe_callEG E__law_pure ((roomS hr).mono (by decide)) hz hf (by rfl) (pa_cons (pv 6) pa_nil)) pa_nil))))))) (.cons (i := 6) ⟨rfl, by decide, .inl T.g_Mismatch⟩ rfl rfl (fun a0 oe cls d pn hz hf => (pss_one (ps_ret (pe_tup (pa_cons pe_str (pa_cons (pe_xf (T.xf .place) (T.nf .place) hz hf (pv 6)) (pa_cons (pe_callEG E__law_pure ((roomS hr).mono (by decide)) hz hf (by rfl) (pa_cons (pv 6) pa_nil)) pa_nil))))))) (.cons (i := 6) ⟨rfl, by decide, .inl T.g_BadText⟩ rfl rfl (fun a0 oe cls d pn hz hf => (pss_one (ps_ret (pe_tup (pa_cons pe_str (pa_cons (pe_xf (T.xf .size) (T.nf .size) hz hf (pv 6)) (pa_cons (pe_callEG E__law_pure ((roomS hr).mono (by decide)) hz hf (by rfl) (pa_cons (pv 6) pa_nil)) pa_nil))))))) .nil))))
    (pss_one (ps_ret (pe_tup (pa_cons pe_str (pa_cons (pv 5) (pa_cons pe_bl pa_nil)))))))), ?_⟩
  obtain ⟨p, q, xs, z, c, k, i, way, rfl, fx, hn, gz, hk, hi, hw, hb, ht, hq⟩ := h
  walk_at "xs"
  refine x_tryC (fun W => ∀ kd j cls d H' v7, aTake xs z c k i = .exn kd j → Le H H' → ExcIs a kd j cls d H' → W cls d [some (V.ref p), some (V.ref q), some (V.int k), some (V.int i), some (V.int way), some V.non, none, v7] H') ?_ fun W hW => ?_
  · intro kd j cls d H' v7 hkd le hx
    obtain ⟨rfl, hx2⟩ := id hx
    obtain ⟨dd, rfl, hdd⟩ := hx2
    cases kd with
    | none =>
      refine ⟨true, T.exm .none .none, fun _ a0 ha => ?_, fun q => nomatch q⟩
      walk_at "xs"
      refine x_kXf (C := a.x .none) hdd lk1 ?_
      walk_at "xs"
      refine c_pure hx fun H1 e1 => ?_
      walk_at "xs"
      rename_i p5 H5 e5n e5 hp5
      exact hq _ _ (by walk_at "le") (by rw [hkd]; exact hp5)
    | place =>
      refine ⟨false, T.exm .place .none, (fun q => nomatch q), fun _ => ⟨true, T.exm .place .place, fun _ a0 ha => ?_, fun q => nomatch q⟩⟩
      walk_at "xs"
      refine x_kXf (C := a.x .place) hdd lk1 ?_
      walk_at "xs"
      refine c_pure hx fun H1 e1 => ?_
      walk_at "xs"
      rename_i p5 H5 e5n e5 hp5
      exact hq _ _ (by walk_at "le") (by rw [hkd]; exact hp5)
    | size =>
      refine ⟨false, T.exm .size .none, (fun q => nomatch q), fun _ => ⟨false, T.exm .size .place, (fun q => nomatch q), fun _ => ⟨true, T.exm .size .size, fun _ a0 ha => ?_, fun q => nomatch q⟩⟩⟩
      walk_at "xs"
      refine x_kXf (C := a.x .size) hdd lk1 ?_
      walk_at "xs"
      refine c_pure hx fun H1 e1 => ?_
      walk_at "xs"
      rename_i p5 H5 e5n e5 hp5
      exact hq _ _ (by walk_at "le") (by rw [hkd]; exact hp5)
  · have fin : ∀ {H1 : Hp} {Q1 : VK} {v7 : Option V}, Le H H1 → (∀ v H2, Le H1 H2 → Tells a (aTake xs z c k i) v H2 → Q1 v H2) → Meets a (aTake xs z c k i) H1 Q1 (WE W [some (V.ref p), some (V.ref q), some (V.int k), some (V.int i), some (V.int way), some V.non, none, v7]) := by
      intro H1 Q1 v7 le h
      exact ⟨h, fun kd j hk cls d H2 e2 hx => hW kd j cls d H2 v7 hk (le.trans e2) hx⟩
    have tkm : List.lookup ("take" : Str) = fun (l : List (Str × V)) => List.lookup ("take" : Str) l := rfl
    have lkT : ∀ v : V, List.lookup ("take" : Str) [(("_rules" : Str), v)] = none := fun v => by
      have e : (("take" : Str) == "_rules") = false := by decide +kernel
      simp only [List.lookup, e]
    obtain ⟨dx, l, vs, h1, h2, h3⟩ := id hb
    walk_at "xs"
    refine x_if (b := decide (way = 0)) (by walk_at "et") (fun hb1 H1 e1 => ?_) (fun hb1 H1 e1 => ?_)
    · walk_at "xs"
      refine x_kMeth (e1.keep h1) (lkT _) ?_
      walk_at "xs"
      refine ⟨p, q, xs, z, c, k, i, rfl, fx, hn, gz, hk, hi, by walk_at "hp", by walk_at "hp", fin (by walk_at "le") fun v H2 e2 t2 => ?_⟩
      walk_at "xs"
      rename_i p5 H5 e5n e5 hp5
      exact hq _ _ (by walk_at "le") (told_txt (q := p5) hp5 (t2.le e5) take_noval)
    · walk_at "xs"
      refine x_if (b := decide (way = 1)) (by walk_at "et") (fun hb2 H2 e2 => ?_) (fun hb2 H2 e2 => ?_)
      · walk_at "xs"
        refine x_kMethK (e2.keep (e1.keep h1)) (lkT _) ?_
        walk_at "xs"
        refine ⟨p, q, xs, z, c, k, i, rfl, fx, hn, gz, hk, hi, by walk_at "hp", by walk_at "hp", fin (by walk_at "le") fun v H3 e3 t3 => ?_⟩
        walk_at "xs"
        rename_i p5 H5 e5n e5 hp5
        exact hq _ _ (by walk_at "le") (told_txt (q := p5) hp5 (t3.le e5) take_noval)
      · walk_at "xs"
        refine x_subO (e2.keep (e1.keep h1)) ⟨p, xs, k, rfl, hk, hn, by walk_at "hp", fun r x H3 hx e3 hr3 => ?_, fun hbk cls d H3 e3 hX => ?_⟩
        · walk_at "xs"
          have hlt : k.toNat < xs.length := (List.getElem?_eq_some_iff.mp hx.2).1
          have hin : 0 ≤ k ∧ k < xs.length := by omega
          have hxe : xs.getD k.toNat ⟨"", "", "", ""⟩ = x := by rw [List.getD_eq_getElem?_getD, hx.2]; rfl
          have htk : aTake xs z c k i = aCall x z c i := by unfold aTake; rw [if_pos hin, hxe]
          refine ⟨?_, r, q, x, z, c, i, rfl, fx x (List.mem_of_getElem? hx.2), gz, hi, by walk_at "hp", by walk_at "hp", ?_⟩
          · obtain ⟨dr, hr4⟩ := hr3; exact ⟨dr, _, hr4⟩
          · refine Meets.is htk (fin (by walk_at "le") fun v H4 e4 t4 => ?_)
            walk_at "xs"
            rename_i p5 H5 e5n e5 hp5
            exact hq _ _ (by walk_at "le") (told_txt (q := p5) hp5 (t4.le e5) take_noval)
        · exact hW .none k cls d H3 none (by unfold aTake; rw [if_neg hbk]) (by walk_at "le") hX
end K4
set_option maxHeartbeats 4000000
/-! K4J: k04: what is drawn -/
namespace K4
open PySem PySem.Spec PyProof.Rows L2 MC
local macro_rules | `(tactic| walk_at "hp") => `(tactic| first | assumption | (apply Le.keep; assumption; walk_at "hp") | (apply TextAt.le; assumption; walk_at "hp") | (apply Lw.keep; assumption; walk_at "hp"; first | rfl | exact sh_str _ | exact sh_ints _ | exact sh_sgns _) | (apply TextAt.lw; assumption; walk_at "hp"))
local macro_rules | `(tactic| walk_at "le") => `(tactic| first | exact Le.refl _ | assumption | (apply Le.trans'; assumption; walk_at "le"))
local macro_rules | `(tactic| walk_at "lw") => `(tactic| first | exact Lw.refl _ | assumption | exact Le.w (by assumption) | (apply Lw.trans'; (first | assumption | exact Le.w (by assumption)); walk_at "lw"))
local macro_rules | `(tactic| walk_at "sz") => `(tactic| first | omega | (simp only [slen_app]; omega) | (simp only [List.length_append, List.length_cons, List.length_nil, List.length_map, List.length_range]; omega) | omega | (simp; omega) | decide)
local macro_rules | `(tactic| walk_at "x") => `(tactic| first
  | with_reducible refine x_seq ?_ | with_reducible refine x_asg ?_ | with_reducible refine x_ret ?_ | with_reducible refine x_drop ?_
  | ((with_reducible apply x_var); exact rfl) | with_reducible refine x_c ?_ | with_reducible refine x_op ?_ | with_reducible refine x_opS ?_ | with_reducible refine x_un ?_ | with_reducible refine x_neg ?_
  | with_reducible refine x_test ?_ | with_reducible refine x_tB ?_ | with_reducible refine x_kB ?_
  | with_reducible refine x_nil ?_ | with_reducible refine x_cons ?_ | with_reducible refine x_tup ?_ | with_reducible refine x_lst ?_
  | ((with_reducible refine x_kTup ?_ ?_); (walk_at "sz"); (intro _ _ _ _ _)) | ((with_reducible refine x_kLst ?_ ?_); (walk_at "sz"); (intro _ _ _ _ _))
  | with_reducible refine x_fld ?_ | ((with_reducible apply x_fS); assumption; (walk_at "hp")) | ((with_reducible apply x_fC); assumption; (walk_at "hp"))
  | with_reducible refine x_cb ?_ | with_reducible refine x_call ?_ | with_reducible refine x_callE ?_ | with_reducible refine x_bm ?_ | with_reducible refine x_cv ?_
  | with_reducible refine x_meth ?_ | with_reducible refine x_cm ?_ | with_reducible refine x_kCM ?_ | with_reducible refine x_mk ?_ | with_reducible refine x_kMk ?_
  | with_reducible refine x_np ?_ | with_reducible refine x_part ?_ | with_reducible refine x_kPart ?_ | with_reducible refine x_sl ?_ | with_reducible refine x_rev ?_
  | with_reducible refine x_addI ?_ | ((with_reducible refine x_addS ?_ ?_); (walk_at "sz")) | with_reducible refine x_I0 ?_
  | with_reducible refine x_eqS ?_ | with_reducible refine x_eqI ?_ | with_reducible refine x_eqB ?_ | with_reducible refine x_neS ?_ | with_reducible refine x_neI ?_ | with_reducible refine x_neB ?_
  | with_reducible refine x_eqFS ?_ | with_reducible refine x_eqFI ?_
  | with_reducible refine x_ltI ?_ | with_reducible refine x_ltS ?_ | with_reducible refine x_leI ?_ | with_reducible refine x_leS ?_ | with_reducible refine x_inT ?_ | with_reducible refine x_notInT ?_
  | ((with_reducible refine x_slS ?_ ?_); (walk_at "sz")) | ((with_reducible refine x_kRev ?_ ?_); (walk_at "sz"))
  | ((with_reducible refine x_lenS ?_ ?_); (walk_at "sz")) | ((with_reducible apply x_lenT); (walk_at "hp"))
  | ((with_reducible apply x_ixT); (walk_at "hp"); exact rfl)
  | with_reducible refine x_abs ?_ | with_reducible refine x_int ?_ | with_reducible refine x_strS ?_
  | ((with_reducible apply x_isB); (first | exact kit_ty (r := true) (by decide +kernel) | exact kit_ty (r := false) (by decide +kernel))) | ((with_reducible apply x_isI); (first | exact kit_ty (r := true) (by decide +kernel) | exact kit_ty (r := false) (by decide +kernel))) | ((with_reducible apply x_isS); (first | exact kit_ty (r := true) (by decide +kernel) | exact kit_ty (r := false) (by decide +kernel)))
  | ((with_reducible apply x_isT); (walk_at "hp"); (first | exact kit_ty (r := true) (by decide +kernel) | exact kit_ty (r := false) (by decide +kernel)))
  | ((with_reducible apply x_isText); assumption; (walk_at "hp")) | ((with_reducible apply x_isTextS); assumption) | ((with_reducible apply x_isTextI); assumption) | ((with_reducible apply x_isTextN); assumption) | ((with_reducible apply x_kCVT); assumption)
  | ((with_reducible apply x_addL); (walk_at "hp"); (walk_at "hp"); (walk_at "sz"); (intro _ _ _ _ _)) | ((with_reducible apply x_tyL); (walk_at "hp")) | with_reducible refine x_tyS ?_
  | with_reducible refine x_joined ?_ | with_reducible refine x_js ?_ | with_reducible refine x_js0 ?_ | ((with_reducible refine x_kJs ?_ ?_); (walk_at "sz")) | with_reducible refine x_fmt ?_ | ((with_reducible refine x_fmtS ?_ ?_); (walk_at "sz")) | ((with_reducible refine x_fmtI ?_ ?_); omega)
  | with_reducible refine x_rse ?_ | with_reducible refine x_ex ?_ | with_reducible refine x_ex0 ?_ | with_reducible refine x_xf ?_
  | with_reducible refine x_for ?_ | with_reducible refine x_r1 ?_ | with_reducible refine x_r2 ?_ | with_reducible refine x_il ?_ | with_reducible refine x_en ?_ | with_reducible refine x_lc ?_ | with_reducible refine x_next ?_ | dsimp only)
local macro_rules | `(tactic| walk_at "xs") => `(tactic| repeat walk_at "x")
local macro_rules | `(tactic| walk_at "ev0") => `(tactic| (refine ev_run ?_; intro _ _ _ q; walk_at "xs"; refine q _ ?_; walk_at "le"))
local macro_rules | `(tactic| walk_at "ch") => `(tactic| (intro _ _ _ q; walk_at "xs"; refine q _ ?_; walk_at "le"))
local macro_rules | `(tactic| walk_at "ev") => `(tactic| first
  | (focus ((with_reducible refine ev_andV ?_ (fun _ => ?_)); (all_goals walk_at "ev"))) | (focus ((with_reducible refine ev_orV ?_ (fun _ => ?_)); (all_goals walk_at "ev")))
  | ((with_reducible refine ev_notV ?_); walk_at "ev")
  | (focus ((with_reducible apply ev_chain); (focus walk_at "ch"); (focus walk_at "ch"); (focus walk_at "ch"); (focus (intro _ _ _ q; walk_at "x"; exact q)); (focus (intro _ _ _ q; walk_at "x"; exact q))))
  | walk_at "ev0" | skip)
local macro_rules | `(tactic| walk_at "et") => `(tactic| first
  | (focus ((with_reducible refine et_and ?_ (fun _ => ?_)); (all_goals walk_at "et"))) | (focus ((with_reducible refine et_or ?_ (fun _ => ?_)); (all_goals walk_at "et")))
  | ((with_reducible refine et_not ?_); walk_at "et") | ((with_reducible refine et_B ?_); walk_at "ev") | ((with_reducible refine et_T ?_); walk_at "ev"))
local macro_rules | `(tactic| walk_at "hp") => `(tactic| first | assumption | (apply RuleAt.le; assumption; walk_at "hp") | (apply RulesAt.le; assumption; walk_at "hp") | (apply BookAt.le; assumption; walk_at "hp") | (apply RuleAt.lw; assumption; walk_at "hp") | (apply BookAt.lw; assumption; walk_at "hp") | (apply R4s.le; assumption; walk_at "hp") | (apply R4s.lw; assumption; walk_at "hp"))
local macro_rules | `(tactic| walk_at "x") => `(tactic| first
  | ((with_reducible apply x_fO); assumption; (walk_at "hp")) | ((with_reducible apply x_fN); assumption; (walk_at "hp")) | ((with_reducible apply x_fL); assumption; (walk_at "hp")) | ((with_reducible apply x_fR); assumption; (walk_at "hp")) | ((with_reducible apply x_fB); assumption; (walk_at "hp"))
  | ((with_reducible apply x_isRule); assumption; (walk_at "hp")) | ((with_reducible apply x_kCVB); assumption)
  | with_reducible refine x_callO ?_ | with_reducible refine x_kCO ?_ | with_reducible refine x_prop ?_ | with_reducible refine x_max ?_ | with_reducible refine x_intB ?_ | with_reducible refine x_findS ?_ | with_reducible refine x_countS ?_ | with_reducible refine x_isN ?_)
local macro_rules | `(tactic| walk_at "sz") => `(tactic| (simp only [slen_app, elen, len1a, len1b, len1c]; omega))
local macro_rules | `(tactic| walk_at "x") => `(tactic| first
  | with_reducible refine x_sfld ?_ | with_reducible refine x_enL ?_ | with_reducible refine x_enN ?_ | with_reducible refine x_it ?_ | with_reducible refine x_asgT ?_ | ((with_reducible apply x_g2); (walk_at "hp")) | ((with_reducible apply x_g3); (walk_at "hp")) | ((with_reducible apply x_g4); (walk_at "hp"))
  | ((with_reducible apply x_lenL2); (walk_at "hp")) | with_reducible refine x_gseq ?_ | with_reducible refine x_g0 ?_ | with_reducible refine x_gfor ?_ | with_reducible refine x_gps ?_)
local macro_rules | `(tactic| walk_at "x") => `(tactic| first | ((with_reducible refine x_splitS ?_ ?_ ?_); (decide +kernel); (walk_at "sz"); (intro _ _ _ _ _)) | with_reducible refine x_methK ?_ | with_reducible refine x_mkSt ?_ | with_reducible refine x_kMkSt ?_ | ((with_reducible apply x_kStL); (walk_at "hp")))
/-! ### the drawing list -/
def sp__law_next (a : Ad) : Sp := spNext
local macro_rules | `(tactic| walk_at "st") => `(tactic| first | assumption | (apply St.le; assumption; walk_at "st"))
local macro_rules | `(tactic| walk_at "x") => `(tactic| first | ((with_reducible apply x_ixL2); (walk_at "hp"); exact rfl) | ((with_reducible apply x_lenL2); (walk_at "hp")))
theorem ok__law_next {P : Program} {w : World} {K : PySem.W.Frag} {mg : Str → Option Value} {base : Heap} {a : Ad} {f : Addr} {fd : FuncData} (F : FnP K "_law_next" "_law_next" s__law_next f fd) (T : Txt K mg a)  :
    FnOk P w K mg base (L2.CX P w) 1 f fd ["_law_state", "_law_many"] (sp__law_next a) := by
  refine F.ok sc__law_next (fun vs H Q E h => by obtain ⟨s, l, n, rfl, hs, hn, q⟩ := h; rfl) (fun cdv A outer s H vs Q E hr h => ?_)
  refine ⟨_, (pss_cons (ps_if (PW.pt (pw_and (pt_cmpR (op_eqU hr) (pe_ix ix_seq (pv 0) pe_int (fun _ _ => rfl)) pe_int (nomark _)) (pw_and1 (pt_cmpR op_ltU (pe_ix ix_seq (pv 0) pe_int (fun _ _ => rfl)) (pe_callB call_lenU (by rfl) T.f_len (by decide +kernel) (pa_cons (pe_ix ix_seq (pv 0) pe_int (fun _ _ => rfl)) pa_nil)) (nomark _))))) (pss_cons (ps_asg (pe_callB call_absU (by rfl) T.f_abs (by decide +kernel) (pa_cons (pe_ix ix_seq (pe_ix ix_seq (pv 0) pe_int (fun _ _ => rfl)) (pe_ix ix_seq (pv 0) pe_int (fun _ _ => rfl)) (fun _ _ => rfl)) pa_nil)) (pg_sub (pv 0) pe_int set_list))
    (pss_one (ps_asg (pe_op op_addU (pe_ix ix_seq (pv 0) pe_int (fun _ _ => rfl)) pe_int) (pg_sub (pv 0) pe_int set_list)))) pss_nil)
    (pss_cons (ps_set (i := 2) sc__law_next.nd rfl (Or.inl rfl) (pe_op op_modN (pe_callTy call_intU (by rfl) T.f_int (by decide +kernel) (pa_cons (pe_ix ix_seq (pv 0) pe_int (fun _ _ => rfl)) pa_nil)) (pv 1)))
    (pss_cons (ps_asg (pe_op op_fdivN (pe_callTy call_intU (by rfl) T.f_int (by decide +kernel) (pa_cons (pe_ix ix_seq (pv 0) pe_int (fun _ _ => rfl)) pa_nil)) (pv 1)) (pg_sub (pv 0) pe_int set_list))
    (pss_one (ps_ret (pv 2)))))), ?_⟩
  obtain ⟨s, l, n, rfl, hs, hn, q⟩ := h
  obtain ⟨ns, pos, rest, h1, h2, hp, hr⟩ := hs
  have hls : l ≠ s := by
    intro q
    rw [q, h1] at h2
    cases ns <;> cases h2
  walk_at "xs"
  refine x_if (b := decide (rest = 0) && decide (pos < ns.length)) (et_and (et_T (ev_run fun H1 e1 Q1 q1 => ?_)) (fun hb => et_T (ev_run fun H1 e1 Q1 q1 => ?_))) (fun hb H1 e1 => ?_) (fun hb H1 e1 => ?_)
  · walk_at "xs"
    exact q1 _ (Le.refl _)
  · walk_at "xs"
    rw [List.length_map]
    exact q1 _ (Le.refl _)
  · simp only [Bool.and_eq_true, decide_eq_true_eq] at hb
    walk_at "xs"
    refine x_setL ?_
    walk_at "xs"
    refine x_ixL2 (v := .int (ns.getD pos.toNat 0)) (by walk_at "hp") (atI_ints ⟨hp, hb.2⟩) ?_
    walk_at "xs"
    refine x_rSetSt (by walk_at "hp") rfl rfl fun H2 e2 k2 hs2 => ?_
    have hl2 : H2 l = some (.lst (ns.map V.int)) := (k2 l hls).trans (e1.keep h2)
    walk_at "xs"
    refine x_setL ?_
    walk_at "xs"
    refine x_rSetSt (by walk_at "hp") rfl rfl fun H3 e3 k3 hs3 => ?_
    have hl3 : H3 l = some (.lst (ns.map V.int)) := (k3 l hls).trans hl2
    walk_at "xs"
    refine x_I (by show n ≠ 0; omega) ?_
    walk_at "xs"
    refine x_setL ?_
    walk_at "xs"
    refine x_I ⟨by omega, by omega⟩ ?_
    walk_at "xs"
    refine x_rSetSt (by walk_at "hp") rfl rfl fun H4 e4 k4 hs4 => ?_
    have hl4 : H4 l = some (.lst (ns.map V.int)) := (k4 l hls).trans hl3
    walk_at "xs"
    refine q _ _ (Int.fmod_nonneg_of_pos _ hn.1) (Int.fmod_lt_of_pos _ hn.1) (by walk_at "lw") ⟨ns, _, _, hs4, hl4, by omega, Int.fdiv_nonneg ?_ (by omega)⟩
    split <;> omega
  · walk_at "xs"
    refine x_I (by show n ≠ 0; omega) ?_
    walk_at "xs"
    refine x_setL ?_
    walk_at "xs"
    refine x_I ⟨by omega, by omega⟩ ?_
    walk_at "xs"
    refine x_rSetSt (by walk_at "hp") rfl rfl fun H4 e4 k4 hs4 => ?_
    have hl4 : H4 l = some (.lst (ns.map V.int)) := (k4 l hls).trans (e1.keep h2)
    walk_at "xs"
    exact q _ _ (Int.fmod_nonneg_of_pos _ hn.1) (Int.fmod_lt_of_pos _ hn.1) (by walk_at "lw") ⟨ns, _, _, hs4, hl4, hp, Int.fdiv_nonneg hr (by omega)⟩
/-! ### letters, words -/
def sp__law_letters_of (a : Ad) : Sp := fun vs H Q E => ∃ s l, vs = [.ref s] ∧ St H s l ∧ ∀ z H', bad z = none → 2 ≤ z.length → z.length ≤ 4 → Lw H H' → St H' s l → Q (.str z) H'
def sp__law_word_of (a : Ad) : Sp := fun vs H Q E => ∃ s l w n k, vs = [.ref s, .str w, .int n, .int k] ∧ St H s l ∧ bad w = none ∧ (0 < w.length ∧ w.length ≤ 100) ∧ (0 ≤ n ∧ n ≤ 200) ∧ ∀ z H', bad z = none → (z.length : Int) = n → Lw H H' → St H' s l → Q (.str z) H'
theorem alpha_n : ("abcdefghijklmnopqrstuvwxyz" : Str).length = 26 := by decide +kernel
theorem alpha_bad : bad "abcdefghijklmnopqrstuvwxyz" = none := by decide +kernel
theorem bad_one {z : Str} {i : Nat} (h : bad z = none) (hi : i < z.length) : bad ⟨#[z.cps.getD i 0]⟩ = none := by
  rw [bad_l]
  intro c hc
  have : c = z.cps.getD i 0 := by simpa using hc
  rw [this]
  exact bad_none.mp h i hi
theorem join_ok {ys : List Str} (h : ∀ y ∈ ys, bad y = none ∧ y.length = 1) : bad (Txt.join "" ys) = none ∧ (Txt.join "" ys).length = ys.length := by
  have e := joinE_l ys
  constructor
  · rw [bad_l]
    intro c hc
    rw [e] at hc
    obtain ⟨l, hl, hc⟩ := List.mem_flatten.mp hc
    obtain ⟨y, hy, rfl⟩ := List.mem_map.mp hl
    exact bad_l.mp (h y hy).1 c hc
  · rw [← len_l, e]
    clear e
    induction ys with
    | nil => rfl
    | cons y r ih =>
      rw [List.map_cons, List.flatten_cons, List.length_append, ih fun x hx => h x (List.mem_cons_of_mem _ hx), len_l, (h y List.mem_cons_self).2, List.length_cons]
      omega
theorem x_ixN {K : PySem.W.Frag} {H : Hp} {Q : VK} {z : Str} {i : Int} (hz : z.length ≤ 1000000) (hi : 0 ≤ i ∧ i < z.length) (q : Q (.str ⟨#[z.cps.getD i.toNat 0]⟩) H) : rIx K (.str z) (.int i) H Q := x_ixS hz (atI_get hi) q
theorem ok__law_letters_of {P : Program} {w : World} {K : PySem.W.Frag} {mg : Str → Option Value} {base : Heap} {a : Ad} {f : Addr} {fd : FuncData} (F : FnP K "_law_letters_of" "_law_letters_of" s__law_letters_of f fd) (T : Txt K mg a) (G__law_next : FnG P w K mg base 1 "_law_next" (sp__law_next a)) :
    FnOk P w K mg base (L2.CX P w) 2 f fd ["_law_state"] (sp__law_letters_of a) := by
  refine F.ok sc__law_letters_of (fun vs H Q E h => by obtain ⟨s, l, rfl, hs, q⟩ := h; rfl) (fun cdv A outer s H vs Q E hr h => ?_)
  refine ⟨_, (pss_cons (ps_set (i := 1) sc__law_letters_of.nd rfl (Or.inr rfl) pe_str)
    (pss_cons (ps_set (i := 2) sc__law_letters_of.nd rfl (Or.inl rfl) (pe_op op_addU pe_int (pe_callG G__law_next (hr.mono (by decide)) passN rfl (pa_cons (pv 0) (pa_cons pe_int pa_nil)))))
    (pss_cons (ps_set (i := 3) sc__law_letters_of.nd rfl (Or.inr rfl) (pe_callG G__law_next (hr.mono (by decide)) passN rfl (pa_cons (pv 0) (pa_cons pe_int pa_nil))))
    (pss_cons (ps_set (i := 4) sc__law_letters_of.nd rfl (Or.inr rfl) (pe_ix ix_seq (pe_lst (pa_cons pe_int (pa_cons pe_int (pa_cons pe_int (pa_cons pe_int (pa_cons pe_int (pa_cons pe_int (pa_cons pe_int (pa_cons pe_int (pa_cons pe_int (pa_cons pe_int (pa_cons pe_int (pa_cons pe_int pa_nil))))))))))))) (pe_callG G__law_next (hr.mono (by decide)) passN rfl (pa_cons (pv 0) (pa_cons pe_int pa_nil))) (fun _ _ => rfl)))
    (pss_one (ps_ret (pe_bm PySem.F.plainAttrs_str PySem.F.slot_str_join PySem.F.type_str_join mt_joinU pe_str (pa_cons (pe_lc (own := [("_law_k", 5)]) (g := gName 5) (tt := tYes) rfl sc__law_letters_of.nd (pi_range1 (by rfl) T.f_range (pa_cons (pv 2) pa_nil)) (blkOk_by (N := ["_law_state", "_law_base", "_law_many", "_law_at", "_law_step", "_law_k"]) (sc := defScope s__law_letters_of) (by decide +kernel)) (fun _ _ _ _ _ => pg_name (i := 5) sc__law_letters_of.nd rfl (Or.inl rfl)) (fun _ _ _ _ _ => pts_nil) (fun _ _ _ _ _ => (pe_ix (ix_seqk K rfl) (pv 1) (pe_op op_modN (pe_callTy call_intU (by rfl) T.f_int (by decide +kernel) (pa_cons (pe_op op_addU (pv 3) (pe_op op_mulU (pv 5) (pv 4))) pa_nil)) pe_int) (fun _ _ => rfl)))) pa_nil)))))))), ?_⟩
  obtain ⟨s, l, rfl, hs, q⟩ := h
  have l0 : ("" : Str).length = 0 := rfl
  have l26 := alpha_n
  walk_at "xs"
  refine c_next (by walk_at "st") (by omega) fun r1 H1 hr1 hr1' e1 s1 => ?_
  walk_at "xs"
  refine c_next (by walk_at "st") (by omega) fun r2 H2 hr2 hr2' e2 s2 => ?_
  walk_at "xs"
  rename_i p3 H3 n3 e3 h3
  refine c_next (by walk_at "st") (by omega) fun r4 H4 hr4 hr4' e4 s4 => ?_
  walk_at "xs"
  refine x_ixL2 (xs := ([1, 3, 5, 7, 9, 11, 15, 17, 19, 21, 23, 25] : List Int).map V.int) (e4.keep h3 rfl) (atI_ints ⟨hr4, hr4'⟩) ?_
  generalize ([1, 3, 5, 7, 9, 11, 15, 17, 19, 21, 23, 25] : List Int).getD r4.toNat 0 = st
  walk_at "xs"
  refine x_lcR (f := fun (k : Nat) => ⟨#[("abcdefghijklmnopqrstuvwxyz" : Str).cps.getD ((r2 + (k : Int) * st).fmod 26).toNat 0]⟩) (by omega) (fun _ => rfl) (fun i H5 hi e5 Qe qe => ?_) fun p H5 n5 e5 h5 => ?_
  · walk_at "xs"
    refine x_mulI (by omega) ?_
    walk_at "xs"
    refine x_I (by decide) ?_
    walk_at "xs"
    have f1 := Int.fmod_nonneg_of_pos (r2 + (i : Int) * st) (show (0 : Int) < 26 by decide)
    have f2 := Int.fmod_lt_of_pos (r2 + (i : Int) * st) (show (0 : Int) < 26 by decide)
    refine x_ixN (by rw [l26]; omega) (by rw [l26]; omega) ?_
    exact qe _ (Le.refl _)
  · have hy : ∀ y ∈ (List.range (2 + r1).toNat).map (fun (k : Nat) => (⟨#[("abcdefghijklmnopqrstuvwxyz" : Str).cps.getD ((r2 + (k : Int) * st).fmod 26).toNat 0]⟩ : Str)), bad y = none ∧ y.length = 1 := by
      intro y hy
      obtain ⟨k, _, rfl⟩ := List.mem_map.mp hy
      have f1 := Int.fmod_nonneg_of_pos (r2 + (k : Int) * st) (show (0 : Int) < 26 by decide)
      have f2 := Int.fmod_lt_of_pos (r2 + (k : Int) * st) (show (0 : Int) < 26 by decide)
      exact ⟨bad_one alpha_bad (by rw [l26]; omega), rfl⟩
    obtain ⟨j1, j2⟩ := join_ok hy
    rw [List.length_map, List.length_range] at j2
    refine x_join h5 ?_ ?_
    · rw [sum_ones' _ fun y h => (hy y h).2, List.length_map, List.length_range, l0]
      omega
    · exact q _ _ j1 (by omega) (by omega) (by walk_at "lw") (by walk_at "st")
theorem ok__law_word_of {P : Program} {w : World} {K : PySem.W.Frag} {mg : Str → Option Value} {base : Heap} {a : Ad} {f : Addr} {fd : FuncData} (F : FnP K "_law_word_of" "_law_word_of" s__law_word_of f fd) (T : Txt K mg a) (G__law_next : FnG P w K mg base 1 "_law_next" (sp__law_next a)) :
    FnOk P w K mg base (L2.CX P w) 2 f fd ["_law_state", "_law_signs", "_law_size", "_law_shift"] (sp__law_word_of a) := by
  refine F.ok sc__law_word_of (fun vs H Q E h => by obtain ⟨s, l, w, n, k, rfl, hs, hb, hw, hn, q⟩ := h; rfl) (fun cdv A outer s H vs Q E hr h => ?_)
  refine ⟨_, (pss_cons (ps_set (i := 4) sc__law_word_of.nd rfl (Or.inl rfl) (pe_callB call_lenU (by rfl) T.f_len (by decide +kernel) (pa_cons (pv 1) pa_nil)))
    (pss_cons (ps_set (i := 5) sc__law_word_of.nd rfl (Or.inl rfl) pe_str)
    (pss_cons (ps_for (by first | exact po | exact PassesOwn.never | exact passes_of rfl) rfl (pi_range1 (by rfl) T.f_range (pa_cons (pv 2) pa_nil)) (pg_name (i := 6) sc__law_word_of.nd rfl (Or.inl rfl)) (pss_cons (ps_set (i := 7) sc__law_word_of.nd rfl (Or.inl rfl) (pe_op op_modN (pe_callTy call_intU (by rfl) T.f_int (by decide +kernel) (pa_cons (pe_op op_addU (pe_op op_addU (pe_callG G__law_next (hr.mono (by decide)) passN rfl (pa_cons (pv 0) (pa_cons (pv 4) pa_nil))) (pv 3)) (pv 6)) pa_nil)) (pv 4)))
    (pss_one (ps_set (i := 5) sc__law_word_of.nd rfl (Or.inl rfl) (pe_op op_addU (pv 5) (pe_ix ix_seq (pv 1) (pv 7) (fun _ _ => rfl)))))))
    (pss_one (ps_ret (pv 5)))))), ?_⟩
  obtain ⟨s, l, w, n, k, rfl, hs, hb, hw, hn, q⟩ := h
  have l0 : ("" : Str).length = 0 := rfl
  walk_at "xs"
  refine x_for1 (by omega) (fun i σ' H' => (∃ z v1 v2, σ' = [some (V.ref s), some (V.str w), some (V.int n), some (V.int k), some (V.int (w.length : Nat)), some (V.str z), v1, v2] ∧ bad z = none ∧ z.length = i) ∧ Lw H H' ∧ St H' s l) ⟨⟨"", _, _, rfl, rfl, rfl⟩, Lw.refl H, hs⟩ ?_ ?_
  · rintro i σ' H1 hi ⟨⟨z, v1, v2, rfl, hz, hl⟩, e1, s1⟩
    walk_at "xs"
    refine c_next (by walk_at "st") (by omega) fun r2 H2 hr2 hr2' e2 s2 => ?_
    walk_at "xs"
    refine x_I (by show ((w.length : Nat) : Int) ≠ 0; omega) ?_
    have f1 := Int.fmod_nonneg_of_pos (r2 + k + (i : Int)) (show (0 : Int) < (w.length : Nat) by omega)
    have f2 := Int.fmod_lt_of_pos (r2 + k + (i : Int)) (show (0 : Int) < (w.length : Nat) by omega)
    walk_at "xs"
    refine x_ixN (by omega) ⟨f1, f2⟩ ?_
    have l1 : (⟨#[w.cps.getD ((r2 + k + (i : Int)).fmod (w.length : Nat)).toNat 0]⟩ : Str).length = 1 := rfl
    walk_at "xs"
    exact ⟨⟨_, _, _, rfl, bad_app hz (bad_one hb (by omega)), by rw [slen_app, l1]; omega⟩, e1.trans e2, s2⟩
  · rintro σ' H1 ⟨⟨z, v1, v2, rfl, hz, hl⟩, e1, s1⟩
    walk_at "xs"
    exact q z _ hz (by omega) e1 s1
theorem c_word {a : Ad} {H : Hp} {Q : VK} {E : XK} {s l : Addr} {w : Str} {n k : Int} (hs : St H s l) (hb : bad w = none) (hw : 0 < w.length ∧ w.length ≤ 100) (hn : 0 ≤ n ∧ n ≤ 200) (q : ∀ z H', bad z = none → (z.length : Int) = n → Lw H H' → St H' s l → Q (.str z) H') : sp__law_word_of a [.ref s, .str w, .int n, .int k] H Q E := ⟨s, l, w, n, k, rfl, hs, hb, hw, hn, q⟩
/-! ### rules -/
def sp__law_rule_of (a : Ad) : Sp := fun vs H Q E => ∃ s l g k, vs = [.ref s, .str g, .int k] ∧ St H s l ∧ bad g = none ∧ (0 < g.length ∧ g.length ≤ 100) ∧ (0 ≤ k ∧ k ≤ 100) ∧ ∀ p x H', Fine x → Lw H H' → St H' s l → H' p = some (.tup x.vs) → Q (.ref p) H'
def sp__law_rules_of (a : Ad) : Sp := fun vs H Q E => ∃ s l g, vs = [.ref s, .str g] ∧ St H s l ∧ bad g = none ∧ (0 < g.length ∧ g.length ≤ 100) ∧
  ∀ p us xs H', (∀ x ∈ xs, Fine x) → xs.Nodup → 1 ≤ xs.length → xs.length ≤ 8 → Lw H H' → St H' s l → H' p = some (.lst us) → R4s H' us xs → Q (.ref p) H'
theorem fmodb (x : Int) {n : Int} (h : 0 < n) : 0 ≤ x.fmod n ∧ x.fmod n < n := ⟨Int.fmod_nonneg_of_pos _ h, Int.fmod_lt_of_pos _ h⟩
theorem ok__law_rule_of {P : Program} {w : World} {K : PySem.W.Frag} {mg : Str → Option Value} {base : Heap} {a : Ad} {f : Addr} {fd : FuncData} (F : FnP K "_law_rule_of" "_law_rule_of" s__law_rule_of f fd) (T : Txt K mg a) (G__law_word_of : FnG P w K mg base 2 "_law_word_of" (sp__law_word_of a)) (G__law_next : FnG P w K mg base 1 "_law_next" (sp__law_next a)) :
    FnOk P w K mg base (L2.CX P w) 3 f fd ["_law_state", "_law_signs", "_law_k"] (sp__law_rule_of a) := by
  refine F.ok sc__law_rule_of (fun vs H Q E h => by obtain ⟨s, l, g, k, rfl, hs, hb, hg, hk, q⟩ := h; rfl) (fun cdv A outer s H vs Q E hr h => ?_)
  refine ⟨_, (pss_cons (ps_set (i := 3) sc__law_rule_of.nd rfl (Or.inl rfl) (pe_ix ix_seq (pe_lst (pa_cons pe_int (pa_cons pe_int (pa_cons pe_int (pa_cons pe_int pa_nil))))) (pe_op op_modN (pe_callTy call_intU (by rfl) T.f_int (by decide +kernel) (pa_cons (pe_op op_addU (pe_callG G__law_next (hr.mono (by decide)) passN rfl (pa_cons (pv 0) (pa_cons pe_int pa_nil))) (pv 2)) pa_nil)) pe_int) (fun _ _ => rfl)))
    (pss_cons (ps_set (i := 4) sc__law_rule_of.nd rfl (Or.inl rfl) (pe_callG G__law_word_of (hr.mono (by decide)) passN rfl (pa_cons (pv 0) (pa_cons (pv 1) (pa_cons (pv 3) (pa_cons (pv 2) pa_nil))))))
    (pss_cons (ps_set (i := 3) sc__law_rule_of.nd rfl (Or.inl rfl) (pe_ix ix_seq (pe_lst (pa_cons pe_int (pa_cons pe_int (pa_cons pe_int pa_nil)))) (pe_op op_modN (pe_callTy call_intU (by rfl) T.f_int (by decide +kernel) (pa_cons (pe_op op_addU (pe_callG G__law_next (hr.mono (by decide)) passN rfl (pa_cons (pv 0) (pa_cons pe_int pa_nil))) (pv 2)) pa_nil)) pe_int) (fun _ _ => rfl)))
    (pss_cons (ps_set (i := 5) sc__law_rule_of.nd rfl (Or.inl rfl) (pe_callG G__law_word_of (hr.mono (by decide)) passN rfl (pa_cons (pv 0) (pa_cons (pv 1) (pa_cons (pv 3) (pa_cons (pv 2) pa_nil))))))
    (pss_cons (ps_set (i := 3) sc__law_rule_of.nd rfl (Or.inl rfl) (pe_op op_addU pe_int (pe_op op_modN (pe_callTy call_intU (by rfl) T.f_int (by decide +kernel) (pa_cons (pe_op op_addU (pe_callG G__law_next (hr.mono (by decide)) passN rfl (pa_cons (pv 0) (pa_cons pe_int pa_nil))) (pe_op op_fdivN (pv 2) pe_int)) pa_nil)) pe_int)))
    (pss_cons (ps_set (i := 6) sc__law_rule_of.nd rfl (Or.inl rfl) (pe_callG G__law_word_of (hr.mono (by decide)) passN rfl (pa_cons (pv 0) (pa_cons (pv 1) (pa_cons (pv 3) (pa_cons (pe_op op_addU (pv 2) pe_int) pa_nil))))))
    (pss_cons (ps_set (i := 3) sc__law_rule_of.nd rfl (Or.inl rfl) (pe_ix ix_seq (pe_lst (pa_cons pe_int (pa_cons pe_int (pa_cons pe_int (pa_cons pe_int pa_nil))))) (pe_op op_modN (pe_callTy call_intU (by rfl) T.f_int (by decide +kernel) (pa_cons (pe_op op_addU (pe_callG G__law_next (hr.mono (by decide)) passN rfl (pa_cons (pv 0) (pa_cons pe_int pa_nil))) (pe_op op_fdivN (pv 2) pe_int)) pa_nil)) pe_int) (fun _ _ => rfl)))
    (pss_one (ps_ret (pe_tup (pa_cons (pv 4) (pa_cons (pv 5) (pa_cons (pv 6) (pa_cons (pe_callG G__law_word_of (hr.mono (by decide)) passN rfl (pa_cons (pv 0) (pa_cons (pv 1) (pa_cons (pv 3) (pa_cons (pv 2) pa_nil))))) pa_nil)))))))))))))), ?_⟩
  obtain ⟨s, l, g, k, rfl, hs, hb, hg, hk, q⟩ := h
  walk_at "xs"
  rename_i p1 H1 n1 e1 h1
  refine c_next (by walk_at "st") (by omega) fun r2 H2 hr2 hr2' e2 s2 => ?_
  walk_at "xs"
  refine x_I (by decide) ?_
  have b1 := fmodb (r2 + k) (show (0 : Int) < 4 by decide)
  refine x_ixP (fun n => 0 ≤ n ∧ n ≤ 2) [0, 0, 1, 2] (e2.keep h1 rfl) b1 (by decide) fun n3 hn3 => ?_
  walk_at "xs"
  refine c_word (by walk_at "st") hb hg (by omega) fun zl H3 hzl hzl2 e3 s3 => ?_
  walk_at "xs"
  rename_i p4 H4 n4 e4 h4
  refine c_next (by walk_at "st") (by omega) fun r5 H5 hr5 hr5' e5 s5 => ?_
  walk_at "xs"
  refine x_I (by decide) ?_
  have b2 := fmodb (r5 + k) (show (0 : Int) < 3 by decide)
  refine x_ixP (fun n => 1 ≤ n ∧ n ≤ 3) [2, 1, 3] (e5.keep h4 rfl) b2 (by decide) fun n6 hn6 => ?_
  walk_at "xs"
  refine c_word (by walk_at "st") hb hg (by omega) fun zo H6 hzo hzo2 e6 s6 => ?_
  walk_at "xs"
  refine c_next (by walk_at "st") (by omega) fun r7 H7 hr7 hr7' e7 s7 => ?_
  walk_at "xs"
  refine x_I ⟨by decide, by decide⟩ ?_
  walk_at "xs"
  refine x_I (by decide) ?_
  have b3 := fmodb (r7 + k.fdiv 2) (show (0 : Int) < 3 by decide)
  walk_at "xs"
  refine c_word (by walk_at "st") hb hg (by omega) fun zn H8 hzn hzn2 e8 s8 => ?_
  walk_at "xs"
  rename_i p9 H9 n9 e9 h9
  refine c_next (by walk_at "st") (by omega) fun r10 H10 hr10 hr10' e10 s10 => ?_
  walk_at "xs"
  refine x_I ⟨by decide, by decide⟩ ?_
  walk_at "xs"
  refine x_I (by decide) ?_
  have b4 := fmodb (r10 + k.fdiv 4) (show (0 : Int) < 4 by decide)
  refine x_ixP (fun n => 0 ≤ n ∧ n ≤ 2) [0, 0, 1, 2] (e10.keep h9 rfl) b4 (by decide) fun n11 hn11 => ?_
  walk_at "xs"
  refine c_word (by walk_at "st") hb hg (by omega) fun zr H11 hzr hzr2 e11 s11 => ?_
  walk_at "xs"
  rename_i p12 H12 n12 e12 h12
  exact q p12 ⟨zl, zo, zn, zr⟩ H12 ⟨⟨hzl, by show zl.length ≤ 2; omega⟩, ⟨hzo, by show 1 ≤ zo.length; omega, by show zo.length ≤ 3; omega⟩, ⟨hzn, by show 1 ≤ zn.length; omega, by show zn.length ≤ 3; omega⟩, ⟨hzr, by show zr.length ≤ 2; omega⟩⟩ (by walk_at "lw") (by walk_at "st") h12
theorem ok_of_bad {z : Str} (h : bad z = none) (hl : z.length ≤ 1000) : PyData.strOk z = true := by
  unfold PyData.strOk
  have h1 := all128 h
  simp [h1]
  intro i hi
  have h2 := Array.all_eq_true.mp h1 i hi
  simp at h2
  omega
theorem Fine.ok {x : R4} (h : Fine x) : x.ok := ⟨ok_of_bad h.l.1 (by have := h.l.2; omega), ok_of_bad h.o.1 (by have := h.o.2; omega), ok_of_bad h.n.1 (by have := h.n.2; omega), ok_of_bad h.r.1 (by have := h.r.2; omega)⟩
theorem ok__law_rules_of {P : Program} {w : World} {K : PySem.W.Frag} {mg : Str → Option Value} {base : Heap} {a : Ad} {f : Addr} {fd : FuncData} (F : FnP K "_law_rules_of" "_law_rules_of" s__law_rules_of f fd) (T : Txt K mg a) (G__law_next : FnG P w K mg base 1 "_law_next" (sp__law_next a)) (G__law_rule_of : FnG P w K mg base 3 "_law_rule_of" (sp__law_rule_of a)) :
    FnOk P w K mg base (L2.CX P w) 4 f fd ["_law_state", "_law_signs"] (sp__law_rules_of a) := by
  refine F.ok sc__law_rules_of (fun vs H Q E h => by obtain ⟨s, l, g, rfl, hs, hb, hg, q⟩ := h; rfl) (fun cdv A outer s H vs Q E hr h => ?_)
  refine ⟨_, (pss_cons (ps_set (i := 2) sc__law_rules_of.nd rfl (Or.inl rfl) (pe_lst pa_nil))
    (pss_cons (ps_for (by first | exact po | exact PassesOwn.never | exact passes_of rfl) rfl (pi_range1 (by rfl) T.f_range (pa_cons (pe_ix ix_seq (pe_lst (pa_cons pe_int (pa_cons pe_int (pa_cons pe_int (pa_cons pe_int (pa_cons pe_int (pa_cons pe_int (pa_cons pe_int (pa_cons pe_int pa_nil))))))))) (pe_callG G__law_next (hr.mono (by decide)) passN rfl (pa_cons (pv 0) (pa_cons pe_int pa_nil))) (fun _ _ => rfl)) pa_nil)) (pg_name (i := 3) sc__law_rules_of.nd rfl (Or.inl rfl)) (pss_cons (ps_set (i := 4) sc__law_rules_of.nd rfl (Or.inl rfl) (pe_callG G__law_rule_of (hr.mono (by decide)) passN rfl (pa_cons (pv 0) (pa_cons (pv 1) (pa_cons (pv 3) pa_nil)))))
    (pss_one (ps_if (pt_cmpR (op_notInD (by have := hr.un; show (A.deeper _).units + _ < _; omega)) (pv 4) (pv 2) (by rfl)) (pss_one (ps_expr (pe_bm PySem.F.plainAttrs_list PySem.F.slot_list_append PySem.F.type_list_append mt_append (pv 2) (pa_cons (pv 4) pa_nil)))) pss_nil))))
    (pss_one (ps_ret (pv 2))))), ?_⟩
  obtain ⟨s, l, g, rfl, hs, hb, hg, q⟩ := h
  walk_at "xs"
  rename_i p1 H1 n1 e1 h1 p2 H2 n2 e2 h2
  refine c_next (by walk_at "st") (by omega) fun r2 H3 hr2 hr2' e3 s3 => ?_
  refine x_ixP (fun n => 1 ≤ n ∧ n ≤ 8) [2, 1, 3, 4, 2, 1, 3, 8] (e3.keep h2 rfl) ⟨hr2, hr2'⟩ (by decide) fun n hn => ?_
  have hps : s ≠ p1 ∧ l ≠ p1 := hs.ne n1
  have h13 : H3 p1 = some (.lst []) := e3.keep (e2.keep h1) rfl
  have eH : Lw H H3 := by walk_at "lw"
  refine x_for1 (by omega) (fun i σ' H' => (∃ v1 v2, σ' = [some (V.ref s), some (V.str g), some (V.ref p1), v1, v2]) ∧ Lw H H' ∧ St H' s l ∧ ∃ us xs, H' p1 = some (.lst us) ∧ R4s H' us xs ∧ (∀ x ∈ xs, Fine x) ∧ xs.Nodup ∧ xs.length ≤ i ∧ (1 ≤ i → 1 ≤ xs.length)) ⟨⟨_, _, rfl⟩, eH, s3, [], [], h13, trivial, (fun x h => by cases h), List.nodup_nil, Nat.le_refl _, fun h => by omega⟩ ?_ ?_
  · rintro i σ' H4 hi ⟨⟨v1, v2, rfl⟩, e4, s4, us, xs, hp4, hr4, fx, hd, hl, hl1⟩
    walk_at "xs"
    refine ⟨s, l, g, _, rfl, s4, hb, hg, by omega, fun p5 x H5 hx e5 s5 hp5 => ?_⟩
    have hr5 := hr4.lw e5
    have hp15 := e5.keep hp4 hr4.sh
    walk_at "xs"
    refine x_if (b := !decide (x ∈ xs)) (et_T (ev_run fun H6 e6 Q6 q6 => ?_)) (fun hb6 H6 e6 => ?_) (fun hb6 H6 e6 => ?_)
    · walk_at "xs"
      exact x_notIn4 (e6.keep hp5) (e6.keep hp15) (hr5.le e6) hx.ok (fun y hy => (fx y hy).ok) (q6 _ (Le.refl _))
    · have hx6 : x ∉ xs := by simpa using hb6
      have hlen := hr4.len
      walk_at "xs"
      refine x_app (e6.keep hp15) (by omega) ?_
      refine ⟨⟨_, _, rfl⟩, lw_own ((e4.trans e5).trans e6.w) n1, (s5.le e6).put hps, us ++ [.ref p5], xs ++ [x], upd_same, R4s.put (e6.keep hp15) (R4s.app (e6.keep hp5) (hr5.le e6)), ?_, ?_, ?_, ?_⟩
      · intro y hy
        rcases List.mem_append.mp hy with hy | hy
        · exact fx y hy
        · rw [List.mem_singleton.mp hy]; exact hx
      · rw [List.nodup_append]
        refine ⟨hd, by simp, fun a ha b hb => ?_⟩
        rw [List.mem_singleton.mp hb]
        intro z
        rw [z] at ha; exact hx6 ha
      · rw [List.length_append, List.length_singleton]; omega
      · intro _; rw [List.length_append, List.length_singleton]; omega
    · walk_at "xs"
      refine ⟨⟨_, _, rfl⟩, (e4.trans e5).trans e6.w, s5.le e6, us, xs, e6.keep hp15, hr5.le e6, fx, hd, by omega, fun _ => ?_⟩
      have hx6 : x ∈ xs := by simpa using hb6
      exact List.length_pos_of_mem hx6
  · rintro σ' H4 ⟨⟨v1, v2, rfl⟩, e4, s4, us, xs, hp4, hr4, fx, hd, hl, hl1⟩
    walk_at "xs"
    exact q p1 us xs H4 fx hd (hl1 (by omega)) (by omega) e4 s4 hp4 hr4
end K4
set_option maxHeartbeats 4000000
/-! K4K: k04: texts, lines, books -/
namespace K4
open PySem PySem.Spec PyProof.Rows L2 MC
local macro_rules | `(tactic| walk_at "hp") => `(tactic| first | assumption | (apply Le.keep; assumption; walk_at "hp") | (apply TextAt.le; assumption; walk_at "hp") | (apply Lw.keep; assumption; walk_at "hp"; first | rfl | exact sh_str _ | exact sh_ints _ | exact sh_sgns _) | (apply TextAt.lw; assumption; walk_at "hp"))
local macro_rules | `(tactic| walk_at "le") => `(tactic| first | exact Le.refl _ | assumption | (apply Le.trans'; assumption; walk_at "le"))
local macro_rules | `(tactic| walk_at "lw") => `(tactic| first | exact Lw.refl _ | assumption | exact Le.w (by assumption) | (apply Lw.trans'; (first | assumption | exact Le.w (by assumption)); walk_at "lw"))
local macro_rules | `(tactic| walk_at "sz") => `(tactic| first | omega | (simp only [slen_app]; omega) | (simp only [List.length_append, List.length_cons, List.length_nil, List.length_map, List.length_range]; omega) | omega | (simp; omega) | decide)
local macro_rules | `(tactic| walk_at "x") => `(tactic| first
  | with_reducible refine x_seq ?_ | with_reducible refine x_asg ?_ | with_reducible refine x_ret ?_ | with_reducible refine x_drop ?_
  | ((with_reducible apply x_var); exact rfl) | with_reducible refine x_c ?_ | with_reducible refine x_op ?_ | with_reducible refine x_opS ?_ | with_reducible refine x_un ?_ | with_reducible refine x_neg ?_
  | with_reducible refine x_test ?_ | with_reducible refine x_tB ?_ | with_reducible refine x_kB ?_
  | with_reducible refine x_nil ?_ | with_reducible refine x_cons ?_ | with_reducible refine x_tup ?_ | with_reducible refine x_lst ?_
  | ((with_reducible refine x_kTup ?_ ?_); (walk_at "sz"); (intro _ _ _ _ _)) | ((with_reducible refine x_kLst ?_ ?_); (walk_at "sz"); (intro _ _ _ _ _))
  | with_reducible refine x_fld ?_ | ((with_reducible apply x_fS); assumption; (walk_at "hp")) | ((with_reducible apply x_fC); assumption; (walk_at "hp"))
  | with_reducible refine x_cb ?_ | with_reducible refine x_call ?_ | with_reducible refine x_callE ?_ | with_reducible refine x_bm ?_ | with_reducible refine x_cv ?_
  | with_reducible refine x_meth ?_ | with_reducible refine x_cm ?_ | with_reducible refine x_kCM ?_ | with_reducible refine x_mk ?_ | with_reducible refine x_kMk ?_
  | with_reducible refine x_np ?_ | with_reducible refine x_part ?_ | with_reducible refine x_kPart ?_ | with_reducible refine x_sl ?_ | with_reducible refine x_rev ?_
  | with_reducible refine x_addI ?_ | ((with_reducible refine x_addS ?_ ?_); (walk_at "sz")) | with_reducible refine x_I0 ?_
  | with_reducible refine x_eqS ?_ | with_reducible refine x_eqI ?_ | with_reducible refine x_eqB ?_ | with_reducible refine x_neS ?_ | with_reducible refine x_neI ?_ | with_reducible refine x_neB ?_
  | with_reducible refine x_eqFS ?_ | with_reducible refine x_eqFI ?_
  | with_reducible refine x_ltI ?_ | with_reducible refine x_ltS ?_ | with_reducible refine x_leI ?_ | with_reducible refine x_leS ?_ | with_reducible refine x_inT ?_ | with_reducible refine x_notInT ?_
  | ((with_reducible refine x_slS ?_ ?_); (walk_at "sz")) | ((with_reducible refine x_kRev ?_ ?_); (walk_at "sz"))
  | ((with_reducible refine x_lenS ?_ ?_); (walk_at "sz")) | ((with_reducible apply x_lenT); (walk_at "hp"))
  | ((with_reducible apply x_ixT); (walk_at "hp"); exact rfl)
  | with_reducible refine x_abs ?_ | with_reducible refine x_int ?_ | with_reducible refine x_strS ?_
  | ((with_reducible apply x_isB); (first | exact kit_ty (r := true) (by decide +kernel) | exact kit_ty (r := false) (by decide +kernel))) | ((with_reducible apply x_isI); (first | exact kit_ty (r := true) (by decide +kernel) | exact kit_ty (r := false) (by decide +kernel))) | ((with_reducible apply x_isS); (first | exact kit_ty (r := true) (by decide +kernel) | exact kit_ty (r := false) (by decide +kernel)))
  | ((with_reducible apply x_isT); (walk_at "hp"); (first | exact kit_ty (r := true) (by decide +kernel) | exact kit_ty (r := false) (by decide +kernel)))
  | ((with_reducible apply x_isText); assumption; (walk_at "hp")) | ((with_reducible apply x_isTextS); assumption) | ((with_reducible apply x_isTextI); assumption) | ((with_reducible apply x_isTextN); assumption) | ((with_reducible apply x_kCVT); assumption)
  | ((with_reducible apply x_addL); (walk_at "hp"); (walk_at "hp"); (walk_at "sz"); (intro _ _ _ _ _)) | ((with_reducible apply x_tyL); (walk_at "hp")) | with_reducible refine x_tyS ?_
  | with_reducible refine x_joined ?_ | with_reducible refine x_js ?_ | with_reducible refine x_js0 ?_ | ((with_reducible refine x_kJs ?_ ?_); (walk_at "sz")) | with_reducible refine x_fmt ?_ | ((with_reducible refine x_fmtS ?_ ?_); (walk_at "sz")) | ((with_reducible refine x_fmtI ?_ ?_); omega)
  | with_reducible refine x_rse ?_ | with_reducible refine x_ex ?_ | with_reducible refine x_ex0 ?_ | with_reducible refine x_xf ?_
  | with_reducible refine x_for ?_ | with_reducible refine x_r1 ?_ | with_reducible refine x_r2 ?_ | with_reducible refine x_il ?_ | with_reducible refine x_en ?_ | with_reducible refine x_lc ?_ | with_reducible refine x_next ?_ | dsimp only)
local macro_rules | `(tactic| walk_at "xs") => `(tactic| repeat walk_at "x")
local macro_rules | `(tactic| walk_at "ev0") => `(tactic| (refine ev_run ?_; intro _ _ _ q; walk_at "xs"; refine q _ ?_; walk_at "le"))
local macro_rules | `(tactic| walk_at "ch") => `(tactic| (intro _ _ _ q; walk_at "xs"; refine q _ ?_; walk_at "le"))
local macro_rules | `(tactic| walk_at "ev") => `(tactic| first
  | (focus ((with_reducible refine ev_andV ?_ (fun _ => ?_)); (all_goals walk_at "ev"))) | (focus ((with_reducible refine ev_orV ?_ (fun _ => ?_)); (all_goals walk_at "ev")))
  | ((with_reducible refine ev_notV ?_); walk_at "ev")
  | (focus ((with_reducible apply ev_chain); (focus walk_at "ch"); (focus walk_at "ch"); (focus walk_at "ch"); (focus (intro _ _ _ q; walk_at "x"; exact q)); (focus (intro _ _ _ q; walk_at "x"; exact q))))
  | walk_at "ev0" | skip)
local macro_rules | `(tactic| walk_at "et") => `(tactic| first
  | (focus ((with_reducible refine et_and ?_ (fun _ => ?_)); (all_goals walk_at "et"))) | (focus ((with_reducible refine et_or ?_ (fun _ => ?_)); (all_goals walk_at "et")))
  | ((with_reducible refine et_not ?_); walk_at "et") | ((with_reducible refine et_B ?_); walk_at "ev") | ((with_reducible refine et_T ?_); walk_at "ev"))
local macro_rules | `(tactic| walk_at "hp") => `(tactic| first | assumption | (apply RuleAt.le; assumption; walk_at "hp") | (apply RulesAt.le; assumption; walk_at "hp") | (apply BookAt.le; assumption; walk_at "hp") | (apply RuleAt.lw; assumption; walk_at "hp") | (apply BookAt.lw; assumption; walk_at "hp") | (apply R4s.le; assumption; walk_at "hp") | (apply R4s.lw; assumption; walk_at "hp"))
local macro_rules | `(tactic| walk_at "x") => `(tactic| first
  | ((with_reducible apply x_fO); assumption; (walk_at "hp")) | ((with_reducible apply x_fN); assumption; (walk_at "hp")) | ((with_reducible apply x_fL); assumption; (walk_at "hp")) | ((with_reducible apply x_fR); assumption; (walk_at "hp")) | ((with_reducible apply x_fB); assumption; (walk_at "hp"))
  | ((with_reducible apply x_isRule); assumption; (walk_at "hp")) | ((with_reducible apply x_kCVB); assumption)
  | with_reducible refine x_callO ?_ | with_reducible refine x_kCO ?_ | with_reducible refine x_prop ?_ | with_reducible refine x_max ?_ | with_reducible refine x_intB ?_ | with_reducible refine x_findS ?_ | with_reducible refine x_countS ?_ | with_reducible refine x_isN ?_)
local macro_rules | `(tactic| walk_at "sz") => `(tactic| (simp only [slen_app, elen, len1a, len1b, len1c]; omega))
local macro_rules | `(tactic| walk_at "x") => `(tactic| first
  | with_reducible refine x_sfld ?_ | with_reducible refine x_enL ?_ | with_reducible refine x_enN ?_ | with_reducible refine x_it ?_ | with_reducible refine x_asgT ?_ | ((with_reducible apply x_g2); (walk_at "hp")) | ((with_reducible apply x_g3); (walk_at "hp")) | ((with_reducible apply x_g4); (walk_at "hp"))
  | ((with_reducible apply x_lenL2); (walk_at "hp")) | with_reducible refine x_gseq ?_ | with_reducible refine x_g0 ?_ | with_reducible refine x_gfor ?_ | with_reducible refine x_gps ?_)
local macro_rules | `(tactic| walk_at "x") => `(tactic| first | ((with_reducible refine x_splitS ?_ ?_ ?_); (decide +kernel); (walk_at "sz"); (intro _ _ _ _ _)) | with_reducible refine x_methK ?_ | with_reducible refine x_mkSt ?_ | with_reducible refine x_kMkSt ?_ | ((with_reducible apply x_kStL); (walk_at "hp")))
local macro_rules | `(tactic| walk_at "st") => `(tactic| first | assumption | (apply St.le; assumption; walk_at "st"))
local macro_rules | `(tactic| walk_at "x") => `(tactic| first | ((with_reducible apply x_ixL2); (walk_at "hp"); exact rfl) | ((with_reducible apply x_lenL2); (walk_at "hp")))
local macro_rules | `(tactic| walk_at "hp") => `(tactic| first | assumption | (apply Rs.le; assumption; walk_at "hp") | (apply Rs.lw; assumption; walk_at "hp"))
local macro_rules | `(tactic| walk_at "x") => `(tactic| first | ((with_reducible apply x_r0); (walk_at "hp")) | ((with_reducible apply x_r1'); (walk_at "hp")) | ((with_reducible apply x_r2'); (walk_at "hp")) | ((with_reducible apply x_r3); (walk_at "hp")) | ((with_reducible apply x_lenRs); (walk_at "hp")))
def sp__law_text_of (a : Ad) : Sp := fun vs H Q E => ∃ s l g p xs n, vs = [.ref s, .str g, .ref p, .int n] ∧ St H s l ∧ bad g = none ∧ (0 < g.length ∧ g.length ≤ 100) ∧ Rs H p xs ∧ (∀ x ∈ xs, Fine x) ∧ (1 ≤ xs.length ∧ xs.length ≤ 8) ∧ (0 ≤ n ∧ n ≤ 15) ∧
  ∀ z H', bad z = none → (z.length : Int) = n → Lw H H' → St H' s l → Q (.str z) H'
def sp__law_form_of (a : Ad) : Sp := fun vs H Q E => ∃ p x, vs = [.ref p] ∧ Fine x ∧ H p = some (.tup x.vs) ∧ ∀ H', Le H H' → Q (.str (form x)) H'
def sp__law_book_of (a : Ad) : Sp := fun vs H Q E => ∃ p xs, vs = [.ref p] ∧ Rs H p xs ∧ (∀ x ∈ xs, Fine x) ∧ xs.Nodup ∧ (1 ≤ xs.length ∧ xs.length ≤ 8) ∧ ∀ q H', Le H H' → BookAt a H' q xs → Q (.ref q) H'
def sp__law_over_the_end (a : Ad) : Sp := fun vs H Q E => ∃ s l g p xs, vs = [.ref s, .str g, .ref p] ∧ St H s l ∧ bad g = none ∧ (0 < g.length ∧ g.length ≤ 100) ∧ Rs H p xs ∧ (∀ x ∈ xs, Fine x) ∧ (1 ≤ xs.length ∧ xs.length ≤ 8) ∧
  ∀ z H', bad z = none → 1 ≤ z.length → z.length ≤ 20 → Lw H H' → St H' s l → Q (.str z) H'
def sp__law_long (a : Ad) : Sp := fun vs H Q E => ∃ s l g p x, vs = [.ref s, .str g, .ref p] ∧ St H s l ∧ bad g = none ∧ (0 < g.length ∧ g.length ≤ 100) ∧ H p = some (.tup x.vs) ∧ Fine x ∧
  ∀ z H', bad z = none → 1 ≤ z.length → z.length ≤ 120 → Lw H H' → St H' s l → Q (.str z) H'
theorem cut_len_to (z : Str) (n : Nat) : (cutS z none (some ((n : Nat) : Int))).length = min n z.length := by
  rw [← len_l, cut_l, HT.sIx_none, HT.sIx_nat, List.drop_zero, List.length_take, len_l]; omega
theorem cut_len_from (z : Str) (n : Nat) : (cutS z (some ((n : Nat) : Int)) none).length = z.length - n := by
  rw [← len_l, cut_l, HT.sIx_none, HT.sIx_nat, List.length_take, List.length_drop, len_l]; omega
theorem ok__law_text_of {P : Program} {w : World} {K : PySem.W.Frag} {mg : Str → Option Value} {base : Heap} {a : Ad} {f : Addr} {fd : FuncData} (F : FnP K "_law_text_of" "_law_text_of" s__law_text_of f fd) (T : Txt K mg a) (G__law_next : FnG P w K mg base 1 "_law_next" (sp__law_next a)) (G__law_word_of : FnG P w K mg base 2 "_law_word_of" (sp__law_word_of a)) :
    FnOk P w K mg base (L2.CX P w) 3 f fd ["_law_state", "_law_signs", "_law_rules", "_law_many"] (sp__law_text_of a) := by
  refine F.ok sc__law_text_of (fun vs H Q E h => by obtain ⟨s, l, g, p, xs, n, rfl, hs, hb, hg, hr, fx, hx, hn, q⟩ := h; rfl) (fun cdv A outer s H vs Q E hr h => ?_)
  refine ⟨_, (pss_cons (ps_set (i := 4) sc__law_text_of.nd rfl (Or.inl rfl) pe_str)
    (pss_cons (ps_for (by first | exact po | exact PassesOwn.never | exact passes_of rfl) rfl (pi_range1 (by rfl) T.f_range (pa_cons (pv 3) pa_nil)) (pg_name (i := 5) sc__law_text_of.nd rfl (Or.inl rfl)) (pss_one (ps_if (pt_cmpR (op_eqU hr) (pe_callG G__law_next (hr.mono (by decide)) passN rfl (pa_cons (pv 0) (pa_cons pe_int pa_nil))) pe_int (nomark _)) (pss_cons (ps_set (i := 6) sc__law_text_of.nd rfl (Or.inl rfl) (pe_ix ix_seq (pv 2) (pe_callG G__law_next (hr.mono (by decide)) passN rfl (pa_cons (pv 0) (pa_cons (pe_callB call_lenU (by rfl) T.f_len (by decide +kernel) (pa_cons (pv 2) pa_nil)) pa_nil))) (fun _ _ => rfl)))
    (pss_one (ps_set (i := 4) sc__law_text_of.nd rfl (Or.inl rfl) (pe_op op_addU (pe_op op_addU (pe_op op_addU (pv 4) (pe_ix ix_seq (pv 6) pe_int (fun _ _ => rfl))) (pe_ix ix_seq (pv 6) pe_int (fun _ _ => rfl))) (pe_ix ix_seq (pv 6) pe_int (fun _ _ => rfl)))))) (pss_one (ps_set (i := 4) sc__law_text_of.nd rfl (Or.inl rfl) (pe_op op_addU (pv 4) (pe_callG G__law_word_of (hr.mono (by decide)) passN rfl (pa_cons (pv 0) (pa_cons (pv 1) (pa_cons pe_int (pa_cons (pv 5) pa_nil)))))))))))
    (pss_one (ps_ret (pe_slice sl_U (pv 4) po_none (po_some (pv 3))))))), ?_⟩
  obtain ⟨s, l, g, p, xs, n, rfl, hs, hb, hg, hr, fx, hx, hn, q⟩ := h
  have l0 : ("" : Str).length = 0 := rfl
  walk_at "xs"
  refine x_for1 (by omega) (fun i σ' H' => (∃ z v1 v2, σ' = [some (V.ref s), some (V.str g), some (V.ref p), some (V.int n), some (V.str z), v1, v2] ∧ bad z = none ∧ i ≤ z.length ∧ z.length ≤ 7 * i) ∧ Lw H H' ∧ St H' s l) ⟨⟨"", _, _, rfl, rfl, Nat.zero_le _, Nat.le_refl _⟩, Lw.refl H, hs⟩ ?_ ?_
  · rintro i σ' H1 hi ⟨⟨z, v1, v2, rfl, hz, hl1, hl2⟩, e1, s1⟩
    walk_at "xs"
    refine x_ifK ?_
    walk_at "xs"
    refine c_next (by walk_at "st") (by omega) fun r2 H2 hr2 hr2' e2 s2 => ?_
    walk_at "xs"
    refine x_kIf (fun _ => ?_) (fun _ => ?_)
    · walk_at "xs"
      refine c_next (by walk_at "st") (by omega) fun r3 H3 hr3 hr3' e3 s3 => ?_
      have hr4 : Rs H3 p xs := by walk_at "hp"
      refine x_ixRs hr4 ⟨hr3, hr3'⟩ fun r x hx3 hrx => ?_
      have f := fx x (List.mem_of_getElem? hx3)
      have f1 := f.l.2
      have f2 := f.o.2
      have f3 := f.r.2
      walk_at "xs"
      refine ⟨⟨_, _, _, rfl, bad_app (bad_app (bad_app hz f.l.1) f.o.1) f.r.1, by simp only [slen_app]; omega, by simp only [slen_app]; omega⟩, by walk_at "lw", s3⟩
    · walk_at "xs"
      refine c_word (by walk_at "st") hb hg (by omega) fun zl H3 hzl hzl2 e3 s3 => ?_
      walk_at "xs"
      refine ⟨⟨_, _, _, rfl, bad_app hz hzl, by simp only [slen_app]; omega, by simp only [slen_app]; omega⟩, by walk_at "lw", s3⟩
  · rintro σ' H1 ⟨⟨z, v1, v2, rfl, hz, hl1, hl2⟩, e1, s1⟩
    walk_at "xs"
    have hnn : n = ((n.toNat : Nat) : Int) := by omega
    refine q _ H1 (bad_cut hz) ?_ e1 s1
    rw [hnn, cut_len_to]
    omega
theorem ok__law_form_of {P : Program} {w : World} {K : PySem.W.Frag} {mg : Str → Option Value} {base : Heap} {a : Ad} {f : Addr} {fd : FuncData} (F : FnP K "_law_form_of" "_law_form_of" s__law_form_of f fd) (T : Txt K mg a)  :
    FnOk P w K mg base (L2.CX P w) 1 f fd ["_law_rule"] (sp__law_form_of a) := by
  refine F.ok sc__law_form_of (fun vs H Q E h => by obtain ⟨p, x, rfl, f, hp, q⟩ := h; rfl) (fun cdv A outer s H vs Q E hr h => ?_)
  refine ⟨_, (pss_one (ps_ret (pe_op op_addU (pe_op op_addU (pe_op op_addU (pe_op op_addU (pe_op op_addU (pe_op op_addU (pe_ix ix_seq (pv 0) pe_int (fun _ _ => rfl)) pe_str) (pe_ix ix_seq (pv 0) pe_int (fun _ _ => rfl))) pe_str) (pe_ix ix_seq (pv 0) pe_int (fun _ _ => rfl))) pe_str) (pe_ix ix_seq (pv 0) pe_int (fun _ _ => rfl))))), ?_⟩
  obtain ⟨p, x, rfl, f, hp, q⟩ := h
  have f1 := f.l.2
  have f2 := f.o.2
  have f3 := f.r.2
  have f4 := f.n.2
  have c1 : ("(" : Str).length = 1 := by decide +kernel
  have c2 : (">" : Str).length = 1 := by decide +kernel
  have c3 : (")" : Str).length = 1 := by decide +kernel
  walk_at "xs"
  exact q _ (Le.refl _)
theorem forms_sum {xs : List R4} (fx : ∀ x ∈ xs, Fine x) : ((xs.map form).map (·.length)).sum ≤ 13 * xs.length := by
  induction xs with
  | nil => simp
  | cons x r ih =>
    have := ih fun y hy => fx y (List.mem_cons_of_mem _ hy)
    have fx1 := fx x List.mem_cons_self
    have f1 := fx1.l.2
    have f2 := fx1.o.2.2
    have f3 := fx1.r.2
    have f4 := fx1.n.2.2
    have hz := form_len x
    simp only [List.map_cons, List.sum_cons, List.length_cons]
    omega
theorem ok__law_book_of {P : Program} {w : World} {K : PySem.W.Frag} {mg : Str → Option Value} {base : Heap} {a : Ad} {f : Addr} {fd : FuncData} (F : FnP K "_law_book_of" "_law_book_of" s__law_book_of f fd) (T : Txt K mg a) (C_Book_read : CmG P w K mg base 7 a.cBook "read" (sp_Book_read a)) (G__law_form_of : FnG P w K mg base 1 "_law_form_of" (sp__law_form_of a)) :
    FnOk P w K mg base (L2.CX P w) 8 f fd ["_law_rules"] (sp__law_book_of a) := by
  refine F.ok sc__law_book_of (fun vs H Q E h => by obtain ⟨p, xs, rfl, hr, fx, hd, hx, q⟩ := h; rfl) (fun cdv A outer s H vs Q E hr h => ?_)
  refine ⟨_, (pss_one (ps_ret (pe_cmethG C_Book_read (hr.mono (by decide)) passN (pe_glob (v := .ref a.cBook) rfl T.g_Book rfl) (pa_cons (pe_bm PySem.F.plainAttrs_str PySem.F.slot_str_join PySem.F.type_str_join mt_joinU pe_str (pa_cons (pe_lc (own := [("_law_rule", 1)]) (g := gName 1) (tt := tYes) rfl sc__law_book_of.nd (pi_list (pv 0)) (blkOk_by (N := ["_law_rules", "_law_rule"]) (sc := defScope s__law_book_of) (by decide +kernel)) (fun _ _ _ _ _ => pg_name (i := 1) sc__law_book_of.nd rfl (Or.inl rfl)) (fun _ _ _ _ _ => pts_nil) (fun _ _ _ _ _ => (pe_callG G__law_form_of (hr.mono (by decide)) passN rfl (pa_cons (pv 1) pa_nil)))) pa_nil)) pa_nil)))), ?_⟩
  obtain ⟨p, xs, rfl, hr, fx, hd, hx, q⟩ := h
  obtain ⟨us, h1, h2⟩ := hr
  have hlen := h2.len
  have l1 : ("\n" : Str).length = 1 := by decide +kernel
  walk_at "xs"
  refine x_lcLS (fun i => form (xs.getD i ⟨"", "", "", ""⟩)) h1 (by omega) (fun _ => rfl) (fun i v H' hv e Qe qe => ?_) fun r H1 hr e1 hr1 => ?_
  · obtain ⟨t, y, hy, rfl, hty⟩ := h2.at hv
    walk_at "xs"
    have hg : xs.getD i ⟨"", "", "", ""⟩ = y := by rw [List.getD_eq_getElem?_getD, hy]; rfl
    rw [hg] at qe
    exact ⟨t, y, rfl, fx y (List.mem_of_getElem? hy), e.keep hty, qe⟩
  · rw [map_range form _ xs hlen] at hr1
    have hs := forms_sum fx
    walk_at "xs"
    refine x_join (z := "\n") hr1 (by rw [List.length_map, l1]; omega) ?_
    walk_at "xs"
    exact ⟨xs, rfl, fx, hd, hx.1, hx.2, fun b H2 e2 hb => q b H2 (e1.trans e2) hb⟩
theorem ok__law_over_the_end {P : Program} {w : World} {K : PySem.W.Frag} {mg : Str → Option Value} {base : Heap} {a : Ad} {f : Addr} {fd : FuncData} (F : FnP K "_law_over_the_end" "_law_over_the_end" s__law_over_the_end f fd) (T : Txt K mg a) (G__law_next : FnG P w K mg base 1 "_law_next" (sp__law_next a)) (G__law_word_of : FnG P w K mg base 2 "_law_word_of" (sp__law_word_of a)) :
    FnOk P w K mg base (L2.CX P w) 3 f fd ["_law_state", "_law_signs", "_law_rules"] (sp__law_over_the_end a) := by
  refine F.ok sc__law_over_the_end (fun vs H Q E h => by obtain ⟨s, l, g, p, xs, rfl, hs, hb, hg, hr, fx, hx, q⟩ := h; rfl) (fun cdv A outer s H vs Q E hr h => ?_)
  refine ⟨_, (pss_cons (ps_set (i := 3) sc__law_over_the_end.nd rfl (Or.inl rfl) (pe_ix ix_seq (pv 2) (pe_callG G__law_next (hr.mono (by decide)) passN rfl (pa_cons (pv 0) (pa_cons (pe_callB call_lenU (by rfl) T.f_len (by decide +kernel) (pa_cons (pv 2) pa_nil)) pa_nil))) (fun _ _ => rfl)))
    (pss_cons (ps_set (i := 4) sc__law_over_the_end.nd rfl (Or.inl rfl) (pe_callG G__law_word_of (hr.mono (by decide)) passN rfl (pa_cons (pv 0) (pa_cons (pv 1) (pa_cons (pe_ix ix_seq (pe_lst (pa_cons pe_int (pa_cons pe_int (pa_cons pe_int (pa_cons pe_int pa_nil))))) (pe_callG G__law_next (hr.mono (by decide)) passN rfl (pa_cons (pv 0) (pa_cons pe_int pa_nil))) (fun _ _ => rfl)) (pa_cons pe_int pa_nil))))))
    (pss_cons (ps_set (i := 5) sc__law_over_the_end.nd rfl (Or.inl rfl) (pe_op op_addU (pe_op op_addU (pe_op op_addU (pe_ix ix_seq (pv 3) pe_int (fun _ _ => rfl)) (pe_ix ix_seq (pv 3) pe_int (fun _ _ => rfl))) (pe_ix ix_seq (pv 3) pe_int (fun _ _ => rfl))) (pv 4)))
    (pss_cons (ps_set (i := 6) sc__law_over_the_end.nd rfl (Or.inl rfl) (pe_op op_addU (pe_op op_addU (pe_callB call_lenU (by rfl) T.f_len (by decide +kernel) (pa_cons (pe_ix ix_seq (pv 3) pe_int (fun _ _ => rfl)) pa_nil)) pe_int) (pe_callG G__law_next (hr.mono (by decide)) passN rfl (pa_cons (pv 0) (pa_cons (pe_callB (call_maxU rfl) (by rfl) T.f_max (by decide +kernel) (pa_cons pe_int (pa_cons (pe_op op_sub (pe_callB call_lenU (by rfl) T.f_len (by decide +kernel) (pa_cons (pe_ix ix_seq (pv 3) pe_int (fun _ _ => rfl)) pa_nil)) pe_int) pa_nil))) pa_nil)))))
    (pss_one (ps_ret (pe_op op_addU (pe_slice sl_U (pv 5) (po_some (pv 6)) po_none) (pe_slice sl_U (pv 5) po_none (po_some (pv 6)))))))))), ?_⟩
  obtain ⟨s, l, g, p, xs, rfl, hs, hb, hg, hr, fx, hx, q⟩ := h
  walk_at "xs"
  refine c_next (by walk_at "st") (by omega) fun r1 H1 hr1 hr1' e1 s1 => ?_
  have hr2 : Rs H1 p xs := by walk_at "hp"
  refine x_ixRs hr2 ⟨hr1, hr1'⟩ fun t x hx3 hrx => ?_
  have f := fx x (List.mem_of_getElem? hx3)
  have f1 := f.l.2
  have f2 := f.o.2
  have f3 := f.r.2
  walk_at "xs"
  rename_i p2 H2 n2 e2 h2
  refine c_next (by walk_at "st") (by omega) fun r3 H3 hr3 hr3' e3 s3 => ?_
  refine x_ixP (fun n => 0 ≤ n ∧ n ≤ 3) [2, 1, 0, 3] (e3.keep h2 rfl) ⟨hr3, hr3'⟩ (by decide) fun n4 hn4 => ?_
  walk_at "xs"
  refine c_word (by walk_at "st") hb hg (by omega) fun zl H4 hzl hzl2 e4 s4 => ?_
  have hrx4 : H4 t = some (.tup x.vs) := e4.keep (e3.keep (e2.keep hrx) rfl) rfl
  have hL := slen_app (x.l ++ x.o ++ x.r) zl
  have hL2 := slen_app (x.l ++ x.o) x.r
  have hL3 := slen_app x.l x.o
  walk_at "xs"
  have hmx : (0 : Int) < (if ((x.o.length : Nat) : Int) - 1 > 1 then ((x.o.length : Nat) : Int) - 1 else 1) ∧ (if ((x.o.length : Nat) : Int) - 1 > 1 then ((x.o.length : Nat) : Int) - 1 else 1) < 1000 := by split <;> omega
  refine c_next (by walk_at "st") hmx fun r5 H5 hr5 hr5' e5 s5 => ?_
  have c1 := cut_len (x.l ++ x.o ++ x.r ++ zl)
  walk_at "xs"
  have hcc : ((x.l.length : Nat) : Int) + 1 + r5 = ((x.l.length + 1 + r5.toNat : Nat) : Int) := by omega
  have c3 := c1 (some (((x.l.length : Nat) : Int) + 1 + r5)) none
  have c4 := c1 none (some (((x.l.length : Nat) : Int) + 1 + r5))
  walk_at "xs"
  refine q _ _ (bad_app (bad_cut ?_) (bad_cut ?_)) ?_ ?_ (by walk_at "lw") s5
  · exact bad_app (bad_app (bad_app f.l.1 f.o.1) f.r.1) hzl
  · exact bad_app (bad_app (bad_app f.l.1 f.o.1) f.r.1) hzl
  · rw [slen_app, hcc, cut_len_from, cut_len_to]; omega
  · rw [slen_app]; omega
theorem rep_l (z : Str) (n : Nat) (hn : 0 < n) : (repS z (n : Nat)).cps.toList = (List.replicate n z.cps.toList).flatten := by
  unfold repS
  rw [if_neg (by omega)]
  simp
theorem bad_rep {z : Str} {n : Nat} (hn : 0 < n) (h : bad z = none) : bad (repS z (n : Nat)) = none := by
  rw [bad_l] at *
  intro c hc
  rw [rep_l z n hn] at hc
  obtain ⟨l, hl, hc⟩ := List.mem_flatten.mp hc
  rw [List.eq_of_mem_replicate hl] at hc
  exact h c hc
theorem rep_len (z : Str) (n : Nat) (hn : 0 < n) : (repS z (n : Nat)).length = n * z.length := by
  rw [← len_l, rep_l z n hn, List.length_flatten]
  simp [Str.length]
theorem ok__law_long {P : Program} {w : World} {K : PySem.W.Frag} {mg : Str → Option Value} {base : Heap} {a : Ad} {f : Addr} {fd : FuncData} (F : FnP K "_law_long" "_law_long" s__law_long f fd) (T : Txt K mg a) (G__law_word_of : FnG P w K mg base 2 "_law_word_of" (sp__law_word_of a)) (G__law_next : FnG P w K mg base 1 "_law_next" (sp__law_next a)) :
    FnOk P w K mg base (L2.CX P w) 3 f fd ["_law_state", "_law_signs", "_law_rule"] (sp__law_long a) := by
  refine F.ok sc__law_long (fun vs H Q E h => by obtain ⟨s, l, g, p, x, rfl, hs, hb, hg, hp, f, q⟩ := h; rfl) (fun cdv A outer s H vs Q E hr h => ?_)
  refine ⟨_, (pss_cons (ps_set (i := 3) sc__law_long.nd rfl (Or.inl rfl) (pe_op op_addU pe_int (pe_callG G__law_next (hr.mono (by decide)) passN rfl (pa_cons (pv 0) (pa_cons pe_int pa_nil)))))
    (pss_cons (ps_set (i := 4) sc__law_long.nd rfl (Or.inl rfl) (pe_callG G__law_word_of (hr.mono (by decide)) passN rfl (pa_cons (pv 0) (pa_cons (pv 1) (pa_cons (pe_callG G__law_next (hr.mono (by decide)) passN rfl (pa_cons (pv 0) (pa_cons pe_int pa_nil))) (pa_cons pe_int pa_nil))))))
    (pss_cons (ps_set (i := 5) sc__law_long.nd rfl (Or.inl rfl) (pe_op op_addU (pe_op op_addU (pe_op op_addU (pe_ix ix_seq (pv 2) pe_int (fun _ _ => rfl)) (pe_ix ix_seq (pv 2) pe_int (fun _ _ => rfl))) (pe_ix ix_seq (pv 2) pe_int (fun _ _ => rfl))) (pv 4)))
    (pss_one (ps_ret (pe_slice sl_U (pe_op op_mulU (pv 5) pe_int) po_none (po_some (pv 3)))))))), ?_⟩
  obtain ⟨s, l, g, p, x, rfl, hs, hb, hg, hp, f, q⟩ := h
  have f1 := f.l.2
  have f2 := f.o.2
  have f3 := f.r.2
  walk_at "xs"
  refine c_next (by walk_at "st") (by omega) fun r1 H1 hr1 hr1' e1 s1 => ?_
  walk_at "xs"
  refine c_next (by walk_at "st") (by omega) fun r2 H2 hr2 hr2' e2 s2 => ?_
  walk_at "xs"
  refine c_word (by walk_at "st") hb hg (by omega) fun zl H4 hzl hzl2 e4 s4 => ?_
  have hrx4 : H4 p = some (.tup x.vs) := by walk_at "hp"
  have hL := slen_app (x.l ++ x.o ++ x.r) zl
  have hL2 := slen_app (x.l ++ x.o) x.r
  have hL3 := slen_app x.l x.o
  walk_at "xs"
  refine x_mulS (by decide) (by decide) (by omega) ?_
  have hrl := rep_len (x.l ++ x.o ++ x.r ++ zl) 120 (by decide)
  have hrb := bad_rep (n := 120) (by decide) (bad_app (bad_app (bad_app f.l.1 f.o.1) f.r.1) hzl)
  have e120 : ((120 : Nat) : Int) = (120 : Int) := rfl
  rw [e120] at hrl hrb
  walk_at "xs"
  have hcc : (117 : Int) + r1 = ((117 + r1.toNat : Nat) : Int) := by omega
  refine q _ _ (bad_cut hrb) ?_ ?_ (by walk_at "lw") s4
  · rw [hcc, cut_len_to]; omega
  · rw [hcc, cut_len_to]; omega
end K4
set_option maxHeartbeats 4000000
/-! K4L: k04: what is due -/
namespace K4
open PySem PySem.Spec PyProof.Rows L2 MC
local macro_rules | `(tactic| walk_at "hp") => `(tactic| first | assumption | (apply Le.keep; assumption; walk_at "hp") | (apply TextAt.le; assumption; walk_at "hp") | (apply Lw.keep; assumption; walk_at "hp"; first | rfl | exact sh_str _ | exact sh_ints _ | exact sh_sgns _) | (apply TextAt.lw; assumption; walk_at "hp"))
local macro_rules | `(tactic| walk_at "le") => `(tactic| first | exact Le.refl _ | assumption | (apply Le.trans'; assumption; walk_at "le"))
local macro_rules | `(tactic| walk_at "lw") => `(tactic| first | exact Lw.refl _ | assumption | exact Le.w (by assumption) | (apply Lw.trans'; (first | assumption | exact Le.w (by assumption)); walk_at "lw"))
local macro_rules | `(tactic| walk_at "sz") => `(tactic| first | omega | (simp only [slen_app]; omega) | (simp only [List.length_append, List.length_cons, List.length_nil, List.length_map, List.length_range]; omega) | omega | (simp; omega) | decide)
local macro_rules | `(tactic| walk_at "x") => `(tactic| first
  | with_reducible refine x_seq ?_ | with_reducible refine x_asg ?_ | with_reducible refine x_ret ?_ | with_reducible refine x_drop ?_
  | ((with_reducible apply x_var); exact rfl) | with_reducible refine x_c ?_ | with_reducible refine x_op ?_ | with_reducible refine x_opS ?_ | with_reducible refine x_un ?_ | with_reducible refine x_neg ?_
  | with_reducible refine x_test ?_ | with_reducible refine x_tB ?_ | with_reducible refine x_kB ?_
  | with_reducible refine x_nil ?_ | with_reducible refine x_cons ?_ | with_reducible refine x_tup ?_ | with_reducible refine x_lst ?_
  | ((with_reducible refine x_kTup ?_ ?_); (walk_at "sz"); (intro _ _ _ _ _)) | ((with_reducible refine x_kLst ?_ ?_); (walk_at "sz"); (intro _ _ _ _ _))
  | with_reducible refine x_fld ?_ | ((with_reducible apply x_fS); assumption; (walk_at "hp")) | ((with_reducible apply x_fC); assumption; (walk_at "hp"))
  | with_reducible refine x_cb ?_ | with_reducible refine x_call ?_ | with_reducible refine x_callE ?_ | with_reducible refine x_bm ?_ | with_reducible refine x_cv ?_
  | with_reducible refine x_meth ?_ | with_reducible refine x_cm ?_ | with_reducible refine x_kCM ?_ | with_reducible refine x_mk ?_ | with_reducible refine x_kMk ?_
  | with_reducible refine x_np ?_ | with_reducible refine x_part ?_ | with_reducible refine x_kPart ?_ | with_reducible refine x_sl ?_ | with_reducible refine x_rev ?_
  | with_reducible refine x_addI ?_ | ((with_reducible refine x_addS ?_ ?_); (walk_at "sz")) | with_reducible refine x_I0 ?_
  | with_reducible refine x_eqS ?_ | with_reducible refine x_eqI ?_ | with_reducible refine x_eqB ?_ | with_reducible refine x_neS ?_ | with_reducible refine x_neI ?_ | with_reducible refine x_neB ?_
  | with_reducible refine x_eqFS ?_ | with_reducible refine x_eqFI ?_
  | with_reducible refine x_ltI ?_ | with_reducible refine x_ltS ?_ | with_reducible refine x_leI ?_ | with_reducible refine x_leS ?_ | with_reducible refine x_inT ?_ | with_reducible refine x_notInT ?_
  | ((with_reducible refine x_slS ?_ ?_); (walk_at "sz")) | ((with_reducible refine x_kRev ?_ ?_); (walk_at "sz"))
  | ((with_reducible refine x_lenS ?_ ?_); (walk_at "sz")) | ((with_reducible apply x_lenT); (walk_at "hp"))
  | ((with_reducible apply x_ixT); (walk_at "hp"); exact rfl)
  | with_reducible refine x_abs ?_ | with_reducible refine x_int ?_ | with_reducible refine x_strS ?_
  | ((with_reducible apply x_isB); (first | exact kit_ty (r := true) (by decide +kernel) | exact kit_ty (r := false) (by decide +kernel))) | ((with_reducible apply x_isI); (first | exact kit_ty (r := true) (by decide +kernel) | exact kit_ty (r := false) (by decide +kernel))) | ((with_reducible apply x_isS); (first | exact kit_ty (r := true) (by decide +kernel) | exact kit_ty (r := false) (by decide +kernel)))
  | ((with_reducible apply x_isT); (walk_at "hp"); (first | exact kit_ty (r := true) (by decide +kernel) | exact kit_ty (r := false) (by decide +kernel)))
  | ((with_reducible apply x_isText); assumption; (walk_at "hp")) | ((with_reducible apply x_isTextS); assumption) | ((with_reducible apply x_isTextI); assumption) | ((with_reducible apply x_isTextN); assumption) | ((with_reducible apply x_kCVT); assumption)
  | ((with_reducible apply x_addL); (walk_at "hp"); (walk_at "hp"); (walk_at "sz"); (intro _ _ _ _ _)) | ((with_reducible apply x_tyL); (walk_at "hp")) | with_reducible refine x_tyS ?_
  | with_reducible refine x_joined ?_ | with_reducible refine x_js ?_ | with_reducible refine x_js0 ?_ | ((with_reducible refine x_kJs ?_ ?_); (walk_at "sz")) | with_reducible refine x_fmt ?_ | ((with_reducible refine x_fmtS ?_ ?_); (walk_at "sz")) | ((with_reducible refine x_fmtI ?_ ?_); omega)
  | with_reducible refine x_rse ?_ | with_reducible refine x_ex ?_ | with_reducible refine x_ex0 ?_ | with_reducible refine x_xf ?_
  | with_reducible refine x_for ?_ | with_reducible refine x_r1 ?_ | with_reducible refine x_r2 ?_ | with_reducible refine x_il ?_ | with_reducible refine x_en ?_ | with_reducible refine x_lc ?_ | with_reducible refine x_next ?_ | dsimp only)
local macro_rules | `(tactic| walk_at "xs") => `(tactic| repeat walk_at "x")
local macro_rules | `(tactic| walk_at "ev0") => `(tactic| (refine ev_run ?_; intro _ _ _ q; walk_at "xs"; refine q _ ?_; walk_at "le"))
local macro_rules | `(tactic| walk_at "ch") => `(tactic| (intro _ _ _ q; walk_at "xs"; refine q _ ?_; walk_at "le"))
local macro_rules | `(tactic| walk_at "ev") => `(tactic| first
  | (focus ((with_reducible refine ev_andV ?_ (fun _ => ?_)); (all_goals walk_at "ev"))) | (focus ((with_reducible refine ev_orV ?_ (fun _ => ?_)); (all_goals walk_at "ev")))
  | ((with_reducible refine ev_notV ?_); walk_at "ev")
  | (focus ((with_reducible apply ev_chain); (focus walk_at "ch"); (focus walk_at "ch"); (focus walk_at "ch"); (focus (intro _ _ _ q; walk_at "x"; exact q)); (focus (intro _ _ _ q; walk_at "x"; exact q))))
  | walk_at "ev0" | skip)
local macro_rules | `(tactic| walk_at "et") => `(tactic| first
  | (focus ((with_reducible refine et_and ?_ (fun _ => ?_)); (all_goals walk_at "et"))) | (focus ((with_reducible refine et_or ?_ (fun _ => ?_)); (all_goals walk_at "et")))
  | ((with_reducible refine et_not ?_); walk_at "et") | ((with_reducible refine et_B ?_); walk_at "ev") | ((with_reducible refine et_T ?_); walk_at "ev"))
local macro_rules | `(tactic| walk_at "hp") => `(tactic| first | assumption | (apply RuleAt.le; assumption; walk_at "hp") | (apply RulesAt.le; assumption; walk_at "hp") | (apply BookAt.le; assumption; walk_at "hp") | (apply RuleAt.lw; assumption; walk_at "hp") | (apply BookAt.lw; assumption; walk_at "hp") | (apply R4s.le; assumption; walk_at "hp") | (apply R4s.lw; assumption; walk_at "hp"))
local macro_rules | `(tactic| walk_at "x") => `(tactic| first
  | ((with_reducible apply x_fO); assumption; (walk_at "hp")) | ((with_reducible apply x_fN); assumption; (walk_at "hp")) | ((with_reducible apply x_fL); assumption; (walk_at "hp")) | ((with_reducible apply x_fR); assumption; (walk_at "hp")) | ((with_reducible apply x_fB); assumption; (walk_at "hp"))
  | ((with_reducible apply x_isRule); assumption; (walk_at "hp")) | ((with_reducible apply x_kCVB); assumption)
  | with_reducible refine x_callO ?_ | with_reducible refine x_kCO ?_ | with_reducible refine x_prop ?_ | with_reducible refine x_max ?_ | with_reducible refine x_intB ?_ | with_reducible refine x_findS ?_ | with_reducible refine x_countS ?_ | with_reducible refine x_isN ?_)
local macro_rules | `(tactic| walk_at "sz") => `(tactic| (simp only [slen_app, elen, len1a, len1b, len1c]; omega))
local macro_rules | `(tactic| walk_at "x") => `(tactic| first
  | with_reducible refine x_sfld ?_ | with_reducible refine x_enL ?_ | with_reducible refine x_enN ?_ | with_reducible refine x_it ?_ | with_reducible refine x_asgT ?_ | ((with_reducible apply x_g2); (walk_at "hp")) | ((with_reducible apply x_g3); (walk_at "hp")) | ((with_reducible apply x_g4); (walk_at "hp"))
  | ((with_reducible apply x_lenL2); (walk_at "hp")) | with_reducible refine x_gseq ?_ | with_reducible refine x_g0 ?_ | with_reducible refine x_gfor ?_ | with_reducible refine x_gps ?_)
local macro_rules | `(tactic| walk_at "x") => `(tactic| first | ((with_reducible refine x_splitS ?_ ?_ ?_); (decide +kernel); (walk_at "sz"); (intro _ _ _ _ _)) | with_reducible refine x_methK ?_ | with_reducible refine x_mkSt ?_ | with_reducible refine x_kMkSt ?_ | ((with_reducible apply x_kStL); (walk_at "hp")))
local macro_rules | `(tactic| walk_at "hp") => `(tactic| first | assumption | (apply Rs.le; assumption; walk_at "hp") | (apply Rs.lw; assumption; walk_at "hp"))
local macro_rules | `(tactic| walk_at "x") => `(tactic| first | ((with_reducible apply x_r0); (walk_at "hp")) | ((with_reducible apply x_r1'); (walk_at "hp")) | ((with_reducible apply x_r2'); (walk_at "hp")) | ((with_reducible apply x_r3); (walk_at "hp")) | ((with_reducible apply x_lenRs); (walk_at "hp")))
def lw (x : R4) (z : Str) (i : Int) : Str := if i + x.o.length ≤ z.length then cutS z none (some i) ++ x.n ++ cutS z (some (i + x.o.length)) none else cutS z (some ((i + x.o.length).fmod z.length)) (some i) ++ x.n
def DueAt (H : Hp) (p : Addr) (r : Ans) : Prop := match r with
  | .exn k i => H p = some (.tup [.str k.nm, .int i])
  | .txt z c => H p = some (.tup [.str "good", .str z, .bl c])
  | .val _ => False
def sp__law_fits (a : Ad) : Sp := fun vs H Q E => ∃ p x z c i, vs = [.ref p, .str z, .bl c, .int i] ∧ Fine x ∧ Good z c ∧ H p = some (.tup x.vs) ∧ ∀ H', Le H H' → Q (.bl (fits x z c i)) H'
def sp__law_written (a : Ad) : Sp := fun vs H Q E => ∃ p x z i, vs = [.ref p, .str z, .int i] ∧ Fine x ∧ z.length ≤ 120 ∧ (0 ≤ i ∧ i < z.length) ∧ H p = some (.tup x.vs) ∧ ∀ H', Le H H' → Q (.str (lw x z i)) H'
def sp__law_due_of (a : Ad) : Sp := fun vs H Q E => ∃ p xs z c k i, vs = [.ref p, .str z, .bl c, .int k, .int i] ∧ Rs H p xs ∧ (∀ x ∈ xs, Fine x) ∧ xs.length ≤ 8 ∧ Good z c ∧ ∀ t H', Le H H' → DueAt H' t (aTake xs z c k i) → Q (.ref t) H'
theorem flat_one : ∀ (l : List Nat) (f : Nat → Nat), ((l.map fun k => (⟨#[f k]⟩ : Str)).map (·.cps.toList)).flatten = l.map f
  | [], _ => rfl
  | x :: r, f => by
    have ih := flat_one r f
    simp only [List.map_cons, List.flatten_cons, ih]
    rfl
/-- what a closed text shows from a place on -/
theorem round_cut {z : Str} {b : Int} {n : Nat} (hz : 0 < z.length) (hn : n ≤ z.length) :
    Txt.join "" ((List.range n).map fun (k : Nat) => (⟨#[z.cps.getD ((b + (k : Int)).fmod (z.length : Nat)).toNat 0]⟩ : Str)) = cutS (repS z 2) (some (b.fmod z.length)) (some (b.fmod z.length + n)) := by
  refine str_ext ?_
  rw [joinE_l, flat_one, cut_l, rep2]
  have h0 : b.fmod (z.length : Nat) = b % (z.length : Nat) := Int.fmod_eq_emod_of_nonneg _ (by omega)
  have h1 : 0 ≤ b % ((z.length : Nat) : Int) := Int.emod_nonneg _ (by omega)
  have h2 : b % ((z.length : Nat) : Int) < z.length := Int.emod_lt_of_pos _ (by omega)
  obtain ⟨m, hm⟩ := Int.eq_ofNat_of_zero_le h1
  have hml : m < z.length := by omega
  rw [h0, hm, show (m : Int) + (n : Int) = ((m + n : Nat) : Int) by omega, HT.sIx_nat, HT.sIx_nat, slen_app, Nat.min_eq_left (by omega), Nat.min_eq_left (by omega), show m + n - m = n by omega, app_l]
  have hl : z.cps.toList.length = z.length := len_l z
  refine List.ext_getElem? fun k => ?_
  by_cases hk : k < n
  · rw [List.getElem?_map, List.getElem?_range hk, List.getElem?_take_of_lt hk, List.getElem?_drop]
    have e1 : (b + (k : Int)).fmod (z.length : Nat) = (((m + k) % z.length : Nat) : Int) := by
      rw [Int.fmod_eq_emod_of_nonneg _ (by omega), ← Int.emod_add_emod, hm]
      norm_cast
    show some (z.cps.getD ((b + (k : Int)).fmod (z.length : Nat)).toNat 0) = _
    rw [e1, Int.toNat_natCast]
    have g : ∀ j, j < z.length → some (z.cps.getD j 0) = z.cps.toList[j]? := fun j hj => by
      have hj' : j < z.cps.size := hj
      rw [Array.getD_eq_getD_getElem?, Array.getElem?_eq_getElem hj', Option.getD_some, Array.getElem?_toList, Array.getElem?_eq_getElem hj']
    by_cases hmk : m + k < z.length
    · rw [Nat.mod_eq_of_lt hmk, List.getElem?_append_left (by omega), g _ hmk]
    · rw [show (m + k) % z.length = m + k - z.length from by rw [Nat.mod_eq_sub_mod (by omega), Nat.mod_eq_of_lt (by omega)], List.getElem?_append_right (by omega), hl, g _ (by omega)]
  · rw [List.getElem?_eq_none (by simp; omega), List.getElem?_eq_none (by simp; omega)]
theorem ok__law_fits {P : Program} {w : World} {K : PySem.W.Frag} {mg : Str → Option Value} {base : Heap} {a : Ad} {f : Addr} {fd : FuncData} (F : FnP K "_law_fits" "_law_fits" s__law_fits f fd) (T : Txt K mg a)  :
    FnOk P w K mg base (L2.CX P w) 1 f fd ["_law_rule", "_law_shown", "_law_closed", "_law_at"] (sp__law_fits a) := by
  refine F.ok sc__law_fits (fun vs H Q E h => by obtain ⟨p, x, z, c, i, rfl, f, gz, hp, q⟩ := h; rfl) (fun cdv A outer s H vs Q E hr h => ?_)
  refine ⟨_, (pss_cons (ps_set (i := 4) sc__law_fits.nd rfl (Or.inr rfl) (pe_callB call_lenU (by rfl) T.f_len (by decide +kernel) (pa_cons (pv 1) pa_nil)))
    (pss_cons (ps_set (i := 5) sc__law_fits.nd rfl (Or.inl rfl) (pe_op op_addU (pe_op op_addU (pe_ix ix_seq (pv 0) pe_int (fun _ _ => rfl)) (pe_ix ix_seq (pv 0) pe_int (fun _ _ => rfl))) (pe_ix ix_seq (pv 0) pe_int (fun _ _ => rfl))))
    (pss_cons (ps_set (i := 6) sc__law_fits.nd rfl (Or.inr rfl) (pe_op op_sub (pv 3) (pe_callB call_lenU (by rfl) T.f_len (by decide +kernel) (pa_cons (pe_ix ix_seq (pv 0) pe_int (fun _ _ => rfl)) pa_nil))))
    (pss_cons (ps_if (PW.pt (pw_or (pt_not (pt_chain op_leU op_ltU pe_int (pv 3) (pv 4))) (pw_or1 (pt_cmpR op_gt (pe_callB call_lenU (by rfl) T.f_len (by decide +kernel) (pa_cons (pv 5) pa_nil)) (pv 4) (nomark _))))) (pss_one (ps_ret pe_bl)) pss_nil)
    (pss_cons (ps_if (pt_not (pt_val (pv 2))) (pss_one (ps_ret (pe_and (pe_cmpR op_ge (pv 6) pe_int (nomark _)) (pe_one (pe_cmpR (op_eqU hr) (pe_slice sl_U (pv 1) (po_some (pv 6)) (po_some (pe_op op_addU (pv 6) (pe_callB call_lenU (by rfl) T.f_len (by decide +kernel) (pa_cons (pv 5) pa_nil))))) (pv 5) (nomark _)))))) pss_nil)
    (pss_cons (ps_setLc (i := 7) (own := [("_law_k", 8)]) (g := gName 8) (tt := tYes) rfl sc__law_fits.nd rfl rfl (sw_true rfl rfl rfl (by decide +kernel)) (pi_range1 (by rfl) T.f_range (pa_cons (pe_callB call_lenU (by rfl) T.f_len (by decide +kernel) (pa_cons (pv 5) pa_nil)) pa_nil)) (blkOk_by (N := ["_law_rule", "_law_shown", "_law_closed", "_law_at", "_law_many", "_law_pattern", "_law_begin", "_law_row", "_law_k"]) (sc := defScope s__law_fits) (by decide +kernel)) (fun _ _ _ _ _ => pg_name (i := 8) sc__law_fits.nd rfl (Or.inl rfl)) (fun _ _ _ _ _ => pts_nil) (fun _ _ _ _ _ => (pe_ix (ix_seqk K rfl) (pv 1) (pe_op op_modN (pe_callTy call_intU (by rfl) T.f_int (by decide +kernel) (pa_cons (pe_op op_addU (pv 6) (pv 8)) pa_nil)) (pv 4)) (fun _ _ => rfl))))
    (pss_one (ps_ret (pe_cmpR (op_eqU hr) (pe_bm PySem.F.plainAttrs_str PySem.F.slot_str_join PySem.F.type_str_join mt_joinU pe_str (pa_cons (pv 7) pa_nil)) (pv 5) (nomark _)))))))))), ?_⟩
  obtain ⟨p, x, z, c, i, rfl, f, gz, hp, q⟩ := h
  have f1 := f.l.2
  have f2 := f.o.2
  have f3 := f.r.2
  have hz2 : z.length ≤ 120 := gz.2.1
  have l0 : ("" : Str).length = 0 := rfl
  have hpl := pat_len f
  have hL2 := slen_app (x.l ++ x.o) x.r
  have hL3 := slen_app x.l x.o
  walk_at "xs"
  have hpe : x.l ++ x.o ++ x.r = pat x := rfl
  rw [hpe] at hL2 ⊢
  refine x_if (b := (!(decide ((0 : Int) ≤ i) && decide (i < ((z.length : Nat) : Int)))) || decide (((z.length : Nat) : Int) < (((pat x).length : Nat) : Int))) ?_ (fun hb H3 e3 => ?_) (fun hb H3 e3 => ?_)
  · walk_at "et"
  · walk_at "xs"
    have : fits x z c i = false := by
      unfold fits
      rw [if_pos]
      simp only [Bool.or_eq_true, Bool.not_eq_true', Bool.and_eq_false_iff, decide_eq_false_iff_not, decide_eq_true_eq] at hb
      omega
    rw [← this]
    exact q _ e3
  · simp only [Bool.or_eq_false_iff, Bool.not_eq_false', Bool.and_eq_true, decide_eq_false_iff_not, decide_eq_true_eq] at hb
    walk_at "xs"
    have hn : ¬(¬(0 ≤ i ∧ i < (z.length : Int)) ∨ (pat x).length > z.length) := by omega
    refine x_if (b := !c) (by walk_at "et") (fun hc H4 e4 => ?_) (fun hc H4 e4 => ?_)
    · walk_at "xs"
      have : fits x z c i = (decide (i - x.l.length ≥ 0) && decide (cutS z (some (i - x.l.length)) (some (i - x.l.length + (pat x).length)) = pat x)) := by
        unfold fits
        rw [if_neg hn, if_neg (by simpa using hc)]
      rw [this] at q
      refine x_andV ?_ (fun H5 e5 => q _ ((e3.trans e4).trans e5))
      walk_at "ev"
    · walk_at "xs"
      refine x_lcR (f := fun (k : Nat) => ⟨#[z.cps.getD ((i - (x.l.length : Nat) + (k : Int)).fmod (z.length : Nat)).toNat 0]⟩) (by omega) (fun _ => rfl) (fun k H5 hk e5 Qe qe => ?_) fun r H5 n5 e5 h5 => ?_
      · walk_at "xs"
        refine x_I (by show ((z.length : Nat) : Int) ≠ 0; omega) ?_
        refine x_ixN (by omega) ⟨Int.fmod_nonneg_of_pos _ (by omega), Int.fmod_lt_of_pos _ (by omega)⟩ ?_
        exact qe _ (Le.refl _)
      · rw [Int.toNat_natCast] at h5
        walk_at "xs"
        refine x_join h5 ?_ ?_
        · rw [sum_ones' _ (fun y hy => by obtain ⟨k, _, rfl⟩ := List.mem_map.mp hy; rfl), List.length_map, List.length_range, l0]; omega
        rw [round_cut (by omega) (by omega)]
        walk_at "xs"
        have : fits x z c i = decide (cutS (repS z 2) (some ((i - x.l.length).fmod z.length)) (some ((i - x.l.length).fmod z.length + (pat x).length)) = pat x) := by
          unfold fits
          rw [if_neg hn, if_pos (by simpa using hc)]
        rw [this] at q
        exact q _ ((e3.trans e4).trans e5)
theorem ok__law_written {P : Program} {w : World} {K : PySem.W.Frag} {mg : Str → Option Value} {base : Heap} {a : Ad} {f : Addr} {fd : FuncData} (F : FnP K "_law_written" "_law_written" s__law_written f fd) (T : Txt K mg a)  :
    FnOk P w K mg base (L2.CX P w) 1 f fd ["_law_rule", "_law_shown", "_law_at"] (sp__law_written a) := by
  refine F.ok sc__law_written (fun vs H Q E h => by obtain ⟨p, x, z, i, rfl, f, hz2, hi, hp, q⟩ := h; rfl) (fun cdv A outer s H vs Q E hr h => ?_)
  refine ⟨_, (pss_cons (ps_set (i := 3) sc__law_written.nd rfl (Or.inl rfl) (pe_op op_addU (pv 2) (pe_callB call_lenU (by rfl) T.f_len (by decide +kernel) (pa_cons (pe_ix ix_seq (pv 0) pe_int (fun _ _ => rfl)) pa_nil))))
    (pss_cons (ps_if (pt_cmpR op_leU (pv 3) (pe_callB call_lenU (by rfl) T.f_len (by decide +kernel) (pa_cons (pv 1) pa_nil)) (nomark _)) (pss_one (ps_ret (pe_op op_addU (pe_op op_addU (pe_slice sl_U (pv 1) po_none (po_some (pv 2))) (pe_ix ix_seq (pv 0) pe_int (fun _ _ => rfl))) (pe_slice sl_U (pv 1) (po_some (pv 3)) po_none)))) pss_nil)
    (pss_one (ps_ret (pe_op op_addU (pe_slice sl_U (pv 1) (po_some (pe_op op_modN (pe_callTy call_intU (by rfl) T.f_int (by decide +kernel) (pa_cons (pv 3) pa_nil)) (pe_callB call_lenU (by rfl) T.f_len (by decide +kernel) (pa_cons (pv 1) pa_nil)))) (po_some (pv 2))) (pe_ix ix_seq (pv 0) pe_int (fun _ _ => rfl))))))), ?_⟩
  obtain ⟨p, x, z, i, rfl, f, hz2, hi, hp, q⟩ := h
  have f2 := f.o.2
  have f4 := f.n.2
  have c1 := cut_len z
  walk_at "xs"
  refine x_if (b := decide (i + ((x.o.length : Nat) : Int) ≤ ((z.length : Nat) : Int))) (by walk_at "et") (fun hb H1 e1 => ?_) (fun hb H1 e1 => ?_)
  · have c2 := c1 none (some i)
    have c3 := c1 (some (i + x.o.length)) none
    walk_at "xs"
    have : lw x z i = cutS z none (some i) ++ x.n ++ cutS z (some (i + x.o.length)) none := if_pos (by simpa using hb)
    rw [this] at q
    exact q _ e1
  · have c2 := c1 (some ((i + x.o.length).fmod z.length)) (some i)
    walk_at "xs"
    refine x_I (by show ((z.length : Nat) : Int) ≠ 0; omega) ?_
    walk_at "xs"
    have : lw x z i = cutS z (some ((i + x.o.length).fmod z.length)) (some i) ++ x.n := if_neg (by simpa using hb)
    rw [this] at q
    exact q _ e1
/-- where a rule fits -/
theorem fits_in {x : R4} {z : Str} {c : Bool} {i : Int} (h : fits x z c i = true) : (0 ≤ i ∧ i < z.length) ∧ (pat x).length ≤ z.length ∧ (c = false → i + x.o.length ≤ z.length) := by
  unfold fits at h
  split at h
  · cases h
  · rename_i hn
    have h1 : (0 ≤ i ∧ i < z.length) ∧ (pat x).length ≤ z.length := by omega
    refine ⟨h1.1, h1.2, fun hc => ?_⟩
    rw [if_neg (by rw [hc]; exact Bool.false_ne_true)] at h
    simp only [Bool.and_eq_true, decide_eq_true_eq] at h
    obtain ⟨h2, h3⟩ := h
    have e := congrArg Str.length h3
    have hp : (pat x).length = x.l.length + x.o.length + x.r.length := by unfold pat; simp only [slen_app]
    have e1 : i - x.l.length = (((i - x.l.length).toNat : Nat) : Int) := by omega
    rw [e1, show ((((i - x.l.length).toNat : Nat) : Int) + (((pat x).length : Nat) : Int)) = (((i - x.l.length).toNat + (pat x).length : Nat) : Int) by omega, ← len_l, cut_l, HT.sIx_nat, HT.sIx_nat, List.length_take, List.length_drop, len_l] at e
    omega
theorem written_is {x : R4} {z : Str} {c : Bool} {i : Int} (f : Fine x) (h : fits x z c i = true) : aCall x z c i = if (lw x z i).length > 120 then .exn .size (lw x z i).length else .txt (lw x z i) c := by
  obtain ⟨h1, h2, h3⟩ := fits_in h
  have f2 := f.o.2
  have f4 := f.n.2
  have hp : (pat x).length = x.l.length + x.o.length + x.r.length := by unfold pat; simp only [slen_app]
  have ne : ∀ {u v : Str}, (u ++ x.n ++ v) ≠ "" := fun {u v} q => by
    have := empty_iff.mp q
    rw [slen_app, slen_app] at this; omega
  unfold aCall
  rw [if_neg (by rw [h]; exact Bool.noConfusion)]
  by_cases hs : i + x.o.length > z.length
  · have hc : c = true := by
      cases c with
      | true => rfl
      | false => have := h3 rfl; omega
    have e1 : lw x z i = cutS z (some (i + x.o.length - z.length)) (some i) ++ x.n := by
      unfold lw
      rw [if_neg (by omega)]
      have : (i + x.o.length).fmod z.length = i + x.o.length - z.length := by
        rw [Int.fmod_eq_emod_of_nonneg _ (by omega), ← Int.sub_emod_right, Int.emod_eq_of_lt (by omega) (by omega)]
      rw [this]
    rw [if_pos hs, e1, hc]
    unfold mkT
    have hne : cutS z (some (i + x.o.length - z.length)) (some i) ++ x.n ≠ "" := fun q => by
      have := empty_iff.mp q
      rw [slen_app] at this; omega
    by_cases hl : (cutS z (some (i + x.o.length - z.length)) (some i) ++ x.n).length > 120
    · rw [if_pos (Or.inl hl), if_pos hl]
    · rw [if_neg (fun q => q.elim hl fun q => hne q.2), if_neg hl]
  · have e1 : lw x z i = cutS z none (some i) ++ x.n ++ cutS z (some (i + x.o.length)) none := if_pos (by omega)
    rw [if_neg hs, e1]
    unfold mkT
    by_cases hl : (cutS z none (some i) ++ x.n ++ cutS z (some (i + x.o.length)) none).length > 120
    · rw [if_pos (Or.inl hl), if_pos hl]
    · rw [if_neg (fun q => q.elim hl fun q => ne q.2), if_neg hl]
theorem ok__law_due_of {P : Program} {w : World} {K : PySem.W.Frag} {mg : Str → Option Value} {base : Heap} {a : Ad} {f : Addr} {fd : FuncData} (F : FnP K "_law_due_of" "_law_due_of" s__law_due_of f fd) (T : Txt K mg a) (G__law_written : FnG P w K mg base 1 "_law_written" (sp__law_written a)) (G__law_fits : FnG P w K mg base 1 "_law_fits" (sp__law_fits a)) :
    FnOk P w K mg base (L2.CX P w) 2 f fd ["_law_rules", "_law_shown", "_law_closed", "_law_number", "_law_at"] (sp__law_due_of a) := by
  refine F.ok sc__law_due_of (fun vs H Q E h => by obtain ⟨p, xs, z, c, k, i, rfl, hr, fx, hn, gz, q⟩ := h; rfl) (fun cdv A outer s H vs Q E hr h => ?_)
  refine ⟨_, (pss_cons (ps_if (pt_not (pt_chain op_leU op_ltU pe_int (pv 3) (pe_callB call_lenU (by rfl) T.f_len (by decide +kernel) (pa_cons (pv 0) pa_nil)))) (pss_one (ps_ret (pe_tup (pa_cons pe_str (pa_cons (pv 3) pa_nil))))) pss_nil)
    (pss_cons (ps_if (pt_not (pt_val (pe_callG G__law_fits (hr.mono (by decide)) passN rfl (pa_cons (pe_ix ix_seq (pv 0) (pv 3) (fun _ _ => rfl)) (pa_cons (pv 1) (pa_cons (pv 2) (pa_cons (pv 4) pa_nil))))))) (pss_one (ps_ret (pe_tup (pa_cons pe_str (pa_cons (pv 4) pa_nil))))) pss_nil)
    (pss_cons (ps_set (i := 5) sc__law_due_of.nd rfl (Or.inl rfl) (pe_callG G__law_written (hr.mono (by decide)) passN rfl (pa_cons (pe_ix ix_seq (pv 0) (pv 3) (fun _ _ => rfl)) (pa_cons (pv 1) (pa_cons (pv 4) pa_nil)))))
    (pss_cons (ps_if (pt_cmpR op_gt (pe_callB call_lenU (by rfl) T.f_len (by decide +kernel) (pa_cons (pv 5) pa_nil)) pe_int (nomark _)) (pss_one (ps_ret (pe_tup (pa_cons pe_str (pa_cons (pe_callB call_lenU (by rfl) T.f_len (by decide +kernel) (pa_cons (pv 5) pa_nil)) pa_nil))))) pss_nil)
    (pss_one (ps_ret (pe_tup (pa_cons pe_str (pa_cons (pv 5) (pa_cons (pv 2) pa_nil)))))))))), ?_⟩
  obtain ⟨p, xs, z, c, k, i, rfl, hr, fx, hn, gz, q⟩ := h
  have hz2 : z.length ≤ 120 := gz.2.1
  walk_at "xs"
  refine x_if (b := !(decide ((0 : Int) ≤ k) && decide (k < ((xs.length : Nat) : Int)))) (by walk_at "et") (fun hb H1 e1 => ?_) (fun hb H1 e1 => ?_)
  · walk_at "xs"
    rename_i t H2 n2 e2 h2
    refine q t H2 (e1.trans e2) ?_
    unfold aTake
    rw [if_neg (by intro w; simp [w.1, w.2] at hb)]
    exact h2
  · have hk : 0 ≤ k ∧ k < xs.length := by simpa using hb
    have hr1 := hr.le e1
    walk_at "xs"
    refine x_if (b := !fits (xs.getD k.toNat ⟨"", "", "", ""⟩) z c i) (et_not (et_B (ev_run fun H2 e2 Q2 q2 => ?_))) (fun hb2 H2 e2 => ?_) (fun hb2 H2 e2 => ?_)
    · walk_at "xs"
      refine x_ixRs (hr1.le e2) hk fun r x hx hrx => ?_
      walk_at "xs"
      have hg : xs.getD k.toNat ⟨"", "", "", ""⟩ = x := by rw [List.getD_eq_getElem?_getD, hx]; rfl
      rw [hg] at q2
      exact ⟨r, x, z, c, i, rfl, fx x (List.mem_of_getElem? hx), gz, hrx, q2⟩
    · walk_at "xs"
      rename_i t H3 n3 e3 h3
      refine q t H3 ((e1.trans e2).trans e3) ?_
      unfold aTake
      rw [if_pos hk]
      unfold aCall
      rw [if_pos (by simpa using hb2)]
      exact h3
    · walk_at "xs"
      refine x_ixRs (hr1.le e2) hk fun r x hx hrx => ?_
      have hg : xs.getD k.toNat ⟨"", "", "", ""⟩ = x := by rw [List.getD_eq_getElem?_getD, hx]; rfl
      have f := fx x (List.mem_of_getElem? hx)
      rw [hg] at hb2
      have hf : fits x z c i = true := by simpa using hb2
      have hw := written_is f hf
      have htk : aTake xs z c k i = aCall x z c i := by unfold aTake; rw [if_pos hk, hg]
      rw [htk, hw] at q
      walk_at "xs"
      refine ⟨r, x, z, i, rfl, f, hz2, (fits_in hf).1, hrx, fun H3 e3 => ?_⟩
      have hlw : (lw x z i).length ≤ 1000 := by
        have f4 := f.n.2
        unfold lw
        split
        · have c2 := cut_len z none (some i)
          have c3 := cut_len z (some (i + x.o.length)) none
          simp only [slen_app]; omega
        · have c2 := cut_len z (some ((i + x.o.length).fmod z.length)) (some i)
          simp only [slen_app]; omega
      walk_at "xs"
      refine x_if (b := decide ((120 : Int) < (((lw x z i).length : Nat) : Int))) (by walk_at "et") (fun hb3 H4 e4 => ?_) (fun hb3 H4 e4 => ?_)
      · walk_at "xs"
        rename_i t H5 n5 e5 h5
        refine q t H5 ((((e1.trans e2).trans e3).trans e4).trans e5) ?_
        have : (lw x z i).length > 120 := by have := of_decide_eq_true hb3; omega
        rw [if_pos this]
        exact h5
      · walk_at "xs"
        rename_i t H5 n5 e5 h5
        refine q t H5 ((((e1.trans e2).trans e3).trans e4).trans e5) ?_
        have : ¬ (lw x z i).length > 120 := by have := of_decide_eq_false hb3; omega
        rw [if_neg this]
        exact h5
end K4
set_option maxHeartbeats 4000000
/-! K4N: k04: what agrees -/
namespace K4
open PySem PySem.Spec PyProof.Rows L2 MC
local macro_rules | `(tactic| walk_at "hp") => `(tactic| first | assumption | (apply Le.keep; assumption; walk_at "hp") | (apply TextAt.le; assumption; walk_at "hp") | (apply Lw.keep; assumption; walk_at "hp"; first | rfl | exact sh_str _ | exact sh_ints _ | exact sh_sgns _) | (apply TextAt.lw; assumption; walk_at "hp"))
local macro_rules | `(tactic| walk_at "le") => `(tactic| first | exact Le.refl _ | assumption | (apply Le.trans'; assumption; walk_at "le"))
local macro_rules | `(tactic| walk_at "lw") => `(tactic| first | exact Lw.refl _ | assumption | exact Le.w (by assumption) | (apply Lw.trans'; (first | assumption | exact Le.w (by assumption)); walk_at "lw"))
local macro_rules | `(tactic| walk_at "sz") => `(tactic| first | omega | (simp only [slen_app]; omega) | (simp only [List.length_append, List.length_cons, List.length_nil, List.length_map, List.length_range]; omega) | omega | (simp; omega) | decide)
local macro_rules | `(tactic| walk_at "x") => `(tactic| first
  | with_reducible refine x_seq ?_ | with_reducible refine x_asg ?_ | with_reducible refine x_ret ?_ | with_reducible refine x_drop ?_
  | ((with_reducible apply x_var); exact rfl) | with_reducible refine x_c ?_ | with_reducible refine x_op ?_ | with_reducible refine x_opS ?_ | with_reducible refine x_un ?_ | with_reducible refine x_neg ?_
  | with_reducible refine x_test ?_ | with_reducible refine x_tB ?_ | with_reducible refine x_kB ?_
  | with_reducible refine x_nil ?_ | with_reducible refine x_cons ?_ | with_reducible refine x_tup ?_ | with_reducible refine x_lst ?_
  | ((with_reducible refine x_kTup ?_ ?_); (walk_at "sz"); (intro _ _ _ _ _)) | ((with_reducible refine x_kLst ?_ ?_); (walk_at "sz"); (intro _ _ _ _ _))
  | with_reducible refine x_fld ?_ | ((with_reducible apply x_fS); assumption; (walk_at "hp")) | ((with_reducible apply x_fC); assumption; (walk_at "hp"))
  | with_reducible refine x_cb ?_ | with_reducible refine x_call ?_ | with_reducible refine x_callE ?_ | with_reducible refine x_bm ?_ | with_reducible refine x_cv ?_
  | with_reducible refine x_meth ?_ | with_reducible refine x_cm ?_ | with_reducible refine x_kCM ?_ | with_reducible refine x_mk ?_ | with_reducible refine x_kMk ?_
  | with_reducible refine x_np ?_ | with_reducible refine x_part ?_ | with_reducible refine x_kPart ?_ | with_reducible refine x_sl ?_ | with_reducible refine x_rev ?_
  | with_reducible refine x_addI ?_ | ((with_reducible refine x_addS ?_ ?_); (walk_at "sz")) | with_reducible refine x_I0 ?_
  | with_reducible refine x_eqS ?_ | with_reducible refine x_eqI ?_ | with_reducible refine x_eqB ?_ | with_reducible refine x_neS ?_ | with_reducible refine x_neI ?_ | with_reducible refine x_neB ?_
  | with_reducible refine x_eqFS ?_ | with_reducible refine x_eqFI ?_
  | with_reducible refine x_ltI ?_ | with_reducible refine x_ltS ?_ | with_reducible refine x_leI ?_ | with_reducible refine x_leS ?_ | with_reducible refine x_inT ?_ | with_reducible refine x_notInT ?_
  | ((with_reducible refine x_slS ?_ ?_); (walk_at "sz")) | ((with_reducible refine x_kRev ?_ ?_); (walk_at "sz"))
  | ((with_reducible refine x_lenS ?_ ?_); (walk_at "sz")) | ((with_reducible apply x_lenT); (walk_at "hp"))
  | ((with_reducible apply x_ixT); (walk_at "hp"); exact rfl)
  | with_reducible refine x_abs ?_ | with_reducible refine x_int ?_ | with_reducible refine x_strS ?_
  | ((with_reducible apply x_isB); (first | exact kit_ty (r := true) (by decide +kernel) | exact kit_ty (r := false) (by decide +kernel))) | ((with_reducible apply x_isI); (first | exact kit_ty (r := true) (by decide +kernel) | exact kit_ty (r := false) (by decide +kernel))) | ((with_reducible apply x_isS); (first | exact kit_ty (r := true) (by decide +kernel) | exact kit_ty (r := false) (by decide +kernel)))
  | ((with_reducible apply x_isT); (walk_at "hp"); (first | exact kit_ty (r := true) (by decide +kernel) | exact kit_ty (r := false) (by decide +kernel)))
  | ((with_reducible apply x_isText); assumption; (walk_at "hp")) | ((with_reducible apply x_isTextS); assumption) | ((with_reducible apply x_isTextI); assumption) | ((with_reducible apply x_isTextN); assumption) | ((with_reducible apply x_kCVT); assumption)
  | ((with_reducible apply x_addL); (walk_at "hp"); (walk_at "hp"); (walk_at "sz"); (intro _ _ _ _ _)) | ((with_reducible apply x_tyL); (walk_at "hp")) | with_reducible refine x_tyS ?_
  | with_reducible refine x_joined ?_ | with_reducible refine x_js ?_ | with_reducible refine x_js0 ?_ | ((with_reducible refine x_kJs ?_ ?_); (walk_at "sz")) | with_reducible refine x_fmt ?_ | ((with_reducible refine x_fmtS ?_ ?_); (walk_at "sz")) | ((with_reducible refine x_fmtI ?_ ?_); omega)
  | with_reducible refine x_rse ?_ | with_reducible refine x_ex ?_ | with_reducible refine x_ex0 ?_ | with_reducible refine x_xf ?_
  | with_reducible refine x_for ?_ | with_reducible refine x_r1 ?_ | with_reducible refine x_r2 ?_ | with_reducible refine x_il ?_ | with_reducible refine x_en ?_ | with_reducible refine x_lc ?_ | with_reducible refine x_next ?_ | dsimp only)
local macro_rules | `(tactic| walk_at "xs") => `(tactic| repeat walk_at "x")
local macro_rules | `(tactic| walk_at "ev0") => `(tactic| (refine ev_run ?_; intro _ _ _ q; walk_at "xs"; refine q _ ?_; walk_at "le"))
local macro_rules | `(tactic| walk_at "ch") => `(tactic| (intro _ _ _ q; walk_at "xs"; refine q _ ?_; walk_at "le"))
local macro_rules | `(tactic| walk_at "ev") => `(tactic| first
  | (focus ((with_reducible refine ev_andV ?_ (fun _ => ?_)); (all_goals walk_at "ev"))) | (focus ((with_reducible refine ev_orV ?_ (fun _ => ?_)); (all_goals walk_at "ev")))
  | ((with_reducible refine ev_notV ?_); walk_at "ev")
  | (focus ((with_reducible apply ev_chain); (focus walk_at "ch"); (focus walk_at "ch"); (focus walk_at "ch"); (focus (intro _ _ _ q; walk_at "x"; exact q)); (focus (intro _ _ _ q; walk_at "x"; exact q))))
  | walk_at "ev0" | skip)
local macro_rules | `(tactic| walk_at "et") => `(tactic| first
  | (focus ((with_reducible refine et_and ?_ (fun _ => ?_)); (all_goals walk_at "et"))) | (focus ((with_reducible refine et_or ?_ (fun _ => ?_)); (all_goals walk_at "et")))
  | ((with_reducible refine et_not ?_); walk_at "et") | ((with_reducible refine et_B ?_); walk_at "ev") | ((with_reducible refine et_T ?_); walk_at "ev"))
local macro_rules | `(tactic| walk_at "hp") => `(tactic| first | assumption | (apply RuleAt.le; assumption; walk_at "hp") | (apply RulesAt.le; assumption; walk_at "hp") | (apply BookAt.le; assumption; walk_at "hp") | (apply RuleAt.lw; assumption; walk_at "hp") | (apply BookAt.lw; assumption; walk_at "hp") | (apply R4s.le; assumption; walk_at "hp") | (apply R4s.lw; assumption; walk_at "hp"))
local macro_rules | `(tactic| walk_at "x") => `(tactic| first
  | ((with_reducible apply x_fO); assumption; (walk_at "hp")) | ((with_reducible apply x_fN); assumption; (walk_at "hp")) | ((with_reducible apply x_fL); assumption; (walk_at "hp")) | ((with_reducible apply x_fR); assumption; (walk_at "hp")) | ((with_reducible apply x_fB); assumption; (walk_at "hp"))
  | ((with_reducible apply x_isRule); assumption; (walk_at "hp")) | ((with_reducible apply x_kCVB); assumption)
  | with_reducible refine x_callO ?_ | with_reducible refine x_kCO ?_ | with_reducible refine x_prop ?_ | with_reducible refine x_max ?_ | with_reducible refine x_intB ?_ | with_reducible refine x_findS ?_ | with_reducible refine x_countS ?_ | with_reducible refine x_isN ?_)
local macro_rules | `(tactic| walk_at "sz") => `(tactic| (simp only [slen_app, elen, len1a, len1b, len1c]; omega))
local macro_rules | `(tactic| walk_at "x") => `(tactic| first
  | with_reducible refine x_sfld ?_ | with_reducible refine x_enL ?_ | with_reducible refine x_enN ?_ | with_reducible refine x_it ?_ | with_reducible refine x_asgT ?_ | ((with_reducible apply x_g2); (walk_at "hp")) | ((with_reducible apply x_g3); (walk_at "hp")) | ((with_reducible apply x_g4); (walk_at "hp"))
  | ((with_reducible apply x_lenL2); (walk_at "hp")) | with_reducible refine x_gseq ?_ | with_reducible refine x_g0 ?_ | with_reducible refine x_gfor ?_ | with_reducible refine x_gps ?_)
local macro_rules | `(tactic| walk_at "x") => `(tactic| first | ((with_reducible refine x_splitS ?_ ?_ ?_); (decide +kernel); (walk_at "sz"); (intro _ _ _ _ _)) | with_reducible refine x_methK ?_ | with_reducible refine x_mkSt ?_ | with_reducible refine x_kMkSt ?_ | ((with_reducible apply x_kStL); (walk_at "hp")))
local macro_rules | `(tactic| walk_at "x") => `(tactic| first
  | with_reducible refine x_listG ?_ | with_reducible refine x_gm ?_)
local macro_rules | `(tactic| walk_at "hp") => `(tactic| first | assumption | (apply Rs.le; assumption; walk_at "hp") | (apply Rs.lw; assumption; walk_at "hp"))
local macro_rules | `(tactic| walk_at "x") => `(tactic| first | ((with_reducible apply x_lenRs); (walk_at "hp")))
def sp__law_agrees (a : Ad) : Sp := fun vs H Q E => ∃ p q xs z c k i way t, vs = [.ref p, .ref q, .int k, .int i, .int way, .ref t] ∧ (∀ x ∈ xs, Fine x) ∧ xs.length ≤ 8 ∧ Good z c ∧ SmI k ∧ SmI i ∧ (0 ≤ way ∧ way ≤ 2) ∧ BookAt a H p xs ∧ TextAt a H q z c ∧ DueAt H t (aTake xs z c k i) ∧ ∀ H', Le H H' → Q (.bl true) H'
def sp__law_yields (a : Ad) : Sp := fun vs H Q E => ∃ p r q xs z c, vs = [.ref p, .ref r, .ref q, .str z, .bl c] ∧ (∀ x ∈ xs, Fine x) ∧ xs.length ≤ 8 ∧ Good z c ∧ BookAt a H p xs ∧ Rs H r xs ∧ TextAt a H q z c ∧ ∀ H', Le H H' → Q (.bl true) H'
theorem mkT_isGood {z w : Str} {c d : Bool} (h : mkT z c = .txt w d) (hb : bad z = none) : Good w d := by
  unfold mkT at h
  split at h
  · cases h
  · rename_i hn
    cases h
    exact ⟨hb, by omega, fun hc q => hn (Or.inr ⟨hc, q⟩)⟩
theorem take_good {xs : List R4} {z w : Str} {c d : Bool} {k i : Int} (fx : ∀ x ∈ xs, Fine x) (gz : Good z c) (h : aTake xs z c k i = .txt w d) : Good w d := by
  unfold aTake at h
  split at h
  · rename_i hk
    have hlt : k.toNat < xs.length := by omega
    have hx : xs.getD k.toNat ⟨"", "", "", ""⟩ ∈ xs := by
      rw [List.getD_eq_getElem?_getD, List.getElem?_eq_getElem hlt]; exact List.getElem_mem hlt
    have f := fx _ hx
    unfold aCall at h
    split at h
    · cases h
    · split at h
      · exact mkT_isGood h (bad_app (bad_cut gz.1) f.n.1)
      · exact mkT_isGood h (bad_app (bad_app (bad_cut gz.1) f.n.1) (bad_cut gz.1))
  · cases h
theorem DueAt.le {H H' : Hp} {p : Addr} {r : Ans} (e : Le H H') (h : DueAt H p r) : DueAt H' p r := by
  cases r with
  | val v => exact h
  | txt z c => exact e.keep h
  | exn k i => exact e.keep h
theorem c_whole {a : Ad} {H : Hp} {Q : VK} {E : XK} {i : Int} (q : ∀ H', Le H H' → Q (.bl true) H') : sp__law_whole a [.int i] H Q E := ⟨i, rfl, q⟩
theorem ok__law_agrees {P : Program} {w : World} {K : PySem.W.Frag} {mg : Str → Option Value} {base : Heap} {a : Ad} {f : Addr} {fd : FuncData} (F : FnP K "_law_agrees" "_law_agrees" s__law_agrees f fd) (T : Txt K mg a) (G__law_whole : FnG P w K mg base 1 "_law_whole" (sp__law_whole a)) (G__law_is_text : FnG P w K mg base 5 "_law_is_text" (sp__law_is_text a)) (G__law_do : FnG P w K mg base 7 "_law_do" (sp__law_do a)) :
    FnOk P w K mg base (L2.CX P w) 8 f fd ["_law_book", "_law_text", "_law_number", "_law_at", "_law_way", "_law_due"] (sp__law_agrees a) := by
  refine F.ok sc__law_agrees (fun vs H Q E h => by obtain ⟨p, q, xs, z, c, k, i, way, t, rfl, fx, hn, gz, hk, hi, hw, hb, ht, hd, hq⟩ := h; rfl) (fun cdv A outer s H vs Q E hr h => ?_)
  refine ⟨_, (pss_cons (ps_set (i := 6) sc__law_agrees.nd rfl (Or.inl rfl) (pe_callG G__law_do (hr.mono (by decide)) passN rfl (pa_cons (pv 0) (pa_cons (pv 1) (pa_cons (pv 2) (pa_cons (pv 3) (pa_cons (pv 4) pa_nil)))))))
    (pss_cons (ps_if (PW.pt (pw_or (pt_cmpR (op_neU hr) (pe_ix ix_seq (pv 6) pe_int (fun _ _ => rfl)) (pe_ix ix_seq (pv 5) pe_int (fun _ _ => rfl)) (nomark _)) (pw_or1 (pt_not (pt_val (pe_ix ix_seq (pv 6) pe_int (fun _ _ => rfl))))))) (pss_one (ps_ret pe_bl)) pss_nil)
    (pss_cons (ps_if (pt_cmpR (op_eqU hr) (pe_ix ix_seq (pv 5) pe_int (fun _ _ => rfl)) pe_str (nomark _)) (pss_one (ps_ret (pe_callG G__law_is_text (hr.mono (by decide)) passN rfl (pa_cons (pe_ix ix_seq (pv 6) pe_int (fun _ _ => rfl)) (pa_cons (pe_ix ix_seq (pv 5) pe_int (fun _ _ => rfl)) (pa_cons (pe_ix ix_seq (pv 5) pe_int (fun _ _ => rfl)) pa_nil)))))) pss_nil)
    (pss_one (ps_ret (pe_and (pe_callG G__law_whole (hr.mono (by decide)) passN rfl (pa_cons (pe_ix ix_seq (pv 6) pe_int (fun _ _ => rfl)) pa_nil)) (pe_one (pe_cmpR (op_eqU hr) (pe_ix ix_seq (pv 6) pe_int (fun _ _ => rfl)) (pe_ix ix_seq (pv 5) pe_int (fun _ _ => rfl)) (nomark _))))))))), ?_⟩
  obtain ⟨p, q, xs, z, c, k, i, way, t, rfl, fx, hn, gz, hk, hi, hw, hb, ht, hd, hq⟩ := h
  walk_at "xs"
  refine ⟨p, q, xs, z, c, k, i, way, rfl, fx, hn, gz, hk, hi, hw, hb, ht, fun u H1 e1 hu => ?_⟩
  have hd1 := hd.le e1
  have hg := @take_good xs z
  revert hu hd1 hg
  generalize hr : aTake xs z c k i = r
  intro hu hd1 hg
  cases r with
  | val v => exact hd1.elim
  | exn kd j =>
    have hu : H1 u = some (.tup [.str kd.nm, .int j, .bl true]) := hu
    have hd1 : H1 t = some (.tup [.str kd.nm, .int j]) := hd1
    walk_at "xs"
    refine x_no (et_is (b := !decide (kd.nm = kd.nm) || !true) (by walk_at "et") (by simp)) fun H2 e2 => ?_
    walk_at "xs"
    refine x_no (et_is (b := decide (kd.nm = "good")) (by walk_at "et") (by cases kd <;> decide +kernel)) fun H3 e3 => ?_
    walk_at "xs"
    refine x_andV (b := true) (ev_is (b := true && decide (j = j)) (ev_andV (ev_run fun H4 e4 Q4 q4 => ?_) (fun _ => by walk_at "ev")) (by simp)) fun H5 e5 => hq _ (by walk_at "le")
    walk_at "xs"
    exact c_whole q4
  | txt w d =>
    obtain ⟨v, hu, hv⟩ : ∃ q, H1 u = some (.tup [.str "good", .ref q, .bl true]) ∧ TextAt a H1 q w d := hu
    have hd1 : H1 t = some (.tup [.str "good", .str w, .bl d]) := hd1
    walk_at "xs"
    refine x_no (et_is (b := !decide (("good" : Str) = "good") || !true) (by walk_at "et") (by simp)) fun H2 e2 => ?_
    walk_at "xs"
    refine x_yes (et_is (b := decide (("good" : Str) = "good")) (by walk_at "et") (by simp)) fun H3 e3 => ?_
    walk_at "xs"
    exact ⟨v, w, d, rfl, hg fx gz hr, by walk_at "hp", fun H4 e4 => hq _ (by walk_at "le")⟩
theorem PrsAt.put {H : Hp} {p : Addr} {o : HO} {ys : List V} (hp : H p = some (.lst ys)) : ∀ {vs : List V} {xs : List (Nat × Nat)}, PrsAt H vs xs → PrsAt (upd H p o) vs xs
  | [], [], _ => trivial
  | _ :: _, _ :: _, h => by
    obtain ⟨⟨r, q, hr⟩, h2⟩ := h
    refine ⟨⟨r, q, ?_⟩, PrsAt.put hp h2⟩
    rw [upd_ne (fun z => by rw [z, hp] at hr; cases hr)]
    exact hr
  | [], _ :: _, h => h.elim
  | _ :: _, [], h => h.elim
theorem PrsAt.dp {K : PySem.W.Frag} {H : Hp} : ∀ {vs : List V} {xs : List (Nat × Nat)}, PrsAt H vs xs → DpAll K H vs (xs.map prDt)
  | [], [], _ => .nil
  | _ :: _, _ :: _, h => by
    obtain ⟨⟨r, rfl, hr⟩, h2⟩ := h
    exact .cons (.tup (SqT.of hr) (.cons (.int _) (.cons (.int _) .nil))) (PrsAt.dp h2)
  | [], _ :: _, h => h.elim
  | _ :: _, [], h => h.elim
theorem steps_eq (xs : List R4) (z : Str) (c : Bool) : steps xs z c = stepsTo xs z c z.length := rfl
theorem ok__law_yields {P : Program} {w : World} {K : PySem.W.Frag} {mg : Str → Option Value} {base : Heap} {a : Ad} {f : Addr} {fd : FuncData} (F : FnP K "_law_yields" "_law_yields" s__law_yields f fd) (T : Txt K mg a) (Y_Book_possible : GeG P w K mg base 4 a.cBook "possible" (sp_Book_possible a)) (G__law_fits : FnG P w K mg base 1 "_law_fits" (sp__law_fits a)) :
    FnOk P w K mg base (L2.CX P w) 8 f fd ["_law_book", "_law_rules", "_law_text", "_law_shown", "_law_closed"] (sp__law_yields a) := by
  refine F.ok sc__law_yields (fun vs H Q E h => by obtain ⟨p, r, q, xs, z, c, rfl, fx, hn, gz, hb, hr, ht, hq⟩ := h; rfl) (fun cdv A outer s H vs Q E hr h => ?_)
  refine ⟨_, (pss_cons (ps_set (i := 5) sc__law_yields.nd rfl (Or.inl rfl) (pe_lst pa_nil))
    (pss_cons (ps_for (by first | exact po | exact PassesOwn.never | exact passes_of rfl) rfl (pi_range1 (by rfl) T.f_range (pa_cons (pe_callB call_lenU (by rfl) T.f_len (by decide +kernel) (pa_cons (pv 3) pa_nil)) pa_nil)) (pg_name (i := 6) sc__law_yields.nd rfl (Or.inl rfl)) (pss_one (ps_for (by first | exact po | exact PassesOwn.never | exact passes_of rfl) rfl (pi_range1 (by rfl) T.f_range (pa_cons (pe_callB call_lenU (by rfl) T.f_len (by decide +kernel) (pa_cons (pv 1) pa_nil)) pa_nil)) (pg_name (i := 7) sc__law_yields.nd rfl (Or.inl rfl)) (pss_one (ps_if (pt_val (pe_callG G__law_fits (hr.mono (by decide)) passN rfl (pa_cons (pe_ix ix_seq (pv 1) (pv 7) (fun _ _ => rfl)) (pa_cons (pv 3) (pa_cons (pv 4) (pa_cons (pv 6) pa_nil)))))) (pss_one (ps_expr (pe_bm PySem.F.plainAttrs_list PySem.F.slot_list_append PySem.F.type_list_append mt_append (pv 5) (pa_cons (pe_tup (pa_cons (pv 7) (pa_cons (pv 6) pa_nil))) pa_nil)))) pss_nil)))))
    (pss_one (ps_ret (pe_cmpR (op_eqU hr) (pe_listGen (pgen_mG Y_Book_possible (hr.mono (by decide)) (pv 0) (pa_cons (pv 2) pa_nil)) (hr.mono (by decide)) (by rfl) T.f_list (by decide +kernel)) (pv 5) (nomark _)))))), ?_⟩
  obtain ⟨p, r, q, xs, z, c, rfl, fx, hn, gz, hb, hr, ht, hq⟩ := h
  have hz2 : z.length ≤ 120 := gz.2.1
  walk_at "xs"
  rename_i l H1 n1 e1 h1
  refine x_for1 (by omega) (fun i σ' H' => (∃ v6 v7, σ' = [some (V.ref p), some (V.ref r), some (V.ref q), some (V.str z), some (V.bl c), some (V.ref l), v6, v7]) ∧ Le H H' ∧ ∃ ys, H' l = some (.lst ys) ∧ PrsAt H' ys (stepsTo xs z c i)) ⟨⟨_, _, rfl⟩, e1, [], h1, trivial⟩ ?_ ?_
  · rintro i σ' H2 hi ⟨⟨v6, v7, rfl⟩, e2, ys, hl2, hys⟩
    have hr2 := hr.le e2
    walk_at "xs"
    refine x_for1 (by omega) (fun k σ' H' => (∃ v7, σ' = [some (V.ref p), some (V.ref r), some (V.ref q), some (V.str z), some (V.bl c), some (V.ref l), some (V.int i), v7]) ∧ Le H H' ∧ ∃ ys, H' l = some (.lst ys) ∧ PrsAt H' ys (stepsTo xs z c i ++ stepsAt xs z c i k)) ⟨⟨_, rfl⟩, e2, ys, hl2, by simpa [stepsAt] using hys⟩ ?_ ?_
    · rintro k σ' H3 hk ⟨⟨v7, rfl⟩, e3, ys3, hl3, hys3⟩
      have hr3 := hr.le e3
      walk_at "xs"
      refine x_if (b := fits (xs.getD k ⟨"", "", "", ""⟩) z c (i : Nat)) (et_B (ev_run fun H4 e4 Q4 q4 => ?_)) (fun hb4 H4 e4 => ?_) (fun hb4 H4 e4 => ?_)
      · walk_at "xs"
        refine x_ixRs (hr3.le e4) ⟨by omega, by omega⟩ fun u x hx hu => ?_
        have hx' : xs[k]? = some x := hx
        have hg : xs.getD k ⟨"", "", "", ""⟩ = x := by rw [List.getD_eq_getElem?_getD, hx']; rfl
        rw [hg] at q4
        walk_at "xs"
        exact ⟨u, x, z, c, _, rfl, fx x (List.mem_of_getElem? hx'), gz, hu, q4⟩
      · walk_at "xs"
        rename_i T5 H5 n5 e5 h5
        have hlen := hys3.len
        have hb1 := stepsTo_len xs z c i
        have hb2 := stepsAt_len xs z c i k
        have hib : i * xs.length ≤ 120 * 8 := Nat.mul_le_mul (by omega) hn
        have hl5 := e5.keep (e4.keep hl3)
        refine x_app hl5 (by rw [hlen, List.length_append]; omega) ?_
        refine ⟨⟨_, rfl⟩, le_own ((e3.trans e4).trans e5) n1, _, upd_same, ?_⟩
        rw [stepsAt_succ, if_pos hb4, ← List.append_assoc]
        exact PrsAt.put hl5 (PrsAt.app h5 (hys3.le (e4.trans e5)))
      · walk_at "xs"
        refine ⟨⟨_, rfl⟩, e3.trans e4, ys3, e4.keep hl3, ?_⟩
        rw [stepsAt_succ, if_neg (by rw [hb4]; exact Bool.false_ne_true), List.append_nil]
        exact hys3.le e4
    · rintro σ' H3 ⟨⟨v7, rfl⟩, e3, ys3, hl3, hys3⟩
      walk_at "xs"
      rw [Int.toNat_natCast] at hys3
      exact ⟨⟨_, _, rfl⟩, e3, ys3, hl3, by rw [stepsTo_succ]; exact hys3⟩
  · rintro σ' H3 ⟨⟨v6, v7, rfl⟩, e3, ys3, hl3, hys3⟩
    rw [Int.toNat_natCast] at hys3
    have hb3 : BookAt a H3 p xs := hb.le e3
    obtain ⟨dx, lb, us, hp3, hlb, hru⟩ := id hb3
    walk_at "xs"
    refine x_kGM hp3 (by have e : (("possible" : Str) == "_rules") = false := by decide +kernel
                         simp only [List.lookup, e]) ?_
    walk_at "xs"
    refine ⟨p, q, xs, z, c, rfl, fx, hn, gz, hb3, ht.le e3, fun out H4 e4 hout => ?_⟩
    refine x_kLG fun g H5 n5 e5 h5 => ?_
    walk_at "xs"
    rw [steps_eq] at hout
    refine x_eqD (.lst (sql h5) (PrsAt.dp (hout.le e5))) (.lst (sql (e5.keep (e4.keep hl3))) (PrsAt.dp ((hys3.le e4).le e5))) (prs_shaped _) (prs_shaped _) ?_
    rw [prs_self]
    exact hq _ ((e3.trans e4).trans e5)
end K4
set_option maxHeartbeats 8000000
/-! K4O: k04: the law -/
namespace K4
open PySem PySem.Spec PyProof.Rows L2 MC
local macro_rules | `(tactic| walk_at "hp") => `(tactic| first | assumption | (apply Le.keep; assumption; walk_at "hp") | (apply TextAt.le; assumption; walk_at "hp") | (apply Lw.keep; assumption; walk_at "hp"; first | rfl | exact sh_str _ | exact sh_ints _ | exact sh_sgns _) | (apply TextAt.lw; assumption; walk_at "hp"))
local macro_rules | `(tactic| walk_at "le") => `(tactic| first | exact Le.refl _ | assumption | (apply Le.trans'; assumption; walk_at "le"))
local macro_rules | `(tactic| walk_at "lw") => `(tactic| first | exact Lw.refl _ | assumption | exact Le.w (by assumption) | (apply Lw.trans'; (first | assumption | exact Le.w (by assumption)); walk_at "lw"))
local macro_rules | `(tactic| walk_at "sz") => `(tactic| first | omega | (simp only [slen_app]; omega) | (simp only [List.length_append, List.length_cons, List.length_nil, List.length_map, List.length_range]; omega) | omega | (simp; omega) | decide)
local macro_rules | `(tactic| walk_at "x") => `(tactic| first
  | with_reducible refine x_seq ?_ | with_reducible refine x_asg ?_ | with_reducible refine x_ret ?_ | with_reducible refine x_drop ?_
  | ((with_reducible apply x_var); exact rfl) | with_reducible refine x_c ?_ | with_reducible refine x_op ?_ | with_reducible refine x_opS ?_ | with_reducible refine x_un ?_ | with_reducible refine x_neg ?_
  | with_reducible refine x_test ?_ | with_reducible refine x_tB ?_ | with_reducible refine x_kB ?_
  | with_reducible refine x_nil ?_ | with_reducible refine x_cons ?_ | with_reducible refine x_tup ?_ | with_reducible refine x_lst ?_
  | ((with_reducible refine x_kTup ?_ ?_); (walk_at "sz"); (intro _ _ _ _ _)) | ((with_reducible refine x_kLst ?_ ?_); (walk_at "sz"); (intro _ _ _ _ _))
  | with_reducible refine x_fld ?_ | ((with_reducible apply x_fS); assumption; (walk_at "hp")) | ((with_reducible apply x_fC); assumption; (walk_at "hp"))
  | with_reducible refine x_cb ?_ | with_reducible refine x_call ?_ | with_reducible refine x_callE ?_ | with_reducible refine x_bm ?_ | with_reducible refine x_cv ?_
  | with_reducible refine x_meth ?_ | with_reducible refine x_cm ?_ | with_reducible refine x_kCM ?_ | with_reducible refine x_mk ?_ | with_reducible refine x_kMk ?_
  | with_reducible refine x_np ?_ | with_reducible refine x_part ?_ | with_reducible refine x_kPart ?_ | with_reducible refine x_sl ?_ | with_reducible refine x_rev ?_
  | with_reducible refine x_addI ?_ | ((with_reducible refine x_addS ?_ ?_); (walk_at "sz")) | with_reducible refine x_I0 ?_
  | with_reducible refine x_eqS ?_ | with_reducible refine x_eqI ?_ | with_reducible refine x_eqB ?_ | with_reducible refine x_neS ?_ | with_reducible refine x_neI ?_ | with_reducible refine x_neB ?_
  | with_reducible refine x_eqFS ?_ | with_reducible refine x_eqFI ?_
  | with_reducible refine x_ltI ?_ | with_reducible refine x_ltS ?_ | with_reducible refine x_leI ?_ | with_reducible refine x_leS ?_ | with_reducible refine x_inT ?_ | with_reducible refine x_notInT ?_
  | ((with_reducible refine x_slS ?_ ?_); (walk_at "sz")) | ((with_reducible refine x_kRev ?_ ?_); (walk_at "sz"))
  | ((with_reducible refine x_lenS ?_ ?_); (walk_at "sz")) | ((with_reducible apply x_lenT); (walk_at "hp"))
  | ((with_reducible apply x_ixT); (walk_at "hp"); exact rfl)
  | with_reducible refine x_abs ?_ | with_reducible refine x_int ?_ | with_reducible refine x_strS ?_
  | ((with_reducible apply x_isB); (first | exact kit_ty (r := true) (by decide +kernel) | exact kit_ty (r := false) (by decide +kernel))) | ((with_reducible apply x_isI); (first | exact kit_ty (r := true) (by decide +kernel) | exact kit_ty (r := false) (by decide +kernel))) | ((with_reducible apply x_isS); (first | exact kit_ty (r := true) (by decide +kernel) | exact kit_ty (r := false) (by decide +kernel)))
  | ((with_reducible apply x_isT); (walk_at "hp"); (first | exact kit_ty (r := true) (by decide +kernel) | exact kit_ty (r := false) (by decide +kernel)))
  | ((with_reducible apply x_isText); assumption; (walk_at "hp")) | ((with_reducible apply x_isTextS); assumption) | ((with_reducible apply x_isTextI); assumption) | ((with_reducible apply x_isTextN); assumption) | ((with_reducible apply x_kCVT); assumption)
  | ((with_reducible apply x_addL); (walk_at "hp"); (walk_at "hp"); (walk_at "sz"); (intro _ _ _ _ _)) | ((with_reducible apply x_tyL); (walk_at "hp")) | with_reducible refine x_tyS ?_
  | with_reducible refine x_joined ?_ | with_reducible refine x_js ?_ | with_reducible refine x_js0 ?_ | ((with_reducible refine x_kJs ?_ ?_); (walk_at "sz")) | with_reducible refine x_fmt ?_ | ((with_reducible refine x_fmtS ?_ ?_); (walk_at "sz")) | ((with_reducible refine x_fmtI ?_ ?_); omega)
  | with_reducible refine x_rse ?_ | with_reducible refine x_ex ?_ | with_reducible refine x_ex0 ?_ | with_reducible refine x_xf ?_
  | with_reducible refine x_for ?_ | with_reducible refine x_r1 ?_ | with_reducible refine x_r2 ?_ | with_reducible refine x_il ?_ | with_reducible refine x_en ?_ | with_reducible refine x_lc ?_ | with_reducible refine x_next ?_ | dsimp only)
local macro_rules | `(tactic| walk_at "xs") => `(tactic| repeat walk_at "x")
local macro_rules | `(tactic| walk_at "ev0") => `(tactic| (refine ev_run ?_; intro _ _ _ q; walk_at "xs"; refine q _ ?_; walk_at "le"))
local macro_rules | `(tactic| walk_at "ch") => `(tactic| (intro _ _ _ q; walk_at "xs"; refine q _ ?_; walk_at "le"))
local macro_rules | `(tactic| walk_at "ev") => `(tactic| first
  | (focus ((with_reducible refine ev_andV ?_ (fun _ => ?_)); (all_goals walk_at "ev"))) | (focus ((with_reducible refine ev_orV ?_ (fun _ => ?_)); (all_goals walk_at "ev")))
  | ((with_reducible refine ev_notV ?_); walk_at "ev")
  | (focus ((with_reducible apply ev_chain); (focus walk_at "ch"); (focus walk_at "ch"); (focus walk_at "ch"); (focus (intro _ _ _ q; walk_at "x"; exact q)); (focus (intro _ _ _ q; walk_at "x"; exact q))))
  | walk_at "ev0" | skip)
local macro_rules | `(tactic| walk_at "et") => `(tactic| first
  | (focus ((with_reducible refine et_and ?_ (fun _ => ?_)); (all_goals walk_at "et"))) | (focus ((with_reducible refine et_or ?_ (fun _ => ?_)); (all_goals walk_at "et")))
  | ((with_reducible refine et_not ?_); walk_at "et") | ((with_reducible refine et_B ?_); walk_at "ev") | ((with_reducible refine et_T ?_); walk_at "ev"))
local macro_rules | `(tactic| walk_at "hp") => `(tactic| first | assumption | (apply RuleAt.le; assumption; walk_at "hp") | (apply RulesAt.le; assumption; walk_at "hp") | (apply BookAt.le; assumption; walk_at "hp") | (apply RuleAt.lw; assumption; walk_at "hp") | (apply BookAt.lw; assumption; walk_at "hp") | (apply R4s.le; assumption; walk_at "hp") | (apply R4s.lw; assumption; walk_at "hp"))
local macro_rules | `(tactic| walk_at "x") => `(tactic| first
  | ((with_reducible apply x_fO); assumption; (walk_at "hp")) | ((with_reducible apply x_fN); assumption; (walk_at "hp")) | ((with_reducible apply x_fL); assumption; (walk_at "hp")) | ((with_reducible apply x_fR); assumption; (walk_at "hp")) | ((with_reducible apply x_fB); assumption; (walk_at "hp"))
  | ((with_reducible apply x_isRule); assumption; (walk_at "hp")) | ((with_reducible apply x_kCVB); assumption)
  | with_reducible refine x_callO ?_ | with_reducible refine x_kCO ?_ | with_reducible refine x_prop ?_ | with_reducible refine x_max ?_ | with_reducible refine x_intB ?_ | with_reducible refine x_findS ?_ | with_reducible refine x_countS ?_ | with_reducible refine x_isN ?_)
local macro_rules | `(tactic| walk_at "sz") => `(tactic| (simp only [slen_app, elen, len1a, len1b, len1c]; omega))
local macro_rules | `(tactic| walk_at "x") => `(tactic| first
  | with_reducible refine x_sfld ?_ | with_reducible refine x_enL ?_ | with_reducible refine x_enN ?_ | with_reducible refine x_it ?_ | with_reducible refine x_asgT ?_ | ((with_reducible apply x_g2); (walk_at "hp")) | ((with_reducible apply x_g3); (walk_at "hp")) | ((with_reducible apply x_g4); (walk_at "hp"))
  | ((with_reducible apply x_lenL2); (walk_at "hp")) | with_reducible refine x_gseq ?_ | with_reducible refine x_g0 ?_ | with_reducible refine x_gfor ?_ | with_reducible refine x_gps ?_)
local macro_rules | `(tactic| walk_at "x") => `(tactic| first | ((with_reducible refine x_splitS ?_ ?_ ?_); (decide +kernel); (walk_at "sz"); (intro _ _ _ _ _)) | with_reducible refine x_methK ?_ | with_reducible refine x_mkSt ?_ | with_reducible refine x_kMkSt ?_ | ((with_reducible apply x_kStL); (walk_at "hp")))
local macro_rules | `(tactic| walk_at "x") => `(tactic| first
  | with_reducible refine x_listG ?_ | with_reducible refine x_gm ?_)
local macro_rules | `(tactic| walk_at "st") => `(tactic| first | assumption | (apply St.le; assumption; walk_at "st"))
local macro_rules | `(tactic| walk_at "hp") => `(tactic| first | assumption | (apply Rs.le; assumption; walk_at "hp") | (apply Rs.lw; assumption; walk_at "hp"))
local macro_rules | `(tactic| walk_at "x") => `(tactic| first | ((with_reducible apply x_ixL2); (walk_at "hp"); exact rfl) | ((with_reducible apply x_lenL2); (walk_at "hp")))
local macro_rules | `(tactic| walk_at "x") => `(tactic| first | ((with_reducible apply x_r0); (walk_at "hp")) | ((with_reducible apply x_r1'); (walk_at "hp")) | ((with_reducible apply x_r2'); (walk_at "hp")) | ((with_reducible apply x_r3); (walk_at "hp")) | ((with_reducible apply x_lenRs); (walk_at "hp")))
def sp_law (K : PySem.W.Frag) : Sp := fun vs H Q E => ∃ (s0 : Addr) (ns : List Int), vs = [.ref s0] ∧ SqL K H s0 (ns.map V.int) ∧ ∀ H', Q (.bl true) H'
/-- what is drawn -/
structure Drawn (H : Hp) (s l r : Addr) (z : Str) (c : Bool) (xs : List R4) : Prop where
  st : St H s l
  rs : Rs H r xs
  fx : ∀ x ∈ xs, Fine x
  nd : xs.Nodup
  n1 : 1 ≤ xs.length
  n8 : xs.length ≤ 8
  gd : Good z c
theorem ap_of {c : Bool} {n : Int} : (if (if c = true then (1 : Int) else 0) > n then (if c = true then (1 : Int) else 0) else n) ≥ n ∧ (c = true → (if (if c = true then (1 : Int) else 0) > n then (if c = true then (1 : Int) else 0) else n) ≥ 1) := by
  cases c <;> simp <;> split <;> omega
theorem ok_law {P : Program} {w : World} {K : PySem.W.Frag} {mg : Str → Option Value} {base : Heap} {a : Ad} {f : Addr} {fd : FuncData} (F : FnP K "law" "law" s_law f fd) (T : Txt K mg a) (M_Book_written : MeG P w K mg base 4 a.cBook "written" (sp_Book_written a)) (G__law_is_text : FnG P w K mg base 5 "_law_is_text" (sp__law_is_text a)) (G__law_form_of : FnG P w K mg base 1 "_law_form_of" (sp__law_form_of a)) (G__law_yields : FnG P w K mg base 8 "_law_yields" (sp__law_yields a)) (G__law_agrees : FnG P w K mg base 8 "_law_agrees" (sp__law_agrees a)) (G__law_due_of : FnG P w K mg base 2 "_law_due_of" (sp__law_due_of a)) (G__law_next : FnG P w K mg base 1 "_law_next" (sp__law_next a)) (Ct_Text_1_closed : CtG P w K mg base 3 a.cText 1 ["closed"] (spCt_Text_1_closed a)) (G__law_book_of : FnG P w K mg base 8 "_law_book_of" (sp__law_book_of a)) (G__law_long : FnG P w K mg base 3 "_law_long" (sp__law_long a)) (G__law_over_the_end : FnG P w K mg base 3 "_law_over_the_end" (sp__law_over_the_end a)) (G__law_text_of : FnG P w K mg base 3 "_law_text_of" (sp__law_text_of a)) (G__law_rules_of : FnG P w K mg base 4 "_law_rules_of" (sp__law_rules_of a)) (G__law_letters_of : FnG P w K mg base 2 "_law_letters_of" (sp__law_letters_of a)) :
    FnOk P w K mg base (L2.CX P w) 9 f fd ["_law_script"] (sp_law K) := by
  refine F.ok sc_law (fun vs H Q E h => by obtain ⟨s0, ns, rfl, hS, q⟩ := h; rfl) (fun cdv A outer s H vs Q E hr h => ?_)
  refine ⟨_, (pss_cons (ps_set (i := 1) sc_law.nd rfl (Or.inl rfl) (pe_lst (pa_cons (pe_callTy (call_listU rfl) (by rfl) T.f_list (by decide +kernel) (pa_cons (pe_slice sl_U (pv 0) po_none (po_some pe_int)) pa_nil)) (pa_cons pe_int (pa_cons pe_int pa_nil)))))
    (pss_cons (ps_set (i := 2) sc_law.nd rfl (Or.inl rfl) (pe_callG G__law_next (hr.mono (by decide)) passN rfl (pa_cons (pv 1) (pa_cons pe_int pa_nil))))
    (pss_cons (ps_set (i := 3) sc_law.nd rfl (Or.inl rfl) (pe_ix ix_seq (pe_lst (pa_cons pe_bl (pa_cons pe_bl (pa_cons pe_bl (pa_cons pe_bl (pa_cons pe_bl (pa_cons pe_bl (pa_cons pe_bl (pa_cons pe_bl pa_nil))))))))) (pv 2) (fun _ _ => rfl)))
    (pss_cons (ps_set (i := 4) sc_law.nd rfl (Or.inl rfl) (pe_callG G__law_letters_of (hr.mono (by decide)) passN rfl (pa_cons (pv 1) pa_nil)))
    (pss_cons (ps_set (i := 5) sc_law.nd rfl (Or.inl rfl) (pe_callG G__law_rules_of (hr.mono (by decide)) passN rfl (pa_cons (pv 1) (pa_cons (pv 4) pa_nil))))
    (Evl.pss_cut (ps_if (pt_cmpR (op_eqU hr) (pv 2) pe_int (nomark _)) (pss_cons (ps_set (i := 3) sc_law.nd rfl (Or.inl rfl) (pe_cmpR (op_eqU hr) (pe_callG G__law_next (hr.mono (by decide)) passN rfl (pa_cons (pv 1) (pa_cons pe_int pa_nil))) pe_int (nomark _)))
    (pss_cons (ps_set (i := 13) sc_law.nd rfl (Or.inl rfl) (pe_ix ix_seq (pv 5) pe_int (fun _ _ => rfl)))
    (pss_cons (ps_set (i := 14) sc_law.nd rfl (Or.inl rfl) (pe_tup (pa_cons (pe_ix ix_seq (pv 13) pe_int (fun _ _ => rfl)) (pa_cons (pe_slice sl_U (pe_ix ix_seq (pv 13) pe_int (fun _ _ => rfl)) po_none (po_some pe_int)) (pa_cons (pe_slice sl_U (pe_op op_addU (pe_op op_addU (pe_ix ix_seq (pv 13) pe_int (fun _ _ => rfl)) (pv 4)) (pv 4)) po_none (po_some pe_int)) (pa_cons (pe_ix ix_seq (pv 13) pe_int (fun _ _ => rfl)) pa_nil))))))
    (Evl.pss_cut (ps_if (pt_cmpR (op_notInD (by have := hr.un; show (A.deeper _).units + _ < _; omega)) (pv 14) (pv 5) (by rfl)) (pss_one (ps_asg (pv 14) (pg_sub (pv 5) pe_int set_list))) pss_nil)
    (pss_one (ps_set (i := 15) sc_law.nd rfl (Or.inl rfl) (pe_callG G__law_long (hr.mono (by decide)) passN rfl (pa_cons (pv 1) (pa_cons (pv 4) (pa_cons (pv 14) pa_nil)))))))))) (pss_one (ps_if (pt_cmpR (op_eqU hr) (pe_op op_modN (pe_callTy call_intU (by rfl) T.f_int (by decide +kernel) (pa_cons (pv 2) pa_nil)) pe_int) pe_int (nomark _)) (pss_one (ps_set (i := 15) sc_law.nd rfl (Or.inl rfl) (pe_callG G__law_over_the_end (hr.mono (by decide)) passN rfl (pa_cons (pv 1) (pa_cons (pv 4) (pa_cons (pv 5) pa_nil)))))) (pss_cons (ps_set (i := 8) sc_law.nd rfl (Or.inl rfl) (pe_ix ix_seq (pe_lst (pa_cons pe_int (pa_cons pe_int (pa_cons pe_int (pa_cons pe_int (pa_cons pe_int (pa_cons pe_int (pa_cons pe_int (pa_cons pe_int pa_nil))))))))) (pe_callG G__law_next (hr.mono (by decide)) passN rfl (pa_cons (pv 1) (pa_cons pe_int pa_nil))) (fun _ _ => rfl)))
    (pss_one (ps_set (i := 15) sc_law.nd rfl (Or.inl rfl) (pe_callG G__law_text_of (hr.mono (by decide)) passN rfl (pa_cons (pv 1) (pa_cons (pv 4) (pa_cons (pv 5) (pa_cons (pe_callB (call_maxU rfl) (by rfl) T.f_max (by decide +kernel) (pa_cons (pv 8) (pa_cons (pe_callTy call_intU (by rfl) T.f_int (by decide +kernel) (pa_cons (pv 3) pa_nil)) pa_nil))) pa_nil)))))))))))
    (pss_cons (ps_set (i := 6) sc_law.nd rfl (Or.inl rfl) (pe_callG G__law_book_of (hr.mono (by decide)) passN rfl (pa_cons (pv 5) pa_nil)))
    (pss_cons (ps_set (i := 7) sc_law.nd rfl (Or.inl rfl) (pe_mkG Ct_Text_1_closed (hr.mono (by decide)) (passW (takes_of rfl rfl rfl rfl)) (pe_glob (v := .ref a.cText) rfl T.g_Text rfl) (pa_cons (pv 15) pa_nil) (pk_cons (pv 3) pk_nil)))
    (pss_cons (ps_set (i := 8) sc_law.nd rfl (Or.inl rfl) (pe_callB call_lenU (by rfl) T.f_len (by decide +kernel) (pa_cons (pv 15) pa_nil)))
    (pss_cons (ps_set (i := 9) sc_law.nd rfl (Or.inl rfl) (pe_callTy (call_listR rfl) (by rfl) T.f_list (by decide +kernel) (pa_cons (pe_callTy call_rng2 (by rfl) T.f_range (by decide +kernel) (pa_cons (pe_un un_neg pe_int) (pa_cons (pe_op op_addU (pv 8) pe_int) pa_nil))) pa_nil)))
    (Evl.pss_cut (ps_if (pt_cmpR op_gt (pv 8) pe_int (nomark _)) (pss_one (ps_set (i := 9) sc_law.nd rfl (Or.inl rfl) (pe_op op_addU (pe_op op_addU (pe_lst (pa_cons (pe_un un_neg pe_int) pa_nil)) (pe_callTy (call_listR rfl) (by rfl) T.f_list (by decide +kernel) (pa_cons (pe_callTy call_rng1 (by rfl) T.f_range (by decide +kernel) (pa_cons pe_int pa_nil)) pa_nil))) (pe_callTy (call_listR rfl) (by rfl) T.f_list (by decide +kernel) (pa_cons (pe_callTy call_rng2 (by rfl) T.f_range (by decide +kernel) (pa_cons (pe_op op_sub (pv 8) pe_int) (pa_cons (pe_op op_addU (pv 8) pe_int) pa_nil))) pa_nil))))) pss_nil)
    (pss_cons (ps_set (i := 10) sc_law.nd rfl (Or.inl rfl) (pe_callG G__law_next (hr.mono (by decide)) passN rfl (pa_cons (pv 1) (pa_cons pe_int pa_nil))))
    (pss_cons (ps_for (by first | exact po | exact PassesOwn.never | exact passes_of rfl) rfl (pi_range2 (by rfl) T.f_range (pa_cons (pe_un un_neg pe_int) (pa_cons (pe_op op_addU (pe_callB call_lenU (by rfl) T.f_len (by decide +kernel) (pa_cons (pv 5) pa_nil)) pe_int) pa_nil))) (pg_name (i := 11) sc_law.nd rfl (Or.inl rfl)) (pss_one (ps_for (by first | exact po | exact PassesOwn.never | exact passes_of rfl) rfl (pi_list (pe_op op_addU (pv 9) (pe_lst (pa_cons (pe_op op_pow pe_int pe_int) (pa_cons (pe_un un_neg (pe_op op_pow pe_int pe_int)) pa_nil))))) (pg_name (i := 16) sc_law.nd rfl (Or.inl rfl)) (pss_cons (ps_set (i := 17) sc_law.nd rfl (Or.inl rfl) (pe_callG G__law_due_of (hr.mono (by decide)) passN rfl (pa_cons (pv 5) (pa_cons (pv 15) (pa_cons (pv 3) (pa_cons (pv 11) (pa_cons (pv 16) pa_nil)))))))
    (pss_cons (ps_if (pt_not (pt_val (pe_callG G__law_agrees (hr.mono (by decide)) passN rfl (pa_cons (pv 6) (pa_cons (pv 7) (pa_cons (pv 11) (pa_cons (pv 16) (pa_cons (pv 10) (pa_cons (pv 17) pa_nil))))))))) (pss_one (ps_ret pe_bl)) pss_nil)
    (pss_one (ps_if (pt_not (pt_val (pe_callG G__law_agrees (hr.mono (by decide)) passN rfl (pa_cons (pv 6) (pa_cons (pv 7) (pa_cons (pv 11) (pa_cons (pv 16) (pa_cons pe_int (pa_cons (pv 17) pa_nil))))))))) (pss_one (ps_ret pe_bl)) pss_nil)))))))
    (pss_cons (ps_if (pt_not (pt_val (pe_callG G__law_yields (hr.mono (by decide)) passN rfl (pa_cons (pv 6) (pa_cons (pv 5) (pa_cons (pv 7) (pa_cons (pv 15) (pa_cons (pv 3) pa_nil)))))))) (pss_one (ps_ret pe_bl)) pss_nil)
    (pss_cons (ps_setLc (i := 12) (own := [("_law_rule", 13)]) (g := gName 13) (tt := tYes) rfl sc_law.nd rfl rfl (sw_true rfl rfl rfl (by decide +kernel)) (pi_list (pv 5)) (blkOk_by (N := ["_law_script", "_law_state", "_law_kind", "_law_closed", "_law_signs", "_law_rules", "_law_book", "_law_text", "_law_many", "_law_places", "_law_way", "_law_number", "_law_lines", "_law_rule", "_law_gains", "_law_shown", "_law_at", "_law_due"]) (sc := defScope s_law) (by decide +kernel)) (fun _ _ _ _ _ => pg_name (i := 13) sc_law.nd rfl (Or.inl rfl)) (fun _ _ _ _ _ => pts_nil) (fun _ _ _ _ _ => (pe_callG G__law_form_of (hr.mono (by decide)) passN rfl (pa_cons (pv 13) pa_nil))))
    (pss_one (ps_ret (pe_and (pe_callG G__law_is_text (hr.mono (by decide)) passN rfl (pa_cons (pv 7) (pa_cons (pv 15) (pa_cons (pv 3) pa_nil)))) (pe_one (pe_cmpR (op_eqU hr) (pe_methG0 M_Book_written (hr.mono (by decide)) passN (pv 6)) (pe_bm PySem.F.plainAttrs_str PySem.F.slot_str_join PySem.F.type_str_join mt_joinU pe_str (pa_cons (pv 12) pa_nil)) (nomark _))))))))))))))))))))), ?_⟩
  obtain ⟨s0, ns, rfl, hS, q⟩ := h
  walk_at "xs"
  refine x_slL hS fun p1 H1 n1 e1 h1 => ?_
  walk_at "xs"
  refine x_listL (sql h1) fun p2 H2 n2 e2 h2 => ?_
  walk_at "xs"
  rename_i s H3 n3 e3 h3
  have s3 : St H3 s p2 := by
    obtain ⟨ms, hms⟩ := list_int ns none (some 63)
    rw [hms] at h2
    exact ⟨ms, 0, 0, h3, e3.keep h2, by omega, by omega⟩
  refine c_next s3 (by omega) fun kd H4 hk1 hk2 e4 s4 => ?_
  walk_at "xs"
  rename_i p5 H5 n5 e5 h5
  refine x_ixAll (fun v => ∃ b, v = V.bl b) h5 ⟨hk1, hk2⟩ (by intro v hv; simp only [List.mem_cons, List.not_mem_nil, or_false] at hv; rcases hv with rfl | rfl | rfl | rfl | rfl | rfl | rfl | rfl <;> exact ⟨_, rfl⟩) ?_
  rintro v ⟨c0, rfl⟩
  walk_at "xs"
  refine ⟨s, p2, rfl, s4.le e5, fun g H6 hgb hg1 hg2 e6 s6 => ?_⟩
  walk_at "xs"
  refine ⟨s, p2, g, rfl, s6, hgb, by omega, fun r us xs0 H7 fx0 nd0 l1 l8 e7 s7 hr7 hus7 => ?_⟩
  have hg : 0 < g.length ∧ g.length ≤ 100 := by omega
  walk_at "xs"
  refine x_cut (fun σ' H' => (∃ c z xs v8 v13 v14, σ' = [some (V.ref s0), some (V.ref s), some (V.int kd), some (V.bl c), some (V.str g), some (V.ref r), none, none, v8, none, none, none, none, v13, v14, some (V.str z), none, none] ∧ Drawn H' s p2 r z c xs)) ?_ ?_
  · refine x_ifK ?_
    walk_at "xs"
    refine x_kIf (fun _ => ?_) (fun _ => ?_)
    · walk_at "xs"
      refine c_next s7 (by omega) fun c1 H8 _ _ e8 s8 => ?_
      walk_at "xs"
      generalize decide (c1 = 1) = c
      have hr8 : Rs H8 r xs0 := ⟨us, e8.keep hr7 hus7.sh, hus7.lw e8⟩
      refine x_ixRs hr8 ⟨by omega, by show (0 : Int) < _; omega⟩ fun u x hx hu => ?_
      have f := fx0 x (List.mem_of_getElem? hx)
      have f1 := f.l.2
      have f2 := f.o.2
      have f3 := f.r.2
      have f4 := f.n.2
      have k1 := cut_len_to x.o 1
      have k2 := cut_len_to (x.n ++ g ++ g) 3
      have k3 := slen_app (x.n ++ g) g
      have k4 := slen_app x.n g
      walk_at "xs"
      rename_i p9 H9 n9 e9 h9
      have fy : Fine ⟨x.l, cutS x.o none (some 1), cutS (x.n ++ g ++ g) none (some 3), x.r⟩ :=
        ⟨f.l, ⟨bad_cut f.o.1, by show 1 ≤ (cutS x.o none (some ((1 : Nat) : Int))).length; omega, by show (cutS x.o none (some ((1 : Nat) : Int))).length ≤ 3; omega⟩, ⟨bad_cut (bad_app (bad_app f.n.1 hgb) hgb), by show 1 ≤ (cutS (x.n ++ g ++ g) none (some ((3 : Nat) : Int))).length; omega, by show (cutS (x.n ++ g ++ g) none (some ((3 : Nat) : Int))).length ≤ 3; omega⟩, f.r⟩
      have hy9 : H9 p9 = some (.tup (R4.vs ⟨x.l, cutS x.o none (some 1), cutS (x.n ++ g ++ g) none (some 3), x.r⟩)) := h9
      generalize (⟨x.l, cutS x.o none (some 1), cutS (x.n ++ g ++ g) none (some 3), x.r⟩ : R4) = y at fy hy9
      have hr9 := hr8.le e9
      have s9 : St H9 s p2 := s8.le e9
      refine x_cut (fun σ' H' => σ' = [some (V.ref s0), some (V.ref s), some (V.int kd), some (V.bl c), some (V.str g), some (V.ref r), none, none, none, none, none, none, none, some (V.ref u), some (V.ref p9), none, none, none] ∧ St H' s p2 ∧ H' p9 = some (.tup y.vs) ∧ ∃ xs, Rs H' r xs ∧ (∀ x ∈ xs, Fine x) ∧ xs.Nodup ∧ 1 ≤ xs.length ∧ xs.length ≤ 8) ?_ ?_
      · obtain ⟨us9, hr9a, hr9b⟩ := id hr9
        refine x_if (b := !decide (y ∈ xs0)) (et_T (ev_run fun H10 e10 Q10 q10 => ?_)) (fun hb10 H10 e10 => ?_) (fun hb10 H10 e10 => ?_)
        · walk_at "xs"
          exact x_notIn4 (e10.keep hy9) (e10.keep hr9a) (hr9b.le e10) fy.ok (fun w hw => (fx0 w hw).ok) (q10 _ (Le.refl _))
        · have hy0 : y ∉ xs0 := by simpa using hb10
          walk_at "xs"
          refine x_setL ?_
          walk_at "xs"
          have hlen := hr9b.len
          have hr10 := e10.keep hr9a
          refine x_rSetL (n := 0) hr10 (by unfold ixN; rw [if_pos (by decide), if_pos (by omega)]; rfl) ?_
          have hne : s ≠ r ∧ p2 ≠ r := by
            obtain ⟨ms, pos, rest, g1, g2, _⟩ := s9
            refine ⟨fun w => ?_, fun w => ?_⟩
            · rw [w, hr9a] at g1
              cases g1
              exact absurd hr9b.sh (by simp [stSh])
            · rw [w, hr9a] at g2
              cases g2
              cases ms with
              | nil => simp at hlen; omega
              | cons m ms =>
                cases xs0 with
                | nil => simp at l1
                | cons x0 xs0 => obtain ⟨⟨_, w2, _⟩, _⟩ := hr9b; cases w2
          refine ⟨rfl, (s9.le e10).put hne, ?_, xs0.set 0 y, ⟨_, upd_same, R4s.put hr10 (R4s.set (e10.keep hy9) 0 (hr9b.le e10))⟩, ?_, ?_, ?_, ?_⟩
          · rw [upd_ne (fun w => by rw [w, hr9a] at hy9; cases hy9)]
            exact e10.keep hy9
          · intro w hw
            rcases List.mem_or_eq_of_mem_set hw with hw | hw
            · exact fx0 w hw
            · rw [hw]; exact fy
          · cases xs0 with
            | nil => simp
            | cons x0 xs0 =>
              rw [List.set_cons_zero]
              exact List.nodup_cons.mpr ⟨fun w => hy0 (List.mem_cons_of_mem _ w), (List.nodup_cons.mp nd0).2⟩
          · rw [List.length_set]; exact l1
          · rw [List.length_set]; exact l8
        · walk_at "xs"
          exact ⟨rfl, s9.le e10, e10.keep hy9, xs0, hr9.le e10, fx0, nd0, l1, l8⟩
      · rintro σ' H10 ⟨rfl, s10, hy10, xs, hr10, fx, nd, m1, m8⟩
        walk_at "xs"
        refine ⟨s, p2, g, p9, y, rfl, s10, hgb, hg, hy10, fy, fun z H11 hzb hz1 hz2 e11 s11 => ?_⟩
        walk_at "xs"
        exact ⟨c, z, xs, _, _, _, rfl, s11, hr10.lw e11, fx, nd, m1, m8, hzb, hz2, fun _ w => by rw [empty_iff] at w; omega⟩
    · have hr7' : Rs H7 r xs0 := ⟨us, hr7, hus7⟩
      walk_at "xs"
      refine x_ifK ?_
      walk_at "xs"
      refine x_I (by decide) ?_
      walk_at "xs"
      refine x_kIf (fun _ => ?_) (fun _ => ?_)
      · walk_at "xs"
        refine ⟨s, p2, g, r, xs0, rfl, s7, hgb, hg, hr7', fx0, ⟨l1, l8⟩, fun z H8 hzb hz1 hz2 e8 s8 => ?_⟩
        walk_at "xs"
        exact ⟨c0, z, xs0, _, _, _, rfl, s8, hr7'.lw e8, fx0, nd0, l1, l8, hzb, by omega, fun _ w => by rw [empty_iff] at w; omega⟩
      · walk_at "xs"
        rename_i p8 H8 n8 e8 h8
        refine c_next (s7.le e8) (by omega) fun r9 H9 hr9 hr9' e9 s9 => ?_
        refine x_ixP (fun n => 0 ≤ n ∧ n ≤ 7) [5, 4, 6, 3, 7, 2, 1, 0] (e9.keep h8 rfl) ⟨hr9, hr9'⟩ (by decide) fun m hm => ?_
        walk_at "xs"
        have ha := @ap_of c0 m
        have hb7 : (if (if c0 = true then (1 : Int) else 0) > m then (if c0 = true then (1 : Int) else 0) else m) ≤ 15 := by cases c0 <;> simp <;> split <;> omega
        generalize (if (if c0 = true then (1 : Int) else 0) > m then (if c0 = true then (1 : Int) else 0) else m) = m2 at ha hb7 ⊢
        have hr9r : Rs H9 r xs0 := (hr7'.le e8).lw e9
        refine ⟨s, p2, g, r, xs0, m2, rfl, s9, hgb, hg, hr9r, fx0, ⟨l1, l8⟩, by omega, fun z H10 hzb hz1 e10 s10 => ?_⟩
        walk_at "xs"
        exact ⟨c0, z, xs0, _, _, _, rfl, s10, hr9r.lw e10, fx0, nd0, l1, l8, hzb, by omega, fun hc w => by rw [empty_iff] at w; have := ha.2 hc; omega⟩
  rintro σ' H8 ⟨c, z, xs, v8, v13, v14, rfl, hD⟩
  have hz2 : z.length ≤ 120 := hD.gd.2.1
  have hn8 := hD.n8
  have hn1 := hD.n1
  walk_at "xs"
  refine ⟨r, xs, rfl, hD.rs, hD.fx, hD.nd, ⟨hD.n1, hD.n8⟩, fun pb H9 e9 hb9 => ?_⟩
  walk_at "xs"
  refine ⟨z, c, ⟨rfl, rfl⟩, by show z.length ≤ 1000; omega, hD.gd.1, meets_good hD.gd fun pt H10 e10 ht10 => ?_⟩
  walk_at "xs"
  refine x_rng2 fun pr H11 n11 e11 h11 => ?_
  walk_at "xs"
  refine x_listR h11 (by omega) fun pl H12 n12 e12 h12 => ?_
  rw [rng_int] at h12
  walk_at "xs"
  have hb12 : BookAt a H12 pb xs := by walk_at "hp"
  have ht12 : TextAt a H12 pt z c := by walk_at "hp"
  have eA : Le H8 H12 := by walk_at "le"
  refine x_cut (fun σ' H' => (∃ pp ks, σ' = [some (V.ref s0), some (V.ref s), some (V.int kd), some (V.bl c), some (V.str g), some (V.ref r), some (V.ref pb), some (V.ref pt), some (V.int (z.length : Nat)), some (V.ref pp), none, none, none, v13, v14, some (V.str z), none, none] ∧ H' pp = some (.lst ((ks : List Int).map V.int)) ∧ (∀ k ∈ ks, -1000 ≤ k ∧ k ≤ 1000) ∧ ks.length ≤ 1000) ∧ Le H12 H') ?_ ?_
  · refine x_if (b := decide ((20 : Int) < (z.length : Nat))) (by walk_at "et") (fun hb H13 e13 => ?_) (fun hb H13 e13 => ?_)
    · walk_at "xs"
      rename_i p14 H14 n14 e14 h14
      refine x_rng1 fun p15 H15 n15 e15 h15 => ?_
      walk_at "xs"
      refine x_listR h15 (by omega) fun p16 H16 n16 e16 h16 => ?_
      rw [rng_int] at h16
      walk_at "xs"
      rename_i p17 H17 n17 e17 h17
      refine x_rng2 fun p18 H18 n18 e18 h18 => ?_
      walk_at "xs"
      refine x_listR h18 (by omega) fun p19 H19 n19 e19 h19 => ?_
      rw [rng_int] at h19
      walk_at "xs"
      rename_i p20 H20 n20 e20 h20
      rw [show [V.int (-1)] = ([-1] : List Int).map V.int from rfl, ← List.map_append, ← List.map_append] at h20
      refine ⟨⟨p20, _, rfl, h20, fun k hk => ?_, by simp; omega⟩, by walk_at "le"⟩
      simp only [List.mem_append, List.mem_singleton, List.mem_map, List.mem_range] at hk
      rcases hk with (rfl | ⟨j, hj, rfl⟩) | ⟨j, hj, rfl⟩ <;> omega
    · walk_at "xs"
      refine ⟨⟨pl, _, rfl, e13.keep h12, fun k hk => ?_, by simp; omega⟩, e13⟩
      simp only [List.mem_map, List.mem_range] at hk
      obtain ⟨j, hj, rfl⟩ := hk
      omega
  rintro σ' H13 ⟨⟨pp, ks, rfl, hpp, hks, hkl⟩, e13⟩
  have eB : Le H8 H13 := eA.trans e13
  walk_at "xs"
  refine c_next (hD.st.le eB) (by omega) fun way H14 hw1 hw2 e14 s14 => ?_
  have hb14 : BookAt a H14 pb xs := (hb12.le e13).lw e14
  have ht14 : TextAt a H14 pt z c := (ht12.le e13).lw e14
  have hr14 : Rs H14 r xs := (hD.rs.le eB).lw e14
  have hshp : stSh (.lst (ks.map V.int)) = false := by
    match ks with
    | [] => rfl
    | [_] => rfl
    | [_, _] => rfl
    | [_, _, _] => rfl
    | _ :: _ :: _ :: _ :: _ => rfl
  have hp14 : H14 pp = some (.lst (ks.map V.int)) := e14.keep hpp hshp
  walk_at "xs"
  refine x_for2 (by omega) (fun i σ' H' => (∃ v11 v16 v17, σ' = [some (V.ref s0), some (V.ref s), some (V.int kd), some (V.bl c), some (V.str g), some (V.ref r), some (V.ref pb), some (V.ref pt), some (V.int (z.length : Nat)), some (V.ref pp), some (V.int way), v11, none, v13, v14, some (V.str z), v16, v17]) ∧ Le H14 H') ⟨⟨_, _, _, rfl⟩, Le.refl _⟩ ?_ ?_
  · rintro i σ' H15 hi ⟨⟨v11, v16, v17, rfl⟩, e15⟩
    have hnum : SmI (-1 + (i : Int)) := log_small (by omega)
    generalize (-1 + (i : Int)) = num at hnum ⊢
    walk_at "xs"
    refine x_I ⟨by decide, by decide, by decide⟩ ?_
    walk_at "xs"
    refine x_I ⟨by decide, by decide, by decide⟩ ?_
    walk_at "xs"
    rename_i p16 H16 n16 e16 h16 p17 H17 n17 e17 h17
    have h17' : ∃ js : List Int, H17 p17 = some (.lst (js.map V.int)) ∧ ∀ j ∈ js, SmI j := by
      refine ⟨ks ++ [(10 : Int) ^ (9 : Int).toNat, -(10 : Int) ^ (9 : Int).toNat], ?_, fun j hj => ?_⟩
      · rw [h17, List.map_append]; rfl
      · rcases List.mem_append.mp hj with hj | hj
        · have := hks j hj
          exact log_small (by omega)
        · simp only [List.mem_cons, List.not_mem_nil, or_false] at hj
          rcases hj with rfl | rfl <;> exact log_small (by decide)
    obtain ⟨js, hj17, hjs⟩ := h17'
    walk_at "xs"
    have eC : Le H14 H17 := by walk_at "le"
    refine x_forL (sql hj17) (fun j σ' H' => (∃ v16 v17, σ' = [some (V.ref s0), some (V.ref s), some (V.int kd), some (V.bl c), some (V.str g), some (V.ref r), some (V.ref pb), some (V.ref pt), some (V.int (z.length : Nat)), some (V.ref pp), some (V.int way), some (V.int num), none, v13, v14, some (V.str z), v16, v17]) ∧ Le H17 H') ⟨⟨_, _, rfl⟩, Le.refl _⟩ (fun j σ' H' _ h => sql (h.2.keep hj17)) ?_ ?_
    · rintro j x σ' H18 hx ⟨⟨v16, v17, rfl⟩, e18⟩
      obtain ⟨k, rfl, hk⟩ := getI hx
      have hsk := hjs k hk
      have eD : Le H14 H18 := eC.trans e18
      walk_at "xs"
      refine ⟨r, xs, z, c, num, k, rfl, hr14.le eD, hD.fx, hD.n8, hD.gd, fun t H19 e19 hdue => ?_⟩
      have eE : Le H14 H19 := eD.trans e19
      walk_at "xs"
      refine x_no (et_is (b := !true) (et_not (et_B (ev_run fun H20 e20 Q20 q20 => ?_))) rfl) fun H20 e20 => ?_
      · walk_at "xs"
        exact ⟨pb, pt, xs, z, c, num, k, way, t, rfl, hD.fx, hD.n8, hD.gd, hnum, hsk, by omega, hb14.le (eE.trans e20), ht14.le (eE.trans e20), hdue.le e20, q20⟩
      walk_at "xs"
      refine x_no (et_is (b := !true) (et_not (et_B (ev_run fun H21 e21 Q21 q21 => ?_))) rfl) fun H21 e21 => ?_
      · walk_at "xs"
        exact ⟨pb, pt, xs, z, c, num, k, 2, t, rfl, hD.fx, hD.n8, hD.gd, hnum, hsk, by omega, hb14.le ((eE.trans e20).trans e21), ht14.le ((eE.trans e20).trans e21), hdue.le (e20.trans e21), q21⟩
      walk_at "xs"
      exact ⟨⟨_, _, rfl⟩, ((e18.trans e19).trans e20).trans e21⟩
    · rintro σ' H18 ⟨⟨v16, v17, rfl⟩, e18⟩
      exact ⟨⟨_, _, _, rfl⟩, eC.trans e18⟩
  rintro σ' H15 ⟨⟨v11, v16, v17, rfl⟩, e15⟩
  walk_at "xs"
  refine x_no (et_is (b := !true) (et_not (et_B (ev_run fun H16 e16 Q16 q16 => ?_))) rfl) fun H16 e16 => ?_
  · walk_at "xs"
    exact ⟨pb, r, pt, xs, z, c, rfl, hD.fx, hD.n8, hD.gd, hb14.le (e15.trans e16), hr14.le (e15.trans e16), ht14.le (e15.trans e16), q16⟩
  walk_at "xs"
  have hb16 := hb14.le (e15.trans e16)
  have ht16 := ht14.le (e15.trans e16)
  obtain ⟨us2, hu2, hus2⟩ := hr14.le (e15.trans e16)
  have hlen2 := hus2.len
  refine x_lcLS (fun i => form (xs.getD i ⟨"", "", "", ""⟩)) hu2 (by omega) (fun _ => rfl) (fun i v H' hv e Qe qe => ?_) fun pf H17 hpf e17 hf17 => ?_
  · obtain ⟨t, y, hy, rfl, hty⟩ := hus2.at hv
    walk_at "xs"
    have hg : xs.getD i ⟨"", "", "", ""⟩ = y := by rw [List.getD_eq_getElem?_getD, hy]; rfl
    rw [hg] at qe
    exact ⟨t, y, rfl, hD.fx y (List.mem_of_getElem? hy), e.keep hty, qe⟩
  rw [map_range form _ xs hlen2] at hf17
  have l1n : ("\n" : Str).length = 1 := by decide +kernel
  have hs := forms_sum hD.fx
  walk_at "xs"
  refine x_andV (b := true) (ev_is (b := true && decide (lines xs = lines xs)) (ev_andV (ev_run fun H18 e18 Q18 q18 => ?_) (fun _ => ev_run fun H18 e18 Q18 q18 => ?_)) (by simp)) fun H18 e18 => q _
  · walk_at "xs"
    exact ⟨pt, z, c, rfl, hD.gd, ht16.le (e17.trans e18), q18⟩
  · walk_at "xs"
    have hb18 := hb16.le (e17.trans e18)
    obtain ⟨dx, lb, ub, hp18, hlb, hru⟩ := id hb18
    refine x_kMeth hp18 (by have e : (("written" : Str) == "_rules") = false := by decide +kernel
                            simp only [List.lookup, e]) ?_
    walk_at "xs"
    refine ⟨pb, xs, rfl, hD.fx, hD.n8, hb18, fun H19 e19 => ?_⟩
    walk_at "xs"
    refine x_join (z := "\n") (e19.keep (e18.keep hf17)) (by rw [List.length_map, l1n]; omega) ?_
    walk_at "xs"
    exact q18 _ e19
end K4
set_option maxHeartbeats 4000000
/-! K4Z: the end -/
namespace K4
open PySem PySem.Spec PyProof.Rows L2 MC
theorem raw0 {P : Program} {w : World} {K : Fr} {mg : Str → Option Value} {base : Heap} {CX : CXT} {k : Nat} {f : Addr} {fd : FuncData} {ps : List Str} {sp : Sp} (F : FnOk P w K mg base CX k f fd ps sp) (hb : Binds K fd ps []) : FnR P w K mg base CX k f sp :=
  (F.raw hb .nil).imp fun vs H Q E h => by rw [List.append_nil]; exact h
theorem fn_mute {P : Program} {w : World} {K : Fr} {mg : Str → Option Value} {base : Heap} {k : Nat} {f : Addr} {fd : FuncData} {ps : List Str} {sp : Sp} (F : FnOk P w K mg base (L2.CX P w) k f fd ps sp) (h : ∀ vs H Q E, sp vs H Q E → sp vs H Q XE0) : FnOk P w K mg base CX0 k f fd ps sp := by
  refine ⟨F.len, fun A outer s H args us vs Q E hr e0 hb r hsp => codeAny_mono (F.run A outer s H args us vs Q XE0 hr e0 hb r (h _ _ _ _ hsp)) fun r s' hq => ?_⟩
  match r, hq with
  | .error e, hq =>
    obtain ⟨_, _, _, _, _, _, _, _, _, _, _, _, z⟩ := hq
    exact z.elim
  | .ok (.ret u), hq => exact hq
  | .ok .next, hq => exact hq.elim
  | .ok .brk, hq => exact hq.elim
  | .ok .cont, hq => exact hq.elim
section
variable {P : Program} {w : World} {K : Fr} {h : Heap} {mg : Str → Option Value}
theorem exAt (c : exK K = true) (n : Nat) {b : Bool} (e : (exL K)[n]? = some b := by rfl) : b = true := List.all_eq_true.mp (He.ba c).1 b (List.mem_of_getElem? e)
theorem mem_kL (i : ExK) : i ∈ kL := by cases i <;> simp [kL]
theorem txt_of (X : K.In h) (G : h.Ns mainGlobals mg) (c : Says2 fileS faL dsL exK K) : Txt K mg (A K) := by
  have m := c.more
  have t1 := (He.ba (He.ba m).2).1
  have t2 := (He.ba (He.ba m).2).2
  have tab : ∀ i j, decide (PySem.W.exmOne K (.ref ((A K).x i)) (.ref ((A K).x j)) = some (decide (i = j))) = true ∧ decide (PySem.W.kitOne K (.ref ((A K).x i)) (.ref ((A K).x j)) = some (decide (i = j))) = true := fun i j =>
    He.ba (List.all_eq_true.mp (List.all_eq_true.mp t1 i (mem_kL i)) j (mem_kL j))
  have one := fun i => List.all_eq_true.mp t2 i (mem_kL i)
  have cls_Text : Cls K (A K).cText := He.cls_ok (c.fact 46 (f := .cls "Text") rfl)
  have cls_Rule : Cls K (A K).cRule := He.cls_ok (c.fact 47 (f := .cls "Rule") rfl)
  have cls_Book : Cls K (A K).cBook := He.cls_ok (c.fact 48 (f := .cls "Book") rfl)
  exact {
    f_ValueError := He.free_ok X G (c.fact 0 (f := .free "ValueError") rfl)
    f_abs := He.free_ok X G (c.fact 1 (f := .free "abs") rfl)
    f_bool := He.free_ok X G (c.fact 2 (f := .free "bool") rfl)
    f_enumerate := He.free_ok X G (c.fact 3 (f := .free "enumerate") rfl)
    f_int := He.free_ok X G (c.fact 4 (f := .free "int") rfl)
    f_isinstance := He.free_ok X G (c.fact 5 (f := .free "isinstance") rfl)
    f_iter := He.free_ok X G (c.fact 6 (f := .free "iter") rfl)
    f_len := He.free_ok X G (c.fact 7 (f := .free "len") rfl)
    f_list := He.free_ok X G (c.fact 8 (f := .free "list") rfl)
    f_max := He.free_ok X G (c.fact 9 (f := .free "max") rfl)
    f_range := He.free_ok X G (c.fact 10 (f := .free "range") rfl)
    f_str := He.free_ok X G (c.fact 11 (f := .free "str") rfl)
    f_tuple := He.free_ok X G (c.fact 13 (f := .free "tuple") rfl)
    g_ClerkError := He.glo_ok X G (c.fact 14 (f := .glo "ClerkError") rfl)
    g_BadText := He.glo_ok X G (c.fact 15 (f := .glo "BadText") rfl)
    g_NoRule := He.glo_ok X G (c.fact 16 (f := .glo "NoRule") rfl)
    g_Mismatch := He.glo_ok X G (c.fact 17 (f := .glo "Mismatch") rfl)
    g_Text := He.glo_ok X G (c.fact 18 (f := .glo "Text") rfl)
    g_Rule := He.glo_ok X G (c.fact 19 (f := .glo "Rule") rfl)
    g_Book := He.glo_ok X G (c.fact 20 (f := .glo "Book") rfl)
    fS := ⟨cls_Text, He.noat_ok (c.fact 49 (f := .noat "Text" "signs") rfl)⟩
    fC := ⟨cls_Text, He.noat_ok (c.fact 50 (f := .noat "Text" "closed") rfl)⟩
    fO := ⟨cls_Rule, He.noat_ok (c.fact 51 (f := .noat "Rule" "old") rfl)⟩
    fN := ⟨cls_Rule, He.noat_ok (c.fact 52 (f := .noat "Rule" "new") rfl)⟩
    fL := ⟨cls_Rule, He.noat_ok (c.fact 53 (f := .noat "Rule" "left") rfl)⟩
    fR := ⟨cls_Rule, He.noat_ok (c.fact 54 (f := .noat "Rule" "right") rfl)⟩
    fB := ⟨cls_Book, He.noat_ok (c.fact 55 (f := .noat "Book" "_rules") rfl)⟩
    cvT := cvIntB_ok (exAt m 8) (exAt m 11)
    cvB := cvIntB_ok (exAt m 10) (exAt m 12)
    insT := insB_ok cls_Text (exAt m 5)
    insR := insB_ok cls_Rule (exAt m 6)
    insB := insB_ok cls_Book (exAt m 7)
    kTT := of_decide_eq_true (exAt m 0)
    kRR := of_decide_eq_true (exAt m 1)
    kNT := of_decide_eq_true (exAt m 2)
    nfT := exAt m 3
    nfR := exAt m 4
    exm := fun i j => of_decide_eq_true (tab i j).1
    kit := fun i j => of_decide_eq_true (tab i j).2
    kitE := fun i => of_decide_eq_true (He.ba (one i)).1
    kitV := fun i => of_decide_eq_true (He.ba (He.ba (one i)).2).1
    exT := fun i => excTB_ok (He.ba (He.ba (He.ba (one i)).2).2).1
    xf := fun i => xfB_ok (He.ba (He.ba (He.ba (He.ba (one i)).2).2).2).1
    nf := fun i => of_decide_eq_true (He.ba (He.ba (He.ba (He.ba (one i)).2).2).2).2 }
theorem law_of {base : Heap} {fd_law : FuncData} (F_law : FnP K "law" "law" s_law (He.ga K "law") fd_law) (X : K.In h) (G : h.Ns mainGlobals mg) (c : Says2 fileS faL dsL exK K) (hP : P.main.file = fileS) (hS : (P.main.scope.names.lookup ("super" : Str)).isSome = false) :
    FnOk P w K mg base CX0 9 (He.ga K "law") fd_law ["_law_script"] (sp_law K) := by
  have m := c.more
  have T := txt_of X G c
  have fP : ∀ {d : Df}, d.ok fileS K = true → d.ok P.main.file K = true := fun h => by rw [hP]; exact h
  have noSup : mg "super" = none := He.free_ok X G (c.fact 12 (f := .free "super") rfl)
  have cls_Text : Cls K (A K).cText := He.cls_ok (c.fact 46 (f := .cls "Text") rfl)
  have cls_Rule : Cls K (A K).cRule := He.cls_ok (c.fact 47 (f := .cls "Rule") rfl)
  have cls_Book : Cls K (A K).cBook := He.cls_ok (c.fact 48 (f := .cls "Book") rfl)
  obtain ⟨fd_BadText, cc_BadText, F_BadText, kV_BadText, doc_BadText, pm_BadText, an_BadText, cdv_BadText, ct_BadText, ef_BadText⟩ := Df.supF (P := P) (d := d_BadText___init__) (c := "BadText") (c.df 0 (d := d_BadText___init__) rfl).1 (fP (c.df 0 (d := d_BadText___init__) rfl).2) rfl rfl
  have S_BadText := supCB_ok (P := P) (mg := mg) (exAt m 21) noSup hS
  have I_BadText := specB_ok (exAt m 22)
  have b_BadText : Binds K fd_BadText ["self", "size"] [] := by
    rw [ef_BadText]
    exact Binds.all fun us hl => match us, hl with | [_, _], _ => rfl
  have X_BadText : ExG P w K mg base 1 "BadText" (A K).cBadText "size" := ⟨T.g_BadText, S_BadText.oex, _, _, _, ini_BadText F_BadText S_BadText (T.nf .size), b_BadText, I_BadText.1.at_, beq_iff_eq.mp I_BadText.1.fn⟩
  obtain ⟨fd_Mismatch, cc_Mismatch, F_Mismatch, kV_Mismatch, doc_Mismatch, pm_Mismatch, an_Mismatch, cdv_Mismatch, ct_Mismatch, ef_Mismatch⟩ := Df.supF (P := P) (d := d_Mismatch___init__) (c := "Mismatch") (c.df 2 (d := d_Mismatch___init__) rfl).1 (fP (c.df 2 (d := d_Mismatch___init__) rfl).2) rfl rfl
  have S_Mismatch := supCB_ok (P := P) (mg := mg) (exAt m 23) noSup hS
  have I_Mismatch := specB_ok (exAt m 24)
  have b_Mismatch : Binds K fd_Mismatch ["self", "at"] [] := by
    rw [ef_Mismatch]
    exact Binds.all fun us hl => match us, hl with | [_, _], _ => rfl
  have X_Mismatch : ExG P w K mg base 1 "Mismatch" (A K).cMismatch "at" := ⟨T.g_Mismatch, S_Mismatch.oex, _, _, _, ini_Mismatch F_Mismatch S_Mismatch (T.nf .place), b_Mismatch, I_Mismatch.1.at_, beq_iff_eq.mp I_Mismatch.1.fn⟩
  obtain ⟨fd_NoRule, cc_NoRule, F_NoRule, kV_NoRule, doc_NoRule, pm_NoRule, an_NoRule, cdv_NoRule, ct_NoRule, ef_NoRule⟩ := Df.supF (P := P) (d := d_NoRule___init__) (c := "NoRule") (c.df 1 (d := d_NoRule___init__) rfl).1 (fP (c.df 1 (d := d_NoRule___init__) rfl).2) rfl rfl
  have S_NoRule := supCB_ok (P := P) (mg := mg) (exAt m 25) noSup hS
  have I_NoRule := specB_ok (exAt m 26)
  have b_NoRule : Binds K fd_NoRule ["self", "number"] [] := by
    rw [ef_NoRule]
    exact Binds.all fun us hl => match us, hl with | [_, _], _ => rfl
  have X_NoRule : ExG P w K mg base 1 "NoRule" (A K).cNoRule "number" := ⟨T.g_NoRule, S_NoRule.oex, _, _, _, ini_NoRule F_NoRule S_NoRule (T.nf .none), b_NoRule, I_NoRule.1.at_, beq_iff_eq.mp I_NoRule.1.fn⟩
  obtain ⟨fd_is_sign, F_is_sign⟩ := Df.funD (d := d_is_sign) (c.df 3 (d := d_is_sign) rfl).1 (c.df 3 (d := d_is_sign) rfl).2 rfl
  have b_is_sign : Binds K fd_is_sign ["word"] [] := F_is_sign.bindsN fun _ _ _ _ _ _ us hl => match us, hl with | [_], _ => rfl
  have K_is_sign : FnOk P w K mg base (L2.CX P w) 1 _ fd_is_sign ["word"] (sp_is_sign (A K)) := ok_is_sign F_is_sign T 
  have G_is_sign : FnG P w K mg base 1 "is_sign" (sp_is_sign (A K)) := ⟨_, raw0 K_is_sign b_is_sign, (He.glo_ok X G (c.fact 21 (f := .glo "is_sign") rfl)), F_is_sign.kp⟩
  obtain ⟨fd_Text___len__, F_Text___len__⟩ := Df.funD (d := d_Text___len__) (c.df 6 (d := d_Text___len__) rfl).1 (c.df 6 (d := d_Text___len__) rfl).2 rfl
  have b_Text___len__ : Binds K fd_Text___len__ ["self"] [] := F_Text___len__.bindsN fun _ _ _ _ _ _ us hl => match us, hl with | [_], _ => rfl
  have K_Text___len__ : FnOk P w K mg base (L2.CX P w) 1 _ fd_Text___len__ ["self"] (sp_Text___len__ (A K)) := ok_Text___len__ F_Text___len__ T 
  have O_Text___len__ : OpG P w K mg base 1 (A K).cText "__len__" (sp_Text___len__ (A K)) := ⟨_, _, _, K_Text___len__, b_Text___len__, (specB_ok (exAt m 13)).1, (specB_ok (exAt m 13)).2⟩
  obtain ⟨fd_Text___eq__, F_Text___eq__⟩ := Df.funD (d := d_Text___eq__) (c.df 7 (d := d_Text___eq__) rfl).1 (c.df 7 (d := d_Text___eq__) rfl).2 rfl
  have b_Text___eq__ : Binds K fd_Text___eq__ ["self", "other"] [] := F_Text___eq__.bindsN fun _ _ _ _ _ _ us hl => match us, hl with | [_, _], _ => rfl
  have K_Text___eq__ : FnOk P w K mg base (L2.CX P w) 1 _ fd_Text___eq__ ["self", "other"] (sp_Text___eq__ (A K)) := ok_Text___eq__ F_Text___eq__ T 
  have O_Text___eq__ : OpG P w K mg base 1 (A K).cText "__eq__" (sp_Text___eq__ (A K)) := ⟨_, _, _, K_Text___eq__, b_Text___eq__, (specB_ok (exAt m 20)).1, (specB_ok (exAt m 20)).2⟩
  obtain ⟨fd__split_line, F__split_line⟩ := Df.funD (d := d__split_line) (c.df 9 (d := d__split_line) rfl).1 (c.df 9 (d := d__split_line) rfl).2 rfl
  have b__split_line : Binds K fd__split_line ["line"] [] := F__split_line.bindsN fun _ _ _ _ _ _ us hl => match us, hl with | [_], _ => rfl
  have K__split_line : FnOk P w K mg base (L2.CX P w) 1 _ fd__split_line ["line"] (sp__split_line (A K)) := ok__split_line F__split_line T 
  have G__split_line : FnG P w K mg base 1 "_split_line" (sp__split_line (A K)) := ⟨_, raw0 K__split_line b__split_line, (He.glo_ok X G (c.fact 24 (f := .glo "_split_line") rfl)), F__split_line.kp⟩
  obtain ⟨fd_Rule_pattern, F_Rule_pattern⟩ := Df.funD (d := d_Rule_pattern) (c.df 12 (d := d_Rule_pattern) rfl).1 (c.df 12 (d := d_Rule_pattern) rfl).2 rfl
  have b_Rule_pattern : Binds K fd_Rule_pattern ["self"] [] := F_Rule_pattern.bindsN fun _ _ _ _ _ _ us hl => match us, hl with | [_], _ => rfl
  have K_Rule_pattern : FnOk P w K mg base (L2.CX P w) 1 _ fd_Rule_pattern ["self"] (sp_Rule_pattern (A K)) := ok_Rule_pattern F_Rule_pattern T 
  have P_Rule_pattern : PrG P w K mg base 1 (A K).cRule "pattern" (sp_Rule_pattern (A K)) := ⟨cls_Rule, _, _, _, _, propB_ok (exAt m 14), K_Rule_pattern, b_Rule_pattern⟩
  obtain ⟨fd_Rule___eq__, F_Rule___eq__⟩ := Df.funD (d := d_Rule___eq__) (c.df 13 (d := d_Rule___eq__) rfl).1 (c.df 13 (d := d_Rule___eq__) rfl).2 rfl
  have b_Rule___eq__ : Binds K fd_Rule___eq__ ["self", "other"] [] := F_Rule___eq__.bindsN fun _ _ _ _ _ _ us hl => match us, hl with | [_, _], _ => rfl
  have K_Rule___eq__ : FnOk P w K mg base (L2.CX P w) 1 _ fd_Rule___eq__ ["self", "other"] (sp_Rule___eq__ (A K)) := ok_Rule___eq__ F_Rule___eq__ T 
  have O_Rule___eq__ : OpG P w K mg base 1 (A K).cRule "__eq__" (sp_Rule___eq__ (A K)) := ⟨_, _, _, K_Rule___eq__, b_Rule___eq__, (specB_ok (exAt m 15)).1, (specB_ok (exAt m 15)).2⟩
  obtain ⟨fd_Rule___str__, F_Rule___str__⟩ := Df.funD (d := d_Rule___str__) (c.df 14 (d := d_Rule___str__) rfl).1 (c.df 14 (d := d_Rule___str__) rfl).2 rfl
  have b_Rule___str__ : Binds K fd_Rule___str__ ["self"] [] := F_Rule___str__.bindsN fun _ _ _ _ _ _ us hl => match us, hl with | [_], _ => rfl
  have K_Rule___str__ : FnOk P w K mg base (L2.CX P w) 1 _ fd_Rule___str__ ["self"] (sp_Rule___str__ (A K)) := ok_Rule___str__ F_Rule___str__ T 
  have O_Rule___str__ : OpG P w K mg base 1 (A K).cRule "__str__" (sp_Rule___str__ (A K)) := ⟨_, _, _, K_Rule___str__, b_Rule___str__, (specB_ok (exAt m 16)).1, (specB_ok (exAt m 16)).2⟩
  obtain ⟨fd__law_next, F__law_next⟩ := Df.funD (d := d__law_next) (c.df 25 (d := d__law_next) rfl).1 (c.df 25 (d := d__law_next) rfl).2 rfl
  have b__law_next : Binds K fd__law_next ["_law_state", "_law_many"] [] := F__law_next.bindsN fun _ _ _ _ _ _ us hl => match us, hl with | [_, _], _ => rfl
  have K__law_next : FnOk P w K mg base (L2.CX P w) 1 _ fd__law_next ["_law_state", "_law_many"] (sp__law_next (A K)) := ok__law_next F__law_next T 
  have G__law_next : FnG P w K mg base 1 "_law_next" (sp__law_next (A K)) := ⟨_, raw0 K__law_next b__law_next, (He.glo_ok X G (c.fact 26 (f := .glo "_law_next") rfl)), F__law_next.kp⟩
  obtain ⟨fd__law_whole, F__law_whole⟩ := Df.funD (d := d__law_whole) (c.df 26 (d := d__law_whole) rfl).1 (c.df 26 (d := d__law_whole) rfl).2 rfl
  have b__law_whole : Binds K fd__law_whole ["_law_told"] [] := F__law_whole.bindsN fun _ _ _ _ _ _ us hl => match us, hl with | [_], _ => rfl
  have K__law_whole : FnOk P w K mg base (L2.CX P w) 1 _ fd__law_whole ["_law_told"] (sp__law_whole (A K)) := ok__law_whole F__law_whole T 
  have G__law_whole : FnG P w K mg base 1 "_law_whole" (sp__law_whole (A K)) := ⟨_, raw0 K__law_whole b__law_whole, (He.glo_ok X G (c.fact 27 (f := .glo "_law_whole") rfl)), F__law_whole.kp⟩
  obtain ⟨fd__law_form_of, F__law_form_of⟩ := Df.funD (d := d__law_form_of) (c.df 32 (d := d__law_form_of) rfl).1 (c.df 32 (d := d__law_form_of) rfl).2 rfl
  have b__law_form_of : Binds K fd__law_form_of ["_law_rule"] [] := F__law_form_of.bindsN fun _ _ _ _ _ _ us hl => match us, hl with | [_], _ => rfl
  have K__law_form_of : FnOk P w K mg base (L2.CX P w) 1 _ fd__law_form_of ["_law_rule"] (sp__law_form_of (A K)) := ok__law_form_of F__law_form_of T 
  have G__law_form_of : FnG P w K mg base 1 "_law_form_of" (sp__law_form_of (A K)) := ⟨_, raw0 K__law_form_of b__law_form_of, (He.glo_ok X G (c.fact 33 (f := .glo "_law_form_of") rfl)), F__law_form_of.kp⟩
  obtain ⟨fd__law_fits, F__law_fits⟩ := Df.funD (d := d__law_fits) (c.df 34 (d := d__law_fits) rfl).1 (c.df 34 (d := d__law_fits) rfl).2 rfl
  have b__law_fits : Binds K fd__law_fits ["_law_rule", "_law_shown", "_law_closed", "_law_at"] [] := F__law_fits.bindsN fun _ _ _ _ _ _ us hl => match us, hl with | [_, _, _, _], _ => rfl
  have K__law_fits : FnOk P w K mg base (L2.CX P w) 1 _ fd__law_fits ["_law_rule", "_law_shown", "_law_closed", "_law_at"] (sp__law_fits (A K)) := ok__law_fits F__law_fits T 
  have G__law_fits : FnG P w K mg base 1 "_law_fits" (sp__law_fits (A K)) := ⟨_, raw0 K__law_fits b__law_fits, (He.glo_ok X G (c.fact 35 (f := .glo "_law_fits") rfl)), F__law_fits.kp⟩
  obtain ⟨fd__law_written, F__law_written⟩ := Df.funD (d := d__law_written) (c.df 37 (d := d__law_written) rfl).1 (c.df 37 (d := d__law_written) rfl).2 rfl
  have b__law_written : Binds K fd__law_written ["_law_rule", "_law_shown", "_law_at"] [] := F__law_written.bindsN fun _ _ _ _ _ _ us hl => match us, hl with | [_, _, _], _ => rfl
  have K__law_written : FnOk P w K mg base (L2.CX P w) 1 _ fd__law_written ["_law_rule", "_law_shown", "_law_at"] (sp__law_written (A K)) := ok__law_written F__law_written T 
  have G__law_written : FnG P w K mg base 1 "_law_written" (sp__law_written (A K)) := ⟨_, raw0 K__law_written b__law_written, (He.glo_ok X G (c.fact 38 (f := .glo "_law_written") rfl)), F__law_written.kp⟩
  obtain ⟨fd__law_pure, F__law_pure⟩ := Df.funD (d := d__law_pure) (c.df 39 (d := d__law_pure) rfl).1 (c.df 39 (d := d__law_pure) rfl).2 rfl
  have b__law_pure : Binds K fd__law_pure ["_law_e"] [] := F__law_pure.bindsN fun _ _ _ _ _ _ us hl => match us, hl with | [_], _ => rfl
  have E__law_pure : FnEG P w K mg base 1 "_law_pure" (sE__law_pure (A K)) := ⟨_, _, _, okE__law_pure F__law_pure T, (He.glo_ok X G (c.fact 40 (f := .glo "_law_pure") rfl)), F__law_pure.kp, b__law_pure⟩
  obtain ⟨fd__check_signs, F__check_signs⟩ := Df.funD (d := d__check_signs) (c.df 4 (d := d__check_signs) rfl).1 (c.df 4 (d := d__check_signs) rfl).2 rfl
  have b__check_signs : Binds K fd__check_signs ["signs"] [] := F__check_signs.bindsN fun _ _ _ _ _ _ us hl => match us, hl with | [_], _ => rfl
  have K__check_signs : FnOk P w K mg base (L2.CX P w) 2 _ fd__check_signs ["signs"] (sp__check_signs (A K)) := ok__check_signs F__check_signs T (G_is_sign := G_is_sign)
  have G__check_signs : FnG P w K mg base 2 "_check_signs" (sp__check_signs (A K)) := ⟨_, raw0 K__check_signs b__check_signs, (He.glo_ok X G (c.fact 22 (f := .glo "_check_signs") rfl)), F__check_signs.kp⟩
  obtain ⟨fd_Book_add, F_Book_add⟩ := Df.funD (d := d_Book_add) (c.df 21 (d := d_Book_add) rfl).1 (c.df 21 (d := d_Book_add) rfl).2 rfl
  have b_Book_add : Binds K fd_Book_add ["self", "rule"] [] := F_Book_add.bindsN fun _ _ _ _ _ _ us hl => match us, hl with | [_, _], _ => rfl
  have K_Book_add : FnOk P w K mg base (L2.CX P w) 2 _ fd_Book_add ["self", "rule"] (sp_Book_add (A K)) := ok_Book_add F_Book_add T (O_Rule___eq__ := O_Rule___eq__)
  have M_Book_add : MeG P w K mg base 2 (A K).cBook "add" (sp_Book_add (A K)) := ⟨cls_Book, _, raw0 K_Book_add b_Book_add, (He.meth_ok (c.fact 57 (f := .meth "Book" "add") rfl))⟩
  obtain ⟨fd__law_letters_of, F__law_letters_of⟩ := Df.funD (d := d__law_letters_of) (c.df 27 (d := d__law_letters_of) rfl).1 (c.df 27 (d := d__law_letters_of) rfl).2 rfl
  have b__law_letters_of : Binds K fd__law_letters_of ["_law_state"] [] := F__law_letters_of.bindsN fun _ _ _ _ _ _ us hl => match us, hl with | [_], _ => rfl
  have K__law_letters_of : FnOk P w K mg base (L2.CX P w) 2 _ fd__law_letters_of ["_law_state"] (sp__law_letters_of (A K)) := ok__law_letters_of F__law_letters_of T (G__law_next := G__law_next)
  have G__law_letters_of : FnG P w K mg base 2 "_law_letters_of" (sp__law_letters_of (A K)) := ⟨_, raw0 K__law_letters_of b__law_letters_of, (He.glo_ok X G (c.fact 28 (f := .glo "_law_letters_of") rfl)), F__law_letters_of.kp⟩
  obtain ⟨fd__law_word_of, F__law_word_of⟩ := Df.funD (d := d__law_word_of) (c.df 28 (d := d__law_word_of) rfl).1 (c.df 28 (d := d__law_word_of) rfl).2 rfl
  have b__law_word_of : Binds K fd__law_word_of ["_law_state", "_law_signs", "_law_size", "_law_shift"] [] := F__law_word_of.bindsN fun _ _ _ _ _ _ us hl => match us, hl with | [_, _, _, _], _ => rfl
  have K__law_word_of : FnOk P w K mg base (L2.CX P w) 2 _ fd__law_word_of ["_law_state", "_law_signs", "_law_size", "_law_shift"] (sp__law_word_of (A K)) := ok__law_word_of F__law_word_of T (G__law_next := G__law_next)
  have G__law_word_of : FnG P w K mg base 2 "_law_word_of" (sp__law_word_of (A K)) := ⟨_, raw0 K__law_word_of b__law_word_of, (He.glo_ok X G (c.fact 29 (f := .glo "_law_word_of") rfl)), F__law_word_of.kp⟩
  obtain ⟨fd__law_due_of, F__law_due_of⟩ := Df.funD (d := d__law_due_of) (c.df 38 (d := d__law_due_of) rfl).1 (c.df 38 (d := d__law_due_of) rfl).2 rfl
  have b__law_due_of : Binds K fd__law_due_of ["_law_rules", "_law_shown", "_law_closed", "_law_number", "_law_at"] [] := F__law_due_of.bindsN fun _ _ _ _ _ _ us hl => match us, hl with | [_, _, _, _, _], _ => rfl
  have K__law_due_of : FnOk P w K mg base (L2.CX P w) 2 _ fd__law_due_of ["_law_rules", "_law_shown", "_law_closed", "_law_number", "_law_at"] (sp__law_due_of (A K)) := ok__law_due_of F__law_due_of T (G__law_written := G__law_written) (G__law_fits := G__law_fits)
  have G__law_due_of : FnG P w K mg base 2 "_law_due_of" (sp__law_due_of (A K)) := ⟨_, raw0 K__law_due_of b__law_due_of, (He.glo_ok X G (c.fact 39 (f := .glo "_law_due_of") rfl)), F__law_due_of.kp⟩
  obtain ⟨fd_Text___init__, F_Text___init__⟩ := Df.funD (d := d_Text___init__) (c.df 5 (d := d_Text___init__) rfl).1 (c.df 5 (d := d_Text___init__) rfl).2 rfl
  have K_Text___init__ : FnOk P w K mg base (L2.CX P w) 3 _ fd_Text___init__ ["self", "signs", "closed"] (sp_Text___init__ (A K)) := ok_Text___init__ F_Text___init__ T (X_BadText := X_BadText) (G__check_signs := G__check_signs)
  have Mk_Text : Mk K (A K).cText (He.ma K (He.ga K "Text") "__init__") := He.mkr_ok (c.fact 62 (f := .mkr "Text") rfl)
  have Ct_Text_1_closed := ct_Text_1_closed F_Text___init__ K_Text___init__ Mk_Text
  obtain ⟨fd__check_part, F__check_part⟩ := Df.funD (d := d__check_part) (c.df 8 (d := d__check_part) rfl).1 (c.df 8 (d := d__check_part) rfl).2 rfl
  have b__check_part : Binds K fd__check_part ["part", "signs", "least", "most"] [] := F__check_part.bindsN fun _ _ _ _ _ _ us hl => match us, hl with | [_, _, _, _], _ => rfl
  have K__check_part : FnOk P w K mg base (L2.CX P w) 3 _ fd__check_part ["part", "signs", "least", "most"] (sp__check_part (A K)) := ok__check_part F__check_part T (G__check_signs := G__check_signs)
  have G__check_part : FnG P w K mg base 3 "_check_part" (sp__check_part (A K)) := ⟨_, raw0 K__check_part b__check_part, (He.glo_ok X G (c.fact 23 (f := .glo "_check_part") rfl)), F__check_part.kp⟩
  obtain ⟨fd_Rule_fits, F_Rule_fits⟩ := Df.funD (d := d_Rule_fits) (c.df 16 (d := d_Rule_fits) rfl).1 (c.df 16 (d := d_Rule_fits) rfl).2 rfl
  have b_Rule_fits : Binds K fd_Rule_fits ["self", "text", "at"] [] := F_Rule_fits.bindsN fun _ _ _ _ _ _ us hl => match us, hl with | [_, _, _], _ => rfl
  have K_Rule_fits : FnOk P w K mg base (L2.CX P w) 3 _ fd_Rule_fits ["self", "text", "at"] (sp_Rule_fits (A K)) := ok_Rule_fits F_Rule_fits T (P_Rule_pattern := P_Rule_pattern) (O_Text___len__ := O_Text___len__)
  have M_Rule_fits : MeG P w K mg base 3 (A K).cRule "fits" (sp_Rule_fits (A K)) := ⟨cls_Rule, _, raw0 K_Rule_fits b_Rule_fits, (He.meth_ok (c.fact 61 (f := .meth "Rule" "fits") rfl))⟩
  obtain ⟨fd_Book___init__, F_Book___init__⟩ := Df.funD (d := d_Book___init__) (c.df 17 (d := d_Book___init__) rfl).1 (c.df 17 (d := d_Book___init__) rfl).2 rfl
  have K_Book___init__ := ok_Book___init__ (P := P) (w := w) (base := base) F_Book___init__ T (M_Book_add := M_Book_add)
  have Mk_Book : Mk K (A K).cBook (He.ma K (He.ga K "Book") "__init__") := He.mkr_ok (c.fact 64 (f := .mkr "Book") rfl)
  have R_Book := r_Book K_Book___init__ Mk_Book
  obtain ⟨fd_Book__check_number, F_Book__check_number⟩ := Df.funD (d := d_Book__check_number) (c.df 19 (d := d_Book__check_number) rfl).1 (c.df 19 (d := d_Book__check_number) rfl).2 rfl
  have b_Book__check_number : Binds K fd_Book__check_number ["self", "number"] [] := F_Book__check_number.bindsN fun _ _ _ _ _ _ us hl => match us, hl with | [_, _], _ => rfl
  have K_Book__check_number : FnOk P w K mg base (L2.CX P w) 3 _ fd_Book__check_number ["self", "number"] (sp_Book__check_number (A K)) := ok_Book__check_number F_Book__check_number T (X_NoRule := X_NoRule)
  have M_Book__check_number : MeG P w K mg base 3 (A K).cBook "_check_number" (sp_Book__check_number (A K)) := ⟨cls_Book, _, raw0 K_Book__check_number b_Book__check_number, (He.meth_ok (c.fact 56 (f := .meth "Book" "_check_number") rfl))⟩
  obtain ⟨fd__law_rule_of, F__law_rule_of⟩ := Df.funD (d := d__law_rule_of) (c.df 29 (d := d__law_rule_of) rfl).1 (c.df 29 (d := d__law_rule_of) rfl).2 rfl
  have b__law_rule_of : Binds K fd__law_rule_of ["_law_state", "_law_signs", "_law_k"] [] := F__law_rule_of.bindsN fun _ _ _ _ _ _ us hl => match us, hl with | [_, _, _], _ => rfl
  have K__law_rule_of : FnOk P w K mg base (L2.CX P w) 3 _ fd__law_rule_of ["_law_state", "_law_signs", "_law_k"] (sp__law_rule_of (A K)) := ok__law_rule_of F__law_rule_of T (G__law_word_of := G__law_word_of) (G__law_next := G__law_next)
  have G__law_rule_of : FnG P w K mg base 3 "_law_rule_of" (sp__law_rule_of (A K)) := ⟨_, raw0 K__law_rule_of b__law_rule_of, (He.glo_ok X G (c.fact 30 (f := .glo "_law_rule_of") rfl)), F__law_rule_of.kp⟩
  obtain ⟨fd__law_text_of, F__law_text_of⟩ := Df.funD (d := d__law_text_of) (c.df 31 (d := d__law_text_of) rfl).1 (c.df 31 (d := d__law_text_of) rfl).2 rfl
  have b__law_text_of : Binds K fd__law_text_of ["_law_state", "_law_signs", "_law_rules", "_law_many"] [] := F__law_text_of.bindsN fun _ _ _ _ _ _ us hl => match us, hl with | [_, _, _, _], _ => rfl
  have K__law_text_of : FnOk P w K mg base (L2.CX P w) 3 _ fd__law_text_of ["_law_state", "_law_signs", "_law_rules", "_law_many"] (sp__law_text_of (A K)) := ok__law_text_of F__law_text_of T (G__law_next := G__law_next) (G__law_word_of := G__law_word_of)
  have G__law_text_of : FnG P w K mg base 3 "_law_text_of" (sp__law_text_of (A K)) := ⟨_, raw0 K__law_text_of b__law_text_of, (He.glo_ok X G (c.fact 32 (f := .glo "_law_text_of") rfl)), F__law_text_of.kp⟩
  obtain ⟨fd__law_over_the_end, F__law_over_the_end⟩ := Df.funD (d := d__law_over_the_end) (c.df 35 (d := d__law_over_the_end) rfl).1 (c.df 35 (d := d__law_over_the_end) rfl).2 rfl
  have b__law_over_the_end : Binds K fd__law_over_the_end ["_law_state", "_law_signs", "_law_rules"] [] := F__law_over_the_end.bindsN fun _ _ _ _ _ _ us hl => match us, hl with | [_, _, _], _ => rfl
  have K__law_over_the_end : FnOk P w K mg base (L2.CX P w) 3 _ fd__law_over_the_end ["_law_state", "_law_signs", "_law_rules"] (sp__law_over_the_end (A K)) := ok__law_over_the_end F__law_over_the_end T (G__law_next := G__law_next) (G__law_word_of := G__law_word_of)
  have G__law_over_the_end : FnG P w K mg base 3 "_law_over_the_end" (sp__law_over_the_end (A K)) := ⟨_, raw0 K__law_over_the_end b__law_over_the_end, (He.glo_ok X G (c.fact 36 (f := .glo "_law_over_the_end") rfl)), F__law_over_the_end.kp⟩
  obtain ⟨fd__law_long, F__law_long⟩ := Df.funD (d := d__law_long) (c.df 36 (d := d__law_long) rfl).1 (c.df 36 (d := d__law_long) rfl).2 rfl
  have b__law_long : Binds K fd__law_long ["_law_state", "_law_signs", "_law_rule"] [] := F__law_long.bindsN fun _ _ _ _ _ _ us hl => match us, hl with | [_, _, _], _ => rfl
  have K__law_long : FnOk P w K mg base (L2.CX P w) 3 _ fd__law_long ["_law_state", "_law_signs", "_law_rule"] (sp__law_long (A K)) := ok__law_long F__law_long T (G__law_word_of := G__law_word_of) (G__law_next := G__law_next)
  have G__law_long : FnG P w K mg base 3 "_law_long" (sp__law_long (A K)) := ⟨_, raw0 K__law_long b__law_long, (He.glo_ok X G (c.fact 37 (f := .glo "_law_long") rfl)), F__law_long.kp⟩
  obtain ⟨fd_Rule___init__, F_Rule___init__⟩ := Df.funD (d := d_Rule___init__) (c.df 11 (d := d_Rule___init__) rfl).1 (c.df 11 (d := d_Rule___init__) rfl).2 rfl
  have K_Rule___init__ : FnOk P w K mg base (L2.CX P w) 4 _ fd_Rule___init__ ["self", "old", "new", "left", "right"] (sp_Rule___init__ (A K)) := ok_Rule___init__ F_Rule___init__ T (G__check_part := G__check_part)
  have Mk_Rule : Mk K (A K).cRule (He.ma K (He.ga K "Rule") "__init__") := He.mkr_ok (c.fact 63 (f := .mkr "Rule") rfl)
  have Ct_Rule_4 := ct_Rule_4 F_Rule___init__ K_Rule___init__ Mk_Rule
  obtain ⟨fd_Book___getitem__, F_Book___getitem__⟩ := Df.funD (d := d_Book___getitem__) (c.df 20 (d := d_Book___getitem__) rfl).1 (c.df 20 (d := d_Book___getitem__) rfl).2 rfl
  have b_Book___getitem__ : Binds K fd_Book___getitem__ ["self", "number"] [] := F_Book___getitem__.bindsN fun _ _ _ _ _ _ us hl => match us, hl with | [_, _], _ => rfl
  have K_Book___getitem__ : FnOk P w K mg base (L2.CX P w) 4 _ fd_Book___getitem__ ["self", "number"] (sp_Book___getitem__ (A K)) := ok_Book___getitem__ F_Book___getitem__ T (M_Book__check_number := M_Book__check_number)
  have O_Book___getitem__ : OpG P w K mg base 4 (A K).cBook "__getitem__" (sp_Book___getitem__ (A K)) := ⟨_, _, _, K_Book___getitem__, b_Book___getitem__, (specB_ok (exAt m 18)).1, (specB_ok (exAt m 18)).2⟩
  obtain ⟨fd_Book_written, F_Book_written⟩ := Df.funD (d := d_Book_written) (c.df 22 (d := d_Book_written) rfl).1 (c.df 22 (d := d_Book_written) rfl).2 rfl
  have b_Book_written : Binds K fd_Book_written ["self"] [] := F_Book_written.bindsN fun _ _ _ _ _ _ us hl => match us, hl with | [_], _ => rfl
  have K_Book_written : FnOk P w K mg base (L2.CX P w) 4 _ fd_Book_written ["self"] (sp_Book_written (A K)) := ok_Book_written F_Book_written T (O_Rule___str__ := O_Rule___str__)
  have M_Book_written : MeG P w K mg base 4 (A K).cBook "written" (sp_Book_written (A K)) := ⟨cls_Book, _, raw0 K_Book_written b_Book_written, (He.meth_ok (c.fact 60 (f := .meth "Book" "written") rfl))⟩
  obtain ⟨fd_Book_possible, F_Book_possible⟩ := Df.funD (d := d_Book_possible) (c.df 23 (d := d_Book_possible) rfl).1 (c.df 23 (d := d_Book_possible) rfl).2 rfl
  have b_Book_possible : Binds K fd_Book_possible ["self", "text"] [] := F_Book_possible.bindsN fun _ _ _ _ _ _ us hl => match us, hl with | [_, _], _ => rfl
  have K_Book_possible : GFn P w K mg base 4 _ fd_Book_possible ["self", "text"] (sp_Book_possible (A K)) := ok_Book_possible F_Book_possible T (O_Text___len__ := O_Text___len__) (M_Rule_fits := M_Rule_fits)
  have Y_Book_possible : GeG P w K mg base 4 (A K).cBook "possible" (sp_Book_possible (A K)) := ⟨cls_Book, _, _, _, K_Book_possible, He.meth_ok (c.fact 58 (f := .meth "Book" "possible") rfl), b_Book_possible⟩
  obtain ⟨fd__law_rules_of, F__law_rules_of⟩ := Df.funD (d := d__law_rules_of) (c.df 30 (d := d__law_rules_of) rfl).1 (c.df 30 (d := d__law_rules_of) rfl).2 rfl
  have b__law_rules_of : Binds K fd__law_rules_of ["_law_state", "_law_signs"] [] := F__law_rules_of.bindsN fun _ _ _ _ _ _ us hl => match us, hl with | [_, _], _ => rfl
  have K__law_rules_of : FnOk P w K mg base (L2.CX P w) 4 _ fd__law_rules_of ["_law_state", "_law_signs"] (sp__law_rules_of (A K)) := ok__law_rules_of F__law_rules_of T (G__law_next := G__law_next) (G__law_rule_of := G__law_rule_of)
  have G__law_rules_of : FnG P w K mg base 4 "_law_rules_of" (sp__law_rules_of (A K)) := ⟨_, raw0 K__law_rules_of b__law_rules_of, (He.glo_ok X G (c.fact 31 (f := .glo "_law_rules_of") rfl)), F__law_rules_of.kp⟩
  obtain ⟨fd_Rule___call__, F_Rule___call__⟩ := Df.funD (d := d_Rule___call__) (c.df 15 (d := d_Rule___call__) rfl).1 (c.df 15 (d := d_Rule___call__) rfl).2 rfl
  have b_Rule___call__ : Binds K fd_Rule___call__ ["self", "text", "at"] [] := F_Rule___call__.bindsN fun _ _ _ _ _ _ us hl => match us, hl with | [_, _, _], _ => rfl
  have K_Rule___call__ : FnOk P w K mg base (L2.CX P w) 5 _ fd_Rule___call__ ["self", "text", "at"] (sp_Rule___call__ (A K)) := ok_Rule___call__ F_Rule___call__ T (Ct_Text_1_closed := Ct_Text_1_closed) (O_Text___len__ := O_Text___len__) (M_Rule_fits := M_Rule_fits) (X_Mismatch := X_Mismatch)
  have I_Rule : CallG P w K mg base 5 (A K).cRule (sp_Rule___call__ (A K)) := ⟨_, callB_ok (exAt m 17), raw0 K_Rule___call__ b_Rule___call__⟩
  obtain ⟨fd__law_is_text, F__law_is_text⟩ := Df.funD (d := d__law_is_text) (c.df 41 (d := d__law_is_text) rfl).1 (c.df 41 (d := d__law_is_text) rfl).2 rfl
  have b__law_is_text : Binds K fd__law_is_text ["_law_told", "_law_shown", "_law_closed"] [] := F__law_is_text.bindsN fun _ _ _ _ _ _ us hl => match us, hl with | [_, _, _], _ => rfl
  have K__law_is_text : FnOk P w K mg base (L2.CX P w) 5 _ fd__law_is_text ["_law_told", "_law_shown", "_law_closed"] (sp__law_is_text (A K)) := ok__law_is_text F__law_is_text T (O_Text___eq__ := O_Text___eq__) (Ct_Text_1_closed := Ct_Text_1_closed)
  have G__law_is_text : FnG P w K mg base 5 "_law_is_text" (sp__law_is_text (A K)) := ⟨_, raw0 K__law_is_text b__law_is_text, (He.glo_ok X G (c.fact 42 (f := .glo "_law_is_text") rfl)), F__law_is_text.kp⟩
  obtain ⟨fd__read_rule, F__read_rule⟩ := Df.funD (d := d__read_rule) (c.df 10 (d := d__read_rule) rfl).1 (c.df 10 (d := d__read_rule) rfl).2 rfl
  have b__read_rule : Binds K fd__read_rule ["line", "number"] [] := F__read_rule.bindsN fun _ _ _ _ _ _ us hl => match us, hl with | [_, _], _ => rfl
  have K__read_rule : FnOk P w K mg base (L2.CX P w) 6 _ fd__read_rule ["line", "number"] (sp__read_rule (A K)) := ok__read_rule F__read_rule T (Ct_Rule_4 := Ct_Rule_4) (G__split_line := G__split_line)
  have G__read_rule : FnG P w K mg base 6 "_read_rule" (sp__read_rule (A K)) := ⟨_, raw0 K__read_rule b__read_rule, (He.glo_ok X G (c.fact 25 (f := .glo "_read_rule") rfl)), F__read_rule.kp⟩
  obtain ⟨fd_Book_take, F_Book_take⟩ := Df.funD (d := d_Book_take) (c.df 24 (d := d_Book_take) rfl).1 (c.df 24 (d := d_Book_take) rfl).2 rfl
  have b_Book_take : Binds K fd_Book_take ["self", "text", "number", "at"] [] := F_Book_take.bindsN fun _ _ _ _ _ _ us hl => match us, hl with | [_, _, _, _], _ => rfl
  have K_Book_take : FnOk P w K mg base (L2.CX P w) 6 _ fd_Book_take ["self", "text", "number", "at"] (sp_Book_take (A K)) := ok_Book_take F_Book_take T (I_Rule := I_Rule) (O_Book___getitem__ := O_Book___getitem__)
  have M_Book_take : MeG P w K mg base 6 (A K).cBook "take" (sp_Book_take (A K)) := ⟨cls_Book, _, raw0 K_Book_take b_Book_take, (He.meth_ok (c.fact 59 (f := .meth "Book" "take") rfl))⟩
  have MK_Book_take_at_number_text := mk_Book_take F_Book_take K_Book_take (He.meth_ok (c.fact 59 (f := .meth "Book" "take") rfl)) cls_Book
  obtain ⟨fd_Book_read, F_Book_read⟩ := Df.funD (d := d_Book_read) (c.df 18 (d := d_Book_read) rfl).1 (c.df 18 (d := d_Book_read) rfl).2 rfl
  have b_Book_read : Binds K fd_Book_read ["cls", "written"] [] := F_Book_read.bindsN fun _ _ _ _ _ _ us hl => match us, hl with | [_, _], _ => rfl
  have K_Book_read : FnOk P w K mg base (L2.CX P w) 7 _ fd_Book_read ["cls", "written"] (sp_Book_read (A K)) := ok_Book_read F_Book_read T (R_Book := R_Book) (G__read_rule := G__read_rule)
  have C_Book_read : CmG P w K mg base 7 (A K).cBook "read" (sp_Book_read (A K)) := ⟨_, _, _, creadB_ok (exAt m 10), cmetB_ok (exAt m 19), raw0 K_Book_read b_Book_read⟩
  obtain ⟨fd__law_do, F__law_do⟩ := Df.funD (d := d__law_do) (c.df 40 (d := d__law_do) rfl).1 (c.df 40 (d := d__law_do) rfl).2 rfl
  have b__law_do : Binds K fd__law_do ["_law_book", "_law_text", "_law_number", "_law_at", "_law_way"] [] := F__law_do.bindsN fun _ _ _ _ _ _ us hl => match us, hl with | [_, _, _, _, _], _ => rfl
  have K__law_do : FnOk P w K mg base (L2.CX P w) 7 _ fd__law_do ["_law_book", "_law_text", "_law_number", "_law_at", "_law_way"] (sp__law_do (A K)) := ok__law_do F__law_do T (M_Book_take := M_Book_take) (MK_Book_take_at_number_text := MK_Book_take_at_number_text) (I_Rule := I_Rule) (O_Book___getitem__ := O_Book___getitem__) (E__law_pure := E__law_pure)
  have G__law_do : FnG P w K mg base 7 "_law_do" (sp__law_do (A K)) := ⟨_, raw0 K__law_do b__law_do, (He.glo_ok X G (c.fact 41 (f := .glo "_law_do") rfl)), F__law_do.kp⟩
  obtain ⟨fd__law_book_of, F__law_book_of⟩ := Df.funD (d := d__law_book_of) (c.df 33 (d := d__law_book_of) rfl).1 (c.df 33 (d := d__law_book_of) rfl).2 rfl
  have b__law_book_of : Binds K fd__law_book_of ["_law_rules"] [] := F__law_book_of.bindsN fun _ _ _ _ _ _ us hl => match us, hl with | [_], _ => rfl
  have K__law_book_of : FnOk P w K mg base (L2.CX P w) 8 _ fd__law_book_of ["_law_rules"] (sp__law_book_of (A K)) := ok__law_book_of F__law_book_of T (C_Book_read := C_Book_read) (G__law_form_of := G__law_form_of)
  have G__law_book_of : FnG P w K mg base 8 "_law_book_of" (sp__law_book_of (A K)) := ⟨_, raw0 K__law_book_of b__law_book_of, (He.glo_ok X G (c.fact 34 (f := .glo "_law_book_of") rfl)), F__law_book_of.kp⟩
  obtain ⟨fd__law_agrees, F__law_agrees⟩ := Df.funD (d := d__law_agrees) (c.df 42 (d := d__law_agrees) rfl).1 (c.df 42 (d := d__law_agrees) rfl).2 rfl
  have b__law_agrees : Binds K fd__law_agrees ["_law_book", "_law_text", "_law_number", "_law_at", "_law_way", "_law_due"] [] := F__law_agrees.bindsN fun _ _ _ _ _ _ us hl => match us, hl with | [_, _, _, _, _, _], _ => rfl
  have K__law_agrees : FnOk P w K mg base (L2.CX P w) 8 _ fd__law_agrees ["_law_book", "_law_text", "_law_number", "_law_at", "_law_way", "_law_due"] (sp__law_agrees (A K)) := ok__law_agrees F__law_agrees T (G__law_whole := G__law_whole) (G__law_is_text := G__law_is_text) (G__law_do := G__law_do)
  have G__law_agrees : FnG P w K mg base 8 "_law_agrees" (sp__law_agrees (A K)) := ⟨_, raw0 K__law_agrees b__law_agrees, (He.glo_ok X G (c.fact 43 (f := .glo "_law_agrees") rfl)), F__law_agrees.kp⟩
  obtain ⟨fd__law_yields, F__law_yields⟩ := Df.funD (d := d__law_yields) (c.df 43 (d := d__law_yields) rfl).1 (c.df 43 (d := d__law_yields) rfl).2 rfl
  have b__law_yields : Binds K fd__law_yields ["_law_book", "_law_rules", "_law_text", "_law_shown", "_law_closed"] [] := F__law_yields.bindsN fun _ _ _ _ _ _ us hl => match us, hl with | [_, _, _, _, _], _ => rfl
  have K__law_yields : FnOk P w K mg base (L2.CX P w) 8 _ fd__law_yields ["_law_book", "_law_rules", "_law_text", "_law_shown", "_law_closed"] (sp__law_yields (A K)) := ok__law_yields F__law_yields T (Y_Book_possible := Y_Book_possible) (G__law_fits := G__law_fits)
  have G__law_yields : FnG P w K mg base 8 "_law_yields" (sp__law_yields (A K)) := ⟨_, raw0 K__law_yields b__law_yields, (He.glo_ok X G (c.fact 44 (f := .glo "_law_yields") rfl)), F__law_yields.kp⟩
  have K_law : FnOk P w K mg base (L2.CX P w) 9 _ fd_law ["_law_script"] (sp_law K) := ok_law F_law T (M_Book_written := M_Book_written) (G__law_is_text := G__law_is_text) (G__law_form_of := G__law_form_of) (G__law_yields := G__law_yields) (G__law_agrees := G__law_agrees) (G__law_due_of := G__law_due_of) (G__law_next := G__law_next) (Ct_Text_1_closed := Ct_Text_1_closed) (G__law_book_of := G__law_book_of) (G__law_long := G__law_long) (G__law_over_the_end := G__law_over_the_end) (G__law_text_of := G__law_text_of) (G__law_rules_of := G__law_rules_of) (G__law_letters_of := G__law_letters_of)
  exact fn_mute K_law fun vs H Q E h => h
theorem law_fd (c : Says2 fileS faL dsL exK K) : ∃ fd, FnP K "law" "law" s_law (He.ga K "law") fd := Df.funD (d := d_law) (c.df 44 (d := d_law) rfl).1 (c.df 44 (d := d_law) rfl).2 rfl
end
open HandSHeadRun PySem.W in
theorem run (w : World) : RunEq R (view R.prog [46]) hk ob 20000 loose w := by
  intro os
  have a := t2 w os
  have b := t3 w os
  have c := t4 w os
  have c0 := t5_0 w os
  have c1 := t5_1 w os
  revert a b c c0 c1
  generalize endF (stepQ (denQ tabQ) R.prog w) 20000 R.prog w os = x
  intro a b c c0 c1
  cases x with
  | none => cases a
  | some s =>
    have a := Option.some.inj a
    have b := Option.some.inj b
    have c := Option.some.inj c
    have c0 : dsL0.map (fun d => fnV2 (frT2 (HandSHeadRun.getT s)) (d.adr (frT2 (HandSHeadRun.getT s)))) = dsL0.map Df.val := Option.some.inj c0
    have c1 : dsL1.map (fun d => fnV2 (frT2 (HandSHeadRun.getT s)) (d.adr (frT2 (HandSHeadRun.getT s)))) = dsL1.map Df.val := Option.some.inj c1
    have e : (ob s).2 = dsL.map Df.val := by
      show dsL.map (fun d => fnV2 (frT2 (HandSHeadRun.getT s)) (d.adr (frT2 (HandSHeadRun.getT s)))) = dsL.map Df.val
      unfold dsL
      simp only [List.map_append]
      rw [c0, c1]
    show some _ = some _
    exact congrArg some (Prod.ext a (Prod.ext b (Prod.ext c e)))
end K4
open PySem PySem.W PySem.Calls PyProof.Rows
theorem PySem.Challenge.cw_manyclerks_k04_one_step_holds : PySem.Challenge.rw_manyclerks_k04_one_step.Holds := by
  w_on; o_law
  refine HandSHeadRun.head_any (r := OpenLaw.row PySem.Challenge.rw_manyclerks_k04_one_step) (q := view (OpenLaw.row PySem.Challenge.rw_manyclerks_k04_one_step).prog [46]) (H := K4.hk) (ob := K4.ob) (M := 20000) (loose := K4.loose) (d := HandSHeadRun.topDef (OpenLaw.row PySem.Challenge.rw_manyclerks_k04_one_step).prog 46) (kwd := []) K4.ob_eq
    (by kernel_rfl) (fun s => by kernel_rfl) K4.run (by kernel_rfl) (by kernel_rfl) (by kernel_rfl) (by rfl) (by first | assumption | decide +kernel) (by decide +kernel) ⟨rfl, rfl, rfl, rfl, rfl, by decide +kernel⟩ ?hw ?hc
  case hw => w_witness2
  case hc =>
    refine L2.walk_ofE (l := PySem.Challenge.rw_manyclerks_k04_one_step) (n := 63) (k := 9) (x := "_law_script") (CX := L2.CX0) rfl (by decide) (by kernel_rfl) ⟨rfl, by decide, by decide⟩ ?F (fun _ _ _ _ z => z)
    intro w mg fa h Y G hmg0
    obtain ⟨K, KX, c⟩ := Y
    have hmg : mg ("law" : PySem.Str) = some (.ref fa) := by
      have e : (HandSHeadRun.topDef (OpenLaw.row PySem.Challenge.rw_manyclerks_k04_one_step).prog 46).name = ("law" : PySem.Str) := by kernel_rfl
      rw [← e]
      exact hmg0
    have e2 := hmg.symm.trans (He.glo_ok KX G (c.fact 45 (f := .glo "law") rfl))
    cases e2
    obtain ⟨fd, F⟩ := K4.law_fd c
    exact ⟨K, fd, K4.sp_law K, KX, fun s v => F.bindsA (ps := ["_law_script"]) (fun _ _ _ _ _ _ us hl => match us, hl with | [_], _ => rfl) s [v] rfl, fun H a ns hl _ hS => ⟨a, ns, rfl, hS, fun _ => rfl⟩, fun base _ _ => K4.law_of F KX G c rfl (by decide +kernel)⟩
