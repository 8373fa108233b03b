import PyProof.Rows.All
import Wide.All
import OpenK.AllK
import Wide.FinOn
import KE.KExcSuper
import HandS.ForMost
import HandS.Exc
import HandS.ExcInit
import HandS.ExcSuper
import HandS.ClsMeth
import HandS.HotCalls
import HandS.ExcField
import HandS.ExcOwn
import HandS.Defaults
import HandS.TryMany
import KE.KExcIs
import HandS.OwnEq
import KE.KCallOwn
import KE.KOpsOwn
import PyProof.CollectWalk
import PyProof.StrWalks
import PyProof.ListStr
import HandS.IterNext
import HandS.Walk
import PyProof.WalksEnum
import PyProof.Draws
import HandS.OwnIter
import HandS.Style
import HandS.SetFor
import HandS.FltList
import HandS.MakeKwOnly
import HandS.RaiseMore
import HandS.Small
import HandS.FStr
import PyProof.Rows.StrRev
import HandS.IsInst
import HandS.Conv
import HandS.Sort
import HandS.Star
import HandS.Property
import HandS.GenBody
import HandS.GenYield
import HandS.GenCall
import HandS.GenList
import PyProof.GenComp
import KE.GoesEnumKw
import HandS.SortKw
import HandS.DeepEq
import HandS.Deep
import PyProof.StrLawsTight
import HandS.Evl
import KE.KStateDown
import HandS.Ends
import HandS.Words
import HandS.WordsExc
import HandS.Head0
import HandS.Head1
import HandS.Head2
import HandS.HeadEnd
import HandS.HeadHook1
import HandS.HeadHook2
import HandS.HeadHook3
import HandS.IterVal
import HandS.ExcValue
import HandS.RaiseFrom
import KE.KExcRaise
import HandS.Set
import HandS.Strs
import HandS.More
import HandS.MakeKw
import PySem.Challenge.RW_manyclerks_k07_overlaps_of_all_texts
set_option Elab.async false
set_option linter.all false
set_option maxRecDepth 100000
set_option maxHeartbeats 4000000
/-! MB1: an own exception class over ValueError, through any bases of the text, whose __init__ begins with super().__init__(..) -/
namespace MC
open PySem PySem.Spec PyProof.Rows L2

section
variable {prog : Program} {w : World} {A : Around} {E : Value → Shared → Prop} {h : Heap} {g : Array GenState} {d : Drawn} {t : Nat} {os : OsState}
variable {nm q : Str} {C N : Addr} {bs bm : List Value} {hdct : Bool} {sn : List Str} {sub : List Value} {ab : Bool} {col : Option Bool} {dd : Option Addr} {k0 k1 k2 k3 k5 : Option Value}
/-- the bound ValueError.__init__ is called -/
theorem call_mw {u e t0 : Addr} {rest : List Value} {Q : Value → Shared → Prop}
    (hC : h.get? C = some (excClassObj nm q C N bs bm hdct sn sub ab col dd k0 k1 k2 k3 k5 "ValueError.__new__")) (he : h.get? e = some (PySem.HandSPX.excO C t0)) (hu : h.get? u = some (PySem.W.kxs_mw "ValueError.__init__" e)) (hrest : rest.length ≤ sizeLine)
    (hq : ∀ h' t1, (∀ b o, b ≠ e → h.get? b = some o → h'.get? b = some o) → h'.get? e = some (PySem.HandSPX.excO C t1) → Q .none ⟨h', g, d, t, os⟩) :
    wpAny (model prog w) A (call (.ref u) rest) Q E ⟨h, g, d, t, os⟩ := by
  refine wpAny_call (codeAny_of_tree ?_)
  show wpAny _ A.in1 (callAny (.ref u) ⟨rest, []⟩) _ _ _
  simp only [callAny]
  refine wpAny_bind (wpAny_load hu ?_)
  simp only [PySem.W.kxs_mw, show (Value.type "method-wrapper" == Value.type "method" || Value.type "method-wrapper" == Value.type "builtin_function_or_method" || Value.type "method-wrapper" == Value.type "method-wrapper") = true by decide, if_true]
  refine PySem.W.KFB.if_so (by decide) ?_
  refine wpAny_bind (PySem.ESX.check_bound PySem.F.excBase_ValueError hC he rfl ?_)
  refine wpAny_bind (wpAny_pure (wpAny_pure ?_))
  refine ⟨plainId_quiet PySem.F.excBase_ValueError.init.plain _, codeAny_builtin PySem.F.excBase_ValueError.initEntry ?_⟩
  exact PySem.W.exc_init_tree (cls := .ref C) (t0 := t0) (dv := none) (c2 := .none) (c3 := .none) (b4 := .bool false) he hrest fun h' k e' _ => hq h' _ k e'
end

section
open PySem.W
variable {M : Model} {A : Around} {E : Value → Shared → Prop} {s : Shared} {i : String} {u x : Addr}
theorem mw_callWith1 {pos : Pos} {env : Env} {e : Expr} {rest : List Expr} {Q : Value → Shared → Prop}
    (h : wpAny M A (spliced (backTo pos (starEach (e :: rest) env))) (fun vs s₁ => KxsAt i u x s₁.heap ∧ wpAny M A (call (.ref u) vs) Q E s₁) E s)
    (he : starEach (e :: rest) env = (false, eval e env) :: starEach rest env) (hplain : (backTo pos (starEach rest env)).any (·.1) = false) :
    wpAny M A (callWith pos (.ref u) [] (backTo pos (starEach (e :: rest) env)) []) Q E s := by
  rw [he] at h ⊢
  refine kxs_callWith (i := i) (x := x) (by show (false || (backTo pos (starEach rest env)).any (·.1)) = false; rw [hplain]; rfl) ?_
  exact PySem.Calls.evalArgs_plain h
end

/-! ### the def -/
/-- names of an __init__ that says super(): __class__ is free, super is a global's name, all others are its own -/
structure SupScope (N P : List Str) (sc : Scope) : Prop where
  kind : sc.kind = .function
  co : sc.isCoroutine = false
  gen : sc.isGenerator = false
  nd : N.Nodup
  pre : N.take P.length = P
  par : ∀ x ∈ P, sc.names.lookup x = some .local
  nocell : ∀ y ∈ sc.names, y.2 ≠ .cell
  one : ∀ y ∈ sc.names, y.2 = .free → y.1 = "__class__"
  cls : sc.names.lookup ("__class__" : Str) = some .free
  sup : sc.names.lookup ("super" : Str) = some .globalImplicit

/-- such a def as it stands behind the top: D is the class in its cell cc -/
structure SupF (P : Program) (K : PySem.W.Frag) (x qual : Str) (params : Arguments) (body : List Stmt) (scope : Scope) (f : Addr) (fd : FuncData) (D cc : Addr) : Prop where
  ex : ∃ (oc : Value) (od : Option Addr) (dV kV doc pm : Value) (an : Option Addr) (cda : Addr) (ct : Value) (osl : Array (Option Value)),
    fd = PySem.W.ksFn x qual params body scope dV kV doc pm an (.ref cda) ct cc ∧ K.lookup f = some ⟨oc, od, .func fd, osl⟩ ∧ PySem.W.codeIn K (.ref cda) qual = true ∧
      ∃ (ccl : Value) (cdd : Option Addr) (vs : Array Value) (ccs : Array (Option Value)) (file : Str) (tf : Tok), K.lookup cda = some ⟨ccl, cdd, .fields vs, ccs⟩ ∧ vs[2]? = some (.str file tf) ∧ ((P.main.file : Str) == file) = true
  cell : ∃ (cl : Value) (cld : Option Addr) (csl : Array (Option Value)), K.lookup cc = some ⟨cl, cld, .cell (some (.ref D)), csl⟩
  kp : PySem.W.keepIn K (.ref f) = true

/-- what of the text super() in an exception's __init__ looks at -/
structure SupC (P : Program) (K : PySem.W.Frag) (mg : Str → Option Value) (C : Addr) : Prop where
  oex : OexC K C
  opq : PySem.W.nsIn K cStatics "thirdparty.any" = some none
  ini : ∃ cd bm, PySem.W.clsIn K C = some cd ∧ cd.mro = .ref C :: bm ∧ PySem.W.alongIn K "__init__" bm = some (some (.builtin "ValueError.__init__"))
  sub : PySem.W.subIn K (.ref C) (.type "ValueError") = some true
  self : PySem.W.mroIn K C (.ref C) = some true
  nosup : mg "super" = none
  top : (P.main.scope.names.lookup ("super" : Str)).isSome = false

/-- the context of its body -/
def cxS (CX : CXT) (P : Program) (w : World) (K : PySem.W.Frag) (mg : Str → Option Value) (base : Heap) (N : List Str) (qual : Str) (scope : Scope) (f cc : Addr) (cd : Value) (A : Around) (outer : List Env) (s : Shared) (H : Hp) (E : XK) : Cx where
  prog := P
  w := w
  K := K
  mg := mg
  base := base
  A := A.deeper (PySem.W.ksEnv qual scope s.heap.objs.size f cd cc)
  N := N
  s_0 := s
  H_0 := H
  env := PySem.W.ksEnv qual scope s.heap.objs.size f cd cc
  outer := outer
  stack := PySem.W.ksEnv qual scope s.heap.objs.size f cd cc :: outer
  ex := []
  calm := true
  fn := fun _ => false
  pn := []
  xe := fun e s' => wpAny (model P w) (A.deeper (PySem.W.ksEnv qual scope s.heap.objs.size f cd cc)) (leaving (PySem.W.ksEnv qual scope s.heap.objs.size f cd cc) e) (fun _ s'' => CX outer H s E e s'') (fun e' s'' => CX outer H s E e' s'') s'

theorem zip_fst_sub : ∀ (P : List Str) (us : List Value), ((P.zip us).map (·.1)).Sublist P
  | [], _ => by simp
  | _ :: _, [] => by simp
  | p :: P, u :: us => by
    rw [List.zip_cons_cons, List.map_cons]
    exact (zip_fst_sub P us).cons_cons _
theorem zip_rev_lookup : ∀ {P : List Str} {us : List Value} {i : Nat} {x : Str} {u : Value}, P.Nodup → P[i]? = some x → us[i]? = some u → (P.zip us).reverse.lookup x = some u := by
  intro P us i x u hn hp hu
  have hm : (x, u) ∈ P.zip us := by
    refine List.mem_of_getElem? (i := i) ?_
    rw [List.getElem?_zip_eq_some]
    exact ⟨hp, hu⟩
  have uniq : ∀ (l : List (Str × Value)), (l.map (·.1)).Nodup → (x, u) ∈ l → l.lookup x = some u := by
    intro l
    induction l with
    | nil => intro _ h; cases h
    | cons a r ih =>
      intro hnd h
      obtain ⟨a1, a2⟩ := a
      rw [List.map_cons, List.nodup_cons] at hnd
      rw [List.lookup_cons]
      rcases List.mem_cons.mp h with e | h
      · cases e
        rw [beq_self_eq_true]
      · have ne : (x == a1) = false := by
          refine beq_eq_false_iff_ne.mpr fun e => hnd.1 ?_
          rw [← e]
          exact List.mem_map.mpr ⟨(x, u), h, rfl⟩
        rw [ne]
        exact ih hnd.2 h
  refine uniq _ ?_ (List.mem_reverse.mpr hm)
  rw [List.map_reverse]
  exact List.pairwise_reverse.mpr ((hn.sublist (zip_fst_sub P us)).imp fun h e => h e.symm)

theorem inv_sup {CX : CXT} {P : Program} {w : World} {K : PySem.W.Frag} {mg : Str → Option Value} {base : Heap} {N ps : List Str} {qual : Str} {scope : Scope} {f cc D : Addr} {cd : Value} {A : Around} {outer : List Env} {s : Shared} {H : Hp} {E : XK} {us : List Value} {vs : List V} {h₀ : Heap} {tk : Nat}
    (S : SupScope N ps scope) (hd : A.handled = none) (e0 : Env0 P w K mg base A outer s H) (hl : vs.length = ps.length) (r : Vals vs us)
    (hc : ∃ (cl : Value) (cld : Option Addr) (csl : Array (Option Value)), K.lookup cc = some ⟨cl, cld, .cell (some (.ref D)), csl⟩)
    (hns : h₀.Ns s.heap.objs.size (fun x => (ps.zip us).reverse.lookup x)) (hk : ∀ b o, s.heap.get? b = some o → h₀.get? b = some o) :
    Inv (cxS CX P w K mg base N qual scope f cc cd A outer s H E) [] (start N vs) H { s with heap := h₀, toks := tk } := by
  have hpl : ps.length ≤ N.length := by have := congrArg List.length S.pre; rw [List.length_take] at this; omega
  have noA : ∀ b : Addr, b ∉ (cxS CX P w K mg base N qual scope f cc cd A outer s H E).ex := fun b z => absurd (show b ∈ ([] : List Addr) from z) (by simp)
  obtain ⟨cl, cld, csl, hcc⟩ := hc
  have hb : base.get? cc = some ⟨cl, cld, .cell (some (.ref D)), csl⟩ := e0.mod.kin _ _ hcc
  have cell1 : ∀ x c, (cxS CX P w K mg base N qual scope f cc cd A outer s H E).env.cells.lookup x = some c → x = "__class__" ∧ c = cc := fun x c e => by
    have e' : (match x == ("__class__" : Str) with | true => some cc | false => ([] : List (Str × Addr)).lookup x) = some c := e
    cases q : (x == ("__class__" : Str)) with
    | true =>
      rw [q] at e'
      exact ⟨beq_iff_eq.mp q, (Option.some.inj e').symm⟩
    | false =>
      rw [q] at e'
      cases e'
  refine ⟨⟨e0.mod, S.kind, rfl, rfl, Nat.le_refl _, fun y z c h1 h2 => (cell1 y c h1).1.trans (cell1 z c h2).1.symm, fun y hy => ?_, fun y c hf _ => Bool.noConfusion hf, fun _ => hd, Around.frames_deeper e0.frames, .inr ⟨rfl, rfl⟩, fun b z => absurd z (noA b), e0.bs, e0.bsz, fun b _ _ => noA b, fun b z => absurd z (noA b), e0.funs, e0.frf⟩,
    rfl, e0.bare, Un.kept hk, ⟨_, hns, fun i y v h1 h2 h3 => ?_⟩, fun y c h => ⟨some (.ref D), ?_⟩, e0.hok.fresh (Nat.le_refl _), fun y c h => ?_, fun p hp => absurd (show p ∈ ([] : List (Addr × Obj)) from hp) (by simp), e0.hok.kept hk, ?_⟩
  · have hy : scope.names.lookup y = some .cell ∨ scope.names.lookup y = some .free := hy
    rcases hy with hy | hy
    · exact absurd rfl (S.nocell _ (PySem.mem_of_lookup hy))
    · have e := S.one _ (PySem.mem_of_lookup hy) rfl
      refine ⟨cc, ?_⟩
      show (match y == ("__class__" : Str) with | true => some cc | false => ([] : List (Str × Addr)).lookup y) = some cc
      rw [show (y == ("__class__" : Str)) = true from beq_iff_eq.mpr e]
  · have hi : i < vs.length := by
      unfold L2.start at h2
      by_cases hi : i < vs.length
      · exact hi
      · rw [List.getElem?_append_right (by simpa using hi)] at h2
        rw [List.getElem?_replicate] at h2
        split at h2 <;> cases h2
    have ha : vs[i]? = some v := by
      unfold L2.start at h2
      rw [List.getElem?_append_left (by simpa using hi), List.getElem?_map] at h2
      cases e : vs[i]? with
      | none => rw [e] at h2; cases h2
      | some a => rw [e] at h2; cases h2; rfl
    obtain ⟨u, hu, rv⟩ := r.get ha
    have hp : ps[i]? = some y := by
      rw [← S.pre, List.getElem?_take_of_lt (by omega)]; exact h1
    have ndP : ps.Nodup := by rw [← S.pre]; exact S.nd.sublist (List.take_sublist _ _)
    exact ⟨u, rv, .inl ⟨S.par y (List.mem_of_getElem? hp), zip_rev_lookup ndP hp hu⟩⟩
  · obtain ⟨_, rfl⟩ := cell1 y c h
    exact ⟨_, hk _ _ (e0.bs _ _ hb).1, rfl⟩
  · obtain ⟨_, rfl⟩ := cell1 y c h
    exact (e0.bs _ _ hb).2
  · unfold L2.start
    show _ = N.length
    rw [List.length_append, List.length_map, List.length_replicate]
    omega

/-- super().__init__(e, ..), then the rest of the body -/
theorem fn_sup {CX : CXT} {P : Program} {w : World} {K : PySem.W.Frag} {mg : Str → Option Value} {base : Heap} {k : Nat} {f cc C : Addr} {fd : FuncData} {name qual : Str} {params : Arguments} {scope : Scope} {e : Expr} {es : List Expr} {rest : List Stmt} {p0 p1 p2 p3 p4 : Pos} {ar : Arg} {N ps : List Str} {sp : Sp} {pl : Env → Sem Bool}
    (F : SupF P K name qual params (.Expr (.Call (.Attribute (.Call (.Name "super" p0) [] [] p1) "__init__" p2) (e :: es) [] p3) p4 :: rest) scope f fd C cc) (S : SupScope N ps scope)
    (hp : (params.posonlyargs ++ params.args).head? = some ar) (hN : N[0]? = some ar.arg) (h0 : ps ≠ []) (T : SupC P K mg C)
    (len : ∀ vs H Q E, sp vs H Q E → vs.length = ps.length)
    (hbody : ∀ (cd : Value) (A : Around) (outer : List Env) (s : Shared) (H : Hp) (vs : List V) (Q : VK) (E : XK), Room k (A.deeper (PySem.W.ksEnv qual scope s.heap.objs.size f cd cc)) → sp vs H Q E →
      ∃ (ta : TA) (t : TS) (a : Addr), PA (cxS CX P w K mg base N qual scope f cc cd A outer s H E) (e :: es) ta ∧ PSs (cxS CX P w K mg base N qual scope f cc cd A outer s H E) rest t ∧ vs.head? = some (.ref a) ∧ H a = some (exo a C none) ∧
        ta (start N vs) H (fun ws H1 => ws.length ≤ 1000 ∧ H1 a = some (exo a C none) ∧ t { nx := fun _ H' => Q .non H', rt := Q } (start N vs) H1))
    (he : ∀ env, starEach (e :: es) env = (false, eval e env) :: starEach es env := by intro _; rfl) (hpl : ∀ env, (backTo p3 (starEach es env)).any (·.1) = false := by intro _; rfl)
    (hev : ∀ env, eval (.Call (.Attribute (.Call (.Name "super" p0) [] [] p1) "__init__" p2) (e :: es) [] p3) env = (do
      let ov ← attributeBase (.Call (.Name "super" p0) [] [] p1) "__init__" env (eval (.Call (.Name "super" p0) [] [] p1) env)
      standAt p2.atName
      let (f, first) ← holding [ov] (getMethod ov "__init__" (pl env))
      callWith p3 f first (backTo p3 (starEach (e :: es) env)) []) := by intro _; rfl) :
    FnOk P w K mg base CX (k + 1) f fd ps sp := by
  obtain ⟨oc, od, dV, kV, doc, pm, an, cda, ct, osl, rfl, lk, hcd, ccl, cdd, vs2, ccs, file, tf, hcode, hvs, hfile⟩ := F.ex
  obtain ⟨cl, cld, csl, hcell⟩ := F.cell
  refine ⟨len, fun A outer s H args us vs Q E hr e0 hb r hsp => ?_⟩
  have hl := len _ _ _ _ hsp
  have KX : K.In s.heap := e0.mod.kin.keeps fun b o e => (e0.bs b o e).1
  have lim : s.heap.NoLimit := e0.mod.nolimit.keeps fun b o e => (e0.bs b o e).1
  have hloc : ∀ y ∈ ps.zip us, scope.names.lookup y.1 = some .local := fun ⟨n, v⟩ hy => S.par n (List.of_mem_zip hy).1
  refine ks_codeAny_call_defAt (fd := PySem.W.ksFn name qual params (.Expr (.Call (.Attribute (.Call (.Name "super" p0) [] [] p1) "__init__" p2) (e :: es) [] p3) p4 :: rest) scope dV kV doc pm an (.ref cda) ct cc) hr.depth (KX _ _ lk) rfl lim (PySem.W.codeRec_of KX hcd) rfl hb S.nocell hloc (fun h₀ hns hk => ?_) S.co S.gen S.kind
  obtain ⟨ta, t, a, hta, ht, hv0, ha, hq⟩ := hbody (.ref cda) A outer s H vs Q E (hr.deeper _) hsp
  have I : Inv (cxS CX P w K mg base N qual scope f cc (.ref cda) A outer s H E) [] (L2.start N vs) H { s with heap := h₀, toks := s.toks + (ps.zip us).length } :=
    inv_sup S hr.hd e0 hl r F.cell hns hk
  have fin : ∀ {σ' : L2.St} {H' : Hp} {v : V} {u : Value} {s' : Shared}, Inv (cxS CX P w K mg base N qual scope f cc (.ref cda) A outer s H E) [] σ' H' s' → RelV v u → Q v H' → CE outer P w H s Q u s' :=
    fun {σ' H' v u s'} J rv q => ⟨v, H', J.os, J.bare, J.base, J.hok, rv, q⟩
  show PySem.wpAt (model P w) (A.deeper (PySem.W.ksEnv qual scope s.heap.objs.size f (.ref cda) cc)) (.func _ (PySem.W.ksEnv qual scope s.heap.objs.size f (.ref cda) cc)) (execs _ (PySem.W.ksEnv qual scope s.heap.objs.size f (.ref cda) cc)) _ _ _
  refine ks_wpAt_execs_cons (ks_wpAt_Expr_any (ks_wpAt_MethodCall (pl := pl _) ?_ (hev _)) I.quiet)
  obtain ⟨mb, hb1, hb2⟩ := I.mod.blt
  obtain ⟨cdC, bm, hcl, hmro, hal⟩ := T.ini
  obtain ⟨oC, hC1, hC2⟩ : ∃ oD, (h₀.get? C = some oD) ∧ oD.data = .cls cdC := by
    have hcl2 := hcl
    unfold PySem.W.clsIn at hcl2
    split at hcl2
    · rename_i c d cd' sl ho
      cases hcl2
      exact ⟨_, I.kIn _ _ ho, rfl⟩
    · cases hcl2
  obtain ⟨t1, hx⟩ := exo_at I.hok ha
  have hv : (fun x => (ps.zip us).reverse.lookup x) ar.arg = some (.ref a) := by
    cases vs with
    | nil => cases hv0
    | cons v vr =>
      have ev : v = .ref a := by simpa using hv0
      subst ev
      cases r with
      | @cons _ u0 _ ur ra rr =>
        obtain rfl : u0 = Value.ref a := ra
        have ndP : ps.Nodup := by rw [← S.pre]; exact S.nd.sublist (List.take_sublist _ _)
        cases ps with
        | nil => exact absurd rfl h0
        | cons p ps' =>
          have hp0 : p = ar.arg := by
            have e1 : (N.take (p :: ps').length)[0]? = some p := by rw [S.pre]; rfl
            rw [List.getElem?_take_of_lt (by simp)] at e1
            rw [hN] at e1
            exact (Option.some.inj e1).symm
          exact zip_rev_lookup (i := 0) ndP (by simp [hp0]) rfl
  have hpar : scope.names.lookup ar.arg = some .local := by
    cases ps with
    | nil => exact absurd rfl h0
    | cons p ps' =>
      have e1 : (N.take (p :: ps').length)[0]? = some p := by rw [S.pre]; rfl
      rw [List.getElem?_take_of_lt (by simp), hN] at e1
      cases e1
      exact S.par _ (List.mem_cons_self ..)
  refine ks_wpAt_super_base (f := f) (cc := cda) (ar := ar) S.sup S.cls (by decide) rfl (I.kIn _ _ lk) rfl hp rfl (I.kIn _ _ hcode) rfl hvs hfile T.top ?_
  refine PySem.W.ks_loadName_global S.kind S.sup (Calls.loadGlobal_builtin (I.mod.glob.keeps I.bk) T.nosup (hb1.keeps I.bk) ((hb2 _ (by decide)).trans (by decide +kernel)) ⟨rfl, ?_⟩)
  refine wpAny_loadName_free S.kind S.cls (c := cc) rfl ⟨_, I.kIn _ _ hcell, rfl⟩ ?_
  refine wpAny_loadName_local S.kind hpar hns hv ?_
  refine ks_wpAny_isType_cls hC1 hC2 ⟨rfl, ?_⟩
  refine ks_wpAny_call_super hC1 hC2 hx rfl (fun c z => nomatch z) (PySem.W.looks_mroIn I.kIn T.self) (fun h' hso k => ?_)
  have I1 : Inv (cxS CX P w K mg base N qual scope f cc (.ref cda) A outer s H E) [] (L2.start N vs) H { s with heap := h', toks := s.toks + (ps.zip us).length } := I.kept k
  have hlook : PySem.W.Looks (model P w) h' (mroOf (.ref C)) (.ref C :: bm) := fun A Q E s kp q => wpAny_bind ((PySem.W.looks_clsIn I1.kIn hcl) A _ E s kp (by rw [← hmro] at q; exact wpAny_pure q))
  have hxC : a ≠ C := fun z => by
    have h1 := I.kIn
    subst z
    rw [hx] at hC1
    cases hC1
    cases hC2
  have hin : PySem.W.Looks (model P w) h' (isInstance (.ref a) (.type "ValueError")) true := by
    have J : PySem.W.InstAt h' a (PySem.HandSPX.excO C t1) C none := ⟨k _ _ hx, rfl, rfl, trivial⟩
    exact J.type.andThen (PySem.W.looks_subIn I1.kIn T.sub)
  obtain ⟨sh, sg, sd, stk, sos⟩ := s
  refine PySem.W.kxs_getMethod PySem.W.kxs_ValueError hso (PySem.W.looks_opaque I1.kIn T.opq) hlook (PySem.ESX.drop_own C bm) I1.kIn hal hin hxC (by decide) ?_
  have I2 := ClX.pin_new (o := PySem.W.kxs_mw "ValueError.__init__" a) (h' := h'.push (PySem.W.kxs_mw "ValueError.__init__" a)) (a := h'.objs.size) (t' := stk + (ps.zip us).length + 1) I1 (fun b u z => Heap.get?_push_of_some _ z) (Nat.le_refl _) (Heap.get?_push_size _ rfl) (fun v z => nomatch z)
  show wpAny _ _ (callWith p3 (Value.ref h'.objs.size) [] (backTo p3 (starEach (e :: es) _)) []) _ _ _
  refine mw_callWith1 (i := "ValueError.__init__") (x := a) (thn (hta.run p3 _ _ (L2.start N vs) H _ I2 hq) fun ws s3 ⟨wv, H1, I3, rw3, hlen, ha1, q⟩ => ⟨ClX.pin_at I3, ?_⟩) (he _) (hpl _)
  obtain ⟨nm, qn, NC, bs, bm', sn, sub, ab, col, dd, k0, k1, k2, k3, k5, hC, hbm⟩ := T.oex.cls
  obtain ⟨t3, he3⟩ := exo_at I3.hok ha1
  have hu3 := ClX.pin_at I3
  obtain ⟨hp3, g3, d3, tk3, os3⟩ := s3
  refine call_mw (I3.kIn _ _ hC) he3 hu3 (by rw [← Paired.length rw3, sizeLine_eq]; omega) fun h4 t4 k4 e4 => ?_
  have I3' := ClX.unpin I3
  have J := I3'.write (t' := tk3) (x := a) (e := a) (o := exo a C none) (by rw [ha1]; exact True.intro) (.inl rfl) k4 ⟨_, e4⟩ (exo_ok e4)
  have eu : upd H1 a (exo a C none) = H1 := by
    funext b
    by_cases hb : b = a
    · rw [hb, upd_same, ha1]
    · rw [upd_ne hb]
  rw [eu] at J
  refine wpAt_of_wpAny (wpAny_mono (ht.run [] _ (L2.start N vs) H1 _ J q) (fun fl s' hs => ?_) fun e s' hs => hs)
  cases fl with
  | ret u =>
    obtain ⟨v, σ', H', J, rv, q⟩ := hs
    exact fin J rv q
  | next =>
    obtain ⟨σ', H', J, q⟩ := hs
    exact fin (v := V.non) (u := Value.none) J rfl q
  | brk =>
    obtain ⟨_, _, _, q⟩ := hs
    exact False.elim q
  | cont =>
    obtain ⟨_, _, _, q⟩ := hs
    exact False.elim q
end MC
set_option maxHeartbeats 4000000
/-! MB2: try with several named clauses; a def that is handed the exception within a suite -/
namespace MC
open PySem PySem.Spec PyProof.Rows L2

/-! ### several clauses «except C as n» -/
/-- the ends of a suite whose name goes behind it -/
def gone (i : Nat) (D : Ends) : Ends := { nx := fun σ H => D.nx (σ.set i none) H, rt := D.rt, bk := fun σ H => D.bk (σ.set i none) H, ct := fun σ H => D.ct (σ.set i none) H }
abbrev Cl := Value × Nat × (Addr → Value → Option Addr → TS)
/-- what the clauses wish of an exception of the body, one behind the other -/
def wAsL (K : PySem.W.Frag) (Wout : WX) (D : Ends) : List Cl → WX
  | [] => Wout
  | (c, i, ts) :: r => fun cls d σ H => ∃ b, PySem.W.exmOne K cls c = some b ∧ (b = true → ∀ a, H a = none → ts a cls d (gone i D) (σ.set i (some (.ref a))) H) ∧ (b = false → wAsL K Wout D r cls d σ H)
inductive HdsAs (X : Cx) : List ExceptHandler → List Cl → Prop
  | nil : HdsAs X [] []
  | cons {x n : Str} {c : Value} {i : Nat} {ts : Addr → Value → Option Addr → TS} {b₀ : Stmt} {suite : List Stmt} {np pos' : Pos} {hds : List ExceptHandler} {l : List Cl} (hc : Names X x c) (hi : X.N[i]? = some n) (hln : X.env.kindOf n = some .local)
      (hsu : ∀ (a : Addr) (oe : Obj) (cls : Value) (d : Option Addr) (pn : List (Addr × Obj)), Zc cls d oe → (∃ vs, oe.data = .fields vs) → PSs (X.suite a ((a, oe) :: pn)) (b₀ :: suite) (ts a cls d)) (r : HdsAs X hds l) :
      HdsAs X (.ExceptHandler (some (.Name x np)) (some n) (b₀ :: suite) pos' :: hds) ((c, i, ts) :: l)
section
variable {X : Cx} {body : List Stmt} {h₀ : ExceptHandler} {hds : List ExceptHandler} {l : List Cl} {pos : Pos} {tb : WX → TS} {Wout : WX}
def tTryAs (K : PySem.W.Frag) (Wout : WX) (l : List Cl) (tb : WX → TS) : TS := fun D σ H => tb (wAsL K Wout D l) D σ H
theorem ps_try_asL (hs : X.stack = X.env :: X.outer) (hf : X.env.frame = some X.env.locals) (hN : X.N.Nodup) (tk : Takes X Wout)
    (hb : ∀ (W : WX) (pn : List (Addr × Obj)) (xe : Value → Shared → Prop), Takes (X.tr pn xe) W → PassesOwn (model X.prog X.w) X.A X.env xe → PSs (X.tr pn xe) body (tb W))
    (hh : HdsAs X (h₀ :: hds) l) : PS X (.Try body (h₀ :: hds) [] [] pos) (tTryAs X.K Wout l tb) := by
  refine ⟨fun pins s σ H D I h => ?_⟩
  have ok := I.ok
  have hfr : X.A.frames = some (X.env :: X.outer) := by rw [ok.frames, hs]
  refine wpAny_Try_except (wpAny_mono ((hb (wAsL X.K Wout D l) (X.pn ++ pins) (fun e s₁ => wpAny (model X.prog X.w) X.A (noteFrame e X.env) (fun _ s₂ => wpAny (model X.prog X.w) X.A (setFlight e none) (fun _ s₃ =>
    wpAny (model X.prog X.w) X.A (handleBy e X.env (h₀ :: hds)) (SP X pins D) X.xe s₃) X.xe s₂) X.xe s₁) (fun u s' xx => ?_) PassesOwn.looking).run [] s σ H D (I.toTry _) h) (fun f s1 hsp => ?_) (fun e s1 he => he))
  · -- the body raises
    obtain ⟨a, B, sI, pins', σ', H', cls, d, rfl, J', nb, up, sky, na, os, ag, w⟩ := xx
    have J : Inv X pins σ' H' sI := J'.ofTry ok
    have sky' : Sky B (X.env :: X.outer) a (Zc cls d) X.env.locals s'.heap := by rw [← hs]; exact sky
    show wpAny (model X.prog X.w) X.A (noteFrame (.ref a) X.env) _ _ _
    refine Sky.land Zc.steady hfr hf sky' fun h3 fl3 up3 => ?_
    have J3 : Inv X pins σ' H' { s' with heap := h3 } := J.landed nb fl3.1 (up.trans up3) os ag
    obtain ⟨oe3, vs3, he3, hz3, hd3⟩ := fl3.there
    have nfr : a ∉ frs (X.env :: X.outer) := fun hm => by
      obtain ⟨_, o', e', hnf⟩ := fl3.2.2.1.mem hm
      have e2 : some oe3 = some o' := he3.symm.trans e'
      cases e2
      exact hnf _ hd3
    have nL : a ≠ X.env.locals := fun z => nfr (List.mem_filterMap.mpr ⟨X.env, List.mem_cons_self, by rw [hf, z]⟩)
    have nF : a ∉ X.fs := fun hm => by
      obtain ⟨e, he, q⟩ := List.mem_filterMap.mp hm
      exact nfr (List.mem_filterMap.mpr ⟨e, List.mem_cons_of_mem _ he, q⟩)
    have S3 := J3.suite he3 hd3 na nL nF
    have go : ∀ {hds' : List ExceptHandler} {l' : List Cl}, HdsAs X hds' l' → wAsL X.K Wout D l' cls d σ' H' →
        wpAny (model X.prog X.w) X.A (handleBy (.ref a) X.env hds') (SP X pins D) X.xe { s' with heap := h3 } := by
      intro hds' l' hk
      induction hk with
      | nil =>
        intro w
        refine wpAny_handleBy_nil ?_
        obtain ⟨k1, k2, k3, oe, vs, T, oT, ts', he, hz, hd, h1, hr⟩ := id fl3
        unfold PySem.passOn
        refine wpAny_bind (wpAny_field he hd h1 ?_)
        rw [if_neg (show ¬ ((Value.ref T == Value.none) = true) from by simp)]
        have fin : wpAny (model X.prog X.w) X.A (setFlight (.ref a) X.env.frame) (fun _ s4 => wpAny (model X.prog X.w) X.A (throw (.ref a) : Sem Flow) (SP X pins D) X.xe s4) X.xe { s' with heap := h3 } := by
          rw [hf]
          refine HandSPX.setFlight_upZ fl3 fun h4 hh4 up4 => wpAny_throw (tk _ _ ?_)
          exact ⟨a, B, sI, pins, σ', H', cls, d, rfl, J, nb, (up.trans up3).trans up4, .inr (.inr (by rw [hs]; exact hh4)), na, os, ag, w⟩
        first
          | exact wpAny_bind (wpAny_pure (wpAny_bind fin))
          | exact wpAny_bind fin
      | @cons x n c i ts b₀ suite np pos' hds2 l2 hc hi hln hsu r ih =>
        intro w
        obtain ⟨b, hb1, hyes, hno⟩ := w
        refine wpAny_handleBy_cons (codeAny_handlers_test ?_) (by intro q; cases q)
        have LT : PySem.W.Looks (model X.prog X.w) h3 (typeOf (.ref a)) cls := fun A Q E s k q => wpAny_typeOf_ref (k _ _ he3) (by rw [hz3.1]; exact q)
        have LM := PySem.W.exm_one (M := model X.prog X.w) (J3.kIn) LT hb1
        have test : ∀ {Q : Value → Shared → Prop} {E : Value → Shared → Prop}, Q c { s' with heap := h3 } → wpAny (model X.prog X.w) (X.A.mark (some (.ref a))) (eval (.Name x np) X.env) Q E { s' with heap := h3 } := fun {Q E} q => by
          obtain ⟨hg, hdbg, hm | ⟨hm, hv, hnn⟩⟩ := hc
          · exact ld_glob (X := X.suite a ((a, oe3) :: (X.pn ++ pins))) S3 hg hm q hdbg
          · exact ld_blt (X := X.suite a ((a, oe3) :: (X.pn ++ pins))) S3 hg hm hv q hnn hdbg
        refine test (LM.here ?_)
        cases b with
        | true =>
          refine codeAny_handlers_suite_as (HandSPX.lands_againZ fl3 fun h4 fl4 up4 => ?_)
          have J4 : Inv X pins σ' H' { s' with heap := h4 } := J.landed nb fl4.1 ((up.trans up3).trans up4) os ag
          obtain ⟨oe4, vs4, he4, hz4, hd4⟩ := fl4.there
          have S4 := J4.suite he4 hd4 na nL nF
          refine store_ok (X := X.suite a ((a, oe4) :: (X.pn ++ pins))) (v := .ref a) S4 hN hi (.inl hln) rfl (fun s5 S5 => ?_) (.inr hln)
          refine wpAny_mono ((hsu a oe4 cls d (X.pn ++ pins) hz4 ⟨_, hd4⟩).run [] s5 _ H' _ S5 (hyes rfl a na)) (fun f s6 hsp => ?_) (fun _ _ z => False.elim z)
          have end_ : ∀ {σ6 : L2.St} {H6 : Hp} {Q : Shared → Prop}, Inv (X.suite a ((a, oe4) :: (X.pn ++ pins))) [] σ6 H6 s6 → (∀ s7, Inv X pins (σ6.set i none) H6 s7 → Q s7) →
              wpAny (model X.prog X.w) X.A (do bindName X.env n .none; unbindBehindTheSuite X.env n pos') (fun _ s7 => Q s7) X.xe s6 := fun {σ6 H6 Q} S6 hq => gone_ok (S6.unsuite ok) hN hi hln hq
          cases f with
          | next =>
            obtain ⟨σ6, H6, S6, q6⟩ := hsp
            exact end_ S6 fun s7 J7 => ⟨_, _, J7, q6⟩
          | brk =>
            obtain ⟨σ6, H6, S6, q6⟩ := hsp
            exact end_ S6 fun s7 J7 => ⟨_, _, J7, q6⟩
          | cont =>
            obtain ⟨σ6, H6, S6, q6⟩ := hsp
            exact end_ S6 fun s7 J7 => ⟨_, _, J7, q6⟩
          | ret u =>
            obtain ⟨v6, σ6, H6, S6, r6, q6⟩ := hsp
            exact end_ S6 fun s7 J7 => ⟨_, _, _, J7, r6, q6⟩
        | false =>
          show wpAny _ X.A (handleBy (.ref a) X.env hds2) _ _ _
          exact ih (hno rfl)
    exact go hh w
  · cases f with
    | next =>
      obtain ⟨σ', H', J', q⟩ := hsp
      exact wpAny_execs_nil ⟨σ', H', J'.ofTry ok, q⟩
    | brk =>
      obtain ⟨σ', H', J', q⟩ := hsp
      exact ⟨σ', H', J'.ofTry ok, q⟩
    | cont =>
      obtain ⟨σ', H', J', q⟩ := hsp
      exact ⟨σ', H', J'.ofTry ok, q⟩
    | ret u =>
      obtain ⟨v, σ', H', J', r, q⟩ := hsp
      exact ⟨v, σ', H', J'.ofTry ok, r, q⟩
end

/-! ### a def that is handed the exception within the suite, and raises nothing -/
abbrev SpE := Addr → Value → Option Addr → Sp
abbrev XE0 : XK := fun _ _ _ => False
structure FnE (P : Program) (w : World) (K : PySem.W.Frag) (mg : Str → Option Value) (base : Heap) (k : Nat) (f : Addr) (fd : FuncData) (ps : List Str) (sp : SpE) : Prop where
  len : ∀ a c d vs H Q E, sp a c d vs H Q E → vs.length = ps.length
  run : ∀ (A : Around) (outer : List Env) (s : Shared) (H : Hp) (args : Args) (us : List Value) (vs : List V) (Q : VK) (p : Addr × Obj) (c : Value) (d : Option Addr), L2H.RoomH k A → L2H.PinOk outer H s p → Zc c d p.2 → (∃ vs, p.2.data = .fields vs) →
    Env0 P w K mg base A outer s H → BindsTo s fd args (ps.zip us) → Vals vs us → sp p.1 c d vs H Q XE0 → codeAny (model P w) A (.call (.ref f) args) (CR CX0 outer P w H s Q XE0) s
section
variable {P : Program} {w : World} {K : PySem.W.Frag} {mg : Str → Option Value} {base : Heap}
theorem fn_ofE {k : Nat} {f : Addr} {name qual : Str} {params : Arguments} {body : List Stmt} {scope : Scope} {dvs : List V} {kws : List (Str × V)} {fd : FuncData} {N ps : List Str} {sp : SpE}
    (F : FunD K name qual params body scope dvs kws f fd) (S : FnScope N ps scope) (len : ∀ a c d vs H Q E, sp a c d vs H Q E → vs.length = ps.length)
    (hbody : ∀ (cdv : Value) (A : Around) (outer : List Env) (s : Shared) (H : Hp) (vs : List V) (Q : VK) (p : Addr × Obj) (c : Value) (d : Option Addr), L2H.RoomH k (A.deeper (envOfC qual scope s.heap.objs.size f cdv)) → Zc c d p.2 → (∃ vs, p.2.data = .fields vs) → sp p.1 c d vs H Q XE0 →
      ∃ t, PSs (L2H.cxH CX0 P w K mg base N qual scope f cdv A outer s H XE0 p) body t ∧ t { nx := fun _ H' => Q .non H', rt := Q } (L2.start N vs) H) : FnE P w K mg base (k + 1) f fd ps sp := by
  obtain ⟨oc, od, dV, kV, doc, pm, an, cdv, ct, osl, rfl, lk, hcd, _, _⟩ := F.ex
  refine ⟨len, fun A outer s H args us vs Q p c d hr hpin hz hf e0 hb r hsp => ?_⟩
  have hl := len _ _ _ _ _ _ _ hsp
  have KX : K.In s.heap := e0.mod.kin.keeps fun b o e => (e0.bs b o e).1
  have lim : s.heap.NoLimit := e0.mod.nolimit.keeps fun b o e => (e0.bs b o e).1
  refine codeAny_call_function hr.depth (KX _ _ lk) rfl S.co S.gen rfl (PySem.W.codeRec_of KX hcd) (hb _ _ _ _ (wpAny_newFunctionEnv_cells S.kind (fun ⟨n, v⟩ hy => (S.par n (List.of_mem_zip hy).1).imp id fun q => ⟨q, PySem.W.cellsFrom_some _ _ _ (.inl q)⟩) fun env he s1 x => ?_))
  subst he
  refine ⟨lim.keeps x.toInCall.keep, codeAny_func ?_⟩
  obtain ⟨t, ht, hq⟩ := hbody cdv A outer s H vs Q p c d (hr.deeper _) hz hf hsp
  have I : Inv (L2H.cxH CX0 P w K mg base N qual scope f cdv A outer s H XE0 p) [] (L2.start N vs) H s1 := L2H.inv_startH S hpin e0 hl r x
  refine wpAny_mono (ht.run [] s1 (L2.start N vs) H _ I hq) (fun fl s' hs => ?_) fun e s' hs => hs
  have fin : ∀ {σ' : L2.St} {H' : Hp} {v : V} {u : Value}, Inv (L2H.cxH CX0 P w K mg base N qual scope f cdv A outer s H XE0 p) [] σ' H' s' → RelV v u → Q v H' → CE outer P w H s Q u s' :=
    fun {σ' H' v u} J rv q => ⟨v, H', J.os, J.bare, J.base, J.hok, rv, q⟩
  match fl, hs with
  | .ret u, hs => obtain ⟨v, σ', H', J, rv, q⟩ := hs; exact fin J rv q
  | .next, hs => obtain ⟨σ', H', J, q⟩ := hs; exact fin (v := V.non) (u := Value.none) J rfl q
  | .brk, hs => obtain ⟨_, _, _, q⟩ := hs; exact False.elim q
  | .cont, hs => obtain ⟨_, _, _, q⟩ := hs; exact False.elim q
end
section
variable {X : Cx} {k : Nat} {f a : Addr} {oe : Obj} {cls : Value} {d : Option Addr} {pn : List (Addr × Obj)} {fd : FuncData} {ps : List Str} {sp : SpE} {x : Str} {q pos : Pos} {e : Expr} {es : List Expr} {t : TA}
def tCallE (a : Addr) (cls : Value) (d : Option Addr) (sp : SpE) (t : TA) : TE := fun σ H Q => t σ H fun vs H1 => sp a cls d vs H1 Q XE0
/-- f(..) within the suite, f a def as FnE -/
theorem pe_callE (F : FnE X.prog X.w X.K X.mg X.base k f fd ps sp) (hr : L2H.RoomH k (X.suite a ((a, oe) :: pn)).A) (hz : Zc cls d oe) (hf : ∃ vs, oe.data = .fields vs) (hg : Gl X x) (hm : X.mg x = some (.ref f)) (hk : PySem.W.keepIn X.K (.ref f) = true) (hb : Binds X.K fd ps [])
    (ha : PA (X.suite a ((a, oe) :: pn)) (e :: es) t) (hdb : (x == ("__debug__" : Str)) = false := by decide) (he : starEach (e :: es) X.env = (false, eval e X.env) :: starEach es X.env := by rfl) (hpl : (backTo pos (starEach es X.env)).any (·.1) = false := by rfl) :
    PE (X.suite a ((a, oe) :: pn)) (.Call (.Name x q) (e :: es) [] pos) (tCallE a cls d sp t) := by
  refine ⟨fun pins s σ H Q I h => ?_⟩
  refine wpAny_Call_Name_kw (ld_glob I hg hm ?_ hdb)
  refine PySem.W.callWith_K (h₀ := X.base) I.ok.mod.kin hk (thn (ha.run pos pins s σ H _ I h) fun us s1 ⟨vs, H1, I1, r, hsp⟩ => ⟨I1.kIn, ?_⟩) he hpl
  have hl : us.length = ps.length := by rw [← r.length]; exact F.len _ _ _ _ _ _ _ hsp
  have b := hb s1 us I1.kIn (by rw [List.append_nil]; exact hl)
  rw [List.append_nil] at b
  have P1 := I1.pin (a, oe) (List.mem_append_left _ List.mem_cons_self)
  have hpin : L2H.PinOk (X.suite a ((a, oe) :: pn)).stack H1 s1 (a, oe) := ⟨P1.1, P1.2.1, fun hm => (List.mem_cons.mp (I1.stkSub a hm)).elim P1.2.2.1 P1.2.2.2.1, P1.2.2.2.2⟩
  refine wpAny_call (codeAny_mono (F.run (X.suite a ((a, oe) :: pn)).A (X.suite a ((a, oe) :: pn)).stack s1 H1 ⟨us, []⟩ us vs Q (a, oe) cls d hr hpin hz hf I1.env0 b r hsp) fun r s' hq => ?_)
  match r, hq with
  | .error e, hq => exact hq.elim
  | .ok (.ret u), hq => exact I1.after hq
  | .ok .next, hq => exact hq.elim
  | .ok .brk, hq => exact hq.elim
  | .ok .cont, hq => exact hq.elim

/-- isinstance of a pinned exception -/
def rIsP (K : PySem.W.Frag) (D a : Addr) (d : Option Addr) : List V → Hp → VK → Prop := fun xs H Q => ∃ (c : V) (cv : Value) (b : Bool), xs = [.ref a, c] ∧ (∀ u, RelV c u → u = cv) ∧ (∀ dd, d = some dd → ∃ fs, H dd = some (.xd fs)) ∧ PySem.W.kitOne K (.ref D) cv = some b ∧ Q (.bl b) H
structure ExcT (K : PySem.W.Frag) (D : Addr) : Prop where
  cl : (PySem.W.clsIn K D).isSome = true
  hg : PySem.W.findIn K (.ref D) "__getattribute__" = some (some (.builtin "BaseException.__getattribute__"))
  hk : PySem.W.findIn K (.ref D) "__getattr__" = some none
  hs : PySem.W.subIn K (.ref D) (.type "BaseException") = some true
  ha : PySem.W.findIn K (.ref D) "__class__" = some (some (.builtin "object.__class__"))
  hn : PySem.W.specialIn K (.builtin "object.__class__") "__get__" = some (some (.builtin "getset_descriptor.__get__"))
  ht : PySem.W.takesIn K (.builtin "object.__class__") = some true
  hm : PySem.W.mroIn K D (.type "object") = some true
theorem call_isP {X : Cx} {a D : Addr} {d : Option Addr} {oe : Obj} (C : ExcT X.K D) (hp : (a, oe) ∈ X.pn) (hz : Zc (.ref D) d oe) (hf : ∃ vs, oe.data = .fields vs) : CallR X (.builtin "isinstance") (rIsP X.K D a d) := by
  intro pins s σ H xs us Q I r h
  obtain ⟨c, cv, b, rfl, hcv, hd, e, q⟩ := h
  match r with
  | .cons rx (.cons rt .nil) =>
    cases rx
    obtain rfl := hcv _ rt
    obtain ⟨hget, _⟩ := I.pin (a, oe) (List.mem_append.mpr (.inl hp))
    obtain ⟨vs, hv⟩ := hf
    obtain ⟨oc, odt, oda, osl⟩ := oe
    obtain ⟨h1, h2⟩ := hz
    dsimp only at h1 h2 hv
    subst h1 h2 hv
    have fin : ∀ tk, EP X pins σ Q (.bool b) { s with toks := tk } := fun tk => ⟨.bl b, H, I.kept (t' := tk) fun _ _ z => z, rfl, q⟩
    cases odt with
    | none => exact PySem.W.kia_one (PySem.W.kitx_exc C.cl C.hg C.hk C.hs C.ha C.hn C.ht C.hm) I.kIn (show PySem.W.InstAt s.heap a _ D none from ⟨hget, rfl, rfl, trivial⟩) e (fun z => nomatch z) fin
    | some dd =>
      obtain ⟨fs, hdd⟩ := hd dd rfl
      have hx : ObjOk X.prog X.w H s.heap dd (.xd fs) := I.hok dd _ hdd
      obtain ⟨mA, ⟨od, es, ep, ho, _⟩, _⟩ := hx
      exact PySem.W.kia_one (PySem.W.kitx_exc C.cl C.hg C.hk C.hs C.ha C.hn C.ht C.hm) I.kIn (show PySem.W.InstAt s.heap a _ D (some od) from ⟨hget, rfl, rfl, ho⟩) e (fun z => nomatch z) fin
end
end MC
set_option maxHeartbeats 4000000
/-! MB3: operators and built-ins over instances of an own class -/
namespace MC
open PySem PySem.Spec PyProof.Rows L2

/-- what an own special method of the class at C is: its def at f -/
structure Spec (K : PySem.W.Frag) (C : Addr) (m : Str) (f : Addr) : Prop where
  at_ : PySem.W.findIn K (.ref C) m = some (some (.ref f))
  fn : PySem.W.isFn K (.ref f) = true

section
variable {X : Cx} {k : Nat} {C f : Addr} {fd : FuncData} {ps : List Str} {sp : Sp} {E : XK} {A' : Around}
/-- a def is run by a built-in of the running body -/
theorem run_at {pins : List (Addr × Obj)} {σ : L2.St} {H : Hp} {s : Shared} {Q : VK} {us : List Value} {vs : List V} (F : FnOk X.prog X.w X.K X.mg X.base (L2.CX X.prog X.w) k f fd ps sp) (hr : Room k A') (hfr : A'.frames = X.A.frames) (hb : Binds X.K fd ps [])
    (hx : PassesAt (L2.CX X.prog X.w) X σ E) (I : Inv X pins σ H s) (r : Vals vs us) (h : sp vs H Q E) : wpAny (model X.prog X.w) A' (call (.ref f) us) (EP X pins σ Q) X.xe s := by
  have hl : us.length = ps.length := by rw [← r.length]; exact F.len _ _ _ _ h
  have b := hb s us I.kIn (by rw [List.append_nil]; exact hl)
  rw [List.append_nil] at b
  have e := I.env0
  refine wpAny_call (codeAny_mono (F.run A' X.stack s H ⟨us, []⟩ us vs Q E hr ⟨by rw [hfr]; exact e.frames, e.mod, e.bs, e.bsz, e.funs, e.frf, e.hok, e.bare⟩ b r h) fun r s' hq => ?_)
  match r, hq with
  | .error e, hq => exact hx pins H s e s' I hq
  | .ok (.ret u), hq => exact I.after hq
  | .ok .next, hq => exact hq.elim
  | .ok .brk, hq => exact hq.elim
  | .ok .cont, hq => exact hq.elim
theorem pass_none {σ : L2.St} : PassesAt (L2.CX X.prog X.w) X σ XE0 := fun _ _ _ _ _ _ h => by
  obtain ⟨_, _, _, _, _, _, _, _, _, _, _, _, z⟩ := h
  exact z.elim
/-- .. one that raises nothing, wherever it stands -/
theorem run_at0 {pins : List (Addr × Obj)} {σ : L2.St} {H : Hp} {s : Shared} {Q : VK} {us : List Value} {vs : List V} {EE : Value → Shared → Prop} (F : FnOk X.prog X.w X.K X.mg X.base (L2.CX X.prog X.w) k f fd ps sp) (hr : Room k A') (hfr : A'.frames = X.A.frames) (hb : Binds X.K fd ps [])
    (I : Inv X pins σ H s) (r : Vals vs us) (h : sp vs H Q XE0) : wpAny (model X.prog X.w) A' (call (.ref f) us) (EP X pins σ Q) EE s := by
  have hl : us.length = ps.length := by rw [← r.length]; exact F.len _ _ _ _ h
  have b := hb s us I.kIn (by rw [List.append_nil]; exact hl)
  rw [List.append_nil] at b
  have e := I.env0
  refine wpAny_call (codeAny_mono (F.run A' X.stack s H ⟨us, []⟩ us vs Q XE0 hr ⟨by rw [hfr]; exact e.frames, e.mod, e.bs, e.bsz, e.funs, e.frf, e.hok, e.bare⟩ b r h) fun r s' hq => ?_)
  match r, hq with
  | .error e, hq =>
    obtain ⟨_, _, _, _, _, _, _, _, _, _, _, _, z⟩ := hq
    exact z.elim
  | .ok (.ret u), hq => exact I.after hq
  | .ok .next, hq => exact hq.elim
  | .ok .brk, hq => exact hq.elim
  | .ok .cont, hq => exact hq.elim
/-- an instance, for the library's rules -/
theorem inst_of {pins : List (Addr × Obj)} {σ : L2.St} {H : Hp} {s : Shared} {a dx : Addr} {fs : List (Str × V)} (I : Inv X pins σ H s) (e : H a = some (.ins C dx fs)) : ∃ od, PySem.W.InstAt s.heap a (PySem.W.instObj C dx) C (some od) := by
  obtain ⟨mA, J, _⟩ := ins_get I.hok e
  obtain ⟨od, J, _⟩ := J.look
  exact ⟨od, J⟩

/-! ### len(o), str(o) -/
def rLenO (C : Addr) (sp : Sp) : List V → Hp → VK → Prop := fun xs H Q => ∃ a dx fs, xs = [.ref a] ∧ H a = some (.ins C dx fs) ∧ sp [.ref a] H (fun v H' => ∃ n : Int, v = .int n ∧ (0 ≤ n ∧ n < 2 ^ 63) ∧ Q (.int n) H') XE0
theorem call_lenO (F : FnOk X.prog X.w X.K X.mg X.base (L2.CX X.prog X.w) k f fd ps sp) (hb : Binds X.K fd ps []) (S : Spec X.K C "__len__" f) (hr : Room (k + 1) X.A) : CallR X (.builtin "len") (rLenO C sp) := by
  intro pins s σ H xs us Q I rv h
  obtain ⟨a, dx, fs, rfl, ha, h⟩ := h
  obtain ⟨u, rfl, ru⟩ := rv.one
  cases ru
  obtain ⟨od, J⟩ := inst_of I ha
  obtain ⟨m, hF⟩ := I.fr
  refine PySem.W.len_K hF I.ok.mod.kin J S.at_ S.fn (thn (run_at (vs := [.ref a]) F hr.in1 rfl hb pass_none I (.cons rfl .nil) h) fun v s' ⟨x, H', I', rx, n, ex, hn, q⟩ => ?_)
  subst ex
  obtain ⟨t, rfl⟩ := rx
  exact ⟨hn, .int n, H', I'.tok _, ⟨_, rfl⟩, q⟩
def rStrO (C : Addr) (sp : Sp) : List V → Hp → VK → Prop := fun xs H Q => ∃ a dx fs, xs = [.ref a] ∧ H a = some (.ins C dx fs) ∧ sp [.ref a] H (fun v H' => ∃ z : Str, v = .str z ∧ Q (.str z) H') XE0
theorem call_strO (F : FnOk X.prog X.w X.K X.mg X.base (L2.CX X.prog X.w) k f fd ps sp) (hb : Binds X.K fd ps []) (S : Spec X.K C "__str__" f) (hr : Room (k + 2) X.A) : CallR X (.type "str") (rStrO C sp) := by
  intro pins s σ H xs us Q I rv h
  obtain ⟨a, dx, fs, rfl, ha, h⟩ := h
  obtain ⟨u, rfl, ru⟩ := rv.one
  cases ru
  obtain ⟨od, J⟩ := inst_of I ha
  refine PySem.W.kso_call hr.in1.in1.units0 I.kIn J S.at_ S.fn (thn (run_at (vs := [.ref a]) F hr.in1.in1 rfl hb pass_none I (.cons rfl .nil) h) fun v s' ⟨x, H', I', rx, z, ex, q⟩ => ?_)
  subst ex
  obtain ⟨t, rfl⟩ := rx
  exact ⟨.str z, H', I', ⟨_, rfl⟩, q⟩

/-! ### p in o -/
def rInO (C : Addr) (sp : Sp) : R2 := fun x y H Q => ∃ a dx fs, y = .ref a ∧ H a = some (.ins C dx fs) ∧ sp [.ref a, x] H (fun v H' => ∃ b : Bool, v = .bl b ∧ Q (.bl b) H') XE0
theorem op_inO (F : FnOk X.prog X.w X.K X.mg X.base (L2.CX X.prog X.w) k f fd ps sp) (hb : Binds X.K fd ps []) (S : Spec X.K C "__contains__" f) (hr : Room k X.A) : OpR X (compareOp .In) (rInO C sp) := by
  intro pins s σ H x y v u Q I rx ry h
  obtain ⟨a, dx, fs, rfl, ha, h⟩ := h
  cases ry
  obtain ⟨od, J⟩ := inst_of I ha
  obtain ⟨m, hF⟩ := I.fr
  refine PySem.W.in_K hF I.ok.mod.kin J S.at_ S.fn (thn (run_at (vs := [.ref a, x]) F hr rfl hb pass_none I (.cons rfl (.cons rx .nil)) h) fun v s' ⟨x, H', I', rx, b, ex, q⟩ => ?_)
  subst ex
  cases rx
  exact wpAny_truthy_bool ⟨.bl b, H', I', rfl, q⟩

/-! ### o == x, x anything -/
def rEqO (K : PySem.W.Frag) (C : Addr) (sp : Sp) : R2 := fun x y H Q => ∃ a dx fs tb, x = .ref a ∧ H a = some (.ins C dx fs) ∧ TyOf K H y tb ∧ PySem.W.notFirst K C tb = true ∧ sp [.ref a, y] H (fun v H' => ∃ b : Bool, v = .bl b ∧ Q (.bl b) H') XE0
theorem looks_ty {pins : List (Addr × Obj)} {σ : L2.St} {H : Hp} {s : Shared} {y : V} {v tb : Value} {M : Model} (I : Inv X pins σ H s) (ry : RelV y v) (t : TyOf X.K H y tb) : PySem.W.Looks M s.heap (typeOf v) tb := by
  cases t with
  | non => cases (show v = Value.none from ry); exact .of_pure rfl
  | bl b => cases (show v = Value.bool b from ry); exact .of_pure rfl
  | int i => obtain ⟨t, rfl⟩ := (show ∃ t, v = Value.int i t from ry); exact .of_pure rfl
  | str z => obtain ⟨t, rfl⟩ := (show ∃ t, v = Value.str z t from ry); exact .of_pure rfl
  | flt b => obtain ⟨t, rfl⟩ := (show ∃ t, v = Value.float b t from ry); exact .of_pure rfl
  | @lst a xs ea =>
    cases (show v = Value.ref a from ry)
    obtain ⟨_, _, n, _, h1⟩ := (show ObjOk X.prog X.w H s.heap a (.lst xs) from I.hok a _ ea)
    exact fun A Q E s k q => wpAny_typeOf_ref (k _ _ h1) q
  | @frz a ob xs ea =>
    cases (show v = Value.ref a from ry)
    obtain ⟨_, _, _, n, _, h1⟩ := (show ObjOk X.prog X.w H s.heap a (.frz ob (.lst xs)) from I.hok a _ ea)
    exact fun A Q E s k q => wpAny_typeOf_ref (k _ _ h1) q
  | @tup a xs ea =>
    cases (show v = Value.ref a from ry)
    obtain ⟨_, _, _, o, h1, h2, _⟩ := (show ObjOk X.prog X.w H s.heap a (.tup xs) from I.hok a _ ea)
    exact fun A Q E s k q => wpAny_typeOf_ref (k _ _ h1) (by rw [h2]; exact q)
  | @dK a kvs ea =>
    cases (show v = Value.ref a from ry)
    obtain ⟨_, _, vs, _, o, es, ep, h1, h2, _⟩ := (show ObjOk X.prog X.w H s.heap a (.dK kvs) from I.hok a _ ea)
    exact fun A Q E s k q => wpAny_typeOf_ref (k _ _ h1) (by rw [h2.1]; exact q)
  | @dT a kvs ea =>
    cases (show v = Value.ref a from ry)
    obtain ⟨_, _, xs, _, o, es, ep, h1, h2, _⟩ := (show ObjOk X.prog X.w H s.heap a (.dT kvs) from I.hok a _ ea)
    exact fun A Q E s k q => wpAny_typeOf_ref (k _ _ h1) (by rw [h2.1]; exact q)
  | @ins a C dx fs ea cl ha hn htk hm =>
    cases (show v = Value.ref a from ry)
    obtain ⟨od, J⟩ := inst_of I ea
    exact J.type
theorem op_eqO (F : FnOk X.prog X.w X.K X.mg X.base (L2.CX X.prog X.w) k f fd ps sp) (hb : Binds X.K fd ps []) (S : Spec X.K C "__eq__" f) (hr : Room k X.A) : OpR X (compareOp .Eq) (rEqO X.K C sp) := by
  intro pins s σ H x y v u Q I rx ry h
  obtain ⟨a, dx, fs, tb, rfl, ha, ht, hn, h⟩ := h
  cases rx
  obtain ⟨od, J⟩ := inst_of I ha
  obtain ⟨m, hF⟩ := I.fr
  show wpAny (model X.prog X.w) X.A (richCompare .Eq (.ref a) u) (EP X pins σ Q) X.xe s
  refine PySem.W.cmp_K (op := .Eq) hr.units0 hF I.ok.mod.kin J (looks_ty I ry ht) hn S.at_ S.fn (thn (run_at (vs := [.ref a, y]) F hr rfl hb pass_none I (.cons rfl (.cons ry .nil)) h) fun v s' ⟨x, H', I', rx, b, ex, q⟩ => ?_)
  subst ex
  cases rx
  exact ⟨.bl b, H', I', rfl, q⟩

/-! ### what may raise: o[i], o + p, o >> n (a wish of the slots) -/
abbrev R2S := L2.St → R2
def OpRS (X : Cx) (f : Value → Value → Sem Value) (r : R2S) : Prop :=
  ∀ (pins : List (Addr × Obj)) (s : Shared) (σ : L2.St) (H : Hp) (x y : V) (v u : Value) (Q : VK), Inv X pins σ H s → RelV x v → RelV y u → r σ x y H Q → wpAny (model X.prog X.w) X.A (f v u) (EP X pins σ Q) X.xe s
def tOpS (r : R2S) (ta tb : TE) : TE := fun σ H Q => ta σ H fun x H1 => tb σ H1 fun y H2 => r σ x y H2 Q
section
variable {a b : Expr} {ta tb : TE} {pos : Pos} {W : WX}
theorem pe_opS {op : Operator} {r : R2S} (ho : OpRS X (binaryOp op) r) (ha : PE X a ta) (hb : PE X b tb) : PE X (.BinOp a op b pos) (tOpS r ta tb) := by
  refine ⟨fun pins s σ H Q I h => ?_⟩
  exact wpAny_BinOp (binT ha hb I h fun v u s2 x y H2 I2 rx ry q => ho pins s2 σ H2 x y v u Q I2 rx ry q)
/-- both of the class -/
def rBinO (C : Addr) (sp : Sp) (W : WX) : R2S := fun σ x y H Q => ∃ a b dx dy fs gs, x = .ref a ∧ y = .ref b ∧ H a = some (.ins C dx fs) ∧ H b = some (.ins C dy gs) ∧ sp [.ref a, .ref b] H (fun v H' => v ≠ .non ∧ Q v H') (WE W σ)
theorem op_binO {op : Operator} (F : FnOk X.prog X.w X.K X.mg X.base (L2.CX X.prog X.w) k f fd ps sp) (hb : Binds X.K fd ps []) (S : Spec X.K C (PySem.dunder op.info.2) f) (hc : PySem.W.selfFirst X.K C = true) (hr : Room k X.A) (tk : Takes X W) : OpRS X (binaryOp op) (rBinO C sp W) := by
  intro pins s σ H x y v u Q I rx ry h
  obtain ⟨a, b, dx, dy, fs, gs, rfl, rfl, ha, hb', h⟩ := h
  cases rx
  cases ry
  obtain ⟨od, J⟩ := inst_of I ha
  obtain ⟨od', J'⟩ := inst_of I hb'
  obtain ⟨m, hF⟩ := I.fr
  refine PySem.W.binop_K hF I.ok.mod.kin J J'.type hc S.at_ S.fn (thn (run_at (vs := [.ref a, .ref b]) F hr rfl hb (passAt tk σ) I (.cons rfl (.cons rfl .nil)) h) fun v s' ⟨x, H', I', rx, hx, q⟩ => ?_)
  have fin : EP X pins σ Q v s' := ⟨x, H', I', rx, q⟩
  cases v <;> first | exact fin | skip
  cases x <;> first | (obtain ⟨t, e⟩ := rx; cases e) | cases rx
/-- the right one an int -/
def rBinI (C : Addr) (sp : Sp) (W : WX) : R2S := fun σ x y H Q => ∃ a i dx fs, x = .ref a ∧ y = .int i ∧ H a = some (.ins C dx fs) ∧ sp [.ref a, .int i] H Q (WE W σ)
structure BinI (K : PySem.W.Frag) (C : Addr) (op : Operator) : Prop where
  self : PySem.W.selfFirst K C = true
  rev : ∃ rc, PySem.W.findIn K (.ref C) (dunderR op.info.2) = some rc ∧ (rc = none ∨ ∃ g : Addr, rc = some (.ref g))
  fo : ∃ fo, PySem.W.findIn K (.type "int") (PySem.dunder op.info.2) = some fo
  ro : ∃ ro, PySem.W.findIn K (.type "int") (dunderR op.info.2) = some ro
  sub : PySem.W.subIn K (.type "int") (.ref C) = some false
theorem op_binI {op : Operator} (F : FnOk X.prog X.w X.K X.mg X.base (L2.CX X.prog X.w) k f fd ps sp) (hb : Binds X.K fd ps []) (S : Spec X.K C (PySem.dunder op.info.2) f) (hc : BinI X.K C op) (hr : Room k X.A) (tk : Takes X W) : OpRS X (binaryOp op) (rBinI C sp W) := by
  intro pins s σ H x y v u Q I rx ry h
  obtain ⟨a, i, dx, fs, rfl, rfl, ha, h⟩ := h
  cases rx
  obtain ⟨t, rfl⟩ := ry
  obtain ⟨od, J⟩ := inst_of I ha
  obtain ⟨m, hF⟩ := I.fr
  obtain ⟨rc, h1, h2⟩ := hc.rev
  obtain ⟨fo, h3⟩ := hc.fo
  obtain ⟨ro, h4⟩ := hc.ro
  refine PySem.W.ksp_binT hF I.ok.mod.kin J (T := "int") rfl hc.self S.at_ S.fn h1 h2 h3 h4 hc.sub (thn (run_at (vs := [.ref a, .int i]) F hr rfl hb (passAt tk σ) I (.cons rfl (.cons ⟨_, rfl⟩ .nil)) h) fun v s' ⟨x, H', I', rx, q⟩ => ?_)
  have fin : EP X pins σ Q v s' := ⟨x, H', I', rx, q⟩
  cases v <;> first | exact fin | skip
  cases x <;> first | (obtain ⟨t, e⟩ := rx; cases e) | cases rx
/-- o[i] -/
def rSubO (C : Addr) (sp : Sp) (W : WX) : R2S := fun σ x y H Q => ∃ a dx fs, x = .ref a ∧ H a = some (.ins C dx fs) ∧ sp [.ref a, y] H Q (WE W σ)
theorem pe_subO (F : FnOk X.prog X.w X.K X.mg X.base (L2.CX X.prog X.w) k f fd ps sp) (hb : Binds X.K fd ps []) (S : Spec X.K C "__getitem__" f) (hf : PySem.W.fnIn X.K f = true) (hr : Room (k + 1) X.A) (tk : Takes X W) (ha : PE X a ta) (hi : PE X b tb)
    (hsl : ∀ x i, subscripted b true x i = runValue (.builtin "lifetime.subscript" ⟨[x, i], []⟩) := by intro _ _; with_unfolding_all rfl) : PE X (.Subscript a b pos) (tOpS (rSubO C sp W) ta tb) := by
  refine ⟨fun pins s σ H Q I h => ?_⟩
  refine Subscript_ (binT ha hi I h fun v u s2 x y H2 I2 rx ry q => ?_)
  obtain ⟨p, dx, fs, rfl, hp, h⟩ := q
  cases rx
  obtain ⟨od, J⟩ := inst_of I2 hp
  obtain ⟨m, hF⟩ := I2.fr
  exact PySem.W.sub_K hF I2.ok.mod.kin J S.at_ hf S.fn (run_at (vs := [.ref p, y]) F hr.in1 rfl hb (passAt tk σ) I2 (.cons rfl (.cons ry .nil)) h) (hsl _ _)
end
end
end MC
set_option maxHeartbeats 4000000
/-! MB4: enumerate(text) in a for; iter(text); list(text), list(o) of an own __iter__ that hands back iter(text) -/
namespace MC
open PySem PySem.Spec PyProof.Rows L2

/-! ### a for over new tuples -/
/-- n turns; the i-th gives a new tuple of Y i -/
def ItT (n : Nat) (Y : Nat → List V) : It := ⟨fun i _ => i < n, fun i H v H' => ∃ T, v = .ref T ∧ H T = none ∧ H' = upd H T (.tup (Y i)), fun i _ => i = n⟩
theorem turn_T {P : Program} {w : World} {K : PySem.W.Frag} {elts : List Expr} {kk : Nat} {tpos : Pos} {it : Addr} {fp wr : List Addr} {n : Nat} {Pt : Nat → Array Value → Prop} {St : Nat → Heap → Prop} {Mid : Nat → Addr → Heap → Prop} {Y : Nat → List V}
    (W : ∀ A : Around, A.handled = none → WalksT P w A it fp wr n Pt St Mid) (hI : it ∈ fp) (hself : ∀ (A : Around) (i : Nat) (s : Shared) (Q : Value → Shared → Prop) (E : Value → Shared → Prop), St i s.heap → Q (.ref it) s → wpAny (model P w) A (pyIter (.ref it)) Q E s)
    (hsub : ∀ b ∈ wr, b ∈ fp) (hfr : ∀ i h h', St i h → (∀ b ∈ fp, ∀ o, h.get? b = some o → h'.get? b = some o) → St i h')
    (hobj : ∀ i h, St i h → ∀ b ∈ fp, ∃ o, h.get? b = some o ∧ ∀ v, o.data ≠ .cell v) (hY : ∀ i vals, i < n → Pt i vals → Vals (Y i) vals.toList) (hz : ∀ i, (Y i).length ≤ 100) :
    Turn P w K (.Tuple elts kk tpos) (ItT n Y) fp it St where
  mem := hI
  obj := hobj
  keep := hfr
  item := by
    intro X hP hw hK hc i pins s σ H E I hf st hg
    subst hP hw
    have WW := W X.A (I.ok.hd hc)
    have hlt : ∀ b ∈ fp, b < s.heap.objs.size := fun b hb => by
      obtain ⟨o, ho, _⟩ := hobj i _ st b hb
      exact Heap.lt_size ho
    refine WW.item i s _ _ hg st fun T vals h' tk hPt hT htup hmid hk => ⟨_, rfl, WW.go elts kk tpos i T _ _ _ hmid fun h'' st' hk' => ?_⟩
    have hTw : T ∉ wr := WW.apart i T h' hmid
    have ho2 : h''.IsTuple T vals := by
      obtain ⟨o, ho, r⟩ := htup
      exact ⟨o, hk' T o hTw ho, r⟩
    have new : ObjOk X.prog X.w (upd H T (.tup (Y i))) h'' T (.tup (Y i)) := by
      obtain ⟨o, ho, hc, m, hd⟩ := ho2
      exact ⟨by have := hz i; rw [sizeLine_eq]; omega, vals.toList, hY i vals hg hPt, ⟨o, ho, hc, m, by simpa using hd⟩⟩
    have I1 : Inv X pins σ (upd H T (.tup (Y i))) { s with heap := h'', toks := tk } :=
      I.turnedNew (ch := wr) (fun b ob hb q => hk' b ob hb (hk b ob hb q)) (fun b hb => hf b (hsub b hb)) hT new
    refine ⟨.ref T, _, I1, rfl, ⟨T, rfl, I.hok.fresh hT, rfl⟩, st', fun b hb => ?_⟩
    rw [upd_ne (Nat.ne_of_lt (Nat.lt_of_lt_of_le (hlt b hb) hT))]
    exact (hf b hb).1
  done := by
    intro X hP hw hK hc i pins s σ H E I hf st hg
    subst hP hw
    have e : i = n := hg
    subst e
    exact (W X.A (I.ok.hd hc)).done s _ _ st fun h' tk hk => ⟨rfl, I.turnedL (ch := wr) hk fun b hb => hf b (hsub b hb)⟩
  self := hself
theorem walk_T {n : Nat} {Y : Nat → List V} : Walk (ItT n Y) n (fun _ => True) (fun i H v H' => ∃ T, v = .ref T ∧ H T = none ∧ H' = upd H T (.tup (Y i))) :=
  ⟨fun _ _ hi _ => hi, fun _ _ => rfl, fun _ _ _ _ _ _ y => y⟩
/-- the i-th sign of a text, as a text -/
def sgn (z : Str) (i : Nat) : V := .str ⟨#[z.cps.getD i 0]⟩
/-- enumerate(text) -/
def iEnumS (ta : TA) : TI := fun σ H R => ta σ H fun vs H1 => ∃ z : Str, vs = [.str z] ∧ R (ItT z.cps.size fun i => [.int (i : Nat), sgn z i]) H1
theorem pi_enumS {X : Cx} {e : Expr} {ta : TA} {p pos tpos : Pos} {elts : List Expr} {kk : Nat} (hg : Gl X "enumerate") (hm : X.mg "enumerate" = none) (ha : PA X [e] ta) (hs : starEach [e] X.env = [(false, eval e X.env)] := by rfl) :
    PI X (.Tuple elts kk tpos) (.Call (.Name "enumerate" p) [e] [] pos) (iEnumS ta) := by
  refine ⟨fun pins s σ H R I h => ?_⟩
  refine Call_ (ld_blt I hg hm boot_enumerate (PyProof.Rows.callWith_type1 (thn (ha.run pos pins s σ H _ I h) fun us s1 ⟨vs, H1, I1, r1, z, ex, q⟩ => ?_) hs rfl))
  subst ex
  obtain ⟨u, rfl, ru⟩ := r1.one
  obtain ⟨t, rfl⟩ := ru
  refine call_enumerate_str fun h' he hit hsz hk => wpAny_pyIter_enum he ?_
  have I2 : Inv X pins σ H1 { s1 with heap := h' } := I1.kept (t' := s1.toks) hk
  have hfp : ∀ b ∈ [s1.heap.objs.size + 1, s1.heap.objs.size], FpOk X pins H1 b := fun b hb => by
    have hle : s1.heap.objs.size ≤ b := by
      rcases List.mem_cons.mp hb with z | hb
      · rw [z]; exact Nat.le_add_right _ _
      · rw [List.mem_singleton.mp hb]; exact Nat.le_refl _
    exact I1.fpOk hle (I1.hok.fresh hle)
  have hob : ∀ (ty : String) i h, (∃ old, IsEnum h (s1.heap.objs.size + 1) s1.heap.objs.size (i : Nat) old) ∧ h.IsStrIter s1.heap.objs.size ty z t i → ∀ b ∈ [s1.heap.objs.size + 1, s1.heap.objs.size], ∃ o, h.get? b = some o ∧ ∀ v, o.data ≠ .cell v := by
    rintro ty i h ⟨⟨old, h1⟩, ⟨o, h2, _, h3⟩⟩ b hb
    rcases List.mem_cons.mp hb with z | hb
    · rw [z]; exact ⟨_, h1, fun v q => nomatch q⟩
    · rw [List.mem_singleton.mp hb]; exact ⟨o, h2, fun v q => by rw [h3] at q; cases q⟩
  have hY : ∀ i (vals : Array Value), i < z.cps.size → (∃ t x, SignAt z i x ∧ vals = #[.int i t, x]) → Vals [.int (i : Nat), sgn z i] vals.toList := by
    rintro i vals hi ⟨t', x, ⟨c, u, h1, h2⟩, rfl⟩
    refine .cons ⟨_, rfl⟩ (.cons ⟨u, ?_⟩ .nil)
    rw [h2]
    have : z.cps.getD i 0 = c := by
      rw [Array.getD_eq_getD_getElem?, h1]; rfl
    rw [this]
  cases ha : z.cps.all (· < 128) with
  | true =>
    have ht : strIterType z = "str_ascii_iterator" := by unfold strIterType; rw [ha]; rfl
    rw [ht] at hit
    exact ⟨_, _, _, _, H1, rfl, I2, turn_T (fun A hA => WalksT.enumerateD (Draws.strAscii (A := A.in1) hA s1.heap.objs.size z t) (s1.heap.objs.size + 1) (Nat.succ_ne_self _) (by simp) (by simp)) (by simp)
      (fun A i s Q E st h => by obtain ⟨⟨_, he⟩, _⟩ := st; exact wpAny_pyIter_enum he h) (fun b hb => hb) (fun i h h' st k => by
        obtain ⟨⟨old, h1⟩, ⟨o, h2, r⟩⟩ := st
        exact ⟨⟨old, k _ (by simp) _ h1⟩, ⟨o, k _ (by simp) _ h2, r⟩⟩) (hob _) hY (fun i => by simp), ⟨⟨.none, he⟩, hit⟩, hfp, q⟩
  | false =>
    have ht : strIterType z = "str_iterator" := by unfold strIterType; rw [ha]; rfl
    rw [ht] at hit
    exact ⟨_, _, _, _, H1, rfl, I2, turn_T (fun A hA => WalksT.enumerateD (Draws.strWide (A := A.in1) hA s1.heap.objs.size z t) (s1.heap.objs.size + 1) (Nat.succ_ne_self _) (by simp) (by simp)) (by simp)
      (fun A i s Q E st h => by obtain ⟨⟨_, he⟩, _⟩ := st; exact wpAny_pyIter_enum he h) (fun b hb => hb) (fun i h h' st k => by
        obtain ⟨⟨old, h1⟩, ⟨o, h2, r⟩⟩ := st
        exact ⟨⟨old, k _ (by simp) _ h1⟩, ⟨o, k _ (by simp) _ h2, r⟩⟩) (hob _) hY (fun i => by simp), ⟨⟨.none, he⟩, hit⟩, hfp, q⟩

/-! ### list(text) -/
/-- the signs of a text, each a text -/
def sgns (z : Str) : List V := z.cps.toList.map fun c => V.str ⟨#[c]⟩
theorem sgns_len (z : Str) : (sgns z).length = z.cps.size := by simp [sgns]
theorem vals_of : ∀ {xs : List V} {us : List Value}, xs.length = us.length → (∀ (i : Nat) x u, xs[i]? = some x → us[i]? = some u → RelV x u) → Vals xs us
  | [], [], _, _ => .nil
  | x :: xs, u :: us, hl, h => .cons (h 0 x u rfl rfl) (vals_of (by simpa using hl) fun i y v h1 h2 => h (i + 1) y v (by simpa using h1) (by simpa using h2))
  | [], _ :: _, hl, _ => by simp at hl
  | _ :: _, [], hl, _ => by simp at hl
theorem vals_items {z : Str} {acc : Array Value} (h : ItemsOf (SignAt z) acc z.cps.size) : Vals (sgns z) acc.toList := by
  refine vals_of (by rw [sgns_len, Array.length_toList, h.1]) fun i x u h1 h2 => ?_
  obtain ⟨c, t, h3, h4⟩ := h.2 i u (by simpa using h2)
  have h5 : (sgns z)[i]? = some (V.str ⟨#[c]⟩) := by
    unfold sgns
    rw [List.getElem?_map, Array.getElem?_toList, h3]; rfl
  rw [h5] at h1
  cases h1
  exact ⟨t, h4⟩
def rListS0 : List V → Hp → VK → Prop := fun xs H Q => ∃ z : Str, xs = [.str z] ∧ z.cps.size ≤ sizeLine ∧ ∀ q, H q = none → Q (.ref q) (upd H q (.lst (sgns z)))
theorem call_listS {X : Cx} (hc : X.calm = true) : CallR X (.type "list") rListS0 := by
  intro pins s σ H xs us Q I rv h
  obtain ⟨z, rfl, hz, q⟩ := h
  obtain ⟨u, rfl, ru⟩ := rv.one
  obtain ⟨t, rfl⟩ := ru
  refine call_list_str (I.ok.hd hc) z t (fun h' tk acc' c' k e it => ?_) hz
  have hv := vals_items it
  exact ⟨.ref _, _, I.laid (t' := tk) (a := s.heap.objs.size) (o := .lst (sgns z)) k (Nat.le_refl _) ⟨by rw [sgns_len]; exact hz, acc'.toList, c', hv, e⟩, rfl, q _ (I.hok.fresh (Nat.le_refl _))⟩

/-! ### iter(text); an iterator over a text that a def hands back -/
/-- an iterator over the text z, i signs taken (z of ASCII signs) -/
def strIt (it : Addr) (z : Str) (i : Nat) : HO := .ext fun h => ∃ t, h.IsStrIter it "str_ascii_iterator" z t i
theorem strIt_ok {P : Program} {w : World} {H : Hp} {h : Heap} {it : Addr} {z : Str} {t : Tok} {i : Nat} (hit : h.IsStrIter it "str_ascii_iterator" z t i) : ObjOk P w H h it (strIt it z i) := by
  obtain ⟨o, ho, r⟩ := hit
  exact ⟨⟨t, o, ho, r⟩, ⟨o, ho⟩, fun h1 h2 x k => by
    obtain ⟨t2, o2, e2, r2⟩ := x
    exact ⟨t2, o2, k _ e2, r2⟩⟩
theorem strIt_at {P : Program} {w : World} {H : Hp} {h : Heap} {it : Addr} {z : Str} {i : Nat} (hok : HOk P w H h) (e : H it = some (strIt it z i)) : ∃ t, h.IsStrIter it "str_ascii_iterator" z t i := by
  have x : ObjOk P w H h it (.ext fun h => ∃ t, h.IsStrIter it "str_ascii_iterator" z t i) := hok it _ e
  exact x.1
def rIterS : List V → Hp → VK → Prop := fun xs H Q => ∃ z : Str, xs = [.str z] ∧ z.cps.all (· < 128) = true ∧ ∀ it, H it = none → Q (.ref it) (upd H it (strIt it z 0))
theorem call_iterS {X : Cx} : CallR X (.builtin "iter") rIterS := by
  intro pins s σ H xs us Q I rv h
  obtain ⟨z, rfl, ha, q⟩ := h
  obtain ⟨u, rfl, ru⟩ := rv.one
  obtain ⟨t, rfl⟩ := ru
  refine Calls.call_function_entry (by decide +kernel) (by decide +kernel) PySem.W.kdk_entry_iter (PySem.W.kdk_args_iter _) ?_
  unfold Builtin.«iter»
  refine wpAny_bind (m := someArgs "iter" 1 2 _) (wpAny_of_eq (a := [Value.str z t]) (by first | rfl | kernel_rfl!) ?_)
  show wpAny _ _ (pyIter (.str z t) >>= _) _ _ _
  refine wpAny_bind (wpAny_pyIter_ascii ha ?_)
  exact wpAny_pure ⟨_, rfl, .ref _, _, I.laid (t' := s.toks) (a := s.heap.objs.size) (o := strIt s.heap.objs.size z 0) (fun b o e => Heap.get?_push_of_some _ e) (Nat.le_refl _) (strIt_ok ⟨_, Heap.get?_push_size _ rfl, rfl, rfl⟩), rfl, q _ (I.hok.fresh (Nat.le_refl _))⟩
end MC
set_option maxHeartbeats 4000000
/-! MB5: list(o), o of a class with __len__ and an __iter__ that hands back iter(text) -/
namespace PySem
open Sem (wp)
section
variable {prog : Program} {w : World} {A : Around} {E : Value → Shared → Prop} {s : Shared}
/-- the last turn of an iterator over a text: the iterator's object is there behind it -/
theorem mc_ascii_end {it : Addr} {x : Str} {t : Tok} {i : Nat} {Q : Option Value → Shared → Prop} (hh : A.handled = none)
    (hit : s.heap.IsStrIter it "str_ascii_iterator" x t i) (hx : x.cps[i]? = none)
    (hQ : ∀ h', Heap.ExtBut it s.heap h' → (∃ o, h'.get? it = some o) → Q none { s with heap := h' }) : wpAny (model prog w) A (pyNext (.ref it)) Q E s := by
  obtain ⟨o, ho, hc, hd⟩ := id hit
  unfold pyNext
  refine wpAny_bind (wpAny_attempt (wpAny_callSpecial?_slot (name := Str.ofString "__next__") hit.typeIs F.slot_str_ascii_iterator_next
    (wpAny_call_entry F.slot_str_ascii_iterator_next hit.typeIs F.entry_str_ascii_iterator_next ?_ (F.args_str_ascii_iterator_next_1 _))))
  show wpAny _ _ (field (.ref it) 0 >>= _) _ _ s
  refine wpAny_bind (wpAny_field ho hd (x := .str x t) rfl ?_)
  show wpAny _ _ (field (.ref it) 1 >>= _) _ _ s
  refine wpAny_bind (wpAny_field ho hd (x := .int i 0) rfl ?_)
  simp only [Int.toNat_natCast, hx]
  refine wpAny_bind (wpAny_rule (wpAny_bind (wpAny_setField ho hd (by simp) (wpAny_bind (wpAny_letGo ?_)))))
  show wpAny _ _ (newExc (.type "StopIteration") [] >>= _) _ _ _
  refine wpAny_bind ?_
  simp only [newExc, newTuple]
  refine wpAny_bind (wpAny_newObj_type ?_ (by size_fits))
  refine wpAny_bind (m := firstArgMember _ _) (wpAny_of_eq (a := Value.none) (by first | rfl | (simp only [firstArgMember]; rfl)) ?_)
  refine wpAny_newObj_type ?_ (by size_fits)
  simp only [raiseNew]
  refine wpAny_bind (wpAny_handled ?_)
  rw [show A.in1.handled = none from hh]
  refine wpAny_bind (wpAny_pure (wpAny_throw ?_))
  refine wpAny_bind (wpAny_isInstance (T := "StopIteration") (b := true) ⟨_, Heap.get?_push_size _ rfl, rfl⟩ isSubtype_stop ?_)
  exact wpAny_pure (hQ _ (((Heap.SameBut.update ..).extBut.push _).push _) ⟨_, Heap.get?_push_of_some _ (Heap.get?_push_of_some _ (Heap.get?_update_self _ ho (Obj.isFreed_of_fields (Obj.data_mapFields hd _))))⟩)
end
end PySem
namespace MC
open PySem PySem.Spec PyProof.Rows L2
section
variable {X : Cx} {pins : List (Addr × Obj)} {σ : L2.St} {A1 : Around}
/-- the list at q is filled off the iterator at it -/
theorem fill_loop {q it : Addr} {z : Str} {Rs : Result → Shared → Prop} {H0 : Hp} (hh : A1.in1.handled = none) (hz : z.cps.size ≤ sizeLine) (hne : q ≠ it)
    (hdone : ∀ H s, Inv X pins σ H s → (∀ b, b ≠ q → b ≠ it → H b = H0 b) → H q = some (.lst (sgns z)) → Rs (.ok (.ret .none)) s) :
    ∀ (m i : Nat) (H : Hp) (s : Shared), z.cps.size - i = m → i ≤ z.cps.size → Inv X pins σ H s → (∀ b, b ≠ q → b ≠ it → H b = H0 b) → H q = some (.lst ((sgns z).take i)) → H it = some (strIt it z i) →
      codeAny (model X.prog X.w) A1 (.builtin "list.extend.loop" ⟨[.ref q, .ref it, .none], []⟩) Rs s := by
  intro m
  induction m with
  | zero =>
    intro i H s hm hi I ho hq hit
    have e : i = z.cps.size := by omega
    subst e
    obtain ⟨t, ht⟩ := strIt_at I.hok hit
    refine codeAny_builtin PySem.F.entry_extend_loop ?_
    rw [Around.under_plainId PySem.F.plain_extend_loop _]
    show wpAny _ A1.in1 (pyNext (.ref it) >>= _) _ _ s
    refine wpAny_bind (mc_ascii_end hh ht (by simp) fun h' he hx => ?_)
    have I1 : Inv X pins σ (upd H it (.ext fun _ => True)) { s with heap := h' } := I.write (t' := s.toks) (x := it) (e := it) (by rw [hit]; exact True.intro) (.inl rfl) (fun b u hb e => he b u hb e) hx ⟨True.intro, hx, fun _ _ _ _ => True.intro⟩
    refine wpAny_pure (hdone _ _ I1 (fun b h1 h2 => by rw [upd_ne h2]; exact ho b h1 h2) ?_)
    rw [upd_ne hne, hq, List.take_of_length_le (by rw [sgns_len]; exact Nat.le_refl _)]
  | succ m ih =>
    intro i H s hm hi I ho hq hit
    have hlt : i < z.cps.size := by omega
    obtain ⟨t, ht⟩ := strIt_at I.hok hit
    refine codeAny_builtin PySem.F.entry_extend_loop ?_
    rw [Around.under_plainId PySem.F.plain_extend_loop _]
    show wpAny _ A1.in1 (pyNext (.ref it) >>= _) _ _ s
    refine wpAny_bind (wpAny_pyNext_ascii_item ht (c := z.cps[i]) (by simp [hlt]) fun h' hit' sb => ?_)
    have hx : ∃ o, h'.get? it = some o := by obtain ⟨o, e, _⟩ := hit'; exact ⟨o, e⟩
    have I1 : Inv X pins σ (upd H it (strIt it z (i + 1))) { s with heap := h', toks := s.toks + 1 } := I.write (t' := s.toks + 1) (x := it) (e := it) (by rw [hit]; exact True.intro) (.inl rfl) (fun b u hb e => (sb.2 b hb).trans e) hx (strIt_ok hit')
    show wpAny _ A1.in1 (updateSeq q (·.push (.str ⟨#[z.cps[i]]⟩ s.toks)) >>= _) _ _ _
    have hq1 : upd H it (strIt it z (i + 1)) q = some (.lst ((sgns z).take i)) := by rw [upd_ne hne]; exact hq
    obtain ⟨hz1, its, k, r2, hl, e⟩ := I1.lstM hq1
    have hlen : its.length = i := by rw [← hl, List.length_take, sgns_len]; omega
    refine wpAny_bind (wpAny_updateSeq e rfl (wpAny_pure ⟨plainId_quiet PySem.F.plain_extend_loop _, ?_⟩) (by rw [List.size_toArray]; omega) (by show (its.toArray.push _).size ≤ sizeLine + 1; rw [Array.size_push, List.size_toArray]; omega))
    have et : (sgns z).take (i + 1) = (sgns z).take i ++ [V.str ⟨#[z.cps[i]]⟩] := by
      rw [List.take_add_one]
      congr 1
      simp [sgns, hlt]
    refine ih (i + 1) _ _ (by omega) hlt (I1.lset (its' := its ++ [.str ⟨#[z.cps[i]]⟩ s.toks]) (t' := s.toks + 1) (ys := (sgns z).take (i + 1)) hq1 e (by simp) (by rw [et]; exact r2.append (.cons ⟨_, rfl⟩ .nil)) (by rw [List.length_take]; omega)) (fun b h1 h2 => ?_) upd_same ?_
    · rw [upd_ne h1, upd_ne h2]; exact ho b h1 h2
    · rw [upd_ne (Ne.symm hne)]; exact upd_same

/-- list(o): a new list q; __iter__ hands back an iterator over z; __len__ is asked; then q is filled -/
def rListO (C : Addr) (spI spL : Sp) : List V → Hp → VK → Prop := fun xs H Q => ∃ a dx fs, xs = [.ref a] ∧ H a = some (.ins C dx fs) ∧ ∀ q, H q = none →
  spI [.ref a] (upd H q (.lst [])) (fun v H1 => ∃ it z, v = .ref it ∧ z.cps.size ≤ sizeLine ∧ H1 q = some (.lst []) ∧ H1 it = some (strIt it z 0) ∧ (∃ dx fs, H1 a = some (.ins C dx fs)) ∧
    spL [.ref a] H1 (fun v H2 => ∃ n : Int, v = .int n ∧ (0 ≤ n ∧ n ≤ sizeLine) ∧ H2 q = some (.lst []) ∧ H2 it = some (strIt it z 0) ∧ ∀ H3, (∀ b, b ≠ q → b ≠ it → H3 b = H2 b) → H3 q = some (.lst (sgns z)) → Q (.ref q) H3) XE0) XE0
variable {C fi fl : Addr} {fdI fdL : FuncData} {psI psL : List Str} {spI spL : Sp} {kI kL k : Nat}
theorem call_listO (FI : FnOk X.prog X.w X.K X.mg X.base (L2.CX X.prog X.w) k fi fdI psI spI) (bI : Binds X.K fdI psI []) (SI : Spec X.K C "__iter__" fi)
    (FL : FnOk X.prog X.w X.K X.mg X.base (L2.CX X.prog X.w) k fl fdL psL spL) (bL : Binds X.K fdL psL []) (SL : Spec X.K C "__len__" fl) (hc : X.calm = true) (hr : Room (k + 3) X.A) : CallR X (.type "list") (rListO C spI spL) := by
  intro pins s σ H xs us Q I rv h
  obtain ⟨a, dx, fs, rfl, ha, h⟩ := h
  obtain ⟨u, rfl, ru⟩ := rv.one
  cases ru
  refine callType_codes (Q₁ := fun obj s₁ => obj = .ref s.heap.objs.size ∧ s₁ = { s with heap := s.heap.push { cls := .type "list", data := .seq #[] } }) PySem.F.called_list (PySem.F.typeCall_list_1 _) PySem.F.entry_list_init
    (code_list_new _ ⟨rfl, rfl⟩) fun obj s₁ h₁ => ?_
  obtain ⟨rfl, rfl⟩ := h₁
  have hS : (s.heap.push { cls := .type "list", data := .seq #[] }).get? s.heap.objs.size = some { cls := .type "list", data := .seq #[] } := Heap.get?_push_size _ rfl
  refine ⟨⟨_, hS, rfl⟩, PySem.F.args_list_init_2 _ _, ?_⟩
  have fr : H s.heap.objs.size = none := I.hok.fresh (Nat.le_refl _)
  generalize hqd : s.heap.objs.size = q at *
  have hq := h q fr
  have I1 : Inv X pins σ (upd H q (.lst [])) { s with heap := s.heap.push { cls := .type "list", data := .seq #[] } } := by rw [← hqd]; exact I.lnew (its := []) (t' := s.toks) .nil (Nat.zero_le _)
  show wpAny _ _ (do let old ← Builtin.List.listItems (.ref q); Builtin.List.listUpdate (.ref q) (fun _ => #[]); letGo old.toList.reverse; Builtin.List.listExtendWith (.ref q) (.ref a) .none) _ _ _
  refine wpAny_bind ?_
  unfold Builtin.List.listItems
  refine wpAny_bind (wpAny_seqItems hS rfl (wpAny_pure ?_))
  show wpAny _ _ (updateSeq q (fun _ => #[]) >>= fun _ => letGo (#[] : Array Value).toList.reverse >>= fun _ => Builtin.List.listExtendWith (.ref q) (.ref a) .none) _ _ _
  refine wpAny_bind (wpAny_updateSeq hS rfl ?_)
  have I2 := I1.lset (f := fun _ => #[]) (its := []) (its' := []) (ys := []) (t' := s.toks) upd_same hS rfl .nil (Nat.zero_le _)
  rw [upd_upd] at I2
  refine wpAny_bind (wpAny_letGo ?_)
  have hqa : q ≠ a := Ne.symm (ne_of_none ha fr)
  have ha2 : upd H q (.lst []) a = some (.ins C dx fs) := by rw [upd_ne (Ne.symm hqa)]; exact ha
  obtain ⟨od, J⟩ := inst_of I2 ha2
  obtain ⟨m0, hF⟩ := I2.fr
  unfold Builtin.List.listExtendWith
  refine wpAny_bind (J.type.here ?_)
  have h1 : Builtin.List.listSameRef (.ref q) (.ref a) = false := by simp [Builtin.List.listSameRef, hqa]
  have h2 : (Value.ref C == Value.type "list") = false := rfl
  have h3 : (Value.ref C == Value.type "tuple") = false := rfl
  simp only [h1, h2, h3, Bool.or_false, Bool.false_eq_true, if_false]
  refine wpAny_bind (PySem.W.owit_iter hF I2.ok.mod.kin J SI.at_ SI.fn (thn (run_at (vs := [.ref a]) FI (hr.in1.in1.mono (by omega)) rfl bI pass_none I2 (.cons rfl .nil) hq) fun v s3 hv => ?_))
  obtain ⟨x, H1, I3, rx, it, z, ex, hz, hq1, hit, ⟨dx2, fs2, ha3⟩, hsL⟩ := hv
  subst ex
  cases rx
  obtain ⟨t, ht⟩ := strIt_at I3.hok hit
  unfold PySem.W.OwitIt
  refine wpAny_specialOf ht.typeIs PySem.F.slot_str_ascii_iterator_next.lookup ?_
  refine wpAny_bind (wpAny_holding ?_)
  obtain ⟨od3, J3⟩ := inst_of I3 ha3
  obtain ⟨m3, hF3⟩ := I3.fr
  have hint : wpAny (model X.prog X.w) X.A.in1.in1 (Builtin.List.listLengthHint (.ref a)) (fun r s4 => ∃ H2, Inv X pins σ H2 s4 ∧ H2 q = some (.lst []) ∧ H2 it = some (strIt it z 0) ∧ ∀ H3, (∀ b, b ≠ q → b ≠ it → H3 b = H2 b) → H3 q = some (.lst (sgns z)) → Q (.ref q) H3) X.xe s3 := by
    unfold Builtin.List.listLengthHint
    refine wpAny_bind (wpAny_bind (J3.type.here ((PySem.W.looks_findIn I3.kIn SL.at_).here ?_)))
    refine PySem.W.KFB.if_not rfl ?_
    refine PySem.W.KFB.if_so rfl ?_
    refine wpAny_bind (wpAny_rule ?_)
    refine wpAny_bind (wpAny_attempt (PySem.W.len_K hF3 I3.ok.mod.kin J3 SL.at_ SL.fn (thn (run_at0 (vs := [.ref a]) FL hr.in1.in1.in1 rfl bL I3 (.cons rfl .nil) hsL) fun v s4 hv => ?_)))
    obtain ⟨x, H2, I4, rx, n, ex, hn, hq2, hit2, k2⟩ := hv
    subst ex
    obtain ⟨t4, rfl⟩ := rx
    refine ⟨⟨hn.1, by have := hn.2; rw [sizeLine_eq] at this; omega⟩, ?_⟩
    refine wpAny_bind (wpAny_pure ?_)
    have ht4 : Builtin.List.listTooLong n.toNat = false := by
      unfold Builtin.List.listTooLong
      exact decide_eq_false (by have := hn.2; omega)
    show wpAny _ _ (if Builtin.List.listTooLong n.toNat = true then _ else pure (n != 0)) _ _ _
    rw [if_neg (by rw [ht4]; decide)]
    exact wpAny_pure ⟨H2, I4.tok _, hq2, hit2, k2⟩
  refine thn hint fun r s4 ⟨H2, I4, hq2, hit2, k2⟩ => ?_
  have hqi : q ≠ it := ne_of hq2 hit2 (fun z => by
    have z' : HO.lst [] = HO.ext _ := z
    cases z')
  have go : ∀ s5, Inv X pins σ H2 s5 → wpAny (model X.prog X.w) X.A.in1.in1 (again (.builtin "list.extend.loop" ⟨[.ref q, .ref it, .none], []⟩) : Sem Fin) (fun fin s' => match fin with | .done f => wants (fun r s₂ => r = Value.none ∧ EP X pins σ Q (.ref q) s₂) X.xe (.ok f) s' | .again c' => c'.quiet = true ∧ codeAny (model X.prog X.w) X.A.in1 c' (wants (fun r s₂ => r = Value.none ∧ EP X pins σ Q (.ref q) s₂) X.xe) s')
      (fun e s' => wants (fun r s₂ => r = Value.none ∧ EP X pins σ Q (.ref q) s₂) X.xe (.error e) s') s5 := fun s5 I5 =>
    wpAny_pure ⟨plainId_quiet PySem.F.plain_extend_loop _, fill_loop (A1 := X.A.in1) (H0 := H2) (I.ok.hd hc) hz hqi (fun H3 s' I' ho hl => ⟨rfl, .ref q, H3, I', rfl, k2 H3 ho hl⟩) z.cps.size 0 H2 s5 (by omega) (Nat.zero_le _) I5 (fun _ _ _ => rfl) (by simpa using hq2) hit2⟩
  refine wpAny_ite_split (fun _ => ?_) (fun _ => go s4 I4)
  refine wpAny_bind (wpAny_rule ?_)
  refine wpAny_bind ?_
  show wpAny _ _ (updateSeq q (·.push .none) >>= fun _ => updateSeq q (·.pop)) _ _ _
  obtain ⟨z4, its4, k4, r4, hl4, e4⟩ := I4.lstM hq2
  cases r4
  refine wpAny_bind (wpAny_updateSeq e4 rfl ?_)
  have I5 := I4.lset (f := (·.push Value.none)) (its' := [Value.none]) (ys := [.non]) (t' := s4.toks) hq2 e4 (by simp) (.cons rfl .nil) (by rw [List.length_singleton, sizeLine_eq]; decide)
  obtain ⟨z5, its5, k5, r5, hl5, e5⟩ := I5.lstM upd_same
  obtain ⟨u5, rfl, ru5⟩ := r5.one
  refine wpAny_updateSeq e5 rfl ?_ (by show 1 ≤ sizeLine; rw [sizeLine_eq]; decide) (by show 0 ≤ sizeLine + 1; exact Nat.zero_le _)
  have I6 := I5.lset (f := (·.pop)) (its := [u5]) (its' := []) (ys := []) (t' := s4.toks) upd_same e5 (by rfl) .nil (Nat.zero_le _)
  rw [upd_upd] at I6
  have hH : upd H2 q (.lst []) = H2 := by
    funext b
    by_cases hb : b = q
    · rw [hb, upd_same, hq2]
    · rw [upd_ne hb]
  rw [hH] at I6
  exact go _ I6
end
end MC
set_option maxHeartbeats 4000000
/-! MB6: operators by any kind of value; count, min, text * n, text[::-1]; calls that may raise, at the slots -/
namespace MC
open PySem PySem.Spec PyProof.Rows L2

/-! ### + of ints, texts, lists -/
def rAddU : R2 := fun x y H Q => (rI0 (fun i j => .int (i + j)) x y H Q ∨ (∃ i j, x = .str i ∧ y = .str j ∧ i.length + j.length ≤ sizeLine ∧ Q (.str (i ++ j)) H)) ∨ rCat x y H Q
theorem op_addU {X : Cx} : OpR X (binaryOp .Add) rAddU := (op_add.or op_add_str).or op_cat
/-! ### * of ints, of a text and an int -/
def repS (z : Str) (n : Int) : Str := if n < 1 then Str.empty else ⟨(List.replicate n.toNat z.cps.toList).flatten.toArray⟩
theorem foldl_app : ∀ (l : List (Array Nat)) (a : Array Nat), l.foldl (· ++ ·) a = a ++ (l.map Array.toList).flatten.toArray
  | [], a => by simp
  | x :: r, a => by
    rw [List.foldl_cons, foldl_app r, List.map_cons, List.flatten_cons]
    apply Array.ext'
    simp
def rMulS : R2 := fun x y H Q => ∃ z n, x = .str z ∧ y = .int n ∧ n < 1000 ∧ -1000 < n ∧ z.length ≤ 10000 ∧ Q (.str (repS z n)) H
theorem op_mulS {X : Cx} : OpR X (binaryOp .Mult) rMulS := by
  intro pins s σ H x y v u Q I rx ry h
  obtain ⟨z, n, rfl, rfl, h1, h0, hz, q⟩ := h
  obtain ⟨t, rfl⟩ := rx
  obtain ⟨t', rfl⟩ := ry
  have hr : (decide (n < -(2 ^ 63 : Int)) || decide (n ≥ 2 ^ 63)) = false := by
    have e1 : ¬ n < -(2 ^ 63 : Int) := by omega
    have e2 : ¬ n ≥ 2 ^ 63 := by omega
    rw [decide_eq_false e1, decide_eq_false e2]; rfl
  have hlen : ¬ n < 1 → z.length * n.toNat ≤ 10000 * 1000 := fun _ => Nat.mul_le_mul hz (by omega)
  refine P.mul_str hr (fun hn _ => ?_) (fun hn _ => ?_) ?_
  · have hpos : 0 < n := by omega
    have e3 : ((2 : Int) ^ 63 - 1) / 1000 ≤ (2 ^ 63 - 1) / n := by
      rw [Int.le_ediv_iff_mul_le hpos]
      have : (2 ^ 63 - 1) / 1000 * n ≤ (2 ^ 63 - 1) / 1000 * 1000 := Int.mul_le_mul_of_nonneg_left (by omega) (by decide)
      have e4 : ((2 : Int) ^ 63 - 1) / 1000 * 1000 ≤ 2 ^ 63 - 1 := by decide
      omega
    have e5 : (10000 : Int) ≤ (2 ^ 63 - 1) / 1000 := by decide
    omega
  · have := hlen hn
    first
    | exact decide_eq_false (by rw [sizeLine_eq]; omega)
    | (unfold tooLong; exact decide_eq_false (by rw [sizeLine_eq]; omega))
  · by_cases hn : n < 1
    · rw [if_pos hn]
      unfold repS at q
      rw [if_pos hn] at q
      exact ⟨by decide, .str _, H, I.tok _, ⟨_, rfl⟩, q⟩
    · rw [if_neg hn]
      unfold repS at q
      rw [if_neg hn] at q
      by_cases c : (n == 1 || z.length == 0) = true
      · rw [if_pos c]
        have e : (⟨(List.replicate n.toNat z.cps.toList).flatten.toArray⟩ : Str) = z := by
          rw [Bool.or_eq_true, beq_iff_eq, beq_iff_eq] at c
          rcases c with c | c
          · subst c
            show (⟨(List.replicate 1 z.cps.toList).flatten.toArray⟩ : Str) = z
            simp
          · have e0 : z.cps = #[] := Array.eq_empty_of_size_eq_zero c
            cases z with
            | mk cps =>
              have e0 : cps = #[] := e0
              subst e0
              simp
        rw [e] at q
        exact ⟨.str z, H, I, ⟨t, rfl⟩, q⟩
      · rw [if_neg c, foldl_app]
        have e : (#[] ++ ((List.replicate n.toNat z.cps).map Array.toList).flatten.toArray : Array Nat) = (List.replicate n.toNat z.cps.toList).flatten.toArray := by simp
        rw [e]
        refine ⟨?_, .str _, H, I.tok _, ⟨_, rfl⟩, q⟩
        have h5 : (⟨(List.replicate n.toNat z.cps.toList).flatten.toArray⟩ : Str).length = n.toNat * z.length := by
          show ((List.replicate n.toNat z.cps.toList).flatten.toArray).size = _
          rw [List.size_toArray, List.length_flatten, List.map_replicate, List.sum_replicate_nat, Array.length_toList]
          rfl
        rw [h5, Nat.mul_comm, sizeLine_eq]
        have := hlen hn
        omega
def rMulU : R2 := fun x y H Q => rI CMul (fun i j => .int (i * j)) x y H Q ∨ rMulS x y H Q
theorem op_mulU {X : Cx} : OpR X (binaryOp .Mult) rMulU := op_mul.or op_mulS
/-! ### == of flat values, of data -/
def rEqU (K : PySem.W.Frag) : R2 := fun x y H Q => rEq x y H Q ∨ rEqD K x y H Q
def rNeU (K : PySem.W.Frag) : R2 := fun x y H Q => rNe x y H Q ∨ rNeD K x y H Q
theorem op_eqU {X : Cx} {k : Nat} (hr : Room k X.A) : OpR X (compareOp .Eq) (rEqU X.K) := op_eq.or (op_eqD (by have := hr.un; omega))
theorem op_neU {X : Cx} {k : Nat} (hr : Room k X.A) : OpR X (compareOp .NotEq) (rNeU X.K) := op_ne.or (op_neD (by have := hr.un; omega))
/-! ### <, <= of ints, of texts -/
def rLtU : R2 := fun x y H Q => rI0 (fun i j => .bl (decide (i < j))) x y H Q ∨ ∃ i j, x = .str i ∧ y = .str j ∧ Q (.bl (decide (i.cps.toList < j.cps.toList))) H
def rLeU : R2 := fun x y H Q => rI0 (fun i j => .bl (decide (i ≤ j))) x y H Q ∨ ∃ i j, x = .str i ∧ y = .str j ∧ Q (.bl (!decide (j.cps.toList < i.cps.toList))) H
theorem op_ltU {X : Cx} : OpR X (compareOp .Lt) rLtU := op_lt.or op_lt_str
theorem op_leU {X : Cx} : OpR X (compareOp .LtE) rLeU := op_le.or op_le_str
/-! ### slices of texts, lists -/
def rSlU (K : PySem.W.Frag) : V → Option Int → Option Int → Hp → VK → Prop := fun x lo hi H Q => rSlS x lo hi H Q ∨ rSlL K x lo hi H Q
theorem sl_U {X : Cx} : SlR X (rSlU X.K) := sl_str.or sl_list
/-! ### text[::-1] -/
def revS (z : Str) : Str := ⟨z.cps.toList.reverse.toArray⟩
theorem rev_step (x : Str) (u : Tok) : Txt.sliceBy x none none (-1, u) = revS x := by
  have h := step_rev_list x u
  have e : (Txt.sliceBy x none none (-1, u)).cps.toList = x.cps.toList.reverse := by
    rw [h]
    apply List.ext_getElem
    · simp [Str.length]
    · intro i h1 h2
      have hi : i < x.cps.size := by simpa [Str.length] using h1
      rw [List.getElem_map, List.getElem_range, List.getElem_reverse]
      have : x.length - 1 - i < x.cps.size := by show x.cps.size - 1 - i < _; omega
      rw [Array.getD_eq_getD_getElem?, Array.getElem?_eq_getElem this]
      simp [Str.length]
  have e2 : (Txt.sliceBy x none none (-1, u)).cps = x.cps.toList.reverse.toArray := by rw [← e]
  cases hh : Txt.sliceBy x none none (-1, u) with
  | mk c =>
    rw [hh] at e2
    show (⟨c⟩ : Str) = ⟨_⟩
    rw [show c = _ from e2]
def tRevS (te : TE) : TE := fun σ H Q => te σ H fun x H1 => ∃ z : Str, x = .str z ∧ z.length ≤ sizeLine ∧ Q (.str (revS z)) H1
theorem pe_revS {X : Cx} {e : Expr} {te : TE} {k : Nat} {p1 p2 p3 pos : Pos} (he : PE X e te) : PE X (.Subscript e (.Slice none none (some (.UnaryOp .USub (.Constant (.int 1) k p1) p2)) p3) pos) (tRevS te) := by
  refine ⟨fun pins s σ H Q I h => ?_⟩
  refine Subscript_ (thn (he.run pins s σ H _ I h) fun v s1 ⟨x, H1, I1, r1, q1⟩ => ?_)
  obtain ⟨z, ex, hz, q⟩ := q1
  subst ex
  obtain ⟨t, rfl⟩ := r1
  have hst : PO X (some (.UnaryOp .USub (.Constant (.int 1) k p1) p2)) (tPart (tUn (rU fun i => .int (-i)) (tC (.int 1)))) := po_some (pe_un un_neg pe_int)
  refine wpAny_Slice (thn (po_none.run pins s1 σ H1 (fun o H2 => o = none ∧ H2 = H1) I1 ⟨rfl, rfl⟩) fun vl s2 ⟨l, H2, I2, pl, el, e2⟩ => ?_)
  subst el e2
  refine thn (po_none.run pins s2 σ H2 (fun o H3 => o = none ∧ H3 = H2) I2 ⟨rfl, rfl⟩) fun vu s3 ⟨u, H3, I3, pu, eu, e3⟩ => ?_
  subst eu e3
  refine thn (hst.run pins s3 σ H3 (fun o H4 => o = some (-1) ∧ H4 = H3) I3 ⟨1, rfl, -1, rfl, rfl, rfl⟩) fun vs s4 ⟨o, H4, I4, ps, eo, e4⟩ => ?_
  subst eo e4
  have I5 : Inv X pins σ H4 { s4 with heap := s4.heap.push { cls := .type "slice", data := .fields #[vl, vu, vs] } } := I4.kept (t' := s4.toks) fun b ob q => Heap.get?_push_of_some _ q
  show wpAny (model X.prog X.w) X.A (subscriptTail e (.Slice none none (some (.UnaryOp .USub (.Constant (.int 1) k p1) p2)) p3) (.str z t) (.ref s4.heap.objs.size)) (EP X pins σ Q) X.xe { s4 with heap := s4.heap.push { cls := .type "slice", data := .fields #[vl, vu, vs] } }
  cases pl
  cases pu
  cases ps with
  | int i tt =>
  refine tail_any (ops := [.ref s4.heap.objs.size, .str z t]) (typeIs_str _ z t) (PySem.F.slot_str_getitem.lookup) ?_ (by with_unfolding_all rfl)
  refine wpAny_getItem_str_slice (l := none) (u := none) (st := some (-1, tt)) ⟨_, Heap.get?_push_size _ rfl, rfl, rfl⟩ (by rfl) ?_
  have e9 : sliceMade z t none none (some (-1, tt)) = .str (revS z) := by
    rw [← rev_step z tt]
    unfold Txt.sliceBy sliceMade
    have h1 : (((((some ((-1 : Int), tt)).map (·.1)).getD 1 == 1) && ((slicePicked z none none (some (-1, tt))).length == z.length))) = false := rfl
    rw [if_neg (by rw [h1]; exact Bool.false_ne_true), if_neg (by rw [h1]; exact Bool.false_ne_true)]
  rw [e9]
  refine ⟨?_, .str _, H4, I5.tok _, ⟨_, rfl⟩, q⟩
  show (z.cps.toList.reverse.toArray).size ≤ sizeLine
  rw [List.size_toArray, List.length_reverse, Array.length_toList]
  exact hz
/-! ### list.count of flat items -/
theorem countP_eqU {x : V} : ∀ {xs : List V} {us : List Value}, Vals xs us → xs.all flatV = true → us.countP (eqU x) = xs.countP fun y => eqV y x
  | _, _, .nil, _ => rfl
  | y :: xs, u :: us, .cons r t, f => by
    rw [List.all_cons, Bool.and_eq_true] at f
    rw [List.countP_cons, List.countP_cons, eqU_of r f.1, countP_eqU t f.2]
def rCntF (K : PySem.W.Frag) : V → List V → Hp → VK → Prop := fun x xs H Q => ∃ (p : Addr) (ys : List V) (y : V), x = .ref p ∧ xs = [y] ∧ SqL K H p ys ∧ flatV y = true ∧ ys.all flatV = true ∧ Q (.int ((ys.countP fun z => eqV z y : Nat) : Int)) H
theorem mt_cntF {X : Cx} : MtR X "list.count" (rCntF X.K) := by
  intro pins s σ H x xs v us Q I rx rxs h
  obtain ⟨p, ys, y, rfl, rfl, hs, fy, fs, q⟩ := h
  cases rx
  obtain ⟨u, rfl, ru⟩ := rxs.one
  obtain ⟨its, rv, ⟨⟨cls, dd, data, sl⟩, n, ho, hc, hdn, hd⟩, hlen⟩ := I.list hs
  simp only at hc hd
  subst hc hd
  refine call_meets PySem.F.slot_list_count ⟨_, ho, rfl⟩ PySem.F.entry_list_count (PySem.F.args_list_count_2 _ _)
    (SeqAt.list_countAt p its.toArray n dd sl u (eqU y)) ⟨ho, fun w hw => mem_eqAt ru fy rv fs w (by simpa using hw), ?_⟩
  refine ⟨.int ((ys.countP fun z => eqV z y : Nat) : Int), H, I.tok _, ⟨s.toks, ?_⟩, q⟩
  show Value.int ((its.toArray.toList.countP (eqU y) : Nat) : Int) s.toks = _
  rw [List.toList_toArray, countP_eqU rv fs]
/-! ### min of a list of texts -/
def minS : List Str → Str
  | [] => Str.empty
  | z :: r => r.foldl (fun b x => if x.cps.toList < b.cps.toList then x else b) z
def btS (zs : List Str) (i j : Nat) : Bool := decide ((zs.getD i Str.empty).cps.toList < (zs.getD j Str.empty).cps.toList)
theorem argBest_S (z : Str) (r : List Str) : ∀ k, k ≤ r.length → (z :: r).getD (argBest (btS (z :: r)) k) Str.empty = (r.take k).foldl (fun b x => if x.cps.toList < b.cps.toList then x else b) z
  | 0, _ => by simp [argBest]
  | k + 1, hk => by
    have ih := argBest_S z r k (by omega)
    have e : r.take (k + 1) = r.take k ++ [r.getD k Str.empty] := by
      rw [List.take_add_one]
      congr 1
      simp [List.getElem?_eq_getElem (show k < r.length by omega)]
    rw [e, List.foldl_append, ← ih]
    show (z :: r).getD (argBest (btS (z :: r)) (k + 1)) Str.empty = (if (r.getD k Str.empty).cps.toList < _ then _ else _)
    have e2 : (z :: r).getD (k + 1) Str.empty = r.getD k Str.empty := by simp
    have e3 : argBest (btS (z :: r)) (k + 1) = if btS (z :: r) (k + 1) (argBest (btS (z :: r)) k) then k + 1 else argBest (btS (z :: r)) k := rfl
    rw [e3]
    by_cases c : (r.getD k Str.empty).cps.toList < ((z :: r).getD (argBest (btS (z :: r)) k) Str.empty).cps.toList
    · rw [if_pos c]
      have : btS (z :: r) (k + 1) (argBest (btS (z :: r)) k) = true := by
        unfold btS
        rw [e2]
        exact decide_eq_true c
      rw [if_pos this, e2]
    · rw [if_neg c]
      have : btS (z :: r) (k + 1) (argBest (btS (z :: r)) k) = false := by
        unfold btS
        rw [e2]
        exact decide_eq_false c
      rw [if_neg (by rw [this]; exact Bool.false_ne_true)]
theorem mcStrs : ∀ {zs : List Str} {us : List Value}, Vals (zs.map V.str) us → ∀ i v, us[i]? = some v → ∃ t, v = Value.str (zs.getD i Str.empty) t
  | [], _, .nil, i, v, h => by cases i <;> cases h
  | z :: zs, _, .cons r t, 0, v, h => by
    cases h
    obtain ⟨k, rfl⟩ := r
    exact ⟨k, by simp⟩
  | z :: zs, _, .cons r t, i + 1, v, h => by
    obtain ⟨k, e⟩ := mcStrs t i v (by simpa using h)
    exact ⟨k, by simpa using e⟩
def rMinS (K : PySem.W.Frag) : List V → Hp → VK → Prop := fun vs H Q => ∃ (a : Addr) (zs : List Str), vs = [V.ref a] ∧ SqL K H a (zs.map V.str) ∧ 0 < zs.length ∧ Q (.str (minS zs)) H
theorem call_minS {X : Cx} (hc : X.calm = true) : CallR X (.builtin "min") (rMinS X.K) := by
  intro pins s σ H vs us Q I r h
  obtain ⟨a, zs, rfl, hs, hne, q⟩ := h
  obtain ⟨its, rv, hl, _⟩ := I.list hs
  rw [Vals.ref1 r]
  have hlen : its.length = zs.length := by rw [← rv.length, List.length_map]
  refine call_min_walk (iter_anyList hl.isList fun s₂ e st hfp hlI => ?_)
  subst e
  have cmp : CmpOf X.prog X.w X.A.in1 .Lt (fun i v => its.toArray[i]? = some v) (btS zs) := by
    intro i j vi vj s1 Q1 E1 hi hj hQ
    obtain ⟨ti, rfl⟩ := mcStrs rv i vi (by simpa using hi)
    obtain ⟨tj, rfl⟩ := mcStrs rv j vj (by simpa using hj)
    exact PyProof.Rows.lt_str hQ
  refine ⟨_, _, _, _, _, _, _, rfl, Walks.list (A := X.A.in1) (I.ok.hd hc) _ a hlI its.toArray, st, hfp, by simp; omega, cmp, fun v h' tk hP hk => ?_⟩
  have hP2 : its[argBest (btS zs) (its.toArray.size - 1)]? = some v := by simpa using hP
  obtain ⟨t, rfl⟩ := mcStrs rv _ v hP2
  refine ⟨.str _, H, I.kept (t' := tk) (PySem.old_kept hk), ⟨t, rfl⟩, ?_⟩
  cases zs with
  | nil => exact absurd hne (by simp)
  | cons z zr =>
    have e := argBest_S z zr zr.length (Nat.le_refl _)
    rw [List.take_of_length_le (Nat.le_refl _)] at e
    have e2 : its.toArray.size - 1 = zr.length := by simp [hlen]
    rw [e2, e]
    exact q
end MC
set_option maxHeartbeats 4000000
/-! MB7: calls of defs, methods, classmethods, classes that may raise: what they let out, at the slots -/
namespace MC
open PySem PySem.Spec PyProof.Rows L2

theorem run_S {X : Cx} {k : Nat} {f : Addr} {sp : Sp} {E : XK} {pins : List (Addr × Obj)} {σ : L2.St} {H : Hp} {s : Shared} {Q : VK} {us : List Value} {vs : List V} (F : FnR X.prog X.w X.K X.mg X.base (L2.CX X.prog X.w) k f sp) (hr : Room k X.A) (hx : PassesAt (L2.CX X.prog X.w) X σ E)
    (I : Inv X pins σ H s) (r : Vals vs us) (h : sp vs H Q E) : codeAny (model X.prog X.w) X.A (.call (.ref f) ⟨us, []⟩) (fun r s' => match r with | .ok (.ret v) => EP X pins σ Q v s' | .ok _ => False | .error e => X.xe e s') s := by
  refine codeAny_mono (F X.A X.stack s H us vs Q E hr I.env0 r h) fun r s' hq => ?_
  cases r with
  | error e => exact hx pins H s e s' I hq
  | ok fl =>
    cases fl with
    | ret u => exact I.after hq
    | next => exact False.elim hq
    | brk => exact False.elim hq
    | cont => exact False.elim hq

/-! ### a def by its name -/
structure FnG (P : Program) (w : World) (K : PySem.W.Frag) (mg : Str → Option Value) (base : Heap) (k : Nat) (x : Str) (sp : Sp) : Prop where
  ex : ∃ f, FnR P w K mg base (L2.CX P w) k f sp ∧ mg x = some (.ref f) ∧ PySem.W.keepIn K (.ref f) = true
/-- a wish of the slots that wishes nothing -/
abbrev EN : L2.St → XK := fun _ _ _ _ => False
theorem passN {X : Cx} : ∀ σ, PassesAt (L2.CX X.prog X.w) X σ (EN σ) := fun σ => pass_none
theorem passW {X : Cx} {W : WX} (tk : Takes X W) : ∀ σ, PassesAt (L2.CX X.prog X.w) X σ (WE W σ) := fun σ => passAt tk σ
section
variable {X : Cx} {k : Nat} {sp : Sp} {E : L2.St → XK} {x m : Str} {p pos apos : Pos} {e o : Expr} {es : List Expr} {ta : TE} {t tk : TA} {C : Addr} {pl : Sem Bool}
theorem pe_callG (F : FnG X.prog X.w X.K X.mg X.base k x sp) (hr : Room k X.A) (hx : ∀ σ, PassesAt (L2.CX X.prog X.w) X σ (E σ)) (hg : Gl X x) (ha : PA X (e :: es) t)
    (hdb : (x == ("__debug__" : Str)) = false := by decide) (he : starEach (e :: es) X.env = (false, eval e X.env) :: starEach es X.env := by rfl) (hpl : (backTo pos (starEach es X.env)).any (·.1) = false := by rfl) :
    PE X (.Call (.Name x p) (e :: es) [] pos) (tCallS sp E t) := by
  obtain ⟨f, G, hm, hk⟩ := F.ex
  refine ⟨fun pins s σ H Q I h => ?_⟩
  refine wpAny_Call_Name_kw (ld_glob I hg hm ?_ hdb)
  refine PySem.W.callWith_K (h₀ := X.base) I.ok.mod.kin hk (thn (ha.run pos pins s σ H _ I h) fun us s1 ⟨vs, H1, I1, r, q⟩ => ⟨I1.kIn, ?_⟩) he hpl
  exact wpAny_call (run_S G hr (hx σ) I1 r q)

/-! ### a method of an own class -/
structure MeG (P : Program) (w : World) (K : PySem.W.Frag) (mg : Str → Option Value) (base : Heap) (k : Nat) (C : Addr) (m : Str) (sp : Sp) : Prop where
  cl : Cls K C
  ex : ∃ f, FnR P w K mg base (L2.CX P w) k f sp ∧ Meth K C m f
def tMethG (C : Addr) (m : Str) (sp : Sp) (E : L2.St → XK) (ta : TE) (t : TA) : TE := fun σ H Q => ta σ H fun x H1 => ∃ a dx fs, x = .ref a ∧ H1 a = some (.ins C dx fs) ∧ fs.lookup m = none ∧ t σ H1 fun vs H2 => sp (.ref a :: vs) H2 Q (E σ)
theorem pe_methG (F : MeG X.prog X.w X.K X.mg X.base k C m sp) (hr : Room k X.A) (hx : ∀ σ, PassesAt (L2.CX X.prog X.w) X σ (E σ)) (he : PE X o ta) (ha : PA X (e :: es) t)
    (hst : starEach (e :: es) X.env = (false, eval e X.env) :: starEach es X.env := by rfl) (hpl : (backTo pos (starEach es X.env)).any (·.1) = false := by rfl)
    (ht : eval (.Call (.Attribute o m apos) (e :: es) [] pos) X.env = (do
      let ov ← eval o X.env
      standAt apos.atName
      let (f, first) ← holding [ov] (getMethod ov m pl)
      callWith pos f first (backTo pos (starEach (e :: es) X.env)) (backToKw pos (keywordEach [] X.env))) := by rfl) :
    PE X (.Call (.Attribute o m apos) (e :: es) [] pos) (tMethG C m sp E ta t) := by
  obtain ⟨f, G, hm⟩ := F.ex
  refine ⟨fun pins s σ H Q I h => ?_⟩
  refine PySem.W.methodCall_KW (pl := pl) (thn (he.run pins s σ H _ I h) fun u s1 ⟨x, H1, I1, rx, a, dx, fs, ex, ea, l, q⟩ => ?_) ht
  subst ex
  obtain rfl : u = Value.ref a := rx
  refine getmeth_ok I1 ea F.cl hm l ?_
  refine PySem.W.callWith_K (first := [.ref a]) (h₀ := X.base) I.ok.mod.kin hm.kp (thn (ha.run pos pins s1 σ H1 _ I1 q) fun us s2 ⟨vs, H2, I2, r, q2⟩ => ⟨I2.kIn, ?_⟩) hst hpl
  exact wpAny_call (run_S (us := .ref a :: us) (vs := .ref a :: vs) G hr (hx σ) I2 (.cons rfl r) q2)
theorem pe_methG0 (F : MeG X.prog X.w X.K X.mg X.base k C m sp) (hr : Room k X.A) (hx : ∀ σ, PassesAt (L2.CX X.prog X.w) X σ (E σ)) (he : PE X o ta)
    (ht : eval (.Call (.Attribute o m apos) [] [] pos) X.env = (do
      let ov ← eval o X.env
      standAt apos.atName
      let (f, first) ← holding [ov] (getMethod ov m pl)
      callWith pos f first (backTo pos (starEach [] X.env)) (backToKw pos (keywordEach [] X.env))) := by rfl) :
    PE X (.Call (.Attribute o m apos) [] [] pos) (tMethG C m sp E ta tNil) := by
  obtain ⟨f, G, hm⟩ := F.ex
  refine ⟨fun pins s σ H Q I h => ?_⟩
  refine PySem.W.methodCall_KW (pl := pl) (thn (he.run pins s σ H _ I h) fun u s1 ⟨x, H1, I1, rx, a, dx, fs, ex, ea, l, q⟩ => ?_) ht
  subst ex
  obtain rfl : u = Value.ref a := rx
  refine getmeth_ok I1 ea F.cl hm l ?_
  exact PySem.W.callWith_K0 (first := [.ref a]) I1.kIn hm.kp (wpAny_call (run_S (us := [.ref a]) (vs := [.ref a]) G hr (hx σ) I1 (.cons rfl .nil) q))

/-! ### a classmethod, by the class -/
structure CmG (P : Program) (w : World) (K : PySem.W.Frag) (mg : Str → Option Value) (base : Heap) (k : Nat) (C : Addr) (m : Str) (sp : Sp) : Prop where
  ex : ∃ mc pr g, ClX.CRead K C mc ∧ ClX.CMet K C mc m pr g ∧ FnR P w K mg base (L2.CX P w) k g sp
def tCMethG (C : Addr) (sp : Sp) (E : L2.St → XK) (ta : TE) (t : TA) : TE := fun σ H Q => ta σ H fun x H1 => x = .ref C ∧ t σ H1 fun vs H2 => sp (.ref C :: vs) H2 Q (E σ)
theorem pe_cmethG (F : CmG X.prog X.w X.K X.mg X.base k C m sp) (hr : Room k X.A) (hx : ∀ σ, PassesAt (L2.CX X.prog X.w) X σ (E σ)) (he : PE X o ta) (ha : PA X (e :: es) t)
    (hst : starEach (e :: es) X.env = (false, eval e X.env) :: starEach es X.env := by rfl) (hpl : (backTo pos (starEach es X.env)).any (·.1) = false := by rfl)
    (ht : eval (.Call (.Attribute o m apos) (e :: es) [] pos) X.env = (do
      let ov ← eval o X.env
      standAt apos.atName
      let (f, first) ← holding [ov] (getMethod ov m pl)
      callWith pos f first (backTo pos (starEach (e :: es) X.env)) (backToKw pos (keywordEach [] X.env))) := by rfl) :
    PE X (.Call (.Attribute o m apos) (e :: es) [] pos) (tCMethG C sp E ta t) := by
  obtain ⟨mc, pr, g, r, c, G⟩ := F.ex
  refine ⟨fun pins s σ H Q I h => ?_⟩
  refine PySem.W.methodCall_KW (pl := pl) (thn (he.run pins s σ H _ I h) fun u s1 ⟨x, H1, I1, rx, ex, q⟩ => ?_) ht
  subst ex
  obtain rfl : u = Value.ref C := rx
  refine ClX.getmethcm_ok I1 r c fun s2 I2 => ?_
  refine ClX.callwith_cm I2 (ClX.base_none I1 (Nat.le_refl _)) c.fi (thn (ha.run pos _ s2 σ H1 _ I2 q) fun us s3 ⟨vs, H2, I3, rv, q2⟩ => ⟨⟨ClX.pin_at I3, I3.kIn⟩, ?_⟩) hst hpl
  have z : wpAny (model X.prog X.w) X.A (call (.ref s1.heap.objs.size) us) (EP X ((s1.heap.objs.size, PySem.W.methodObj (.ref g) (.ref C)) :: pins) σ Q) X.xe s3 :=
    wpAny_call (PySem.W.method_call (ClX.pin_at I3) (run_S (us := .ref C :: us) (vs := .ref C :: vs) G hr (hx σ) I3 (.cons rfl rv) q2))
  exact thn z fun _ _ y => ClX.unpinE y

/-! ### a class, called with n values and keywords ks; the callee any expression that gives the class -/
/-- its __init__ keeps the promise sp at [values, then keywords' values], once the new instance is there -/
structure CtG (P : Program) (w : World) (K : PySem.W.Frag) (mg : Str → Option Value) (base : Heap) (k : Nat) (C : Addr) (n : Nat) (ks : List Str) (sp : List V → List V → Hp → VK → XK → Prop) : Prop where
  ex : ∃ f fd ps spI g gV, Mk K C f ∧ FnOk P w K mg base (L2.CX P w) k f fd ps spI ∧ KBn K fd ps (n + 1) ks g gV ∧
    ∀ vs zs H Q E, sp vs zs H Q E → vs.length = n ∧ zs.length = ks.length ∧ ∀ x dx, H x = none → H dx = none → dx ≠ x → spI (gV (.ref x :: vs) zs) (upd (upd H dx (.own x)) x (.ins C dx [])) (fun v H2 => v = .non ∧ Q (.ref x) H2) E
def tMkG (C : Addr) (sp : List V → List V → Hp → VK → XK → Prop) (E : L2.St → XK) (tf : TE) (t tk : TA) : TE := fun σ H Q => tf σ H fun c H0 => c = .ref C ∧ t σ H0 fun vs H1 => tk σ H1 fun zs H2 => sp vs zs H2 Q (E σ)
variable {n : Nat} {ks : List Str} {spK : List V → List V → Hp → VK → XK → Prop} {tf : TE} {kws : List Keyword}
theorem run_mkG {pins : List (Addr × Obj)} {σ : L2.St} {H : Hp} {s : Shared} {Q : VK} {us ws : List Value} {vs zs : List V} {E : XK} (F : CtG X.prog X.w X.K X.mg X.base k C n ks spK) (hr : Room (k + 1) X.A) (hx : PassesAt (L2.CX X.prog X.w) X σ E)
    (I : Inv X pins σ H s) (r : Vals vs us) (rz : Vals zs ws) (h : spK vs zs H Q E) : wpAny (model X.prog X.w) X.A (call (.ref C) us (ks.zip ws)) (EP X pins σ Q) X.xe s := by
  obtain ⟨f, fd, ps, spI, g, gV, M, G, hb, hsp⟩ := F.ex
  obtain ⟨l1, l2, h⟩ := hsp _ _ _ _ _ h
  have hq := h (s.heap.objs.size + 1) s.heap.objs.size (I.hok.fresh (Nat.le_succ _)) (I.hok.fresh (Nat.le_refl _)) (Nat.ne_of_lt (Nat.lt_succ_self _))
  have I2 := Inv.made (C := C) I
  have r1 : Vals (V.ref (s.heap.objs.size + 1) :: vs) (Value.ref (s.heap.objs.size + 1) :: us) := .cons rfl r
  have r2 := hb.rel r1 rz
  have n1 : (Value.ref (s.heap.objs.size + 1) :: us).length = n + 1 := by
    rw [List.length_cons, ← r.length, l1]
  refine wpAny_call (make_map (f := f) I.kIn M.makes M.init (beq_iff_eq.mp M.fn) (codeAny_mono (G.run _ X.stack _ _ ⟨Value.ref (s.heap.objs.size + 1) :: us, ks.zip ws⟩ (g (Value.ref (s.heap.objs.size + 1) :: us) ws) _ _ E (hr.make C us (ks.zip ws))
    (I2.env0.make C us (ks.zip ws)) (hb.to _ (Value.ref (s.heap.objs.size + 1) :: us) ws I2.kIn n1 (rz.length.symm.trans l2)) r2 hq) fun r s' hq' => ?_))
  cases r with
  | error e => exact hx pins _ _ e s' I2 hq'
  | ok fl =>
    cases fl with
    | ret u =>
      obtain ⟨v, H', I3, rv, ev, q3⟩ := I2.after hq'
      subst ev
      exact ⟨rv, ⟨V.ref (s.heap.objs.size + 1), H', I3, rfl, q3⟩⟩
    | next => exact False.elim hq'
    | brk => exact False.elim hq'
    | cont => exact False.elim hq'
theorem CtG.kp (F : CtG X.prog X.w X.K X.mg X.base k C n ks spK) : PySem.W.keepIn X.K (.ref C) = true := by
  obtain ⟨f, fd, ps, spI, g, gV, M, G, hb, hsp⟩ := F.ex
  exact M.kp
theorem pe_mkG0 (F : CtG X.prog X.w X.K X.mg X.base k C n ks spK) (hr : Room (k + 1) X.A) (hx : ∀ σ, PassesAt (L2.CX X.prog X.w) X σ (E σ)) (hf : PE X (.Name x p) tf) (hkw : PK X kws tk)
    (hall : (backToKw pos (keywordEach kws X.env)).all (·.1.isSome) = true := by rfl) (hks : (backToKw pos (keywordEach kws X.env)).filterMap (·.1) = ks := by rfl)
    (hpl : ((backTo pos (starEach [] X.env)).any (·.1) || (backToKw pos (keywordEach kws X.env)).any (·.1.isNone)) = false := by rfl) :
    PE X (.Call (.Name x p) [] kws pos) (tMkG C spK E tf tNil tk) := by
  refine ⟨fun pins s σ H Q I h => ?_⟩
  refine wpAny_Call_Name_kw (thn (hf.run pins s σ H _ I h) fun u s0 ⟨c, H0, I0, rc, ec, q0⟩ => ?_)
  subst ec
  obtain rfl : u = Value.ref C := rc
  refine PySem.W.callWith_KW0 (h₀ := X.base) I.ok.mod.kin F.kp hall ?_ hpl
  refine thn (hkw.run pos pins s0 σ H0 _ I0 q0) fun ws s2 ⟨zs, H2, I2, rz, q2⟩ => ⟨I2.kIn, ?_⟩
  rw [hks]
  exact run_mkG (us := []) (vs := []) F hr (hx σ) I2 .nil rz q2
theorem pe_mkG (F : CtG X.prog X.w X.K X.mg X.base k C n ks spK) (hr : Room (k + 1) X.A) (hx : ∀ σ, PassesAt (L2.CX X.prog X.w) X σ (E σ)) (hf : PE X (.Name x p) tf) (ha : PA X (e :: es) t) (hkw : PK X kws tk)
    (hall : (backToKw pos (keywordEach kws X.env)).all (·.1.isSome) = true := by rfl) (hks : (backToKw pos (keywordEach kws X.env)).filterMap (·.1) = ks := by rfl)
    (he : starEach (e :: es) X.env = (false, eval e X.env) :: starEach es X.env := by rfl) (hpl : ((backTo pos (starEach (e :: es) X.env)).any (·.1) || (backToKw pos (keywordEach kws X.env)).any (·.1.isNone)) = false := by rfl) :
    PE X (.Call (.Name x p) (e :: es) kws pos) (tMkG C spK E tf t tk) := by
  refine ⟨fun pins s σ H Q I h => ?_⟩
  refine wpAny_Call_Name_kw (thn (hf.run pins s σ H _ I h) fun u s0 ⟨c, H0, I0, rc, ec, q0⟩ => ?_)
  subst ec
  obtain rfl : u = Value.ref C := rc
  refine PySem.W.callWith_KW (h₀ := X.base) I.ok.mod.kin F.kp hall (thn (ha.run pos pins s0 σ H0 _ I0 q0) fun us s1 ⟨vs, H1, I1, r, q⟩ => ?_) hpl he
  refine thn (hkw.run pos pins s1 σ H1 _ I1 q) fun ws s2 ⟨zs, H2, I2, rz, q2⟩ => ⟨I2.kIn, ?_⟩
  rw [hks]
  exact run_mkG F hr (hx σ) I2 r rz q2

/-! ### raise C() of a class without __init__ -/
theorem pmk_own0 {bmB : List Value} {B newId initId : String} (F : ExcBaseFacts B newId initId bmB) (q : PySem.W.excIn X.K C bmB newId = true) (gC : X.mg x = some (.ref C)) (kC : PySem.W.keepIn X.K (.ref C) = true) (r : Raises X (.ref C)) (hg : Gl X x)
    (hdb : (x == ("__debug__" : Str)) = false := by decide) : PMk X (.Call (.Name x p) [] [] pos) (fun _ H Q => Q (.ref C) none H) := by
  intro pins s σ H Q I h
  refine wpAny_Call_Name_kw (ld_glob I hg gC ?_ hdb)
  refine PySem.W.callWith_K0 I.kIn kC ?_
  obtain ⟨bm, N, nm, qn, bs, hdct, sn, sub, ab, col, dd, k0, k1, k2, k3, k5, mN, hC, hN, hni, T⟩ := exc_obj I.kIn q
  refine wpAny_call_exc_subT F T hC hN hni (fun h' e hm => ?_) (by show 0 ≤ sizeLine; exact Nat.zero_le _)
  exact mk_of I hm r h (I.hok.gone hm.new)
end
end MC
set_option maxHeartbeats 4000000
/-! MB8: readings, step by step; what stays of a heap -/
namespace MC
open PySem PySem.Spec PyProof.Rows L2

/-! ### what stays: all but the drawing lists [script, int, int] -/
def stSh : HO → Bool
  | .lst [.ref _, .int _, .int _] => true
  | _ => false
/-- all stays -/
structure Le (H H' : Hp) : Prop where
  at_ : ∀ a o, H a = some o → H' a = some o
  fr : ∀ a, H' a = none → H a = none
theorem Le.refl (H : Hp) : Le H H := ⟨fun _ _ h => h, fun _ h => h⟩
theorem Le.trans {H H1 H2 : Hp} (a : Le H H1) (b : Le H1 H2) : Le H H2 := ⟨fun x o h => b.at_ x o (a.at_ x o h), fun x h => a.fr x (b.fr x h)⟩
theorem Le.new {H : Hp} {p : Addr} {o : HO} (h : H p = none) : Le H (upd H p o) := ⟨fun a u e => by
  rw [upd_ne (ne_of_none e h)]
  exact e, fun a e => by
  by_cases hb : a = p
  · rw [hb]; exact h
  · rwa [upd_ne hb] at e⟩
theorem Le.keep {H H' : Hp} {a : Addr} {o : HO} (e : Le H H') (h : H a = some o) : H' a = some o := e.at_ a o h
/-- all but the drawing lists stays -/
structure Lw (H H' : Hp) : Prop where
  at_ : ∀ a o, H a = some o → stSh o = false → H' a = some o
  fr : ∀ a, H' a = none → H a = none
theorem Lw.refl (H : Hp) : Lw H H := ⟨fun _ _ h _ => h, fun _ h => h⟩
theorem Lw.trans {H H1 H2 : Hp} (a : Lw H H1) (b : Lw H1 H2) : Lw H H2 := ⟨fun x o h s => b.at_ x o (a.at_ x o h s) s, fun x h => a.fr x (b.fr x h)⟩
theorem Le.w {H H' : Hp} (a : Le H H') : Lw H H' := ⟨fun x o h _ => a.at_ x o h, a.fr⟩
theorem Lw.keep {H H' : Hp} {a : Addr} {o : HO} (e : Lw H H') (h : H a = some o) (s : stSh o = false) : H' a = some o := e.at_ a o h s
theorem Lw.st {H : Hp} {s : Addr} {xs ys : List V} (h : H s = some (.lst xs)) (hs : stSh (.lst xs) = true) : Lw H (upd H s (.lst ys)) := ⟨fun a u e hu => by
  by_cases hb : a = s
  · rw [hb, h] at e
    cases e
    rw [hs] at hu
    cases hu
  · rw [upd_ne hb]; exact e, fun a e => by
  by_cases hb : a = s
  · rw [hb, upd_same] at e; cases e
  · rwa [upd_ne hb] at e⟩
theorem sh_str (zs : List Str) : stSh (.lst (zs.map V.str)) = false := by cases zs <;> rfl
theorem sh_ints (zs : List Int) : stSh (.lst (zs.map V.int)) = false := by cases zs <;> rfl
theorem sh_sgns (z : Str) : stSh (.lst (sgns z)) = false := by
  unfold sgns
  cases z.cps.toList <;> rfl
theorem sql {K : PySem.W.Frag} {H : Hp} {a : Addr} {xs : List V} (h : H a = some (.lst xs)) : SqL K H a xs := SqL.of h
theorem sqt {K : PySem.W.Frag} {H : Hp} {a : Addr} {xs : List V} (h : H a = some (.tup xs)) : SqT K H a xs := SqT.of h
theorem szb {n : Nat} (h : n ≤ 1000000) : n ≤ sizeLine := by rw [sizeLine_eq]; omega

/-! ### expressions -/
section
variable {K : PySem.W.Frag} {σ : L2.St} {H : Hp} {ta tb tc te : TE} {t tr : TA} {Q : VK} {v x y : V} {i j : Int} {b : Bool} {z w : Str} {QL : List V → Hp → Prop} {QB : Bool → Hp → Prop} {QO : Option Int → Hp → Prop}
theorem x_var {n : Nat} (h : σ[n]? = some (some v)) (q : Q v H) : tVar n σ H Q := ⟨v, h, q⟩
theorem x_c (q : Q v H) : tC v σ H Q := q
theorem x_op {r : R2} (h : ta σ H fun x H1 => tb σ H1 fun y H2 => r x y H2 Q) : tOp r ta tb σ H Q := h
theorem x_opS {r : R2S} (h : ta σ H fun x H1 => tb σ H1 fun y H2 => r σ x y H2 Q) : tOpS r ta tb σ H Q := h
theorem x_un {r : V → Hp → VK → Prop} (h : ta σ H fun x H1 => r x H1 Q) : tUn r ta σ H Q := h
theorem x_neg (q : Q (.int (-i)) H) : rU (fun i => .int (-i)) (.int i) H Q := ⟨i, rfl, q⟩
def kB (QB : Bool → Hp → Prop) : VK := fun x H => ∃ k, x = .bl k ∧ QB k H
theorem x_kB (q : QB b H) : kB QB (.bl b) H := ⟨b, rfl, q⟩
theorem x_test (h : ta σ H (kB QB)) : tTest ta σ H QB := h
theorem x_tB (h : ta σ H (kB QB)) : tB ta σ H QB := h
theorem x_nil (q : QL [] H) : tNil σ H QL := q
theorem x_cons (h : ta σ H fun x H1 => tr σ H1 fun xs H2 => QL (x :: xs) H2) : tCons ta tr σ H QL := h
def kTup (Q : VK) : List V → Hp → Prop := fun xs H1 => xs.length ≤ sizeLine ∧ ∀ p, H1 p = none → Q (.ref p) (upd H1 p (.tup xs))
theorem x_tup (h : t σ H (kTup Q)) : tTup t σ H Q := h
theorem x_kTup {xs : List V} (hl : xs.length ≤ 1000000) (q : ∀ p H1, H p = none → Le H H1 → H1 p = some (.tup xs) → Q (.ref p) H1) : kTup Q xs H := ⟨szb hl, fun p hp => q p _ hp (Le.new hp) upd_same⟩
def kLst (Q : VK) : List V → Hp → Prop := fun xs H1 => xs.length ≤ sizeLine ∧ ∀ p, H1 p = none → Q (.ref p) (upd H1 p (.lst xs))
theorem x_lst (h : t σ H (kLst Q)) : tLst t σ H Q := h
theorem x_kLst {xs : List V} (hl : xs.length ≤ 1000000) (q : ∀ p H1, H p = none → Le H H1 → H1 p = some (.lst xs) → Q (.ref p) H1) : kLst Q xs H := ⟨szb hl, fun p hp => q p _ hp (Le.new hp) upd_same⟩
/-- an attribute -/
def FldOk (K : PySem.W.Frag) (C : Addr) (f : Str) : Prop := Cls K C ∧ NoAttr K C f
def kFld (K : PySem.W.Frag) (f : Str) (Q : VK) : VK := fun x H1 => ∃ a C dx fs v, x = .ref a ∧ H1 a = some (.ins C dx fs) ∧ Cls K C ∧ NoAttr K C f ∧ fs.lookup f = some v ∧ Q v H1
theorem x_fld {f : Str} (h : ta σ H (kFld K f Q)) : tFld K ta f σ H Q := h
theorem x_kFld {f : Str} {a C dx : Addr} {fs : List (Str × V)} (h : H a = some (.ins C dx fs)) (k : FldOk K C f) (hl : fs.lookup f = some v) (q : Q v H) : kFld K f Q (.ref a) H := ⟨a, C, dx, fs, v, rfl, h, k.1, k.2, hl, q⟩
/-- built-ins, methods of built-ins -/
theorem x_cb {r : List V → Hp → VK → Prop} (h : t σ H fun xs H1 => r xs H1 Q) : tCB r t σ H Q := h
theorem x_call {sp : Sp} {E : L2.St → XK} (h : t σ H fun vs H1 => sp vs H1 Q (E σ)) : tCallS sp E t σ H Q := h
theorem x_callE {a : Addr} {cls : Value} {d : Option Addr} {sp : SpE} (h : t σ H fun vs H1 => sp a cls d vs H1 Q XE0) : tCallE a cls d sp t σ H Q := h
def kMeth (C : Addr) (m : Str) (sp : Sp) (E : L2.St → XK) (t : TA) (σ : L2.St) (Q : VK) : VK := fun x H1 => ∃ a dx fs, x = .ref a ∧ H1 a = some (.ins C dx fs) ∧ fs.lookup m = none ∧ t σ H1 fun vs H2 => sp (.ref a :: vs) H2 Q (E σ)
theorem x_meth {C : Addr} {m : Str} {sp : Sp} {E : L2.St → XK} (h : ta σ H (kMeth C m sp E t σ Q)) : tMethG C m sp E ta t σ H Q := h
theorem x_kMeth {C : Addr} {m : Str} {sp : Sp} {E : L2.St → XK} {a dx : Addr} {fs : List (Str × V)} (h : H a = some (.ins C dx fs)) (hl : fs.lookup m = none) (q : t σ H fun vs H2 => sp (.ref a :: vs) H2 Q (E σ)) : kMeth C m sp E t σ Q (.ref a) H := ⟨a, dx, fs, rfl, h, hl, q⟩
def kCM (C : Addr) (sp : Sp) (E : L2.St → XK) (t : TA) (σ : L2.St) (Q : VK) : VK := fun x H1 => x = .ref C ∧ t σ H1 fun vs H2 => sp (.ref C :: vs) H2 Q (E σ)
theorem x_cm {C : Addr} {sp : Sp} {E : L2.St → XK} (h : ta σ H (kCM C sp E t σ Q)) : tCMethG C sp E ta t σ H Q := h
theorem x_kCM {C : Addr} {sp : Sp} {E : L2.St → XK} (q : t σ H fun vs H2 => sp (.ref C :: vs) H2 Q (E σ)) : kCM C sp E t σ Q (.ref C) H := ⟨rfl, q⟩
def kMk (C : Addr) (sp : List V → List V → Hp → VK → XK → Prop) (E : L2.St → XK) (t tk : TA) (σ : L2.St) (Q : VK) : VK := fun c H0 => c = .ref C ∧ t σ H0 fun vs H1 => tk σ H1 fun zs H2 => sp vs zs H2 Q (E σ)
theorem x_mk {C : Addr} {sp : List V → List V → Hp → VK → XK → Prop} {E : L2.St → XK} {tf : TE} {tk : TA} (h : tf σ H (kMk C sp E t tk σ Q)) : tMkG C sp E tf t tk σ H Q := h
theorem x_kMk {C : Addr} {sp : List V → List V → Hp → VK → XK → Prop} {E : L2.St → XK} {tk : TA} (q : t σ H fun vs H1 => tk σ H1 fun zs H2 => sp vs zs H2 Q (E σ)) : kMk C sp E t tk σ Q (.ref C) H := ⟨rfl, q⟩
def kTy (K : PySem.W.Frag) (T : String) (r : V → List V → Hp → VK → Prop) (t : TA) (σ : L2.St) (Q : VK) : VK := fun x H1 => tyV K T x H1 ∧ t σ H1 fun xs H2 => r x xs H2 Q
theorem x_bm {T : String} {r : V → List V → Hp → VK → Prop} (h : ta σ H (kTy K T r t σ Q)) : tBM K T r ta t σ H Q := h
theorem x_tyL {r : V → List V → Hp → VK → Prop} {p : Addr} {xs : List V} (h : H p = some (.lst xs)) (q : t σ H fun ys H2 => r (.ref p) ys H2 Q) : kTy K "list" r t σ Q (.ref p) H := ⟨Or.inl ⟨rfl, xs, SqL.of h⟩, q⟩
theorem x_tyS {r : V → List V → Hp → VK → Prop} (q : t σ H fun ys H2 => r (.str z) ys H2 Q) : kTy K "str" r t σ Q (.str z) H := ⟨by first | rfl | exact trivial | (show _ ∨ _; exact Or.inl rfl), q⟩
/-- parts of a slice -/
theorem x_np (q : QO none H) : tNoPart σ H QO := q
def kPart (QO : Option Int → Hp → Prop) : VK := fun x H1 => ∃ i, x = .int i ∧ QO (some i) H1
theorem x_part (h : ta σ H (kPart QO)) : tPart ta σ H QO := h
theorem x_kPart (q : QO (some i) H) : kPart QO (.int i) H := ⟨i, rfl, q⟩
theorem x_sl {r : V → Option Int → Option Int → Hp → VK → Prop} {tl th : TO} (h : te σ H fun x H1 => tl σ H1 fun l H2 => th σ H2 fun u H3 => r x l u H3 Q) : L2.tSl r te tl th σ H Q := h
theorem x_slS {lo hi : Option Int} (hz : z.length ≤ 1000000) (q : Q (.str (cutS z lo hi)) H) : rSlU K (.str z) lo hi H Q := Or.inl ⟨z, rfl, szb hz, q⟩
theorem x_slL {lo hi : Option Int} {a : Addr} {xs : List V} (h : SqL K H a xs) (q : ∀ p H1, H p = none → Le H H1 → H1 p = some (.lst (cutV xs lo hi)) → Q (.ref p) H1) : rSlU K (.ref a) lo hi H Q := Or.inr ⟨a, xs, rfl, h, fun p hp => q p _ hp (Le.new hp) upd_same⟩
def kRev (Q : VK) : VK := fun x H1 => ∃ z : Str, x = .str z ∧ z.length ≤ sizeLine ∧ Q (.str (revS z)) H1
theorem x_rev (h : te σ H (kRev Q)) : tRevS te σ H Q := h
theorem x_kRev (hz : z.length ≤ 1000000) (q : Q (.str (revS z)) H) : kRev Q (.str z) H := ⟨z, rfl, szb hz, q⟩
/-- operators -/
theorem x_addI (q : Q (.int (i + j)) H) : rAddU (.int i) (.int j) H Q := Or.inl (Or.inl ⟨i, j, rfl, rfl, q⟩)
theorem x_addS (h : z.length + w.length ≤ 1000000) (q : Q (.str (z ++ w)) H) : rAddU (.str z) (.str w) H Q := Or.inl (Or.inr ⟨z, w, rfl, rfl, szb h, q⟩)
theorem x_addL {a c : Addr} {xs ys : List V} (h1 : H a = some (.lst xs)) (h2 : H c = some (.lst ys)) (hz : xs.length + ys.length ≤ 1000000) (q : ∀ p H1, H p = none → Le H H1 → H1 p = some (.lst (xs ++ ys)) → Q (.ref p) H1) : rAddU (.ref a) (.ref c) H Q :=
  Or.inr ⟨a, c, xs, ys, rfl, rfl, h1, h2, szb hz, fun p hp => q p _ hp (Le.new hp) upd_same⟩
theorem x_I0 {g : Int → Int → V} (q : Q (g i j) H) : rI0 g (.int i) (.int j) H Q := ⟨i, j, rfl, rfl, q⟩
theorem x_I {C : Int → Int → Prop} {g : Int → Int → V} (h : C i j) (q : Q (g i j) H) : rI C g (.int i) (.int j) H Q := ⟨i, j, rfl, rfl, h, q⟩
theorem x_mulI (h : -(2 ^ 64) < i ∧ i < 2 ^ 64) (q : Q (.int (i * j)) H) : rMulU (.int i) (.int j) H Q := Or.inl ⟨i, j, rfl, rfl, .inl h, q⟩
theorem x_mulS (h1 : i < 1000) (h0 : -1000 < i) (hz : z.length ≤ 10000) (q : Q (.str (repS z i)) H) : rMulU (.str z) (.int i) H Q := Or.inr ⟨z, i, rfl, rfl, h1, h0, hz, q⟩
theorem x_eqS (q : Q (.bl (decide (z = w))) H) : rEqU K (.str z) (.str w) H Q := Or.inl ⟨rfl, by
  rw [show decide (V.str z = V.str w) = decide (z = w) from decide_eq_decide.mpr ⟨fun h => by cases h; rfl, fun h => by rw [h]⟩]; exact q⟩
theorem x_eqI (q : Q (.bl (decide (i = j))) H) : rEqU K (.int i) (.int j) H Q := Or.inl ⟨rfl, by
  rw [show decide (V.int i = V.int j) = decide (i = j) from decide_eq_decide.mpr ⟨fun h => by cases h; rfl, fun h => by rw [h]⟩]; exact q⟩
theorem x_eqB {c : Bool} (q : Q (.bl (b == c)) H) : rEqU K (.bl b) (.bl c) H Q := Or.inl ⟨rfl, by
  have e : decide (V.bl b = V.bl c) = (b == c) := by cases b <;> cases c <;> rfl
  rw [e]; exact q⟩
theorem x_neS (q : Q (.bl (!decide (z = w))) H) : rNeU K (.str z) (.str w) H Q := Or.inl ⟨rfl, by
  rw [show decide (V.str z = V.str w) = decide (z = w) from decide_eq_decide.mpr ⟨fun h => by cases h; rfl, fun h => by rw [h]⟩]; exact q⟩
theorem x_neI (q : Q (.bl (!decide (i = j))) H) : rNeU K (.int i) (.int j) H Q := Or.inl ⟨rfl, by
  rw [show decide (V.int i = V.int j) = decide (i = j) from decide_eq_decide.mpr ⟨fun h => by cases h; rfl, fun h => by rw [h]⟩]; exact q⟩
theorem x_neB {c : Bool} (q : Q (.bl (!(b == c))) H) : rNeU K (.bl b) (.bl c) H Q := Or.inl ⟨rfl, by
  have e : decide (V.bl b = V.bl c) = (b == c) := by cases b <;> cases c <;> rfl
  rw [e]; exact q⟩
theorem x_neD {d e : PyData} (h1 : Dp K H x d) (h2 : Dp K H y e) (s1 : SeqAt.shaped d = true) (s2 : SeqAt.shaped e = true) (q : Q (.bl (!PyData.eqv d e)) H) : rNeU K x y H Q := Or.inr ⟨d, e, h1, h2, s1, s2, q⟩
theorem x_eqD {d e : PyData} (h1 : Dp K H x d) (h2 : Dp K H y e) (s1 : SeqAt.shaped d = true) (s2 : SeqAt.shaped e = true) (q : Q (.bl (PyData.eqv d e)) H) : rEqU K x y H Q := Or.inr ⟨d, e, h1, h2, s1, s2, q⟩
theorem x_ltI (q : Q (.bl (decide (i < j))) H) : rLtU (.int i) (.int j) H Q := Or.inl ⟨i, j, rfl, rfl, q⟩
theorem x_ltS (q : Q (.bl (decide (z.cps.toList < w.cps.toList))) H) : rLtU (.str z) (.str w) H Q := Or.inr ⟨z, w, rfl, rfl, q⟩
theorem x_leI (q : Q (.bl (decide (i ≤ j))) H) : rLeU (.int i) (.int j) H Q := Or.inl ⟨i, j, rfl, rfl, q⟩
theorem x_leS (q : Q (.bl (!decide (w.cps.toList < z.cps.toList))) H) : rLeU (.str z) (.str w) H Q := Or.inr ⟨z, w, rfl, rfl, q⟩
/-- p in z, of texts -/
def isIn (p z : Str) : Bool := !(Builtin.Str.occurrences z p 0 z.length 1).isEmpty
def rInT : R2 := fun x y H Q => ∃ i j, x = .str i ∧ y = .str j ∧ Q (.bl (isIn i j)) H
def rNotInT : R2 := fun x y H Q => ∃ i j, x = .str i ∧ y = .str j ∧ Q (.bl (!isIn i j)) H
theorem op_inT {X : Cx} : OpR X (compareOp .In) rInT := op_in_str
theorem op_notInT {X : Cx} : OpR X (compareOp .NotIn) rNotInT := L2.op_notIn_str
theorem x_inT (q : Q (.bl (isIn z w)) H) : rInT (.str z) (.str w) H Q := ⟨z, w, rfl, rfl, q⟩
theorem x_notInT (q : Q (.bl (!isIn z w)) H) : rNotInT (.str z) (.str w) H Q := ⟨z, w, rfl, rfl, q⟩
/-- subscripts -/
theorem x_ixL {p : Addr} {xs : List V} (h : SqL K H p xs) (ha : atI xs i = some v) (q : Q v H) : rIx K (.ref p) (.int i) H Q := Or.inl ⟨p, xs, i, v, rfl, rfl, h, ha, q⟩
theorem x_ixT {p : Addr} {xs : List V} (h : H p = some (.tup xs)) (ha : atI xs i = some v) (q : Q v H) : rIx K (.ref p) (.int i) H Q := Or.inr (Or.inl ⟨p, xs, i, v, rfl, rfl, sqt h, ha, q⟩)
theorem x_ixS {c : Nat} (hz : z.length ≤ 1000000) (ha : atI z.cps.toList i = some c) (q : Q (.str ⟨#[c]⟩) H) : rIx K (.str z) (.int i) H Q := Or.inr (Or.inr ⟨z, i, c, rfl, rfl, szb hz, ha, q⟩)
/-- calls of built-ins -/
def rLenU (K : PySem.W.Frag) : List V → Hp → VK → Prop := fun xs H Q => ∃ x n, xs = [x] ∧ LenV K x H n ∧ Q (.int n) H
theorem call_lenU {X : Cx} : CallR X (.builtin "len") (rLenU X.K) := call_len
theorem x_lenS (hz : z.length ≤ 1000000) (q : Q (.int (z.length : Nat)) H) : rLenU K [.str z] H Q := ⟨_, z.length, rfl, ⟨szb hz, rfl⟩, q⟩
theorem x_lenL {p : Addr} {xs : List V} (h : SqL K H p xs) (q : Q (.int (xs.length : Nat)) H) : rLenU K [.ref p] H Q := ⟨_, xs.length, rfl, Or.inl ⟨xs, h, rfl⟩, q⟩
theorem x_lenT {p : Addr} {xs : List V} (h : H p = some (.tup xs)) (q : Q (.int (xs.length : Nat)) H) : rLenU K [.ref p] H Q := ⟨_, xs.length, rfl, Or.inr ⟨xs, sqt h, rfl⟩, q⟩
def rAbs : List V → Hp → VK → Prop := fun xs H Q => ∃ i, xs = [.int i] ∧ Q (.int (if i < 0 then -i else i)) H
theorem call_absU {X : Cx} : CallR X (.builtin "abs") rAbs := call_abs
theorem x_abs (q : Q (.int (if i < 0 then -i else i)) H) : rAbs [.int i] H Q := ⟨i, rfl, q⟩
def rInt1 : List V → Hp → VK → Prop := fun xs H Q => (∃ i, xs = [.int i] ∧ Q (.int i) H) ∨ ∃ k, xs = [.bl k] ∧ Q (.int (if k then 1 else 0)) H
theorem call_intU {X : Cx} : CallR X (.type "int") rInt1 := call_int1
theorem x_int (q : Q (.int i) H) : rInt1 [.int i] H Q := Or.inl ⟨i, rfl, q⟩
def rListU (K : PySem.W.Frag) : List V → Hp → VK → Prop := fun xs H Q => rListS0 xs H Q ∨ ∃ p ys, xs = [.ref p] ∧ (SqL K H p ys ∨ SqT K H p ys) ∧ ∀ l, H l = none → Q (.ref l) (upd H l (.lst ys))
theorem call_listU {X : Cx} (hc : X.calm = true) : CallR X (.type "list") (rListU X.K) := (call_listS hc).or call_list_of
theorem x_listS (hz : z.cps.size ≤ 1000000) (q : ∀ p H1, H p = none → Le H H1 → H1 p = some (.lst (sgns z)) → Q (.ref p) H1) : rListU K [.str z] H Q := Or.inl ⟨z, rfl, szb hz, fun p hp => q p _ hp (Le.new hp) upd_same⟩
theorem x_listL {a : Addr} {ys : List V} (h : SqL K H a ys) (q : ∀ p H1, H p = none → Le H H1 → H1 p = some (.lst ys) → Q (.ref p) H1) : rListU K [.ref a] H Q := Or.inr ⟨a, ys, rfl, Or.inl h, fun p hp => q p _ hp (Le.new hp) upd_same⟩
theorem x_isi {tt u : Value} (hc : ClsV y u) (ht : TyX K H x tt) (hk : PySem.W.kitOne K tt u = some b) (q : Q (.bl b) H) : rIsi K [x, y] H Q := ⟨x, y, tt, u, b, rfl, hc, ht, hk, q⟩
theorem x_isB {c : Bool} {n : String} (hk : PySem.W.kitOne K (.type "bool") (.type n) = some b) (q : Q (.bl b) H) : rIsi K [.bl c, .ty n] H Q := x_isi (.ty n) (.base (.bl c)) hk q
theorem x_isI {n : String} (hk : PySem.W.kitOne K (.type "int") (.type n) = some b) (q : Q (.bl b) H) : rIsi K [.int i, .ty n] H Q := x_isi (.ty n) (.base (.int i)) hk q
theorem x_isS {n : String} (hk : PySem.W.kitOne K (.type "str") (.type n) = some b) (q : Q (.bl b) H) : rIsi K [.str z, .ty n] H Q := x_isi (.ty n) (.base (.str z)) hk q
theorem x_isT {n : String} {p : Addr} {xs : List V} (h : H p = some (.tup xs)) (hk : PySem.W.kitOne K (.type "tuple") (.type n) = some b) (q : Q (.bl b) H) : rIsi K [.ref p, .ty n] H Q := x_isi (.ty n) (.base (.tup h)) hk q
theorem x_isL {n : String} {p : Addr} {xs : List V} (h : H p = some (.lst xs)) (hk : PySem.W.kitOne K (.type "list") (.type n) = some b) (q : Q (.bl b) H) : rIsi K [.ref p, .ty n] H Q := x_isi (.ty n) (.base (.lst h)) hk q
/-- what isinstance asks of an own class -/
def InsOk (K : PySem.W.Frag) (C : Addr) : Prop := ∀ {H : Hp} {a dx : Addr} {fs : List (Str × V)}, H a = some (.ins C dx fs) → TyOf K H (.ref a) (.ref C)
theorem x_isO {C D dx p : Addr} {fs : List (Str × V)} (h : H p = some (.ins C dx fs)) (k : InsOk K C) (hk : PySem.W.kitOne K (.ref C) (.ref D) = some b) (q : Q (.bl b) H) : rIsi K [.ref p, .ref D] H Q := x_isi (.own D) (.base (k h)) hk q
theorem x_isp {a D : Addr} {d : Option Addr} {cv : Value} (hcv : ∀ u, RelV y u → u = cv) (hd : ∀ dd, d = some dd → ∃ fs, H dd = some (.xd fs)) (hk : PySem.W.kitOne K (.ref D) cv = some b) (q : Q (.bl b) H) : rIsP K D a d [.ref a, y] H Q := ⟨y, cv, b, rfl, hcv, hd, hk, q⟩
theorem x_min {a : Addr} {zs : List Str} (h : H a = some (.lst (zs.map V.str))) (hn : 0 < zs.length) (q : Q (.str (minS zs)) H) : rMinS K [.ref a] H Q := ⟨a, zs, rfl, sql h, hn, q⟩
theorem x_cnt {p : Addr} {ys : List V} (h : H p = some (.lst ys)) (fy : flatV y = true) (fs : ys.all flatV = true) (q : Q (.int ((ys.countP fun z => eqV z y : Nat) : Int)) H) : rCntF K (.ref p) [y] H Q := ⟨p, ys, y, rfl, rfl, sql h, fy, fs, q⟩
def kCV (K : PySem.W.Frag) (f : Str) (Q : VK) : VK := fun x H1 => ∃ C mc v u, x = .ref C ∧ ClX.CRead K C mc ∧ ClX.CVal K C mc f v u ∧ Q v H1
theorem x_cv {f : Str} (h : ta σ H (kCV K f Q)) : ClX.tCVal K ta f σ H Q := h
def CvOk (K : PySem.W.Frag) (C : Addr) (f : Str) (v : V) : Prop := ∃ mc u, ClX.CRead K C mc ∧ ClX.CVal K C mc f v u
theorem x_kCV {f : Str} {C : Addr} (h : CvOk K C f v) (q : Q v H) : kCV K f Q (.ref C) H := by
  obtain ⟨mc, u, h1, h2⟩ := h
  exact ⟨C, mc, v, u, rfl, h1, h2, q⟩
/-- f-strings -/
def tJoined (ts : List TE) : TE := fun σ H Q => tJs ts Str.empty σ H fun out H1 => Q (.str out) H1
theorem pe_joinedU {X : Cx} {v1 v2 : Expr} {rest : List Expr} {ts : List TE} {pos : Pos} (h : PJ X (v1 :: v2 :: rest) ts) : PE X (.JoinedStr (v1 :: v2 :: rest) pos) (tJoined ts) := pe_joined h
def kJs (ts : List TE) (acc : Str) (σ : L2.St) (Q : Str → Hp → Prop) : VK := fun x H1 => ∃ y : Str, x = .str y ∧ (acc ++ y).length ≤ sizeLine ∧ tJs ts (acc ++ y) σ H1 Q
theorem x_joined {ts : List TE} (h : tJs ts Str.empty σ H fun out H1 => Q (.str out) H1) : tJoined ts σ H Q := h
theorem x_js {ts : List TE} {acc : Str} {Qs : Str → Hp → Prop} (h : ta σ H (kJs ts acc σ Qs)) : tJs (ta :: ts) acc σ H Qs := h
theorem x_js0 {acc : Str} {Qs : Str → Hp → Prop} (q : Qs acc H) : tJs [] acc σ H Qs := q
theorem x_kJs {ts : List TE} {acc : Str} {Qs : Str → Hp → Prop} (hz : (acc ++ z).length ≤ 1000000) (q : tJs ts (acc ++ z) σ H Qs) : kJs ts acc σ Qs (.str z) H := ⟨z, rfl, szb hz, q⟩
def kFmt (Q : VK) : VK := fun x H1 => (∃ y : Str, x = .str y ∧ y.length ≤ sizeLine ∧ Q (.str y) H1) ∨ ∃ i : Int, x = .int i ∧ i.natAbs.log2 < 1920 ∧ Q (.str (toString i)) H1
theorem x_fmt (h : te σ H (kFmt Q)) : tFmt te σ H Q := h
theorem x_fmtS (hz : z.length ≤ 1000000) (q : Q (.str z) H) : kFmt Q (.str z) H := Or.inl ⟨z, rfl, szb hz, q⟩
theorem x_fmtI (hz : i.natAbs.log2 < 1920) (q : Q (.str (toString i)) H) : kFmt Q (.int i) H := Or.inr ⟨i, rfl, hz, q⟩
/-- an attribute of the caught exception -/
def kXf (a : Addr) (cls : Value) (d : Option Addr) (C : Addr) (f : Str) (Q : VK) : VK := fun x H1 => x = .ref a ∧ cls = .ref C ∧ ∃ (dd : Addr) (fs : List (Str × V)) (v : V), d = some dd ∧ H1 dd = some (.xd fs) ∧ fs.lookup f = some v ∧ Q v H1
theorem x_xf {a C : Addr} {cls : Value} {d : Option Addr} {f : Str} (h : te σ H (kXf a cls d C f Q)) : tXf a cls d C f te σ H Q := h
theorem x_kXf {a C dd : Addr} {f : Str} {fs : List (Str × V)} (h : H dd = some (.xd fs)) (hl : fs.lookup f = some v) (q : Q v H) : kXf a (.ref C) (some dd) C f Q (.ref a) H := ⟨rfl, rfl, dd, fs, v, rfl, h, hl, q⟩

/-! ### and, or, not: the answer is known before it goes on -/
def EvT (tt : TT) (σ : L2.St) (H : Hp) (b : Bool) : Prop := ∀ H1, Le H H1 → ∀ Q : Bool → Hp → Prop, (∀ H2, Le H1 H2 → Q b H2) → tt σ H1 Q
def EvV (te : TE) (σ : L2.St) (H : Hp) (b : Bool) : Prop := ∀ H1, Le H H1 → ∀ Q : VK, (∀ H2, Le H1 H2 → Q (.bl b) H2) → te σ H1 Q
variable {t1 t2 : TT} {c : Bool}
theorem et_run (h : ∀ H1, Le H H1 → ∀ Q : Bool → Hp → Prop, (∀ H2, Le H1 H2 → Q b H2) → t1 σ H1 Q) : EvT t1 σ H b := h
theorem ev_run (h : ∀ H1, Le H H1 → ∀ Q : VK, (∀ H2, Le H1 H2 → Q (.bl b) H2) → te σ H1 Q) : EvV te σ H b := h
theorem et_and (h1 : EvT t1 σ H b) (h2 : b = true → EvT t2 σ H c) : EvT (tAnd t1 t2) σ H (b && c) := fun H1 e Q q => h1 H1 e _ fun H2 e2 => by
  cases b with
  | true =>
    show t2 σ H2 Q
    exact h2 rfl H2 (e.trans e2) Q fun H3 e3 => q H3 (e2.trans e3)
  | false =>
    show Q false H2
    exact q H2 e2
theorem et_or (h1 : EvT t1 σ H b) (h2 : b = false → EvT t2 σ H c) : EvT (tOr t1 t2) σ H (b || c) := fun H1 e Q q => h1 H1 e _ fun H2 e2 => by
  cases b with
  | true =>
    show Q true H2
    exact q H2 e2
  | false =>
    show t2 σ H2 Q
    exact h2 rfl H2 (e.trans e2) Q fun H3 e3 => q H3 (e2.trans e3)
theorem et_not (h1 : EvT t1 σ H b) : EvT (tNot t1) σ H (!b) := fun H1 e Q q => h1 H1 e _ fun H2 e2 => q H2 e2
theorem et_B (h : EvV te σ H b) : EvT (tB te) σ H b := fun H1 e Q q => h H1 e _ fun H2 e2 => ⟨b, rfl, q H2 e2⟩
theorem et_T (h : EvV te σ H b) : EvT (tTest te) σ H b := fun H1 e Q q => h H1 e _ fun H2 e2 => ⟨b, rfl, q H2 e2⟩
theorem ev_andV (h1 : EvV ta σ H b) (h2 : b = true → EvV tb σ H c) : EvV (tAndV ta tb) σ H (b && c) := fun H1 e Q q => h1 H1 e _ fun H2 e2 => ⟨b, rfl, by
  cases b with
  | true =>
    show tb σ H2 Q
    exact h2 rfl H2 (e.trans e2) Q fun H3 e3 => q H3 (e2.trans e3)
  | false =>
    show Q (.bl false) H2
    exact q H2 e2⟩
theorem ev_orV (h1 : EvV ta σ H b) (h2 : b = false → EvV tb σ H c) : EvV (tOrV ta tb) σ H (b || c) := fun H1 e Q q => h1 H1 e _ fun H2 e2 => ⟨b, rfl, by
  cases b with
  | true =>
    show Q (.bl true) H2
    exact q H2 e2
  | false =>
    show tb σ H2 Q
    exact h2 rfl H2 (e.trans e2) Q fun H3 e3 => q H3 (e2.trans e3)⟩
theorem ev_notV (h1 : EvV ta σ H b) : EvV (tNotV ta) σ H (!b) := fun H1 e Q q => h1 H1 e _ fun H2 e2 => ⟨b, rfl, q H2 e2⟩
theorem et_is (h : EvT t1 σ H b) (e : b = c) : EvT t1 σ H c := e ▸ h
theorem ev_is (h : EvV te σ H b) (e : b = c) : EvV te σ H c := e ▸ h
theorem x_andV (h : EvV (tAndV ta tb) σ H b) (q : ∀ H1, Le H H1 → Q (.bl b) H1) : tAndV ta tb σ H Q := h H (Le.refl H) Q q
theorem x_orV (h : EvV (tOrV ta tb) σ H b) (q : ∀ H1, Le H H1 → Q (.bl b) H1) : tOrV ta tb σ H Q := h H (Le.refl H) Q q
theorem x_notV (h : EvV (tNotV ta) σ H b) (q : ∀ H1, Le H H1 → Q (.bl b) H1) : tNotV ta σ H Q := h H (Le.refl H) Q q
/-- a < b < c -/
def kCh (r' : R2) (tc : TE) (σ : L2.St) (Q : VK) : VK := fun z H3 => ∃ k, z = .bl k ∧ (if k = true then tc σ H3 fun w' H4 => r' y w' H4 Q else Q (.bl false) H3)
theorem ev_chain {r r' : R2} {tx : TE} {x y u : V} (ha : ∀ H1, Le H H1 → ∀ Q : VK, (∀ H2, Le H1 H2 → Q x H2) → ta σ H1 Q) (hb : ∀ H1, Le H H1 → ∀ Q : VK, (∀ H2, Le H1 H2 → Q y H2) → tb σ H1 Q) (hc : ∀ H1, Le H H1 → ∀ Q : VK, (∀ H2, Le H1 H2 → Q u H2) → tx σ H1 Q)
    (h1 : ∀ H1, Le H H1 → ∀ Q : VK, Q (.bl b) H1 → r x y H1 Q) (h2 : ∀ H1, Le H H1 → ∀ Q : VK, Q (.bl c) H1 → r' y u H1 Q) : EvV (tChain r r' ta tb tx) σ H (b && c) := fun H1 e Q q => by
  refine ha H1 e _ fun H2 e2 => hb H2 (e.trans e2) _ fun H3 e3 => h1 H3 ((e.trans e2).trans e3) _ ⟨b, rfl, ?_⟩
  cases b with
  | true =>
    rw [if_pos rfl]
    exact hc H3 ((e.trans e2).trans e3) _ fun H4 e4 => h2 H4 (((e.trans e2).trans e3).trans e4) _ (q H4 ((e2.trans e3).trans e4))
  | false =>
    rw [if_neg Bool.false_ne_true]
    exact q H3 (e2.trans e3)

/-! ### statements -/
variable {D : Ends} {u1 u2 : TS} {tt : TT}
theorem x_seq (h : u1 { D with nx := u2 D } σ H) : tSeq u1 u2 D σ H := h
theorem x_next (q : D.nx σ H) : L2.tNext D σ H := q
theorem x_asg {n : Nat} (h : te σ H fun v H1 => D.nx (σ.set n (some v)) H1) : tAsg te (gName n) D σ H := h
theorem x_drop (h : te σ H fun _ H1 => D.nx σ H1) : tDrop te D σ H := h
theorem x_ret (h : te σ H D.rt) : tRet te D σ H := h
theorem x_if (h : EvT tt σ H b) (h1 : b = true → ∀ H1, Le H H1 → u1 D σ H1) (h2 : b = false → ∀ H1, Le H H1 → u2 D σ H1) : tIfS tt u1 u2 D σ H := h H (Le.refl H) _ fun H1 e => by
  cases b with
  | true =>
    rw [if_pos rfl]
    exact h1 rfl H1 e
  | false =>
    rw [if_neg Bool.false_ne_true]
    exact h2 rfl H1 e
theorem x_yes (h : EvT tt σ H true) (q : ∀ H1, Le H H1 → u1 D σ H1) : tIfS tt u1 u2 D σ H := x_if h (fun _ => q) fun z => Bool.noConfusion z
theorem x_no (h : EvT tt σ H false) (q : ∀ H1, Le H H1 → u2 D σ H1) : tIfS tt u1 u2 D σ H := x_if h (fun z => Bool.noConfusion z) fun _ => q
def kIf (u1 u2 : TS) (D : Ends) (σ : L2.St) : Bool → Hp → Prop := fun b H1 => if b = true then u1 D σ H1 else u2 D σ H1
theorem x_ifK (h : tt σ H (kIf u1 u2 D σ)) : tIfS tt u1 u2 D σ H := h
theorem x_kIf {b : Bool} (h1 : b = true → u1 D σ H) (h2 : b = false → u2 D σ H) : kIf u1 u2 D σ b H := by
  unfold kIf
  cases b with
  | true => rw [if_pos rfl]; exact h1 rfl
  | false => rw [if_neg Bool.false_ne_true]; exact h2 rfl
def kAnd (t2 : TT) (σ : L2.St) (QB : Bool → Hp → Prop) : Bool → Hp → Prop := fun c H1 => if c = true then t2 σ H1 QB else QB false H1
theorem x_andW {t1 t2 : TT} (h : t1 σ H (kAnd t2 σ QB)) : tAnd t1 t2 σ H QB := h
theorem x_kAnd {t2 : TT} {b : Bool} (h1 : b = true → t2 σ H QB) (h2 : b = false → QB false H) : kAnd t2 σ QB b H := by
  unfold kAnd
  cases b with
  | true => rw [if_pos rfl]; exact h1 rfl
  | false => rw [if_neg Bool.false_ne_true]; exact h2 rfl
/-- o[i] = e, o a list -/
theorem x_setL {to ti : TE} (h : te σ H fun v H1 => to σ H1 fun o H2 => ti σ H2 fun i H3 => rSetL o i v H3 fun H4 => D.nx σ H4) : tAsg te (gSub to ti rSetL) D σ H := h
theorem x_rSetL {p : Addr} {xs : List V} {n : Nat} {QH : Hp → Prop} (h : H p = some (.lst xs)) (hn : ixN xs.length i = some n) (q : QH (upd H p (.lst (xs.set n v)))) : rSetL (.ref p) (.int i) v H QH := ⟨p, xs, i, n, rfl, rfl, h, hn, q⟩
/-- xs.append(e) -/
theorem x_app {p : Addr} {xs : List V} (h : H p = some (.lst xs)) (hz : xs.length < 1000000) (q : Q .non (upd H p (.lst (xs ++ [v])))) : rAppend (.ref p) [v] H Q := ⟨p, xs, v, rfl, rfl, h, Nat.lt_of_lt_of_le hz (szb (Nat.le_refl _)), q⟩
end
end MC
set_option maxHeartbeats 4000000
/-! MB9: own special methods by bundles; loops and comprehensions, step by step -/
namespace MC
open PySem PySem.Spec PyProof.Rows L2

/-- an own special method with its promise -/
structure OpG (P : Program) (w : World) (K : PySem.W.Frag) (mg : Str → Option Value) (base : Heap) (k : Nat) (C : Addr) (m : Str) (sp : Sp) : Prop where
  ex : ∃ f fd ps, FnOk P w K mg base (L2.CX P w) k f fd ps sp ∧ Binds K fd ps [] ∧ Spec K C m f ∧ PySem.W.fnIn K f = true
section
variable {X : Cx} {k : Nat} {C : Addr} {sp spI spL : Sp} {W : WX} {a b : Expr} {ta tb : TE} {pos : Pos}
theorem call_lenG (F : OpG X.prog X.w X.K X.mg X.base k C "__len__" sp) (hr : Room (k + 1) X.A) : CallR X (.builtin "len") (rLenO C sp) := by
  obtain ⟨f, fd, ps, G, b, S, _⟩ := F.ex
  exact call_lenO G b S hr
theorem call_strG (F : OpG X.prog X.w X.K X.mg X.base k C "__str__" sp) (hr : Room (k + 2) X.A) : CallR X (.type "str") (rStrO C sp) := by
  obtain ⟨f, fd, ps, G, b, S, _⟩ := F.ex
  exact call_strO G b S hr
theorem call_listG (F : OpG X.prog X.w X.K X.mg X.base k C "__iter__" spI) (F2 : OpG X.prog X.w X.K X.mg X.base k C "__len__" spL) (hc : X.calm = true) (hr : Room (k + 3) X.A) : CallR X (.type "list") (rListO C spI spL) := by
  obtain ⟨f, fd, ps, G, b, S, _⟩ := F.ex
  obtain ⟨f2, fd2, ps2, G2, b2, S2, _⟩ := F2.ex
  exact call_listO G b S G2 b2 S2 hc hr
theorem op_inG (F : OpG X.prog X.w X.K X.mg X.base k C "__contains__" sp) (hr : Room k X.A) : OpR X (compareOp .In) (rInO C sp) := by
  obtain ⟨f, fd, ps, G, b, S, _⟩ := F.ex
  exact op_inO G b S hr
theorem op_eqG (F : OpG X.prog X.w X.K X.mg X.base k C "__eq__" sp) (hr : Room k X.A) : OpR X (compareOp .Eq) (rEqO X.K C sp) := by
  obtain ⟨f, fd, ps, G, b, S, _⟩ := F.ex
  exact op_eqO G b S hr
theorem op_addG (F : OpG X.prog X.w X.K X.mg X.base k C "__add__" sp) (hc : PySem.W.selfFirst X.K C = true) (hr : Room k X.A) (tk : Takes X W) : OpRS X (binaryOp .Add) (rBinO C sp W) := by
  obtain ⟨f, fd, ps, G, b, S, _⟩ := F.ex
  exact op_binO (op := .Add) G b S hc hr tk
theorem op_shrG (F : OpG X.prog X.w X.K X.mg X.base k C "__rshift__" sp) (hc : BinI X.K C .RShift) (hr : Room k X.A) (tk : Takes X W) : OpRS X (binaryOp .RShift) (rBinI C sp W) := by
  obtain ⟨f, fd, ps, G, b, S, _⟩ := F.ex
  exact op_binI (op := .RShift) G b S hc hr tk
theorem pe_subG (F : OpG X.prog X.w X.K X.mg X.base k C "__getitem__" sp) (hr : Room (k + 1) X.A) (tk : Takes X W) (ha : PE X a ta) (hi : PE X b tb)
    (hsl : ∀ x i, subscripted b true x i = runValue (.builtin "lifetime.subscript" ⟨[x, i], []⟩) := by intro _ _; with_unfolding_all rfl) : PE X (.Subscript a b pos) (tOpS (rSubO C sp W) ta tb) := by
  obtain ⟨f, fd, ps, G, b, S, fi⟩ := F.ex
  exact pe_subO G b S fi hr tk ha hi hsl
end
section
variable {K : PySem.W.Frag} {σ : L2.St} {H : Hp} {Q : VK} {C a dx : Addr} {fs : List (Str × V)} {sp spI spL : Sp} {y : V} {W : WX}
theorem x_lenO (h : H a = some (.ins C dx fs)) (q : sp [.ref a] H (fun v H' => ∃ n : Int, v = .int n ∧ (0 ≤ n ∧ n < 2 ^ 63) ∧ Q (.int n) H') XE0) : rLenO C sp [.ref a] H Q := ⟨a, dx, fs, rfl, h, q⟩
theorem x_strO (h : H a = some (.ins C dx fs)) (q : sp [.ref a] H (fun v H' => ∃ z : Str, v = .str z ∧ Q (.str z) H') XE0) : rStrO C sp [.ref a] H Q := ⟨a, dx, fs, rfl, h, q⟩
theorem x_inO (h : H a = some (.ins C dx fs)) (q : sp [.ref a, y] H (fun v H' => ∃ b : Bool, v = .bl b ∧ Q (.bl b) H') XE0) : rInO C sp y (.ref a) H Q := ⟨a, dx, fs, rfl, h, q⟩
theorem x_eqO {tb : Value} (h : H a = some (.ins C dx fs)) (t : TyOf K H y tb) (n : PySem.W.notFirst K C tb = true) (q : sp [.ref a, y] H (fun v H' => ∃ b : Bool, v = .bl b ∧ Q (.bl b) H') XE0) : rEqO K C sp (.ref a) y H Q := ⟨a, dx, fs, tb, rfl, h, t, n, q⟩
theorem x_binO {b dy : Addr} {gs : List (Str × V)} (h : H a = some (.ins C dx fs)) (h2 : H b = some (.ins C dy gs)) (q : sp [.ref a, .ref b] H (fun v H' => v ≠ .non ∧ Q v H') (WE W σ)) : rBinO C sp W σ (.ref a) (.ref b) H Q := ⟨a, b, dx, dy, fs, gs, rfl, rfl, h, h2, q⟩
theorem x_binI {i : Int} (h : H a = some (.ins C dx fs)) (q : sp [.ref a, .int i] H Q (WE W σ)) : rBinI C sp W σ (.ref a) (.int i) H Q := ⟨a, i, dx, fs, rfl, rfl, h, q⟩
theorem x_subO (h : H a = some (.ins C dx fs)) (q : sp [.ref a, y] H Q (WE W σ)) : rSubO C sp W σ (.ref a) y H Q := ⟨a, dx, fs, rfl, h, q⟩

/-! ### loops: Pv i what holds ahead of turn i -/
variable {D : Ends} {tu : TS} {t : TA} {tl te : TE} {n lo hi : Int} {j : Nat} {R : It → Hp → Prop} {g : TG} {tt : TT} {vs : List Nat} {wi : TI}
def kFor (g : TG) (tb : TS) (D : Ends) (σ : L2.St) : It → Hp → Prop := fun J H1 => ∃ W : Nat → Nat → L2.St → Hp → Prop, (∃ m, W 0 m σ H1) ∧ ∀ i m σ H, W i m σ H →
  (J.stop i H ∧ D.nx σ H) ∨ (J.go i H ∧ ∃ N : L2.St → Hp → Prop, (∀ σ' H', N σ' H' → ∃ m', m' < m ∧ W (i + 1) m' σ' H') ∧ ∀ x H', J.yld i H x H' → g x σ H' fun σ2 H2 => tb { D with nx := N, ct := N, bk := D.nx } σ2 H2)
theorem x_for (h : wi σ H (kFor g tu D σ)) : tFor wi g tu D σ H := h
def kR1 (R : It → Hp → Prop) : List V → Hp → Prop := fun vs H1 => ∃ j : Int, vs = [.int j] ∧ -(2 ^ 62) ≤ j ∧ j < 2 ^ 62 ∧ R (Itr 0 j.toNat) H1
theorem x_r1 (h : t σ H (kR1 R)) : iRng1 t σ H R := h
def kR2 (R : It → Hp → Prop) : List V → Hp → Prop := fun vs H1 => ∃ i j : Int, vs = [.int i, .int j] ∧ (-(2 ^ 62) ≤ i ∧ i < 2 ^ 62 ∧ -(2 ^ 62) ≤ j ∧ j < 2 ^ 62) ∧ R (Itr i (j - i).toNat) H1
theorem x_r2 (h : t σ H (kR2 R)) : iRng2 t σ H R := h
def kIL (K : PySem.W.Frag) (R : It → Hp → Prop) : VK := fun x H1 => ∃ a, x = .ref a ∧ (∃ xs, SqL K H1 a xs) ∧ R (Itl K a) H1
theorem x_il (h : tl σ H (kIL K R)) : iList K tl σ H R := h
/-- for x in range(n) -/
theorem x_for1 (hn : -(2 ^ 62) ≤ n ∧ n < 2 ^ 62) (Pv : Nat → L2.St → Hp → Prop) (h0 : Pv 0 σ H) (hs : ∀ (i : Nat) σ' H', (i : Int) < n → Pv i σ' H' → tu { D with nx := Pv (i + 1), ct := Pv (i + 1), bk := D.nx } (σ'.set j (some (.int (i : Nat)))) H')
    (hd : ∀ σ' H', Pv n.toNat σ' H' → D.nx σ' H') : kR1 (kFor (gName j) tu D σ) [.int n] H :=
  ⟨n, rfl, hn.1, hn.2, for_range (lo := 0) (n := n.toNat) (g := gName j) Pv h0 (fun i σ' H' hi p => by
      have e0 : (0 : Int) + (i : Int) = (i : Int) := Int.zero_add _
      show tu { D with nx := Pv (i + 1), ct := Pv (i + 1), bk := D.nx } (σ'.set j (some (.int ((0 : Int) + (i : Int))))) H'
      rw [e0]
      exact hs i σ' H' (by omega) p) hd⟩
theorem x_for2 (hn : -(2 ^ 62) ≤ lo ∧ lo < 2 ^ 62 ∧ -(2 ^ 62) ≤ n ∧ n < 2 ^ 62) (Pv : Nat → L2.St → Hp → Prop) (h0 : Pv 0 σ H) (hs : ∀ (i : Nat) σ' H', lo + (i : Int) < n → Pv i σ' H' → tu { D with nx := Pv (i + 1), ct := Pv (i + 1), bk := D.nx } (σ'.set j (some (.int (lo + (i : Nat))))) H')
    (hd : ∀ σ' H', Pv (n - lo).toNat σ' H' → D.nx σ' H') : kR2 (kFor (gName j) tu D σ) [.int lo, .int n] H :=
  ⟨lo, n, rfl, hn, for_range (lo := lo) (n := (n - lo).toNat) (g := gName j) Pv h0 (fun i σ' H' hi p => hs i σ' H' (by omega) p) hd⟩
/-- for x in xs -/
theorem x_forL {p : Addr} {xs : List V} (h : SqL K H p xs) (Pv : Nat → L2.St → Hp → Prop) (h0 : Pv 0 σ H) (hl : ∀ i σ' H', i ≤ xs.length → Pv i σ' H' → SqL K H' p xs) (hs : ∀ i x σ' H', xs[i]? = some x → Pv i σ' H' → tu { D with nx := Pv (i + 1), ct := Pv (i + 1), bk := D.nx } (σ'.set j (some x)) H')
    (hd : ∀ σ' H', Pv xs.length σ' H' → D.nx σ' H') : kIL K (kFor (gName j) tu D σ) (.ref p) H :=
  ⟨p, rfl, ⟨xs, h⟩, for_list (g := gName j) Pv h0 hl hs hd⟩
/-- for i, c in enumerate(text) -/
def kEn (R : It → Hp → Prop) : List V → Hp → Prop := fun vs H1 => ∃ z : Str, vs = [.str z] ∧ R (ItT z.cps.size fun i => [.int (i : Nat), sgn z i]) H1
theorem x_en (h : t σ H (kEn R)) : iEnumS t σ H R := h
theorem x_forE {z : Str} (Pv : Nat → L2.St → Hp → Prop) (h0 : Pv 0 σ H) (hs : ∀ (i : Nat) T σ' H' H2, i < z.cps.size → Pv i σ' H' → Le H' H2 → H2 T = some (.tup [.int (i : Nat), sgn z i]) → g (.ref T) σ' H2 fun σ2 H2 => tu { D with nx := Pv (i + 1), ct := Pv (i + 1), bk := D.nx } σ2 H2)
    (hd : ∀ σ' H', Pv z.cps.size σ' H' → D.nx σ' H') : kEn (kFor g tu D σ) [.str z] H :=
  ⟨z, rfl, for_it (walk_T (n := z.cps.size) (Y := fun i => [.int (i : Nat), sgn z i])) Pv h0 (fun _ _ _ _ _ => trivial) (fun i x σ' H' H2 hi p y => by
    obtain ⟨T, rfl, hT, rfl⟩ := y
    exact hs i T σ' H' _ hi p (Le.new hT) upd_same) hd⟩
/-- [e for x in range(n)], texts, no test -/
def kLc (g : TG) (tt : TT) (te : TE) (vs : List Nat) (σ : L2.St) (Q : VK) : It → Hp → Prop := fun J H1 => ∀ D, H1 D = none → ∃ W : Nat → Nat → Hp → Prop, (∃ m, W 0 m (upd H1 D (.lst []))) ∧ ∀ i m H, W i m H →
  (J.stop i H ∧ Q (.ref D) H) ∨ (J.go i H ∧ ∃ Nx : Hp → Prop, (∀ H', Nx H' → ∃ m', m' < m ∧ W (i + 1) m' H') ∧ ∀ x H', J.yld i H x H' → g x (wipe σ vs) H' fun σ2 H2 => wipe σ2 vs = wipe σ vs ∧ tt σ2 H2 fun b H3 =>
    if b = true then te σ2 H3 fun y H4 => ∃ acc, H4 D = some (.lst acc) ∧ acc.length < sizeLine ∧ Nx (upd H4 D (.lst (acc ++ [y]))) else Nx H3)
theorem x_lc (h : wi σ H (kLc g tt te vs σ Q)) : tLc wi g tt te vs σ H Q := h
theorem le_own {H H' : Hp} {p : Addr} {o : HO} (e : Le H H') (h : H p = none) : Le H (upd H' p o) := ⟨fun a u ha => by
  rw [upd_ne (ne_of_none ha h)]
  exact e.at_ a u ha, fun a ha => by
  by_cases hb : a = p
  · rw [hb]; exact h
  · rw [upd_ne hb] at ha; exact e.fr a ha⟩
theorem x_lcR {f : Nat → Str} (hn : n ≤ 1000000 ∧ -1000000 ≤ n) (hw : ∀ x, wipe ((wipe σ vs).set j x) vs = wipe σ vs) (he : ∀ (i : Nat) H', (i : Int) < n → Le H H' → ∀ Qe : VK, (∀ H2, Le H' H2 → Qe (.str (f i)) H2) → te ((wipe σ vs).set j (some (.int (i : Nat)))) H' Qe)
    (q : ∀ p H1, H p = none → Le H H1 → H1 p = some (.lst (((List.range n.toNat).map f).map V.str)) → Q (.ref p) H1) : kR1 (kLc (gName j) tYes te vs σ Q) [.int n] H := by
  refine ⟨n, rfl, by omega, by omega, fun D hD => lc_range (lo := 0) (n := n.toNat) (g := gName j) (Qd := fun H => Q (.ref D) H) (fun i H' => Le H H' ∧ H' D = some (.lst (((List.range i).map f).map V.str))) ⟨le_own (Le.refl H) hD, upd_same⟩ (fun i H' hi p => ?_) fun H' p => q D H' hD p.1 p.2⟩
  have e0 : (0 : Int) + (i : Int) = (i : Int) := Int.zero_add _
  rw [e0]
  refine ⟨hw _, ?_⟩
  simp only [tYes, if_true]
  refine he i H' (by omega) p.1 _ fun H2 e2 => ⟨_, e2.keep p.2, ?_, le_own (p.1.trans e2) hD, ?_⟩
  · rw [List.length_map, List.length_map, List.length_range, sizeLine_eq]; omega
  · rw [upd_same, List.range_succ, List.map_append, List.map_append]; rfl
end
end MC
set_option maxHeartbeats 4000000
/-! MB10: raise C(e) of a class whose __init__ says super().__init__(f"..") and self.f = e, e an int; raise C() -/
namespace MC
open PySem PySem.Spec PyProof.Rows L2

/-- what such an __init__ promises -/
def sp_exi (C : Addr) (f : Str) : Sp := fun vs H Q E => ∃ (e : Addr) (i : Int), vs = [.ref e, .int i] ∧ i.natAbs.log2 < 1000 ∧ H e = some (exo e C none) ∧
  ∀ dx, H dx = none → dx ≠ e → Q .non (upd (upd H dx (exd dx [(f, .int i)])) e (exo e C (some dx)))
structure ExG (P : Program) (w : World) (K : PySem.W.Frag) (mg : Str → Option Value) (base : Heap) (k : Nat) (x : Str) (C : Addr) (f : Str) : Prop where
  gl : mg x = some (.ref C)
  oex : OexC K C
  ex : ∃ fI fd ps, FnOk P w K mg base (L2.CX P w) k fI fd ps (sp_exi C f) ∧ Binds K fd ps [] ∧ PySem.W.findIn K (.ref C) "__init__" = some (some (.ref fI)) ∧ PySem.W.typeIn K (.ref fI) = some (.type "function")
section
variable {X : Cx} {k : Nat} {C : Addr} {x f : Str} {e : Expr} {es : List Expr} {p pos : Pos} {t : TA} {W : WX}
theorem pmk_exG (F : ExG X.prog X.w X.K X.mg X.base k x C f) (hr : Room (k + 1) X.A) (hg : Gl X x) (ha : PA X (e :: es) t) (hdb : (x == ("__debug__" : Str)) = false := by decide)
    (he : starEach (e :: es) X.env = (false, eval e X.env) :: starEach es X.env := by rfl) (hpl : (backTo pos (starEach es X.env)).any (·.1) = false := by rfl) :
    PMk X (.Call (.Name x p) (e :: es) [] pos) (tMkO C (sp_exi C f) [] t) := by
  obtain ⟨fI, fd, ps, G, b, iC, tI⟩ := F.ex
  exact pmk_oex (p := p) (pos := pos) (dvs := []) F.oex iC tI G hr b .nil (fun pins σ H s e s' I h => pass_none pins H s e s' I h) hg F.gl ha hdb he hpl
/-- raise .. -/
def tRse (W : WX) (m : L2.St → Hp → XK → Prop) : TS := fun _ σ H => m σ H fun cls d H' => W cls d σ H'
theorem ps_rse {m : L2.St → Hp → XK → Prop} (hc : X.calm = true) (tk : Takes X W) (he : PMk X e m) : PS X (.Raise (some e) none pos) (tRse W m) := ps_raise hc tk he
/-- C(), C without __init__ -/
structure Ex0 (K : PySem.W.Frag) (mg : Str → Option Value) (x : Str) (C : Addr) : Prop where
  gl : mg x = some (.ref C)
  kp : PySem.W.keepIn K (.ref C) = true
  ex : PySem.W.excIn K C [.type "ValueError", .type "Exception", .type "BaseException", .type "object"] "ValueError.__new__" = true
  su : PySem.W.subIn K (.ref C) (.type "BaseException") = some true
  ty : PySem.W.typeIn K (.ref C) = some (.type "type")
def tEx0 (C : Addr) : L2.St → Hp → XK → Prop := fun _ H Q => Q (.ref C) none H
theorem pmk_ex0 (F : Ex0 X.K X.mg x C) (hg : Gl X x) (hdb : (x == ("__debug__" : Str)) = false := by decide) : PMk X (.Call (.Name x p) [] [] pos) (tEx0 C) :=
  pmk_own0 PySem.F.excBase_ValueError F.ex F.gl F.kp (raises_own F.su F.ty) hg hdb
end
section
variable {σ : L2.St} {H : Hp} {t : TA} {C : Addr} {f : Str} {E : XK} {W : WX} {D : Ends} {i : Int}
theorem x_rse {m : L2.St → Hp → XK → Prop} (h : m σ H fun cls d H' => W cls d σ H') : tRse W m D σ H := h
def kEx (C : Addr) (f : Str) (E : XK) : List V → Hp → Prop := fun vs H1 => vs.length ≤ 1000 ∧ ∀ a, H1 a = none → sp_exi C f (.ref a :: (vs ++ [])) (upd H1 a (exo a C none))
  (fun v H2 => v = .non ∧ ∃ (d : Addr) (fs : List (Str × V)), H2 a = some (exo a C (some d)) ∧ H2 d = some (exd d fs) ∧ H1 d = none ∧ E (.ref C) (some d) (upd (del H2 a) d (.xd fs))) (fun _ _ _ => False)
theorem x_ex (h : t σ H (kEx C f E)) : tMkO C (sp_exi C f) [] t σ H E := h
theorem x_kEx (hi : i.natAbs.log2 < 1000) (q : ∀ d H2, Le H H2 → H2 d = some (.xd [(f, .int i)]) → E (.ref C) (some d) H2) : kEx C f E [.int i] H := by
  refine ⟨by show 1 ≤ 1000; decide, fun a ha => ⟨a, i, rfl, hi, upd_same, fun dx hdx hne => ⟨rfl, dx, _, upd_same, by rw [upd_ne hne, upd_same], by rwa [upd_ne hne] at hdx, ?_⟩⟩⟩
  have hdx1 : H dx = none := by rwa [upd_ne hne] at hdx
  refine q dx _ ⟨fun b o hb => ?_, fun b hb => ?_⟩ upd_same
  · have n1 : b ≠ dx := ne_of_none hb hdx1
    have n2 : b ≠ a := ne_of_none hb ha
    rw [upd_ne n1, del_ne n2, upd_ne n2, upd_ne n1, upd_ne n2]
    exact hb
  · by_cases n1 : b = dx
    · rw [n1]; exact hdx1
    · rw [upd_ne n1] at hb
      by_cases n2 : b = a
      · rw [n2]; exact ha
      · rw [del_ne n2, upd_ne n2, upd_ne n1, upd_ne n2] at hb
        exact hb
theorem x_ex0 (q : E (.ref C) none H) : tEx0 C σ H E := q
/-- self.f = e in such an __init__ -/
theorem x_ost {K : PySem.W.Frag} {to te : TE} (h : te σ H fun y H1 => to σ H1 fun x H2 => ∃ a C : Addr, x = .ref a ∧ OexC K C ∧ PySem.W.findIn K (.ref C) f = some none ∧
  ((H2 a = some (exo a C none) ∧ ∀ dx, H2 dx = none → dx ≠ a → D.nx σ (upd (upd H2 dx (exd dx [(f, y)])) a (exo a C (some dx)))) ∨
    ∃ (dx : Addr) (fs : List (Str × V)), H2 a = some (exo a C (some dx)) ∧ H2 dx = some (exd dx fs) ∧ fs.length ≤ 900 ∧ D.nx σ (upd H2 dx (exd dx ((f, y) :: fs))))) : tOst K f to te D σ H := h
end
end MC
set_option maxHeartbeats 4000000
/-! MB11: list(range(..)), str(text), join; defs within a suite, by bundles -/
namespace MC
open PySem PySem.Spec PyProof.Rows L2
section
variable {X : Cx}
def rListR : List V → Hp → VK → Prop := fun xs H Q => ∃ p lo hi, xs = [.ref p] ∧ H p = some (.rng lo hi) ∧ (-1000000 < lo ∧ lo < 1000000 ∧ -1000000 < hi ∧ hi < 1000000) ∧ ∀ l, H l = none → Q (.ref l) (upd H l (.lst ((List.range (hi - lo).toNat).map fun (i : Nat) => .int (lo + (i : Int)))))
theorem call_listR (hc : X.calm = true) : CallR X (.type "list") rListR := by
  intro pins s σ H xs us Q I rv h
  obtain ⟨p, lo, hi, rfl, hp, hb, q⟩ := h
  obtain ⟨u, rfl, ru⟩ := rv.one
  cases ru
  obtain ⟨t, u, v, hr⟩ := (show ∃ t u v, s.heap.get? p = some { cls := .type "range", data := .fields #[.int lo t, .int hi u, .int 1 v] } from I.hok p _ hp)
  refine call_list_range (n := (hi - lo).toNat) (I.ok.hd hc) hr (small_one (by omega) (by omega) (by omega) (by omega)) (rangeSize_nat lo hi) (by omega) fun h' tk acc' c' k e it => ?_
  have hv : Vals ((List.range (hi - lo).toNat).map fun (i : Nat) => V.int (lo + (i : Int))) acc'.toList := by
    refine vals_of (by rw [List.length_map, List.length_range, Array.length_toList, it.1]) fun i x w h1 h2 => ?_
    obtain ⟨t, e2⟩ := it.2 i w (by simpa using h2)
    rw [List.getElem?_map] at h1
    cases e3 : (List.range (hi - lo).toNat)[i]? with
    | none => rw [e3] at h1; cases h1
    | some j =>
      rw [e3] at h1
      have : j = i := by
        have := List.getElem?_eq_some_iff.mp e3
        obtain ⟨h5, h6⟩ := this
        rw [List.getElem_range] at h6
        exact h6.symm
      subst this
      cases h1
      exact ⟨t, by rw [e2, Int.mul_one]⟩
  exact ⟨.ref _, _, I.laid (t' := tk) (a := s.heap.objs.size) (o := .lst ((List.range (hi - lo).toNat).map fun (i : Nat) => V.int (lo + (i : Int)))) k (Nat.le_refl _) ⟨by rw [List.length_map, List.length_range, sizeLine_eq]; omega, acc'.toList, c', hv, e⟩, rfl, q _ (I.hok.fresh (Nat.le_refl _))⟩
def rRng2 : List V → Hp → VK → Prop := fun vs H Q => ∃ i j, vs = [V.int i, V.int j] ∧ ∀ p, H p = none → Q (.ref p) (upd H p (.rng i j))
theorem call_rng2 : CallR X (.type "range") rRng2 := cr_range2
def rStrS : List V → Hp → VK → Prop := fun xs H Q => ∃ a, xs = [.str a] ∧ Q (.str a) H
theorem call_strS : CallR X (.type "str") rStrS := SkE.call_str_str
def rJoin (K : PySem.W.Frag) : V → List V → Hp → VK → Prop := fun x xs H Q => ∃ a p, ∃ ys : List Str, x = .str a ∧ xs = [.ref p] ∧ (SqL K H p (ys.map V.str) ∨ SqT K H p (ys.map V.str)) ∧
    (ys.map (·.length)).sum + ys.length * a.length ≤ 16777216 ∧ Q (.str (Txt.join a ys)) H
theorem mt_joinU : MtR X "str.join" (rJoin X.K) := mt_join
end
section
variable {K : PySem.W.Frag} {H : Hp} {Q : VK} {lo hi : Int} {z : Str} {x y : V}
theorem x_listR {p : Addr} (h : H p = some (.rng lo hi)) (hb : -1000000 < lo ∧ lo < 1000000 ∧ -1000000 < hi ∧ hi < 1000000) (q : ∀ l H1, H l = none → Le H H1 → H1 l = some (.lst ((List.range (hi - lo).toNat).map fun (i : Nat) => V.int (lo + (i : Int)))) → Q (.ref l) H1) : rListR [.ref p] H Q :=
  ⟨p, lo, hi, rfl, h, hb, fun l hl => q l _ hl (Le.new hl) upd_same⟩
theorem x_rng2 (q : ∀ p H1, H p = none → Le H H1 → H1 p = some (.rng lo hi) → Q (.ref p) H1) : rRng2 [.int lo, .int hi] H Q := ⟨lo, hi, rfl, fun p hp => q p _ hp (Le.new hp) upd_same⟩
theorem x_strS (q : Q (.str z) H) : rStrS [.str z] H Q := ⟨z, rfl, q⟩
theorem x_join {p : Addr} {ys : List Str} (h : H p = some (.lst (ys.map V.str))) (hz : (ys.map (·.length)).sum + ys.length * z.length ≤ 1000000) (q : Q (.str (Txt.join z ys)) H) : rJoin K (.str z) [.ref p] H Q := ⟨z, p, ys, rfl, rfl, Or.inl (sql h), by omega, q⟩
theorem x_eqF (h : scal x y = true) (q : Q (.bl (decide (x = y))) H) : rEq x y H Q := ⟨h, q⟩
theorem x_eqFS {w : Str} (q : Q (.bl (decide (z = w))) H) : rEq (.str z) (.str w) H Q := ⟨rfl, by
  rw [show decide (V.str z = V.str w) = decide (z = w) from decide_eq_decide.mpr ⟨fun h => by cases h; rfl, fun h => by rw [h]⟩]; exact q⟩
theorem x_eqFI {i j : Int} (q : Q (.bl (decide (i = j))) H) : rEq (.int i) (.int j) H Q := ⟨rfl, by
  rw [show decide (V.int i = V.int j) = decide (i = j) from decide_eq_decide.mpr ⟨fun h => by cases h; rfl, fun h => by rw [h]⟩]; exact q⟩
end
/-! ### the same, K told (within a try's body) -/
section
variable {X : Cx} {k : Nat} (K : PySem.W.Frag) (hK : X.K = K)
include hK
theorem op_eqUk (hr : Room k X.A) : OpR X (compareOp .Eq) (rEqU K) := by subst hK; exact op_eqU hr
theorem op_neUk (hr : Room k X.A) : OpR X (compareOp .NotEq) (rNeU K) := by subst hK; exact op_neU hr
theorem ix_seqk : IxR X (rIx K) := by subst hK; exact ix_seq
theorem sl_Uk : SlR X (rSlU K) := by subst hK; exact sl_U
theorem call_lenUk : CallR X (.builtin "len") (rLenU K) := by subst hK; exact call_lenU
theorem call_isik : CallR X (.builtin "isinstance") (rIsi K) := by subst hK; exact call_isi
theorem call_listUk (hc : X.calm = true) : CallR X (.type "list") (rListU K) := by subst hK; exact call_listU hc
theorem pe_fldk {e : Expr} {ta : TE} {f : Str} {pos : Pos} (he : PE X e ta) (hb : attributeBase e f X.env (eval e X.env) = eval e X.env) : PE X (.Attribute e f pos) (tFld K ta f) := by subst hK; exact pe_fld he hb
theorem pi_listk {tg l : Expr} {tl : TE} (hl : PE X l tl) : PI X tg l (iList K tl) := by subst hK; exact pi_list hl
end
/-! ### in a suite -/
structure FnEG (P : Program) (w : World) (K : PySem.W.Frag) (mg : Str → Option Value) (base : Heap) (k : Nat) (x : Str) (sp : SpE) : Prop where
  ex : ∃ f fd ps, FnE P w K mg base k f fd ps sp ∧ mg x = some (.ref f) ∧ PySem.W.keepIn K (.ref f) = true ∧ Binds K fd ps []
theorem roomS {X : Cx} {k : Nat} {a : Addr} {pn : List (Addr × Obj)} (hr : Room k X.A) : L2H.RoomH k (X.suite a pn).A := ⟨hr.dp, hr.un⟩
section
variable {X : Cx} {k : Nat} {a : Addr} {oe : Obj} {cls : Value} {d : Option Addr} {pn : List (Addr × Obj)} {sp : SpE} {x : Str} {q pos : Pos} {e : Expr} {es : List Expr} {t : TA}
theorem pe_callEG (F : FnEG X.prog X.w X.K X.mg X.base k x sp) (hr : L2H.RoomH k (X.suite a ((a, oe) :: pn)).A) (hz : Zc cls d oe) (hf : ∃ vs, oe.data = .fields vs) (hg : Gl X x)
    (ha : PA (X.suite a ((a, oe) :: pn)) (e :: es) t) (hdb : (x == ("__debug__" : Str)) = false := by decide) (he : starEach (e :: es) X.env = (false, eval e X.env) :: starEach es X.env := by rfl) (hpl : (backTo pos (starEach es X.env)).any (·.1) = false := by rfl) :
    PE (X.suite a ((a, oe) :: pn)) (.Call (.Name x q) (e :: es) [] pos) (tCallE a cls d sp t) := by
  obtain ⟨f, fd, ps, G, hm, hk, hb⟩ := F.ex
  exact pe_callE G hr hz hf hg hm hk hb ha hdb he hpl
end
end MC
set_option maxHeartbeats 4000000
/-! MB12: instances called, properties, classes called with a starred argument or by an __init__ with a star, methods by keywords; what they let out, at the slots -/
namespace MC
open PySem PySem.Spec PyProof.Rows L2
section
variable {X : Cx} {k : Nat} {sp : Sp} {E : L2.St → XK} {x m f : Str} {p apos pos sp_ : Pos} {e o fe : Expr} {es : List Expr} {te ta tf : TE} {t tk : TA} {C : Addr} {pl : Sem Bool} {kws : List Keyword}
/-! ### o(e, ..), o an instance -/
structure CallG (P : Program) (w : World) (K : PySem.W.Frag) (mg : Str → Option Value) (base : Heap) (k : Nat) (C : Addr) (sp : Sp) : Prop where
  ex : ∃ g, StX.CallO K C g ∧ FnR P w K mg base (L2.CX P w) k g sp
def tCallOG (C : Addr) (sp : Sp) (E : L2.St → XK) (tf : TE) (t : TA) : TE := fun σ H Q => tf σ H fun y H1 => ∃ a, y = V.ref a ∧ t σ H1 fun vs H2 => (∃ dx fs, H2 a = some (.ins C dx fs)) ∧ sp (V.ref a :: vs) H2 Q (E σ)
theorem pe_callOG (F : CallG X.prog X.w X.K X.mg X.base k C sp) (hr : Room k X.A) (hx : ∀ σ, PassesAt (L2.CX X.prog X.w) X σ (E σ)) (hf : PE X fe tf) (ha : PA X (e :: es) t)
    (ht : eval (.Call fe (e :: es) [] pos) X.env = (do callWith pos (← eval fe X.env) [] (backTo pos (starEach (e :: es) X.env)) (backToKw pos (keywordEach [] X.env))) := by rfl)
    (he : starEach (e :: es) X.env = (false, eval e X.env) :: starEach es X.env := by rfl) (hpl : (backTo pos (starEach es X.env)).any (·.1) = false := by rfl) : PE X (.Call fe (e :: es) [] pos) (tCallOG C sp E tf t) := by
  obtain ⟨g, c, G⟩ := F.ex
  refine ⟨fun pins s σ H Q I h => ?_⟩
  refine Call_ (thn (hf.run pins s σ H _ I h) fun u s1 ⟨y, H1, I1, ry, a, ey, q⟩ => ?_) ht
  subst ey
  obtain rfl : u = Value.ref a := ry
  refine StX.callO_with (thn (ha.run pos pins s1 σ H1 _ I1 q) fun us s2 ⟨vs, H2, I2, r, hi, q2⟩ => ?_) he hpl
  obtain ⟨ox, od, J, hd⟩ := StX.insC_at (X := X) I2 (.inr hi)
  exact ⟨⟨C, ox, od, J, hd⟩, wpAny_call (PySem.W.kco_code I2.kIn J hd c.at_ c.fn c.fi (run_S (us := .ref a :: us) (vs := .ref a :: vs) G hr (hx σ) I2 (.cons rfl r) q2))⟩
/-! ### o.f, f a property that raises nothing -/
structure PrG (P : Program) (w : World) (K : PySem.W.Frag) (mg : Str → Option Value) (base : Heap) (k : Nat) (C : Addr) (f : Str) (sp : Sp) : Prop where
  cl : Cls K C
  ex : ∃ p g fd ps, PropOf K C f p g ∧ FnOk P w K mg base (L2.CX P w) k g fd ps sp ∧ Binds K fd ps []
def tPropG (C : Addr) (sp : Sp) (ta : TE) : TE := tProp C sp [] XE0 ta
theorem pe_propG (F : PrG X.prog X.w X.K X.mg X.base k C f sp) (hr : Room (k + 1) X.A) (he : PE X e ta) (hab : attributeBase e f X.env (eval e X.env) = eval e X.env := by rfl) : PE X (.Attribute e f pos) (tPropG C sp ta) := by
  obtain ⟨p, g, fd, ps, hp, G, b⟩ := F.ex
  refine pe_prop he F.cl hp G hr b .nil (fun pins σ H s e s' I h => ?_) hab
  obtain ⟨_, _, _, _, _, _, _, _, _, _, _, _, z⟩ := h
  exact z.elim
/-! ### a class called, its __init__ by a positional promise -/
structure CtR (P : Program) (w : World) (K : PySem.W.Frag) (mg : Str → Option Value) (base : Heap) (k : Nat) (C : Addr) (sp : List V → Hp → VK → XK → Prop) : Prop where
  ex : ∃ f spI, Mk K C f ∧ FnR P w K mg base (L2.CX P w) k f spI ∧ ∀ vs H Q E, sp vs H Q E → ∀ x dx, H x = none → H dx = none → dx ≠ x → spI (.ref x :: vs) (upd (upd H dx (.own x)) x (.ins C dx [])) (fun v H2 => v = .non ∧ Q (.ref x) H2) E
theorem CtR.kp (F : CtR X.prog X.w X.K X.mg X.base k C sp) : PySem.W.keepIn X.K (.ref C) = true := by
  obtain ⟨f, spI, M, G, hsp⟩ := F.ex
  exact M.kp
theorem run_mkR {pins : List (Addr × Obj)} {σ : L2.St} {H : Hp} {s : Shared} {Q : VK} {us : List Value} {vs : List V} {E : XK} (F : CtR X.prog X.w X.K X.mg X.base k C sp) (hr : Room (k + 1) X.A) (hx : PassesAt (L2.CX X.prog X.w) X σ E)
    (I : Inv X pins σ H s) (r : Vals vs us) (h : sp vs H Q E) : wpAny (model X.prog X.w) X.A (call (.ref C) us) (EP X pins σ Q) X.xe s := by
  obtain ⟨f, spI, M, G, hsp⟩ := F.ex
  have hq := hsp _ _ _ _ h (s.heap.objs.size + 1) s.heap.objs.size (I.hok.fresh (Nat.le_succ _)) (I.hok.fresh (Nat.le_refl _)) (Nat.ne_of_lt (Nat.lt_succ_self _))
  have I2 := Inv.made (C := C) I
  have r2 : Vals (V.ref (s.heap.objs.size + 1) :: vs) (Value.ref (s.heap.objs.size + 1) :: us) := .cons rfl r
  refine wpAny_call (make_map (f := f) I.kIn M.makes M.init (beq_iff_eq.mp M.fn) (codeAny_mono (G _ X.stack _ _ (Value.ref (s.heap.objs.size + 1) :: us) _ _ E (hr.make C us []) (I2.env0.make C us []) r2 hq) fun r s' hq' => ?_))
  cases r with
  | error e => exact hx pins _ _ e s' I2 hq'
  | ok fl =>
    cases fl with
    | ret u =>
      obtain ⟨v, H', I3, rv, ev, q3⟩ := I2.after hq'
      subst ev
      exact ⟨rv, ⟨V.ref (s.heap.objs.size + 1), H', I3, rfl, q3⟩⟩
    | next => exact False.elim hq'
    | brk => exact False.elim hq'
    | cont => exact False.elim hq'
def tMkRG (C : Addr) (sp : List V → Hp → VK → XK → Prop) (E : L2.St → XK) (tf : TE) (t : TA) : TE := fun σ H Q => tf σ H fun c H0 => c = .ref C ∧ t σ H0 fun vs H1 => sp vs H1 Q (E σ)
theorem pe_mkR (F : CtR X.prog X.w X.K X.mg X.base k C sp) (hr : Room (k + 1) X.A) (hx : ∀ σ, PassesAt (L2.CX X.prog X.w) X σ (E σ)) (hf : PE X (.Name x p) tf) (ha : PA X (e :: es) t)
    (he : starEach (e :: es) X.env = (false, eval e X.env) :: starEach es X.env := by rfl) (hpl : (backTo pos (starEach es X.env)).any (·.1) = false := by rfl) : PE X (.Call (.Name x p) (e :: es) [] pos) (tMkRG C sp E tf t) := by
  refine ⟨fun pins s σ H Q I h => ?_⟩
  refine wpAny_Call_Name_kw (thn (hf.run pins s σ H _ I h) fun u s0 ⟨c, H0, I0, rc, ec, q0⟩ => ?_)
  subst ec
  obtain rfl : u = Value.ref C := rc
  refine PySem.W.callWith_K (h₀ := X.base) I.ok.mod.kin F.kp (thn (ha.run pos pins s0 σ H0 _ I0 q0) fun us s1 ⟨vs, H1, I1, r, q⟩ => ⟨I1.kIn, ?_⟩) he hpl
  exact run_mkR F hr (hx σ) I1 r q
theorem pe_mkR0 (F : CtR X.prog X.w X.K X.mg X.base k C sp) (hr : Room (k + 1) X.A) (hx : ∀ σ, PassesAt (L2.CX X.prog X.w) X σ (E σ)) (hf : PE X (.Name x p) tf) : PE X (.Call (.Name x p) [] [] pos) (tMkRG C sp E tf tNil) := by
  refine ⟨fun pins s σ H Q I h => ?_⟩
  refine wpAny_Call_Name_kw (thn (hf.run pins s σ H _ I h) fun u s0 ⟨c, H0, I0, rc, ec, q0⟩ => ?_)
  subst ec
  obtain rfl : u = Value.ref C := rc
  exact PySem.W.callWith_K0 I0.kIn F.kp (run_mkR (us := []) (vs := []) F hr (hx σ) I0 .nil q0)
/-- C( *e) -/
def tMkSt (K : PySem.W.Frag) (C : Addr) (sp : List V → Hp → VK → XK → Prop) (E : L2.St → XK) (tf te : TE) : TE := fun σ H Q => tf σ H fun c H0 => c = .ref C ∧ te σ H0 fun y H1 => ∃ a xs, y = V.ref a ∧ (SqT K H1 a xs ∨ SqL K H1 a xs) ∧ sp xs H1 Q (E σ)
theorem pe_mkSt (F : CtR X.prog X.w X.K X.mg X.base k C sp) (hr : Room (k + 1) X.A) (hx : ∀ σ, PassesAt (L2.CX X.prog X.w) X σ (E σ)) (hf : PE X (.Name x p) tf) (he : PE X e te)
    (hst : starEach [.Starred e sp_] X.env = [(true, eval e X.env)] := by rfl) : PE X (.Call (.Name x p) [.Starred e sp_] [] pos) (tMkSt X.K C sp E tf te) := by
  refine ⟨fun pins s σ H Q I h => ?_⟩
  refine wpAny_Call_Name_kw (thn (hf.run pins s σ H _ I h) fun u s0 ⟨c, H0, I0, rc, ec, q0⟩ => ?_)
  subst ec
  obtain rfl : u = Value.ref C := rc
  refine PySem.W.callWith_S (h₀ := X.base) I.ok.mod.kin F.kp (thn (he.run pins s0 σ H0 _ I0 q0) fun v s1 ⟨y, H1, I1, ry, a, xs, ey, hxs, q⟩ => ?_) hst
  subst ey
  obtain rfl : v = Value.ref a := ry
  exact StX.star_any I1 hxs fun us s2 I2 rv => ⟨I2.kIn, run_mkR F hr (hx σ) I2 rv q⟩
/-! ### o.m(k = v, ..) -/
structure MeK (P : Program) (w : World) (K : PySem.W.Frag) (mg : Str → Option Value) (base : Heap) (k : Nat) (C : Addr) (m : Str) (ks : List Str) (sp : List V → Hp → VK → XK → Prop) : Prop where
  cl : Cls K C
  ex : ∃ f fd ps g gV spI, Meth K C m f ∧ FnOk P w K mg base (L2.CX P w) k f fd ps spI ∧ KBn K fd ps 1 ks g gV ∧ ∀ a zs H Q E, sp (.ref a :: zs) H Q E → zs.length = ks.length ∧ spI (gV [.ref a] zs) H Q E
def tMethK (C : Addr) (m : Str) (sp : List V → Hp → VK → XK → Prop) (E : L2.St → XK) (ta : TE) (tk : TA) : TE := fun σ H Q => ta σ H fun x H1 => ∃ a dx fs, x = .ref a ∧ H1 a = some (.ins C dx fs) ∧ fs.lookup m = none ∧ tk σ H1 fun zs H2 => sp (.ref a :: zs) H2 Q (E σ)
theorem pe_methK {ks : List Str} (F : MeK X.prog X.w X.K X.mg X.base k C m ks sp) (hr : Room k X.A) (hx : ∀ σ, PassesAt (L2.CX X.prog X.w) X σ (E σ)) (he : PE X o ta) (hkw : PK X kws tk)
    (hall : (backToKw pos (keywordEach kws X.env)).all (·.1.isSome) = true := by rfl) (hks : (backToKw pos (keywordEach kws X.env)).filterMap (·.1) = ks := by rfl)
    (hpl : ((backTo pos (starEach [] X.env)).any (·.1) || (backToKw pos (keywordEach kws X.env)).any (·.1.isNone)) = false := by rfl)
    (ht : eval (.Call (.Attribute o m apos) [] kws pos) X.env = (do
      let ov ← eval o X.env
      standAt apos.atName
      let (f, first) ← holding [ov] (getMethod ov m pl)
      callWith pos f first (backTo pos (starEach [] X.env)) (backToKw pos (keywordEach kws X.env))) := by rfl) :
    PE X (.Call (.Attribute o m apos) [] kws pos) (tMethK C m sp E ta tk) := by
  obtain ⟨f, fd, ps, g, gV, spI, hm, G, hb, hsp⟩ := F.ex
  refine ⟨fun pins s σ H Q I h => ?_⟩
  refine PySem.W.methodCall_KW (pl := pl) (thn (he.run pins s σ H _ I h) fun u s1 ⟨x, H1, I1, rx, a, dx, fs, ex, ea, l, q⟩ => ?_) ht
  subst ex
  obtain rfl : u = Value.ref a := rx
  refine getmeth_ok I1 ea F.cl hm l ?_
  refine PySem.W.callWith_KW0 (h₀ := X.base) (first := [.ref a]) I.ok.mod.kin hm.kp hall ?_ hpl
  refine thn (hkw.run pos pins s1 σ H1 _ I1 q) fun ws s2 ⟨zs, H2, I2, rz, q2⟩ => ⟨I2.kIn, ?_⟩
  rw [hks]
  obtain ⟨lz, q3⟩ := hsp _ _ _ _ _ q2
  have r1 : Vals [V.ref a] [Value.ref a] := .cons rfl .nil
  refine wpAny_call (codeAny_mono (G.run X.A X.stack s2 H2 ⟨[.ref a], ks.zip ws⟩ (g [.ref a] ws) _ Q (E σ) hr I2.env0 (hb.to _ [.ref a] ws I2.kIn rfl (rz.length.symm.trans lz)) (hb.rel r1 rz) q3) fun r s' hq => ?_)
  cases r with
  | error e => exact hx σ pins H2 s2 e s' I2 hq
  | ok fl =>
    cases fl with
    | ret u => exact I2.after hq
    | next => exact False.elim hq
    | brk => exact False.elim hq
    | cont => exact False.elim hq
end
end MC
set_option maxHeartbeats 4000000
/-! MB13: if and for in a generator's body; a try whose body raises nothing -/
namespace PySem
open Sem (wp)
section
variable {M : Model} {A : Around} {R : GenEnd} {Y : Protocol} {n : Nat} {s₀ : Shared} {c : Code} {fs : List Frame} {s : Shared} {env : Env} {K : Flow → Sem Fin} {H : Value → Sem Fin} {gd : Bool → Bool} {lv : List Value → List Value}
theorem mc_seg_If {test : Expr} {body orelse : List Stmt} {pos : Pos}
    (h : wpAny M (A.over c fs) (isTrue test env (eval test env)) (fun b s' => if b = true then Seg M A R Y n s₀ c ((execs body env).wrap K H gd lv) fs s' else Seg M A R Y n s₀ c ((execs orelse env).wrap K H gd lv) fs s') (fun x s' => Seg M A R Y n s₀ c (H x) fs s') s) :
    Seg M A R Y n s₀ c ((exec (.If test body orelse pos) env).wrap K H gd lv) fs s := by
  rw [exec_If]
  refine seg_bind_wrap (wpAny_standAt ?_)
  refine seg_bind_wrap (wpAny_mono h (fun b s' hb => ?_) fun _ _ x => x)
  cases b with
  | true => exact hb
  | false => exact hb
theorem mc_seg_For {target iter : Expr} {body orelse : List Stmt} {pos : Pos} (hs : ∀ x, foldedSetIterable iter env x = pure x)
    (h : wpAny M (A.over c fs) (eval iter env) (fun x s₁ => wpAny M (A.over c fs) (pyIter x) (fun it s₂ => ∀ p, Seg M A R Y n s₀ (.forLoop target it body orelse env) (M.den (.forLoop target it body orelse env))
      (.ret (fun r => ((match r with | .ok f => (.pure f : Sem Flow) | .error e => .raise e).onRaise fun (x : Value) => do
        if (← field x 1) == Value.none then unsupported "frame.own-activation:exception-without-traceback"
        setFlight x env.frame).wrap K H gd lv) none (gd false) (lv []) c p [] :: fs) s₂) (fun x s' => Seg M A R Y n s₀ c (H x) fs s') s₁) (fun x s' => Seg M A R Y n s₀ c (H x) fs s') s) :
    Seg M A R Y n s₀ c ((exec (.For target iter body orelse pos) env).wrap K H gd lv) fs s := by
  rw [exec_For]
  refine seg_bind_wrap (wpAny_standAt ?_)
  refine seg_bind_wrap (wpAny_mono h (fun x s₁ h₁ => ?_) fun _ _ x => x)
  refine seg_bind_wrap (wpAny_of_eq (hs x) ?_)
  refine seg_bind_wrap (wpAny_standAt ?_)
  refine seg_bind_wrap (wpAny_holding (wpAny_mono h₁ (fun it s₂ h₂ => ?_) fun _ _ x => x))
  exact seg_call h₂
end
section
variable {prog : Program} {w : World} {A : Around} {R : GenEnd} {Y : Protocol} {n : Nat} {s₀ : Shared} {fs : List Frame} {s : Shared} {env : Env}
/-- an exception of a loop's turn -/
def McX (prog : Program) (w : World) (A : Around) (R : GenEnd) (Y : Protocol) (n : Nat) (s₀ : Shared) (c : Code) (fs : List Frame) (env : Env) : Value → Shared → Prop := fun x s' =>
  Seg (model prog w) A R Y n s₀ c ((do noteFrame x env; theTreesLotGoes x : Sem Unit).wrap (fun _ => .raise x) .raise id id) fs s'
theorem mc_seg_forLoop {target : Expr} {it : Value} {body : List Stmt}
    (h : wpAny (model prog w) (A.over (.forLoop target it body [] env) fs) (pyNext it) (fun r s₁ => match r with
      | none => Seg (model prog w) A R Y n s₀ (.forLoop target it body [] env) (.pure (.again (.block [] env))) fs s₁
      | some v => wpAny (model prog w) (A.over (.forLoop target it body [] env) fs) (letOwnedTupleGo target it v) (fun _ s₂ => wpAny (model prog w) (A.over (.forLoop target it body [] env) fs) (assign target env v) (fun _ s₃ =>
          Seg (model prog w) A R Y n s₀ (.forLoop target it body [] env) ((execs body env).wrap (fun f => match f with
            | .next | .cont => .pure (.again (.forLoop target it body [] env))
            | .brk => .pure (.done .next)
            | .ret v => .pure (.done (.ret v))) (fun e => (do noteFrame e env; theTreesLotGoes e : Sem Unit).wrap (fun _ => .raise e) .raise id id) id id) fs s₃)
        (McX prog w A R Y n s₀ (.forLoop target it body [] env) fs env) s₂) (McX prog w A R Y n s₀ (.forLoop target it body [] env) fs env) s₁)
      (McX prog w A R Y n s₀ (.forLoop target it body [] env) fs env) s) :
    Seg (model prog w) A R Y n s₀ (.forLoop target it body [] env) ((model prog w).den (.forLoop target it body [] env)) fs s := by
  show Seg _ A R Y n s₀ _ ((forTurn target it body [] env).onRaise (fun x => do noteFrame x env; theTreesLotGoes x)) fs s
  have ex : ∀ x s', McX prog w A R Y n s₀ (.forLoop target it body [] env) fs env x s' → Seg (model prog w) A R Y n s₀ (.forLoop target it body [] env) ((do noteFrame x env; theTreesLotGoes x : Sem Unit).bind fun _ => .raise x) fs s' := fun x s' hx => by
    rw [Sem.bind_eq_wrap]; exact hx
  unfold forTurn
  rw [Sem.onRaise_eq_wrap]
  refine seg_bind_wrap (wpAny_standAt ?_)
  refine seg_bind_wrap (wpAny_onRaise (wpAny_mono h (fun r s₁ h₁ => ?_) fun x s' hx => wpAny_standAt (ex x s' hx)))
  cases r with
  | none => exact h₁
  | some v =>
    refine seg_bind_wrap (wpAny_mono h₁ (fun _ s₂ h₂ => ?_) ex)
    refine seg_bind_wrap (wpAny_mono h₂ (fun _ s₃ h₃ => ?_) ex)
    rw [Sem.bind_eq_wrap', Sem.wrap_wrap]
    rw [Sem.wrap_congr (execs body env) _ _ (K' := fun f => match f with
            | .next | .cont => .pure (.again (.forLoop target it body [] env))
            | .brk => .pure (.done .next)
            | .ret v => .pure (.done (.ret v))) (H' := (fun e => (do noteFrame e env; theTreesLotGoes e : Sem Unit).wrap (fun _ => .raise e) .raise id id))
        (fun f => by cases f <;> rfl)
        (fun e => by first | exact Sem.bind_eq_wrap _ _ | (show (do noteFrame e env; theTreesLotGoes e : Sem Unit).bind (fun _ => .raise e) = _; rw [Sem.bind_eq_wrap]))]
    exact h₃
end
end PySem
set_option maxHeartbeats 4000000
/-! MB14: if and for in a generator's body, as rules -/
namespace L2
open PySem PySem.Spec PyProof.Rows GenW
section
variable {X : Cx}
def tGIf (c : TT) (t u : TGn) : TGn := fun D ys σ H => c σ H fun b H1 => if b = true then t D ys σ H1 else u D ys σ H1
theorem gs_if {c : Expr} {a b : List Stmt} {pos : Pos} {tc : TT} {t u : TGn} (hc : PT X c tc) (ha : GSs X a t) (hb : GSs X b u) : GS X (.If c a b pos) (tGIf tc t u) := by
  refine ⟨fun A S ip R n ys s₀ c fs K J gd lv s σ H D g hn k hI ht => ?_⟩
  refine mc_seg_If ?_
  rw [g.over]
  obtain ⟨acc, cc, r, I⟩ := hI
  refine wpAny_mono (hc.run _ s σ H _ I ht) (fun b s' hb' => ?_) fun x s' hx => k.exc n s₀ x s' hx
  obtain ⟨H2, I2, q2⟩ := hb'
  cases b with
  | true =>
    rw [if_pos rfl]
    exact ha.run A S ip R n ys s₀ _ fs K J gd lv s' σ H2 D g hn k ⟨acc, cc, r, I2⟩ q2
  | false =>
    rw [if_neg Bool.false_ne_true]
    exact hb.run A S ip R n ys s₀ _ fs K J gd lv s' σ H2 D g hn k ⟨acc, cc, r, I2⟩ q2
def tGFor (wi : TI) (gt : TG) (tb : TGn) : TGn := fun D ys σ H => wi σ H fun It H1 => ∃ W : Nat → Nat → List V → St → Hp → Prop, (∃ m, W 0 m ys σ H1) ∧ ∀ i m ys σ H, W i m ys σ H →
  (It.stop i H ∧ D.nx ys σ H) ∨ (It.go i H ∧ ∃ N : List V → St → Hp → Prop, (∀ ys' σ' H', N ys' σ' H' → ∃ m', m' < m ∧ W (i + 1) m' ys' σ' H') ∧ ∀ x H', It.yld i H x H' → gt x σ H' fun σ2 H2 => tb { D with nx := N, ct := N, bk := D.nx } ys σ2 H2)
theorem gs_for {tg iter : Expr} {body : List Stmt} {pos : Pos} {wi : TI} {gt : TG} {tb : TGn} (hp : PassesOwn (model X.prog X.w) X.A X.env X.xe) (hc : X.calm = true) (hi : PI X tg iter wi) (hg : PG X tg gt) (hb : GSs X body tb)
    (hs : ∀ x, foldedSetIterable iter X.env x = pure x := by intro _; rfl) : GS X (.For tg iter body [] pos) (tGFor wi gt tb) := by
  refine ⟨fun A S ip R n ys s₀ c fs K J gd lv s σ H D g hn k hI ht => ?_⟩
  refine mc_seg_For hs ?_
  rw [g.over]
  obtain ⟨acc, cc, r, I⟩ := hI
  refine wpAny_mono (hi.run _ s σ H _ I ht) (fun v s1 h1 => wpAny_mono h1 (fun itv s2 h2 p => ?_) fun x s' hx => k.exc n s₀ x s' hx) fun x s' hx => k.exc n s₀ x s' hx
  obtain ⟨it, fp, tn, It, H2, e, I2, T, st2, f2, W, ⟨m0, w0⟩, turn⟩ := h2
  subst e
  have stat : ∀ {H' : Hp} {acc' : Array Value} {c' : Nat}, (∀ b ∈ fp, H' b = none) → ∀ b ∈ fp, FpOk X ((S, lstObj acc' c') :: ip) H' b := fun {H' acc' c'} hn b hb => by
    obtain ⟨_, q2, q3, q4, q5, q6⟩ := f2 b hb
    refine ⟨hn b hb, q2, q3, q4, q5, fun p hp => ?_⟩
    rcases List.mem_append.mp hp with hp | hp
    · exact q6 p (List.mem_append_left _ hp)
    · rcases List.mem_cons.mp hp with hp | hp
      · rw [hp]; exact q6 (S, lstObj acc cc) (List.mem_append_right _ List.mem_cons_self)
      · exact q6 p (List.mem_append_right _ (List.mem_cons_of_mem _ hp))
  have fpS : ∀ b ∈ fp, b ≠ S := fun b hb z => by
    obtain ⟨_, _, _, _, _, q6⟩ := f2 b hb
    exact q6 (S, lstObj acc cc) (List.mem_append_right _ List.mem_cons_self) z.symm
  have gl := fun (kk : Result → Sem PySem.Fin) => gc_loop (k := kk) (c' := .forLoop tg (.ref it) body [] X.env) (l := lv []) (kp := []) (p := p) g rfl rfl
  have loop : ∀ (m n : Nat) (i : Nat) (ys : List V) (s₀ s : Shared) (σ : St) (H : Hp), n + ys.length = sizeLine → W i m ys σ H → GI X S ip ys σ H s → tn i s.heap → (∀ b ∈ fp, H b = none) →
      Seg (model X.prog X.w) A R (GY X S) n s₀ (.forLoop tg (.ref it) body [] X.env) ((model X.prog X.w).den (.forLoop tg (.ref it) body [] X.env))
        (.ret (fun r => ((match r with | .ok f => (.pure f : Sem Flow) | .error e => .raise e).onRaise (cameBack X.env)).wrap K J gd lv) none (gd false) (lv []) c p [] :: fs) s := by
    intro m
    induction m using Nat.strongRecOn with
    | ind m ih =>
      intro n i ys s₀ s σ H hn w hI st fr
      have ee : ∀ (n : Nat) (s₀ : Shared) (x : Value) (s' : Shared), X.xe x s' → Seg (model X.prog X.w) A R (GY X S) n s₀ (.forLoop tg (.ref it) body [] X.env)
          ((do noteFrame x X.env; theTreesLotGoes x : Sem Unit).wrap (fun _ => .raise x) .raise id id)
          (.ret (fun r => ((match r with | .ok f => (.pure f : Sem Flow) | .error e => .raise e).onRaise (cameBack X.env)).wrap K J gd lv) none (gd false) (lv []) c p [] :: fs) s' := fun n s₀ x s' hx => by
        refine seg_wrap ?_
        rw [(gl _).over]
        refine wpAny_bind (wpAny_mono (hp x s' hx) (fun _ s'' hcb => wpAny_theTreesLotGoes ?_) fun y s'' hcb => ?_)
        · exact seg_leaf (.error x) (seg_cameBack g k hcb)
        · exact seg_leaf (.error y) (seg_cameBack g k hcb)
      refine mc_seg_forLoop ?_
      rw [(gl _).over]
      obtain ⟨acc3, cc3, r3, I3⟩ := hI
      rcases turn i m ys σ H w with ⟨stop, qn⟩ | ⟨go, N, hN, step⟩
      · refine wpAny_mono (T.done X rfl rfl rfl hc i _ s σ H X.xe I3 (stat fr) st stop) (fun r s4 h4 => ?_) fun x s' hx => ee n s₀ x s' hx
        obtain ⟨hr, I4⟩ := h4
        subst hr
        refine seg_again rfl ?_
        show Seg _ _ _ _ _ _ _ (leafOf (.ok .next)) _ _
        exact seg_leaf (.ok .next) (k.ok n ys s₀ s4 .next hn ⟨σ, H, ⟨acc3, cc3, r3, I4⟩, qn⟩)
      · refine wpAny_mono (T.item X rfl rfl rfl hc i _ s σ H X.xe I3 (stat fr) st go) (fun r s4 h4 => ?_) fun x s' hx => ee n s₀ x s' hx
        obtain ⟨u, hr, h4⟩ := h4
        subst hr
        refine wpAny_mono h4 (fun _ s5 h5 => ?_) fun x s' hx => ee n s₀ x s' hx
        obtain ⟨x, H5, I5, r5, y5, st5, fr5⟩ := h5
        have I5' := I5.pinned (stat fr5) (T.obj _ _ st5)
        refine wpAny_mono (hg.run _ s5 σ H5 x u _ I5' r5 (step x H5 y5)) (fun _ s6 h6 => ?_) fun x s' hx => ee n s₀ x s' hx
        obtain ⟨σ6, H6, I6, q6⟩ := h6
        have gl' : ∀ kk, GC X S (ip ++ pinsAt fp s5.heap) A (.forLoop tg (.ref it) body [] X.env) (.ret kk none (gd false) (lv []) c p [] :: fs) id := fun kk =>
          { pn := g.pn, ip := fun q hq => (List.mem_append.mp hq).elim (g.ip q) fun z => fpS _ (of_pinsAt z).1, apart := g.apart, over := (gl kk).over, split := (gl kk).split, guard := (gl kk).guard, gd := rfl }
        have again : ∀ {n' : Nat} {s₀' : Shared} {ys7 : List V} {σ7 : St} {H7 : Hp} {s7 : Shared}, n' + ys7.length = sizeLine → GI X S (ip ++ pinsAt fp s5.heap) ys7 σ7 H7 s7 → N ys7 σ7 H7 →
            Seg (model X.prog X.w) A R (GY X S) n' s₀' (.forLoop tg (.ref it) body [] X.env) (.pure (.again (.forLoop tg (.ref it) body [] X.env)))
              (.ret (fun r => ((match r with | .ok f => (.pure f : Sem Flow) | .error e => .raise e).onRaise (cameBack X.env)).wrap K J gd lv) none (gd false) (lv []) c p [] :: fs) s7 := fun {n' s₀' ys7 σ7 H7 s7} hn7 I7 n7 => by
          obtain ⟨m', hm, w7⟩ := hN ys7 σ7 H7 n7
          obtain ⟨acc7, cc7, r7, I7⟩ := I7
          refine seg_again rfl (ih m' hm n' (i + 1) ys7 s₀' s7 σ7 H7 hn7 w7 ⟨acc7, cc7, r7, Inv.unpinned (pins := (S, lstObj acc7 cc7) :: ip) I7⟩ ?_ fun b hb => ?_)
          · exact T.keep _ _ _ st5 fun b hb o e => (I7.pin (b, o) (List.mem_append_right _ (List.mem_cons_of_mem _ (List.mem_append_right _ (mem_pinsAt hb e))))).1
          · obtain ⟨o, e, d⟩ := T.obj _ _ st5 b hb
            exact (I7.pin (b, o) (List.mem_append_right _ (List.mem_cons_of_mem _ (List.mem_append_right _ (mem_pinsAt hb e))))).2.1
        have unp : ∀ {ys7 : List V} {σ7 : St} {H7 : Hp} {s7 : Shared}, GI X S (ip ++ pinsAt fp s5.heap) ys7 σ7 H7 s7 → GI X S ip ys7 σ7 H7 s7 := fun {ys7 σ7 H7 s7} I7 => by
          obtain ⟨acc7, cc7, r7, I7⟩ := I7
          exact ⟨acc7, cc7, r7, Inv.unpinned (pins := (S, lstObj acc7 cc7) :: ip) I7⟩
        refine hb.run A S (ip ++ pinsAt fp s5.heap) R n ys s₀ _ _ _ _ id id s6 σ6 H6 { D with nx := N, ct := N, bk := D.nx } (gl' _) hn ⟨fun n' ys' s₀' s7 f hn' hs' => ?_, fun n' s₀' x s3 hx => ee n' s₀' x s3 hx⟩ ⟨acc3, cc3, r3, I6⟩ q6
        cases f with
        | next => obtain ⟨σ7, H7, I7, n7⟩ := hs'; exact again hn' I7 n7
        | cont => obtain ⟨σ7, H7, I7, n7⟩ := hs'; exact again hn' I7 n7
        | brk => obtain ⟨σ7, H7, I7, q7⟩ := hs'; exact seg_leaf (.ok .next) (k.ok n' ys' s₀' s7 .next hn' ⟨σ7, H7, unp I7, q7⟩)
        | ret v => obtain ⟨x7, σ7, H7, I7, r7, q7⟩ := hs'; exact seg_leaf (.ok (.ret v)) (k.ok n' ys' s₀' s7 (.ret v) hn' ⟨x7, σ7, H7, unp I7, r7, q7⟩)
  exact loop m0 n 0 ys s₀ s2 σ H2 hn w0 ⟨acc, cc, r, I2⟩ st2 fun b hb => (f2 b hb).1
end
end L2
set_option maxHeartbeats 4000000
/-! MB15: enumerate(list, start=k) -/
namespace PySem
theorem mc_callWith_typeK {M : Model} {A : Around} {E : Value → Shared → Prop} {s : Shared} {pos : Pos} {T : String} {first : List Value} {args : List (Bool × Sem Value)} {keywords : List (Option Str × Sem Value)} {Q : Value → Shared → Prop}
    (hplain : args.any (·.1) = false) (hkw : keywords.any (·.1.isNone) = false)
    (h : wpAny M A (evalArgs (.type T) true args keywords) (fun a s₁ => wpAny M A (call (.type T) (first ++ a.pos) a.kw) Q E s₁) E s) :
    wpAny M A (callWith pos (.type T) first args keywords) Q E s := by
  unfold callWith
  refine wpAny_bind (wpAny_holding (wpAny_mono h (fun a s₁ h₁ => wpAny_bind (wpAny_standAt ?_)) fun _ _ x => x))
  simp only [hplain, hkw, Bool.or_false]
  refine wpAny_bind (wpAny_pure ?_)
  exact wpAny_bind (wpAny_mono h₁ (fun r s₂ hr => wpAny_bind (wpAny_holding (wpAny_point (wpAny_pure hr)))) fun _ _ x => x)
end PySem
namespace L2
open PySem PySem.Spec PyProof.Rows
/-- the list at a as it stands at each turn, each item in a new pair behind its number, from k0 on -/
def ItN (K : PySem.W.Frag) (k0 : Int) (a : Addr) : It :=
  ⟨fun i H => ∃ (xs : List V) (x : V), SqL K H a xs ∧ xs[i]? = some x, fun i H v H' => ∃ T x, v = .ref T ∧ H T = none ∧ H' = upd H T (.tup [.int (k0 + (i : Nat)), x]) ∧ ∀ xs, SqL K H a xs → xs[i]? = some x, fun i H => ∃ xs : List V, SqL K H a xs ∧ i = xs.length⟩
theorem turn_N {P : Program} {w : World} {K : PySem.W.Frag} {elts : List Expr} {kk : Nat} {tpos : Pos} {k0 : Int} (a e it : Addr) (hei : e ≠ it) (hea : e ≠ a) (hai : a ≠ it) :
    Turn P w K (.Tuple elts kk tpos) (ItN K k0 a) [e, it] e (fun i h => (∃ old, IsEnum h e it (k0 + ((i : Nat) : Int)) old) ∧ h.IsListIter it a i) where
  mem := by simp
  obj := fun i h st b hb => by
    obtain ⟨⟨old, he⟩, ⟨o, ho, hc, hd⟩⟩ := st
    rcases List.mem_cons.mp hb with z | hb
    · rw [z]; exact ⟨_, he, fun v q => nomatch q⟩
    · rw [List.mem_singleton.mp hb]; exact ⟨o, ho, fun v q => by rw [hd] at q; cases q⟩
  keep := fun i h h' st k => by
    obtain ⟨⟨old, he⟩, hi⟩ := st
    exact ⟨⟨old, k e (by simp) _ he⟩, hi.at fun o q => k it (by simp) o q⟩
  item := by
    intro X hP hw hK hc i pins s σ H E I hf st hg
    subst hP hw hK
    obtain ⟨hE, hit⟩ := st
    obtain ⟨xs, x, hq, hx⟩ := hg
    obtain ⟨its, rv, p, hz⟩ := I.list hq
    obtain ⟨u, hu, ru⟩ := rv.get hx
    have WW := WalksT.enumFrom k0 (Draws.list (prog := X.prog) (w := X.w) (A := X.A.in1) (I.ok.hd hc) it a hai its.toArray) e hei (by simp [hei, hea]) (by simp)
    have hlt : ∀ b ∈ [e, it], b < s.heap.objs.size := fun b hb => by
      rcases List.mem_cons.mp hb with z | hb
      · obtain ⟨old, he⟩ := hE; rw [z]; exact Heap.lt_size he
      · obtain ⟨o, ho, _⟩ := hit; rw [List.mem_singleton.mp hb]; exact Heap.lt_size ho
    have hi : i < its.toArray.size := by
      have := (List.getElem?_eq_some_iff.mp hu).1
      simpa using this
    refine WW.item i s _ _ hi ⟨hE, hit, p.isList⟩ fun T vals h' tk hPt hT htup hmid hk => ⟨_, rfl, WW.go elts kk tpos i T _ _ _ hmid fun h'' st' hk' => ?_⟩
    have hTw : T ∉ [e, it] := WW.apart i T h' hmid
    have ho2 : h''.IsTuple T vals := by
      obtain ⟨o, ho, r⟩ := htup
      exact ⟨o, hk' T o hTw ho, r⟩
    have hV : Vals [.int (k0 + (i : Nat)), x] vals.toList := by
      obtain ⟨t', x', hx', rfl⟩ := hPt
      have hx2 : its.toArray[i]? = some x' := hx'
      have : u = x' := by
        have h3 : its.toArray[i]? = some u := by simpa using hu
        rw [h3] at hx2; exact Option.some.inj hx2
      subst this
      exact .cons ⟨_, rfl⟩ (.cons ru .nil)
    have new : ObjOk X.prog X.w (upd H T (.tup [.int (k0 + (i : Nat)), x])) h'' T (.tup [.int (k0 + (i : Nat)), x]) := by
      obtain ⟨o, ho, hc, m, hd⟩ := ho2
      exact ⟨by show 2 ≤ sizeLine; decide, vals.toList, hV, ⟨o, ho, hc, m, by simpa using hd⟩⟩
    have I1 : Inv X pins σ (upd H T (.tup [.int (k0 + (i : Nat)), x])) { s with heap := h'', toks := tk } :=
      I.turnedNew (ch := [e, it]) (fun b ob hb q => hk' b ob hb (hk b ob hb q)) (fun b hb => hf b hb) hT new
    refine ⟨.ref T, _, I1, rfl, ⟨T, x, rfl, I.hok.fresh hT, rfl, fun ys hy => by rw [I.list_inj hy hq]; exact hx⟩, ⟨st'.1, st'.2.1⟩, fun b hb => ?_⟩
    rw [upd_ne (Nat.ne_of_lt (Nat.lt_of_lt_of_le (hlt b hb) hT))]
    exact (hf b hb).1
  done := by
    intro X hP hw hK hc i pins s σ H E I hf st hg
    subst hP hw hK
    obtain ⟨hE, hit⟩ := st
    obtain ⟨xs, hq, hx⟩ := hg
    obtain ⟨its, rv, p, hz⟩ := I.list hq
    have WW := WalksT.enumFrom k0 (Draws.list (prog := X.prog) (w := X.w) (A := X.A.in1) (I.ok.hd hc) it a hai its.toArray) e hei (by simp [hei, hea]) (by simp)
    have hl := rv.length
    have e1 : i = its.toArray.size := by simp; omega
    subst e1
    exact WW.done s _ _ ⟨hE, hit, p.isList⟩ fun h' tk hk => ⟨rfl, I.turnedL (ch := [e, it]) hk fun b hb => hf b hb⟩
  self := fun A i s Q E st h => by
    obtain ⟨⟨_, he⟩, _⟩ := st
    exact wpAny_pyIter_enum he h
def iEnumN (K : PySem.W.Frag) (ta tk : TA) : TI := fun σ H R => ta σ H fun vs H1 => tk σ H1 fun zs H2 => ∃ (a : Addr) (xs : List V) (k0 : Int), vs = [.ref a] ∧ zs = [.int k0] ∧ -1000000 < k0 ∧ k0 < 1000000 ∧ SqL K H2 a xs ∧ R (ItN K k0 a) H2
theorem pi_enumN {X : Cx} {e : Expr} {ta tk : TA} {p pos tpos : Pos} {elts : List Expr} {kk : Nat} {kws : List Keyword} (hg : Gl X "enumerate") (hm : X.mg "enumerate" = none) (ha : PA X [e] ta) (hk : PK X kws tk)
    (he : backTo pos (starEach [e] X.env) = (false, eval e X.env) :: backTo pos (starEach [] X.env) := by rfl) (hpl : (backTo pos (starEach [e] X.env)).any (·.1) = false := by rfl)
    (hall : (backToKw pos (keywordEach kws X.env)).all (·.1.isSome) = true := by rfl) (hnone : (backToKw pos (keywordEach kws X.env)).any (·.1.isNone) = false := by rfl) (hks : (backToKw pos (keywordEach kws X.env)).filterMap (·.1) = [Str.ofString "start"] := by rfl) :
    PI X (.Tuple elts kk tpos) (.Call (.Name "enumerate" p) [e] kws pos) (iEnumN X.K ta tk) := by
  refine ⟨fun pins s σ H R I h => ?_⟩
  refine wpAny_Call_Name_kw (ld_blt I hg hm boot_enumerate ?_)
  refine mc_callWith_typeK hpl hnone ?_
  rw [he]
  refine evalArgs_kwB hall ?_
  rw [← he, hks]
  refine thn (ha.run pos pins s σ H _ I h) fun us s1 ⟨vs, H1, I1, r1, q1⟩ => thn (hk.run pos pins s1 σ H1 _ I1 q1) fun ws s2 ⟨zs, H2, I2, r2, q2⟩ => ?_
  obtain ⟨a, xs, k0, ex, ez, hk0, hk1, hq, q⟩ := q2
  subst ex ez
  obtain ⟨u, rfl, ru⟩ := r1.one
  obtain ⟨u2, rfl, ru2⟩ := r2.one
  obtain ⟨t, rfl⟩ := ru2
  obtain rfl : u = Value.ref a := ru
  obtain ⟨its, rv, p', hz⟩ := I2.list hq
  show wpAny _ _ (call (.type "enumerate") [.ref a] [(Str.ofString "start", .int k0 t)]) _ _ _
  refine enum_begins_start (begins_list a its.toArray) p'.isList (by omega) (by omega) fun h' he hit hsz hk => wpAny_pyIter_enum he ?_
  have I3 : Inv X pins σ H2 { s2 with heap := h' } := I2.kept (t' := s2.toks) hk
  have hal : a < s2.heap.objs.size := by obtain ⟨o, ho, _⟩ := p'.isList; exact Heap.lt_size ho
  refine ⟨s2.heap.objs.size + 1, [s2.heap.objs.size + 1, s2.heap.objs.size], _, _, H2, rfl, I3, turn_N (k0 := k0) a (s2.heap.objs.size + 1) s2.heap.objs.size (Nat.succ_ne_self _) (Nat.ne_of_gt (Nat.lt_succ_of_lt hal)) (Nat.ne_of_lt hal), ⟨⟨.none, by simpa using he⟩, ⟨_, hit, rfl, rfl⟩⟩, fun b hb => ?_, q⟩
  have hle : s2.heap.objs.size ≤ b := by
    rcases List.mem_cons.mp hb with z | hb
    · rw [z]; exact Nat.le_add_right _ _
    · rw [List.mem_singleton.mp hb]; exact Nat.le_refl _
  exact I2.fpOk hle (I2.hok.fresh hle)
end L2
set_option maxHeartbeats 4000000
/-! MB16: list(o.m(..)) of a generator method; int(bool), max, split, find, count of texts, data of any depth -/
namespace MC
open PySem PySem.Spec PyProof.Rows L2
section
variable {X : Cx} {k : Nat} {C : Addr} {m : Str} {sp : SpG} {o e : Expr} {es : List Expr} {ta : TE} {t : TA} {apos pos : Pos} {pl : Sem Bool}
structure GeG (P : Program) (w : World) (K : PySem.W.Frag) (mg : Str → Option Value) (base : Heap) (k : Nat) (C : Addr) (m : Str) (sp : SpG) : Prop where
  cl : Cls K C
  ex : ∃ f fd ps, GFn P w K mg base k f fd ps sp ∧ Meth K C m f ∧ Binds K fd ps []
theorem pgen_mG (F : GeG X.prog X.w X.K X.mg X.base k C m sp) (hr : Room k X.A) (he : PE X o ta) (ha : PA X (e :: es) t)
    (hst : starEach (e :: es) X.env = (false, eval e X.env) :: starEach es X.env := by rfl) (hpl : (backTo pos (starEach es X.env)).any (·.1) = false := by rfl)
    (ht : eval (.Call (.Attribute o m apos) (e :: es) [] pos) X.env = (do
      let ov ← eval o X.env
      standAt apos.atName
      let (f, first) ← holding [ov] (getMethod ov m pl)
      callWith pos f first (backTo pos (starEach (e :: es) X.env)) (backToKw pos (keywordEach [] X.env))) := by rfl) :
    PGen X k (.Call (.Attribute o m apos) (e :: es) [] pos) (L2.tMethG C m sp [] XE0 ta t) XE0 := by
  obtain ⟨f, fd, ps, G, hm, hb⟩ := F.ex
  exact L2.pgen_meth (pl := pl) he F.cl hm G hr hb .nil ha hst hpl ht
theorem passes0 : Passes (L2.CX X.prog X.w) X XE0 := fun pins σ H s e s' I h => (pass_none : PassesAt (L2.CX X.prog X.w) X σ XE0) pins H s e s' I h
theorem nostop0 {K : PySem.W.Frag} : NoStop K XE0 := fun _ _ _ h => h.elim
theorem pe_listGen {g : Expr} {tg : TGen} {nm : Str} {p : Pos} (h : PGen X k g tg XE0) (hr : Room (k + 3) X.A) (hg : Gl X nm) (hmg : X.mg nm = none) (hv : bootBuiltins nm = some (.type "list")) (hnm : nm ≠ "__name__" := by decide) (hdb : (nm == ("__debug__" : Str)) = false := by decide)
    (he : starEach [g] X.env = (false, eval g X.env) :: starEach [] X.env := by rfl) : PE X (.Call (.Name nm p) [g] [] pos) (tListG tg) :=
  pe_listG h passes0 nostop0 hr hg hmg hv hnm hdb he
end
section
variable {X : Cx} {K : PySem.W.Frag} {σ : L2.St} {H : Hp} {Q : VK} {QL : List V → Hp → Prop}
/-! readings -/
theorem x_intB {b : Bool} (q : Q (.int (if b then 1 else 0)) H) : rInt1 [.bl b] H Q := Or.inr ⟨b, rfl, q⟩
def rMax2 : List V → Hp → VK → Prop := fun xs H Q => ∃ i j, xs = [.int i, .int j] ∧ Q (.int (if j > i then j else i)) H
theorem call_maxU (hc : X.calm = true) : CallR X (.builtin "max") rMax2 := call_max2 hc
theorem x_max {i j : Int} (q : Q (.int (if j > i then j else i)) H) : rMax2 [.int i, .int j] H Q := ⟨i, j, rfl, q⟩
def rFindS : V → List V → Hp → VK → Prop := fun x xs H Q => ∃ a b : Str, x = .str a ∧ xs = [.str b] ∧ Q (.int (Txt.find a b)) H
theorem mt_findS : MtR X "str.find" rFindS := mt_find
theorem x_findS {z y : Str} (q : Q (.int (Txt.find z y)) H) : rFindS (.str z) [.str y] H Q := ⟨z, y, rfl, rfl, q⟩
def rCountS : V → List V → Hp → VK → Prop := fun x xs H Q => ∃ a b : Str, x = .str a ∧ xs = [.str b] ∧ Q (.int (Txt.count a b)) H
theorem mt_countS : MtR X "str.count" rCountS := mt_count
theorem x_countS {z y : Str} (q : Q (.int (Txt.count z y)) H) : rCountS (.str z) [.str y] H Q := ⟨z, y, rfl, rfl, q⟩
theorem x_inD {x y : V} {d : PyData} {ds : List PyData} (h1 : Dp K H x d) (h2 : Dp K H y (.list ds)) (s1 : SeqAt.shaped d = true) (s2 : SeqAt.shaped (.list ds) = true) (q : Q (.bl (ds.any fun z => PyData.eqv z d)) H) : rInD K x y H Q := ⟨d, ds, h1, h2, s1, s2, q⟩
theorem x_notInD {x y : V} {d : PyData} {ds : List PyData} (h1 : Dp K H x d) (h2 : Dp K H y (.list ds)) (s1 : SeqAt.shaped d = true) (s2 : SeqAt.shaped (.list ds) = true) (q : Q (.bl (!ds.any fun z => PyData.eqv z d)) H) : rNotInD K x y H Q := ⟨d, ds, h1, h2, s1, s2, q⟩
def rIsN : R2 := fun x y H Q => y = .non ∧ Q (.bl (decide (x = .non))) H
theorem op_isNone : OpR X (compareOp .Is) rIsN := op_isN
theorem x_isN {x : V} (q : Q (.bl (decide (x = .non))) H) : rIsN x .non H Q := ⟨rfl, q⟩
end
/-! ### a tuple of four texts, and lists of them, as data -/
structure R4 where
  l : Str
  o : Str
  n : Str
  r : Str
deriving DecidableEq
def R4.vs (x : R4) : List V := [.str x.l, .str x.o, .str x.n, .str x.r]
def R4.dt (x : R4) : PyData := .tuple [.str x.l, .str x.o, .str x.n, .str x.r]
def R4.ok (x : R4) : Prop := PyData.strOk x.l = true ∧ PyData.strOk x.o = true ∧ PyData.strOk x.n = true ∧ PyData.strOk x.r = true
theorem R4.lay1 {x : R4} (h : x.ok) : x.dt.canLay0 = true := by
  obtain ⟨h1, h2, h3, h4⟩ := h
  simp [R4.dt, PyData.canLay0, PyData.canLayAll0, h1, h2, h3, h4]
theorem R4.dep1 (x : R4) : x.dt.depth = 1 := by simp [R4.dt, PyData.depth, PyData.depthAll]
theorem R4.shaped {x : R4} (h : x.ok) : SeqAt.shaped x.dt = true := by
  have e := R4.dep1 x
  show (x.dt.canLay0 && decide (x.dt.depth ≤ 64)) = true
  rw [Bool.and_eq_true]
  exact ⟨R4.lay1 h, decide_eq_true (by omega)⟩
theorem R4.eqv (x y : R4) : PyData.eqv x.dt y.dt = decide (x = y) := by
  obtain ⟨a, b, c, d⟩ := x
  obtain ⟨a', b', c', d'⟩ := y
  have e : PyData.eqv (R4.dt ⟨a, b, c, d⟩) (R4.dt ⟨a', b', c', d'⟩) = ((a == a') && ((b == b') && ((c == c') && ((d == d') && true)))) := by simp only [R4.dt, PyData.eqv, PyData.eqvAll]
  rw [e]
  by_cases h1 : a = a'
  · by_cases h2 : b = b'
    · by_cases h3 : c = c'
      · by_cases h4 : d = d'
        · subst h1 h2 h3 h4; simp
        · simp [h4]
      · simp [h3]
    · simp [h2]
  · simp [h1]
theorem R4.lays : ∀ xs : List R4, (∀ x ∈ xs, x.ok) → PyData.canLayAll0 (xs.map R4.dt) = true
  | [], _ => by simp [PyData.canLayAll0]
  | x :: xs, h => by
    have ih := R4.lays xs fun y hy => h y (List.mem_cons_of_mem _ hy)
    have h1 := R4.lay1 (h x List.mem_cons_self)
    simp only [List.map_cons, PyData.canLayAll0, ih, h1, Bool.and_true]
theorem R4.deps : ∀ xs : List R4, PyData.depthAll (xs.map R4.dt) ≤ 1
  | [] => by simp [PyData.depthAll]
  | x :: xs => by
    have ih := R4.deps xs
    have h1 := R4.dep1 x
    simp only [List.map_cons, PyData.depthAll]
    omega
theorem R4.shapeds {xs : List R4} (h : ∀ x ∈ xs, x.ok) : SeqAt.shaped (.list (xs.map R4.dt)) = true := by
  have h1 := R4.deps xs
  have h2 : PyData.depth (.list (xs.map R4.dt)) ≤ 64 := by
    simp only [PyData.depth]
    omega
  show (PyData.canLay0 (.list (xs.map R4.dt)) && decide (PyData.depth (.list (xs.map R4.dt)) ≤ 64)) = true
  rw [Bool.and_eq_true]
  exact ⟨by simp only [PyData.canLay0]; exact R4.lays xs h, decide_eq_true h2⟩
theorem R4.any (x : R4) : ∀ xs : List R4, ((xs.map R4.dt).any fun z => PyData.eqv z x.dt) = decide (x ∈ xs)
  | [] => by simp
  | y :: ys => by
    rw [List.map_cons, List.any_cons, R4.any x ys, R4.eqv]
    by_cases h : y = x
    · subst h; simp
    · by_cases h' : x ∈ ys
      · simp [h']
      · simp [h, h', Ne.symm h]
/-- the items of a list stand as tuples -/
def R4s (H : Hp) : List V → List R4 → Prop
  | [], [] => True
  | v :: vs, x :: xs => (∃ p, v = .ref p ∧ H p = some (.tup x.vs)) ∧ R4s H vs xs
  | _, _ => False
theorem R4s.len {H : Hp} : ∀ {vs : List V} {xs : List R4}, R4s H vs xs → vs.length = xs.length
  | [], [], _ => rfl
  | _ :: _, _ :: _, h => by simp [R4s.len h.2]
  | [], _ :: _, h => h.elim
  | _ :: _, [], h => h.elim
theorem R4s.get {H : Hp} : ∀ {vs : List V} {xs : List R4} {i : Nat} {x : R4}, R4s H vs xs → xs[i]? = some x → ∃ p, vs[i]? = some (.ref p) ∧ H p = some (.tup x.vs)
  | [], [], i, _, _, e => by simp at e
  | v :: vs, y :: ys, 0, x, h, e => by
    have : y = x := by simpa using e
    subst this
    obtain ⟨p, rfl, hp⟩ := h.1
    exact ⟨p, rfl, hp⟩
  | v :: vs, y :: ys, i + 1, x, h, e => R4s.get (i := i) h.2 (by simpa using e)
  | [], _ :: _, _, _, h, _ => h.elim
  | _ :: _, [], _, _, h, _ => h.elim
theorem R4s.app {H : Hp} {p : Addr} {x : R4} (hp : H p = some (.tup x.vs)) : ∀ {vs : List V} {xs : List R4}, R4s H vs xs → R4s H (vs ++ [.ref p]) (xs ++ [x])
  | [], [], _ => ⟨⟨p, rfl, hp⟩, trivial⟩
  | _ :: _, _ :: _, h => ⟨h.1, R4s.app hp h.2⟩
  | [], _ :: _, h => h.elim
  | _ :: _, [], h => h.elim
theorem R4s.set {H : Hp} {p : Addr} {x : R4} (hp : H p = some (.tup x.vs)) : ∀ {vs : List V} {xs : List R4} (i : Nat), R4s H vs xs → R4s H (vs.set i (.ref p)) (xs.set i x)
  | [], [], _, _ => trivial
  | _ :: _, _ :: _, 0, h => ⟨⟨p, rfl, hp⟩, h.2⟩
  | _ :: _, _ :: _, i + 1, h => ⟨h.1, R4s.set hp i h.2⟩
  | [], _ :: _, _, h => h.elim
  | _ :: _, [], _, h => h.elim
theorem R4s.lw {H H' : Hp} (e : Lw H H') : ∀ {vs : List V} {xs : List R4}, R4s H vs xs → R4s H' vs xs
  | [], [], _ => trivial
  | _ :: _, _ :: _, h => by
    obtain ⟨⟨p, q, hp⟩, h2⟩ := h
    exact ⟨⟨p, q, e.keep hp rfl⟩, R4s.lw e h2⟩
  | [], _ :: _, h => h.elim
  | _ :: _, [], h => h.elim
theorem R4s.le {H H' : Hp} (e : Le H H') {vs : List V} {xs : List R4} (h : R4s H vs xs) : R4s H' vs xs := h.lw e.w
theorem R4.dp {K : PySem.W.Frag} {H : Hp} {p : Addr} {x : R4} (h : H p = some (.tup x.vs)) : Dp K H (.ref p) x.dt :=
  .tup (SqT.of h) (.cons (.str _) (.cons (.str _) (.cons (.str _) (.cons (.str _) .nil))))
theorem R4s.dp {K : PySem.W.Frag} {H : Hp} : ∀ {vs : List V} {xs : List R4}, R4s H vs xs → DpAll K H vs (xs.map R4.dt)
  | [], [], _ => .nil
  | _ :: _, _ :: _, h => by
    obtain ⟨⟨p, rfl, hp⟩, h2⟩ := h
    exact .cons (R4.dp hp) (R4s.dp h2)
  | [], _ :: _, h => h.elim
  | _ :: _, [], h => h.elim
/-- x not in l -/
theorem x_notIn4 {K : PySem.W.Frag} {H : Hp} {Q : VK} {p l : Addr} {x : R4} {vs : List V} {xs : List R4} (hx : H p = some (.tup x.vs)) (hl : H l = some (.lst vs)) (hr : R4s H vs xs) (ox : x.ok) (oxs : ∀ y ∈ xs, y.ok) (q : Q (.bl (!decide (x ∈ xs))) H) :
    rNotInD K (.ref p) (.ref l) H Q :=
  x_notInD (R4.dp hx) (.lst (sql hl) hr.dp) (R4.shaped ox) (R4.shapeds oxs) (by rw [R4.any]; exact q)
end MC
set_option maxHeartbeats 4000000
/-! MB17: loops over anything that walks, readings; generators' loops; comprehensions over lists -/
namespace MC
open PySem PySem.Spec PyProof.Rows L2
section
variable {K : PySem.W.Frag} {σ : L2.St} {H : Hp} {D : Ends} {tu : TS} {g : TG} {J : It} {n : Nat} {G : Hp → Prop} {Y : Nat → Hp → V → Hp → Prop} {wi : TI} {t tk : TA} {tl te : TE} {tt : TT} {ws : List Nat} {Q : VK}
theorem x_forW (w : Walk J n G Y) (Pv : Nat → L2.St → Hp → Prop) (h0 : Pv 0 σ H) (hG : ∀ i σ' H', i ≤ n → Pv i σ' H' → G H')
    (hs : ∀ i x σ' H1 H2, i < n → Pv i σ' H1 → Y i H1 x H2 → g x σ' H2 fun σ2 H2 => tu { D with nx := Pv (i + 1), ct := Pv (i + 1), bk := D.nx } σ2 H2) (hd : ∀ σ' H', Pv n σ' H' → D.nx σ' H') : kFor g tu D σ J H := for_it w Pv h0 hG hs hd
/-- for i, x in enumerate(list) -/
def kEnL (K : PySem.W.Frag) (R : It → Hp → Prop) : List V → Hp → Prop := fun vs H1 => ∃ a xs, vs = [.ref a] ∧ SqL K H1 a xs ∧ R (Ite K a) H1
theorem x_enL {R : It → Hp → Prop} (h : t σ H (kEnL K R)) : iEnum K t σ H R := h
theorem x_forEn {a : Addr} {xs : List V} (h : SqL K H a xs) (Pv : Nat → L2.St → Hp → Prop) (h0 : Pv 0 σ H) (hG : ∀ i σ' H', i ≤ xs.length → Pv i σ' H' → SqL K H' a xs)
    (hs : ∀ i x T σ' H1 H2, xs[i]? = some x → Pv i σ' H1 → Le H1 H2 → H2 T = some (.tup [.int (i : Nat), x]) → g (.ref T) σ' H2 fun σ2 H2 => tu { D with nx := Pv (i + 1), ct := Pv (i + 1), bk := D.nx } σ2 H2)
    (hd : ∀ σ' H', Pv xs.length σ' H' → D.nx σ' H') : kEnL K (kFor g tu D σ) [.ref a] H :=
  ⟨a, xs, rfl, h, x_forW walk_enum Pv h0 hG (fun i x σ' H1 H2 hi p y => by
    obtain ⟨T, u, v, rfl, hT, rfl, e1, e2⟩ := y
    cases e1
    exact hs i v T σ' H1 _ e2 p (Le.new hT) upd_same) hd⟩
theorem walk_enumN {a : Addr} {xs : List V} {k0 : Int} : Walk (ItN K k0 a) xs.length (fun H => SqL K H a xs) (YPair (fun i => some (.int (k0 + (i : Nat)))) (fun i => xs[i]?)) := by
  refine ⟨fun i _ hi q => ⟨xs, xs[i], q, by simp [hi]⟩, fun _ q => ⟨xs, q, rfl⟩, fun i H v H' _ q y => ?_⟩
  obtain ⟨T, x, h1, h2, h3, h4⟩ := y
  exact ⟨T, _, x, h1, h2, h3, rfl, h4 xs q⟩
def kEnN (K : PySem.W.Frag) (R : It → Hp → Prop) (vs : List V) : List V → Hp → Prop := fun zs H2 => ∃ (a : Addr) (xs : List V) (k0 : Int), vs = [.ref a] ∧ zs = [.int k0] ∧ -1000000 < k0 ∧ k0 < 1000000 ∧ SqL K H2 a xs ∧ R (ItN K k0 a) H2
theorem x_enN {R : It → Hp → Prop} (h : t σ H fun vs H1 => tk σ H1 (kEnN K R vs)) : iEnumN K t tk σ H R := h
theorem x_forEnN {a : Addr} {xs : List V} {k0 : Int} (h : SqL K H a xs) (hk : -1000000 < k0 ∧ k0 < 1000000) (Pv : Nat → L2.St → Hp → Prop) (h0 : Pv 0 σ H) (hG : ∀ i σ' H', i ≤ xs.length → Pv i σ' H' → SqL K H' a xs)
    (hs : ∀ i x T σ' H1 H2, xs[i]? = some x → Pv i σ' H1 → Le H1 H2 → H2 T = some (.tup [.int (k0 + (i : Nat)), x]) → g (.ref T) σ' H2 fun σ2 H2 => tu { D with nx := Pv (i + 1), ct := Pv (i + 1), bk := D.nx } σ2 H2)
    (hd : ∀ σ' H', Pv xs.length σ' H' → D.nx σ' H') : kEnN K (kFor g tu D σ) [.ref a] [.int k0] H :=
  ⟨a, xs, k0, rfl, rfl, hk.1, hk.2, h, x_forW walk_enumN Pv h0 hG (fun i x σ' H1 H2 hi p y => by
    obtain ⟨T, u, v, rfl, hT, rfl, e1, e2⟩ := y
    cases e1
    exact hs i v T σ' H1 _ e2 p (Le.new hT) upd_same) hd⟩
/-- for x in tuple -/
def kIT (K : PySem.W.Frag) (R : It → Hp → Prop) : VK := fun x H1 => ∃ a, x = .ref a ∧ (∃ xs, SqT K H1 a xs) ∧ R (Itt K a) H1
theorem x_it {R : It → Hp → Prop} (h : tl σ H (kIT K R)) : iTup K tl σ H R := h
theorem x_forT {p : Addr} {xs : List V} {j : Nat} (h : H p = some (.tup xs)) (Pv : Nat → L2.St → Hp → Prop) (h0 : Pv 0 σ H) (hl : ∀ i σ' H', i ≤ xs.length → Pv i σ' H' → H' p = some (.tup xs)) (hs : ∀ i x σ' H', xs[i]? = some x → Pv i σ' H' → tu { D with nx := Pv (i + 1), ct := Pv (i + 1), bk := D.nx } (σ'.set j (some x)) H')
    (hd : ∀ σ' H', Pv xs.length σ' H' → D.nx σ' H') : kIT K (kFor (gName j) tu D σ) (.ref p) H :=
  ⟨p, rfl, ⟨xs, sqt h⟩, x_forW walk_tup Pv h0 (fun i σ' H' hi p => sqt (hl i σ' H' hi p)) (fun i x σ' H1 H2 hi p y => by
    obtain ⟨rfl, e⟩ := y
    exact hs i x σ' _ e p) hd⟩
/-- a, b = tuple, as a target -/
theorem x_g2 {T : Addr} {x y : V} {i j : Nat} {QH : L2.St → Hp → Prop} (h : H T = some (.tup [x, y])) (q : QH ((σ.set i (some x)).set j (some y)) H) : gTup K 2 (gCons (gName i) (gCons (gName j) gNil)) (.ref T) σ H QH :=
  ⟨T, [x, y], rfl, sqt h, rfl, x, [y], rfl, y, [], rfl, rfl, q⟩
theorem x_g3 {T : Addr} {x y z : V} {i j k : Nat} {QH : L2.St → Hp → Prop} (h : H T = some (.tup [x, y, z])) (q : QH (((σ.set i (some x)).set j (some y)).set k (some z)) H) : gTup K 3 (gCons (gName i) (gCons (gName j) (gCons (gName k) gNil))) (.ref T) σ H QH :=
  ⟨T, [x, y, z], rfl, sqt h, rfl, x, [y, z], rfl, y, [z], rfl, z, [], rfl, rfl, q⟩
theorem x_g4 {T : Addr} {x y z u : V} {i j k l : Nat} {QH : L2.St → Hp → Prop} (h : H T = some (.tup [x, y, z, u])) (q : QH ((((σ.set i (some x)).set j (some y)).set k (some z)).set l (some u)) H) : gTup K 4 (gCons (gName i) (gCons (gName j) (gCons (gName k) (gCons (gName l) gNil)))) (.ref T) σ H QH :=
  ⟨T, [x, y, z, u], rfl, sqt h, rfl, x, [y, z, u], rfl, y, [z, u], rfl, z, [u], rfl, u, [], rfl, rfl, q⟩
theorem x_asgT {m : Nat} {ts : TGs} (h : te σ H fun v H1 => gTup K m ts v σ H1 fun σ2 H2 => D.nx σ2 H2) : tAsg te (gTup K m ts) D σ H := h

theorem x_ixL2 {K : PySem.W.Frag} {H : Hp} {Q : VK} {p : Addr} {xs : List V} {i : Int} {v : V} (h : H p = some (.lst xs)) (ha : atI xs i = some v) (q : Q v H) : rIx K (.ref p) (.int i) H Q := x_ixL (sql h) ha q
theorem x_lenL2 {K : PySem.W.Frag} {H : Hp} {Q : VK} {p : Addr} {xs : List V} (h : H p = some (.lst xs)) (q : Q (.int (xs.length : Nat)) H) : rLenU K [.ref p] H Q := x_lenL (sql h) q
/-- o.f = e -/
def kSF (K : PySem.W.Frag) (f : Str) (y : V) (nx : Hp → Prop) : VK := fun x H2 => ∃ a C dx fs, x = .ref a ∧ H2 a = some (.ins C dx fs) ∧ Cls K C ∧ NoAttr K C f ∧ fs.length < 1000 ∧ nx (upd H2 a (.ins C dx (putF f y fs)))
theorem x_sfld {f : Str} {to : TE} (h : te σ H fun y H1 => to σ H1 (kSF K f y fun H3 => D.nx σ H3)) : sFld K to te f D σ H := h
theorem x_kSF {f : Str} {y : V} {nx : Hp → Prop} {a C dx : Addr} {fs : List (Str × V)} (h : H a = some (.ins C dx fs)) (k : FldOk K C f) (hl : fs.length < 1000) (q : nx (upd H a (.ins C dx (putF f y fs)))) : kSF K f y nx (.ref a) H := ⟨a, C, dx, fs, rfl, h, k.1, k.2, hl, q⟩
/-! ### all stays but at p -/
structure Lx (p : Addr) (H H' : Hp) : Prop where
  at_ : ∀ b o, b ≠ p → H b = some o → H' b = some o
  fr : ∀ b, H' b = none → H b = none
theorem Lx.refl {p : Addr} (H : Hp) : Lx p H H := ⟨fun _ _ _ h => h, fun _ h => h⟩
theorem Lx.of {p : Addr} {H H' : Hp} (e : Le H H') : Lx p H H' := ⟨fun b o _ h => e.at_ b o h, e.fr⟩
theorem Lx.trans {p : Addr} {H H1 H2 : Hp} (a : Lx p H H1) (b : Lx p H1 H2) : Lx p H H2 := ⟨fun x o n h => b.at_ x o n (a.at_ x o n h), fun x h => a.fr x (b.fr x h)⟩
theorem Lx.put {p : Addr} {H H' : Hp} {o o' : HO} (e : Lx p H H') (h : H' p = some o) : Lx p H (upd H' p o') := ⟨fun b u n hb => by
  rw [upd_ne n]; exact e.at_ b u n hb, fun b hb => by
  by_cases n : b = p
  · rw [n, upd_same] at hb; cases hb
  · rw [upd_ne n] at hb; exact e.fr b hb⟩
/-- what is new may change -/
theorem Lx.own {p l : Addr} {H H' : Hp} {o : HO} (e : Lx p H H') (h : H l = none) (hl : ∃ u, H' l = some u) : Lx p H (upd H' l o) := ⟨fun b u n hb => by
  rw [upd_ne (ne_of_none hb h)]; exact e.at_ b u n hb, fun b hb => by
  by_cases n : b = l
  · rw [n]; exact h
  · rw [upd_ne n] at hb; exact e.fr b hb⟩

/-! ### [e for x in list], no test: the i-th item keeps R i v, which stays -/
theorem x_lcL {p : Addr} {xs : List V} {j : Nat} (R : Nat → V → Hp → Prop) (h : H p = some (.lst xs)) (hz : xs.length ≤ 1000000)
    (st : ∀ i v H1 H2, Le H1 H2 → R i v H1 → R i v H2) (so : ∀ i v H1 D acc acc', H1 D = some (.lst acc) → R i v H1 → R i v (upd H1 D (.lst acc')))
    (hw : ∀ x, wipe ((wipe σ ws).set j x) ws = wipe σ ws)
    (he : ∀ i x H', xs[i]? = some x → Le H H' → ∀ Qe : VK, (∀ v H2, Le H' H2 → R i v H2 → Qe v H2) → te ((wipe σ ws).set j (some x)) H' Qe)
    (q : ∀ r H1 ys, H r = none → Le H H1 → H1 r = some (.lst ys) → ys.length = xs.length → (∀ i v, ys[i]? = some v → R i v H1) → Q (.ref r) H1) : kIL K (kLc (gName j) tYes te ws σ Q) (.ref p) H := by
  refine ⟨p, rfl, ⟨xs, sql h⟩, fun D hD => lc_it walk_list (Qd := fun H => Q (.ref D) H) (fun i H' => Le H H' ∧ ∃ ys, H' D = some (.lst ys) ∧ ys.length = i ∧ ∀ k v, ys[k]? = some v → R k v H')
    ⟨le_own (Le.refl H) hD, [], upd_same, rfl, fun k v e => by simp at e⟩ (fun i H' hi p => sql (p.1.keep h)) (fun i x H1 H2 hi p y => ?_) fun H' p => ?_⟩
  · obtain ⟨rfl, hx⟩ := y
    obtain ⟨e1, ys, hD1, hl, hr⟩ := p
    refine ⟨hw _, ?_⟩
    simp only [tYes, if_true]
    refine he i x _ hx e1 _ fun v H2 e2 hv => ⟨ys, e2.keep hD1, by rw [sizeLine_eq]; omega, le_own (e1.trans e2) hD, ys ++ [v], upd_same, by simp [hl], fun k u hk => ?_⟩
    refine so k u H2 D ys _ (e2.keep hD1) ?_
    by_cases hlt : k < ys.length
    · rw [List.getElem?_append_left hlt] at hk
      exact st k u _ _ e2 (hr k u hk)
    · rw [List.getElem?_append_right (by omega)] at hk
      have h0 : k - ys.length = 0 := by
        cases hh : k - ys.length with
        | zero => rfl
        | succ m => rw [hh] at hk; simp at hk
      rw [h0] at hk
      cases hk
      have : k = i := by omega
      rw [this]
      exact hv
  · obtain ⟨e1, ys, hD1, hl, hr⟩ := p
    exact q D H' ys hD e1 hD1 hl hr
/-- texts -/
theorem x_lcLS {p : Addr} {xs : List V} {j : Nat} (f : Nat → Str) (h : H p = some (.lst xs)) (hz : xs.length ≤ 1000000)
    (hw : ∀ x, wipe ((wipe σ ws).set j x) ws = wipe σ ws)
    (he : ∀ i x H', xs[i]? = some x → Le H H' → ∀ Qe : VK, (∀ H2, Le H' H2 → Qe (.str (f i)) H2) → te ((wipe σ ws).set j (some x)) H' Qe)
    (q : ∀ r H1, H r = none → Le H H1 → H1 r = some (.lst (((List.range xs.length).map f).map V.str)) → Q (.ref r) H1) : kIL K (kLc (gName j) tYes te ws σ Q) (.ref p) H :=
  x_lcL (fun i v _ => v = .str (f i)) h hz (fun _ _ _ _ _ h => h) (fun _ _ _ _ _ _ _ h => h) hw (fun i x H' hx e Qe hq => he i x H' hx e Qe fun H2 e2 => hq _ H2 e2 rfl) fun r H1 ys hr e h1 hl hys => q r H1 hr e (by
    rw [h1]
    congr 2
    refine List.ext_getElem? fun i => ?_
    by_cases hi : i < xs.length
    · have hi2 : i < ys.length := by omega
      rw [List.getElem?_eq_getElem hi2, hys i ys[i] (List.getElem?_eq_getElem hi2)]
      simp [hi]
    · rw [List.getElem?_eq_none (by omega), List.getElem?_eq_none (by simp; omega)])
end

/-! ### generators -/
section
variable {K : PySem.W.Frag} {σ : L2.St} {H : Hp} {D : GEnds} {tu t1 t2 : TGn} {g : TG} {J : It} {n : Nat} {G : Hp → Prop} {Y : Nat → Hp → V → Hp → Prop} {wi : TI} {te : TE} {tt : TT} {ys : List V}
def kGFor (g : TG) (tb : TGn) (D : GEnds) (ys : List V) (σ : L2.St) : It → Hp → Prop := fun J H1 => ∃ W : Nat → Nat → List V → L2.St → Hp → Prop, (∃ m, W 0 m ys σ H1) ∧ ∀ i m ys σ H, W i m ys σ H →
  (J.stop i H ∧ D.nx ys σ H) ∨ (J.go i H ∧ ∃ N : List V → L2.St → Hp → Prop, (∀ ys' σ' H', N ys' σ' H' → ∃ m', m' < m ∧ W (i + 1) m' ys' σ' H') ∧ ∀ x H', J.yld i H x H' → g x σ H' fun σ2 H2 => tb { D with nx := N, ct := N, bk := D.nx } ys σ2 H2)
theorem x_gfor (h : wi σ H (kGFor g tu D ys σ)) : tGFor wi g tu D ys σ H := h
theorem x_gforW (w : Walk J n G Y) (Pv : Nat → List V → L2.St → Hp → Prop) (h0 : Pv 0 ys σ H) (hG : ∀ i ys' σ' H', i ≤ n → Pv i ys' σ' H' → G H')
    (hs : ∀ i x ys' σ' H1 H2, i < n → Pv i ys' σ' H1 → Y i H1 x H2 → g x σ' H2 fun σ2 H2 => tu { D with nx := Pv (i + 1), ct := Pv (i + 1), bk := D.nx } ys' σ2 H2) (hd : ∀ ys' σ' H', Pv n ys' σ' H' → D.nx ys' σ' H') : kGFor g tu D ys σ J H := by
  refine ⟨fun i m ys σ H => m = n - i ∧ i ≤ n ∧ Pv i ys σ H, ⟨n, by simp, Nat.zero_le _, h0⟩, ?_⟩
  rintro i m ys σ H ⟨rfl, hi, p⟩
  have q := hG i ys σ H hi p
  by_cases hlt : i < n
  · exact .inr ⟨w.goes i H hlt q, Pv (i + 1), fun ys' σ' H' p' => ⟨n - (i + 1), by omega, rfl, hlt, p'⟩, fun x H' y => hs i x ys σ H H' hlt p (w.yields i H x H' hlt q y)⟩
  · have e : i = n := by omega
    subst e
    exact .inl ⟨w.stops H q, hd ys σ H p⟩
theorem x_gfor1 {j : Nat} {n : Int} (hn : -(2 ^ 62) ≤ n ∧ n < 2 ^ 62) (Pv : Nat → List V → L2.St → Hp → Prop) (h0 : Pv 0 ys σ H)
    (hs : ∀ (i : Nat) ys' σ' H', (i : Int) < n → Pv i ys' σ' H' → tu { D with nx := Pv (i + 1), ct := Pv (i + 1), bk := D.nx } ys' (σ'.set j (some (.int (i : Nat)))) H') (hd : ∀ ys' σ' H', Pv n.toNat ys' σ' H' → D.nx ys' σ' H') : kR1 (kGFor (gName j) tu D ys σ) [.int n] H :=
  ⟨n, rfl, hn.1, hn.2, x_gforW walk_range Pv h0 (fun _ _ _ _ _ _ => trivial) (fun i x ys' σ' H1 H2 hi p y => by
    obtain ⟨rfl, rfl⟩ := y
    have e0 : (0 : Int) + (i : Int) = (i : Int) := Int.zero_add _
    show tu _ ys' (σ'.set j (some (.int ((0 : Int) + (i : Int))))) _
    rw [e0]
    exact hs i ys' σ' _ (by omega) p) hd⟩
theorem x_gforEn {a : Addr} {xs : List V} (h : SqL K H a xs) (Pv : Nat → List V → L2.St → Hp → Prop) (h0 : Pv 0 ys σ H) (hG : ∀ i ys' σ' H', i ≤ xs.length → Pv i ys' σ' H' → SqL K H' a xs)
    (hs : ∀ i x T ys' σ' H1 H2, xs[i]? = some x → Pv i ys' σ' H1 → Le H1 H2 → H2 T = some (.tup [.int (i : Nat), x]) → g (.ref T) σ' H2 fun σ2 H2 => tu { D with nx := Pv (i + 1), ct := Pv (i + 1), bk := D.nx } ys' σ2 H2)
    (hd : ∀ ys' σ' H', Pv xs.length ys' σ' H' → D.nx ys' σ' H') : kEnL K (kGFor g tu D ys σ) [.ref a] H :=
  ⟨a, xs, rfl, h, x_gforW walk_enum Pv h0 hG (fun i x ys' σ' H1 H2 hi p y => by
    obtain ⟨T, u, v, rfl, hT, rfl, e1, e2⟩ := y
    cases e1
    exact hs i v T ys' σ' H1 _ e2 p (Le.new hT) upd_same) hd⟩
theorem x_gseq (h : t1 { D with nx := fun ys' σ' H' => t2 D ys' σ' H' } ys σ H) : tGThen t1 t2 D ys σ H := h
theorem x_g0 (h : D.nx ys σ H) : tG0 D ys σ H := h
theorem x_gif {b : Bool} (h : EvT tt σ H b) (h1 : b = true → ∀ H1, Le H H1 → t1 D ys σ H1) (h2 : b = false → ∀ H1, Le H H1 → t2 D ys σ H1) : tGIf tt t1 t2 D ys σ H := h H (Le.refl H) _ fun H1 e => by
  cases b with
  | true => rw [if_pos rfl]; exact h1 rfl H1 e
  | false => rw [if_neg Bool.false_ne_true]; exact h2 rfl H1 e
def kGIf (t1 t2 : TGn) (D : GEnds) (ys : List V) (σ : L2.St) : Bool → Hp → Prop := fun b H1 => if b = true then t1 D ys σ H1 else t2 D ys σ H1
theorem x_gifK (h : tt σ H (kGIf t1 t2 D ys σ)) : tGIf tt t1 t2 D ys σ H := h
theorem x_kGIf {b : Bool} (h1 : b = true → t1 D ys σ H) (h2 : b = false → t2 D ys σ H) : kGIf t1 t2 D ys σ b H := by
  unfold kGIf
  cases b with
  | true => rw [if_pos rfl]; exact h1 rfl
  | false => rw [if_neg Bool.false_ne_true]; exact h2 rfl
theorem x_gyield (hl : ys.length < 1000000) (h : te σ H fun x H1 => D.nx (ys ++ [x]) σ H1) : tGYield te D ys σ H := ⟨Nat.lt_of_lt_of_le hl (szb (Nat.le_refl _)), h⟩
theorem x_gps {u : TS} (h : u (D.at ys) σ H) : tPlain u D ys σ H := h
end
end MC
set_option maxHeartbeats 4000000
/-! MB18: texts: count, find, split by one sign -/
namespace MC
open PySem PySem.Spec PyProof.Rows L2
theorem str_ext' {z w : Str} (h : z.cps.toList = w.cps.toList) : z = w := by
  obtain ⟨a⟩ := z
  obtain ⟨b⟩ := w
  have h : a.toList = b.toList := h
  rw [show a = b from by cases a; cases b; simpa using h]
theorem at_one (x : Str) (c i : Nat) : StrLaws.At x ⟨#[c]⟩ x.length i ↔ x.cps.toList[i]? = some c := StrLaws.subAt_one x c i
theorem count_drop (l : List Nat) (c : Nat) : ∀ (k a : Nat), (∀ j, a ≤ j → j < a + k → l[j]? ≠ some c) → (l.drop a).count c = (l.drop (a + k)).count c
  | 0, a, _ => rfl
  | k + 1, a, h => by
    rw [show a + (k + 1) = (a + 1) + k by omega, ← count_drop l c k (a + 1) fun j h1 h2 => h j (by omega) (by omega)]
    by_cases ha : a < l.length
    · rw [List.drop_eq_getElem_cons ha, List.count_cons]
      have : l[a] ≠ c := fun z => h a (Nat.le_refl _) (by omega) (by rw [List.getElem?_eq_getElem ha, z])
      simp [this]
    · rw [List.drop_eq_nil_of_le (by omega), List.drop_eq_nil_of_le (by omega)]
theorem chain_count (x : Str) (c : Nat) : ∀ (cuts : List Nat) (a f : Nat), StrLaws.ChainG x ⟨#[c]⟩ x.length a cuts f → (∀ k, f ≤ k → ¬ StrLaws.At x ⟨#[c]⟩ x.length k) → cuts.length = (x.cps.toList.drop a).count c
  | [], a, f, h, hn => by
    have e : f = a := h
    subst e
    rw [count_drop x.cps.toList c x.cps.toList.length f fun j h1 _ => fun z => hn j h1 ((at_one x c j).mpr z), List.drop_eq_nil_of_le (by omega)]
    rfl
  | k :: r, a, f, h, hn => by
    obtain ⟨h1, h2, h3, h4⟩ := h
    have ih := chain_count x c r _ f h4 hn
    have hk : x.cps.toList[k]? = some c := (at_one x c k).mp h2
    obtain ⟨hlt, hkc⟩ := List.getElem?_eq_some_iff.mp hk
    have e : (x.cps.toList.drop a).count c = (x.cps.toList.drop k).count c := by
      have := count_drop x.cps.toList c (k - a) a fun j q1 q2 => fun z => h3 j q1 (by omega) ((at_one x c j).mpr z)
      rw [this, show a + (k - a) = k by omega]
    rw [e, List.drop_eq_getElem_cons hlt, List.count_cons, hkc, List.length_cons, ih]
    rw [show (⟨#[c]⟩ : Str).length = 1 from rfl]
    simp
theorem count_one (x : Str) (c : Nat) : Txt.count x ⟨#[c]⟩ = ((x.cps.toList.count c : Nat) : Int) := by
  obtain ⟨f, h1, h2⟩ := StrLaws.occ_tight x ⟨#[c]⟩ (Nat.le_refl _)
  unfold Txt.count
  rw [chain_count x c _ 0 f h1 h2]; rfl
theorem find_one {x : Str} {c : Nat} {u v : List Nat} (h : x.cps.toList = u ++ c :: v) (hu : c ∉ u) : Txt.find x ⟨#[c]⟩ = ((u.length : Nat) : Int) := by
  have hu' : x.cps.toList[u.length]? = some c := by rw [h]; simp
  rcases StrLaws.occ_head x ⟨#[c]⟩ 1 (Nat.le_refl _) with ⟨_, h2⟩ | ⟨i, r, h1, h2, h3⟩
  · exact absurd ((at_one x c _).mpr hu') (h2 _)
  · unfold Txt.find
    rw [h1]
    have hi := (at_one x c i).mp h2
    have e1 : ¬ u.length < i := fun z => h3 _ z ((at_one x c _).mpr hu')
    have e2 : ¬ i < u.length := fun z => by
      rw [h, List.getElem?_append_left z] at hi
      exact hu (List.mem_of_getElem? hi)
    show (i : Int) = _
    omega
theorem find_none {x : Str} {c : Nat} (h : c ∉ x.cps.toList) : Txt.find x ⟨#[c]⟩ = -1 := by
  rcases StrLaws.occ_head x ⟨#[c]⟩ 1 (Nat.le_refl _) with ⟨h1, _⟩ | ⟨i, r, h1, h2, _⟩
  · unfold Txt.find; rw [h1]
  · exact absurd (List.mem_of_getElem? ((at_one x c i).mp h2)) h
/-- lists glued by c -/
def glueL (c : Nat) : List (List Nat) → List Nat
  | [] => []
  | [x] => x
  | x :: y :: r => x ++ c :: glueL c (y :: r)
theorem join_glue (c : Nat) : ∀ ys : List Str, (Str.join ⟨#[c]⟩ ys).cps.toList = glueL c (ys.map (·.cps.toList))
  | [] => rfl
  | [x] => by simp [Str.join, glueL]
  | x :: y :: r => by
    have ih := join_glue c (y :: r)
    have e : Str.join ⟨#[c]⟩ (x :: y :: r) = x ++ ⟨#[c]⟩ ++ Str.join ⟨#[c]⟩ (y :: r) := by first | rfl | simp [Str.join]
    have e2 : ∀ a b : Str, (a ++ b).cps.toList = a.cps.toList ++ b.cps.toList := fun a b => by
      show (a.cps ++ b.cps).toList = _
      simp
    rw [e, e2, e2, ih]
    simp [glueL]
theorem cut_uniq {c : Nat} : ∀ {u u' v v' : List Nat}, c ∉ u → c ∉ u' → u ++ c :: v = u' ++ c :: v' → u = u' ∧ v = v'
  | [], [], v, v', _, _, h => ⟨rfl, by simpa using h⟩
  | [], x :: u', v, v', _, h2, h => by
    simp at h
    exact absurd (by rw [h.1]; exact List.mem_cons_self) h2
  | x :: u, [], v, v', h1, _, h => by
    simp at h
    exact absurd (by rw [h.1]; exact List.mem_cons_self) h1
  | x :: u, y :: u', v, v', h1, h2, h => by
    simp at h
    obtain ⟨e1, e2⟩ := cut_uniq (fun z => h1 (List.mem_cons_of_mem _ z)) (fun z => h2 (List.mem_cons_of_mem _ z)) h.2
    exact ⟨by rw [h.1, e1], e2⟩
theorem glue_uniq {c : Nat} : ∀ {xs ys : List (List Nat)}, xs ≠ [] → ys ≠ [] → (∀ x ∈ xs, c ∉ x) → (∀ y ∈ ys, c ∉ y) → glueL c xs = glueL c ys → xs = ys
  | [], _, h, _, _, _, _ => absurd rfl h
  | _, [], _, h, _, _, _ => absurd rfl h
  | [x], [y], _, _, _, _, h => by simpa [glueL] using h
  | [x], y :: z :: r, _, _, h1, _, h => by
    have h : x = y ++ c :: glueL c (z :: r) := h
    exact absurd (by rw [h]; simp) (h1 x List.mem_cons_self)
  | y :: z :: r, [x], _, _, _, h1, h => by
    have h : y ++ c :: glueL c (z :: r) = x := h
    exact absurd (by rw [← h]; simp) (h1 x List.mem_cons_self)
  | x :: y :: r, x' :: y' :: r', _, _, h1, h2, h => by
    have h : x ++ c :: glueL c (y :: r) = x' ++ c :: glueL c (y' :: r') := h
    obtain ⟨e1, e2⟩ := cut_uniq (h1 x List.mem_cons_self) (h2 x' List.mem_cons_self) h
    have ih := glue_uniq (xs := y :: r) (ys := y' :: r') (by simp) (by simp) (fun q hq => h1 q (List.mem_cons_of_mem _ hq)) (fun q hq => h2 q (List.mem_cons_of_mem _ hq)) e2
    rw [e1, ih]
theorem split_join {c : Nat} {ys : List Str} (h0 : ys ≠ []) (h : ∀ y ∈ ys, c ∉ y.cps.toList) : Txt.split (Txt.join ⟨#[c]⟩ ys) ⟨#[c]⟩ = ys := by
  have e0 : Txt.join ⟨#[c]⟩ ys = Str.join ⟨#[c]⟩ ys := StrLaws.glued_eq_join _ _
  rw [e0]
  have h1 := StrLaws.join_split (Str.join ⟨#[c]⟩ ys) ⟨#[c]⟩
  have h2 := StrLaws.split_free (Str.join ⟨#[c]⟩ ys) c
  have hn : Txt.split (Str.join ⟨#[c]⟩ ys) ⟨#[c]⟩ ≠ [] := by
    unfold Txt.split
    split
    · simp
    · rw [StrLaws.partsBetween_eq]
      obtain ⟨p, r, e⟩ := StrLaws.partsFrom_ne (Str.join ⟨#[c]⟩ ys) (⟨#[c]⟩ : Str).length 0 (Builtin.Str.occurrences (Str.join ⟨#[c]⟩ ys) ⟨#[c]⟩ 0 (Str.join ⟨#[c]⟩ ys).length ((Str.join ⟨#[c]⟩ ys).length + 1))
      rw [e]; split <;> simp
  generalize Txt.split (Str.join ⟨#[c]⟩ ys) ⟨#[c]⟩ = zs at *
  have e := congrArg (fun s : Str => s.cps.toList) h1
  simp only [join_glue] at e
  have := glue_uniq (xs := zs.map (·.cps.toList)) (ys := ys.map (·.cps.toList)) (by simpa using hn) (by simpa using h0) (fun x hx => by
    obtain ⟨y, hy, rfl⟩ := List.mem_map.mp hx
    exact h2 y hy) (fun x hx => by
    obtain ⟨y, hy, rfl⟩ := List.mem_map.mp hx
    exact h y hy) e
  have inj : ∀ {as bs : List Str}, as.map (·.cps.toList) = bs.map (·.cps.toList) → as = bs := by
    intro as
    induction as with
    | nil => intro bs h; cases bs with
      | nil => rfl
      | cons b bs => simp at h
    | cons a as ih => intro bs h; cases bs with
      | nil => simp at h
      | cons b bs =>
        simp only [List.map_cons, List.cons.injEq] at h
        rw [str_ext' h.1, ih h.2]
  exact inj this
/-! ### readings -/
section
variable {X : Cx} {K : PySem.W.Frag} {σ : L2.St} {H : Hp} {Q : VK}
def rSplitS : V → List V → Hp → VK → Prop := fun x xs H Q => ∃ a b, x = .str a ∧ xs = [.str b] ∧ (b.length == 0) = false ∧ a.length + 2 ≤ sizeLine ∧ rNewStrs (Txt.split a b) H Q
theorem mt_splitS : MtR X "str.split" rSplitS := mt_split
theorem x_splitS {z b : Str} (hb : (b.length == 0) = false) (hz : z.length ≤ 100000) (q : ∀ p H1, H p = none → Le H H1 → H1 p = some (.lst ((Txt.split z b).map V.str)) → Q (.ref p) H1) : rSplitS (.str z) [.str b] H Q :=
  ⟨z, b, rfl, rfl, hb, by rw [sizeLine_eq]; omega, fun p hp => q p _ hp (Le.new hp) upd_same⟩
def kMkSt (K : PySem.W.Frag) (C : Addr) (sp : List V → Hp → VK → XK → Prop) (E : L2.St → XK) (te : TE) (σ : L2.St) (Q : VK) : VK := fun c H0 => c = .ref C ∧ te σ H0 fun y H1 => ∃ a xs, y = V.ref a ∧ (SqT K H1 a xs ∨ SqL K H1 a xs) ∧ sp xs H1 Q (E σ)
theorem x_mkSt {C : Addr} {sp : List V → Hp → VK → XK → Prop} {E : L2.St → XK} {tf te : TE} (h : tf σ H (kMkSt K C sp E te σ Q)) : tMkSt K C sp E tf te σ H Q := h
def kSt (K : PySem.W.Frag) (sp : List V → Hp → VK → XK → Prop) (E : L2.St → XK) (σ : L2.St) (Q : VK) : VK := fun y H1 => ∃ a xs, y = V.ref a ∧ (SqT K H1 a xs ∨ SqL K H1 a xs) ∧ sp xs H1 Q (E σ)
theorem x_kMkSt {C : Addr} {sp : List V → Hp → VK → XK → Prop} {E : L2.St → XK} {te : TE} (h : te σ H (kSt K sp E σ Q)) : kMkSt K C sp E te σ Q (.ref C) H := ⟨rfl, h⟩
theorem x_kStL {sp : List V → Hp → VK → XK → Prop} {E : L2.St → XK} {a : Addr} {xs : List V} (h : H a = some (.lst xs)) (q : sp xs H Q (E σ)) : kSt K sp E σ Q (.ref a) H := ⟨a, xs, rfl, .inr (sql h), q⟩
theorem x_kStT {sp : List V → Hp → VK → XK → Prop} {E : L2.St → XK} {a : Addr} {xs : List V} (h : H a = some (.tup xs)) (q : sp xs H Q (E σ)) : kSt K sp E σ Q (.ref a) H := ⟨a, xs, rfl, .inl (sqt h), q⟩
end
section
variable {σ : L2.St} {H : Hp} {Q : VK}
def kMethK (C : Addr) (m : Str) (sp : List V → Hp → VK → XK → Prop) (E : L2.St → XK) (tk : TA) (σ : L2.St) (Q : VK) : VK := fun x H1 => ∃ a dx fs, x = .ref a ∧ H1 a = some (.ins C dx fs) ∧ fs.lookup m = none ∧ tk σ H1 fun zs H2 => sp (.ref a :: zs) H2 Q (E σ)
theorem x_methK {C : Addr} {m : Str} {sp : List V → Hp → VK → XK → Prop} {E : L2.St → XK} {ta : TE} {tk : TA} (h : ta σ H (kMethK C m sp E tk σ Q)) : tMethK C m sp E ta tk σ H Q := h
theorem x_kMethK {C : Addr} {m : Str} {sp : List V → Hp → VK → XK → Prop} {E : L2.St → XK} {tk : TA} {a dx : Addr} {fs : List (Str × V)} (h : H a = some (.ins C dx fs)) (hl : fs.lookup m = none) (q : tk σ H fun zs H2 => sp (.ref a :: zs) H2 Q (E σ)) : kMethK C m sp E tk σ Q (.ref a) H := ⟨a, dx, fs, rfl, h, hl, q⟩
end
/-! ### cuts -/
theorem cut_mid {z v : Str} {u w : List Nat} {i j : Int} (h : z.cps.toList = u ++ (v.cps.toList ++ w)) (hi : i = (u.length : Nat)) (hj : j = ((u.length + v.length : Nat) : Int)) : cutS z (some i) (some j) = v := by
  subst hi hj
  refine str_ext' ?_
  have hl : v.cps.toList.length = v.length := by simp [Str.length]
  have hz : z.cps.toList.length = z.length := by simp [Str.length]
  have hz2 : z.length = u.length + (v.length + w.length) := by rw [← hz, h, List.length_append, List.length_append, hl]
  unfold cutS
  rw [HT.sIx_nat, HT.sIx_nat]
  simp only [h]
  rw [Nat.min_eq_left (by omega), Nat.min_eq_left (by omega), List.drop_left, show u.length + v.length - u.length = v.cps.toList.length by rw [hl]; omega, List.take_left]
theorem cut_to {z v : Str} {w : List Nat} {j : Int} (h : z.cps.toList = v.cps.toList ++ w) (hj : j = ((v.length : Nat) : Int)) : cutS z none (some j) = v := by
  have e := cut_mid (i := 0) (j := j) (u := []) h rfl (by rw [hj]; simp)
  exact e
theorem cut_from {z v : Str} {u : List Nat} {i : Int} (h : z.cps.toList = u ++ v.cps.toList) (hi : i = (u.length : Nat)) : cutS z (some i) none = v := by
  have hl : v.cps.toList.length = v.length := by simp [Str.length]
  have hz : z.cps.toList.length = z.length := by simp [Str.length]
  have hz2 : z.length = u.length + v.length := by rw [← hz, h, List.length_append, hl]
  have e := cut_mid (z := z) (v := v) (u := u) (w := []) (i := i) (j := ((u.length + v.length : Nat) : Int)) (by rw [h, List.append_nil]) hi rfl
  rw [← e]
  unfold cutS
  rw [HT.sIx_none, HT.sIx_nat, hz2, Nat.min_self]
theorem vals_rev {zs : List V} {ws : List Value} (h : Vals zs ws) : Vals zs.reverse ws.reverse := by
  induction h with
  | nil => exact .nil
  | cons r _ ih =>
    rw [List.reverse_cons, List.reverse_cons]
    exact ih.append (.cons r .nil)
end MC
set_option maxHeartbeats 4000000
/-! MB19: what is drawn: the drawing list; letters; several except clauses, step by step -/
namespace MC
open PySem PySem.Spec PyProof.Rows L2
theorem Le.trans' {H H1 H2 : Hp} (b : Le H1 H2) (a : Le H H1) : Le H H2 := a.trans b
theorem Lw.trans' {H H1 H2 : Hp} (b : Lw H1 H2) (a : Lw H H1) : Lw H H2 := a.trans b
/-- the drawing list s, the numbers at l -/
def St (H : Hp) (s l : Addr) : Prop := ∃ ns pos rest, H s = some (.lst [.ref l, .int pos, .int rest]) ∧ H l = some (.lst ((ns : List Int).map V.int)) ∧ (0 : Int) ≤ pos ∧ (0 : Int) ≤ rest
theorem St.le {H H' : Hp} {s l : Addr} (e : Le H H') (h : St H s l) : St H' s l := by
  obtain ⟨ns, pos, rest, h1, h2, h3, h4⟩ := h
  exact ⟨ns, pos, rest, e.keep h1, e.keep h2, h3, h4⟩
theorem St.ne {H : Hp} {s l p : Addr} (h : St H s l) (hp : H p = none) : s ≠ p ∧ l ≠ p := by
  obtain ⟨ns, pos, rest, h1, h2, _⟩ := h
  exact ⟨ne_of_none h1 hp, ne_of_none h2 hp⟩
theorem St.put {H : Hp} {s l p : Addr} {o : HO} (h : St H s l) (n : s ≠ p ∧ l ≠ p) : St (upd H p o) s l := by
  obtain ⟨ns, pos, rest, h1, h2, h3, h4⟩ := h
  exact ⟨ns, pos, rest, by rw [upd_ne n.1]; exact h1, by rw [upd_ne n.2]; exact h2, h3, h4⟩
theorem lw_own {H H' : Hp} {p : Addr} {o : HO} (e : Lw H H') (h : H p = none) : Lw H (upd H' p o) := ⟨fun a u ha hs => by
  rw [upd_ne (ne_of_none ha h)]
  exact e.at_ a u ha hs, fun a ha => by
  by_cases hb : a = p
  · rw [hb]; exact h
  · rw [upd_ne hb] at ha; exact e.fr a ha⟩
theorem x_rSetSt {H : Hp} {s : Addr} {xs : List V} {i : Int} {n : Nat} {v : V} {QH : Hp → Prop} (h : H s = some (.lst xs)) (hs : stSh (.lst xs) = true) (hn : ixN xs.length i = some n) (q : ∀ H2, Lw H H2 → (∀ b, b ≠ s → H2 b = H b) → H2 s = some (.lst (xs.set n v)) → QH H2) : rSetL (.ref s) (.int i) v H QH :=
  x_rSetL h hn (q _ (Lw.st h hs) (fun b hb => upd_ne hb) upd_same)
def spNext : Sp := fun vs H Q E => ∃ s l n, vs = [.ref s, .int n] ∧ St H s l ∧ (0 < n ∧ n < 1000) ∧ ∀ r H', 0 ≤ r → r < n → Lw H H' → St H' s l → Q (.int r) H'
theorem c_next {H : Hp} {Q : VK} {E : XK} {s l : Addr} {n : Int} (hs : St H s l) (hn : 0 < n ∧ n < 1000) (q : ∀ r H', 0 ≤ r → r < n → Lw H H' → St H' s l → Q (.int r) H') : spNext [.ref s, .int n] H Q E := ⟨s, l, n, rfl, hs, hn, q⟩
theorem atI_ints {ns : List Int} {i : Int} (h : 0 ≤ i ∧ i < ns.length) : atI (ns.map V.int) i = some (.int (ns.getD i.toNat 0)) := by
  unfold atI ixN
  rw [if_pos h.1, List.length_map, if_pos h.2]
  show (ns.map V.int)[i.toNat]? = _
  have hi : i.toNat < ns.length := by have := h.2; have := h.1; omega
  rw [List.getElem?_map, List.getElem?_eq_getElem hi, List.getD_eq_getElem?_getD, List.getElem?_eq_getElem hi]
  rfl
/-- [..][i], numbers that keep P -/
theorem x_ixP {K : PySem.W.Frag} {H : Hp} {Q : VK} {p : Addr} {i : Int} (P : Int → Prop) (ns : List Int) (h : H p = some (.lst (ns.map V.int))) (hi : 0 ≤ i ∧ i < ns.length) (hP : ∀ n ∈ ns, P n) (q : ∀ n, P n → Q (.int n) H) : rIx K (.ref p) (.int i) H Q := by
  refine x_ixL2 h (atI_ints hi) (q _ (hP _ ?_))
  have hj : i.toNat < ns.length := by omega
  rw [List.getD_eq_getElem?_getD, List.getElem?_eq_getElem hj]
  exact List.getElem_mem hj
/-- an item of a list, by its number as an int -/
theorem atI_nat {α : Type} {l : List α} {i : Int} {v : α} (h : 0 ≤ i ∧ i < l.length) (e : l[i.toNat]? = some v) : atI l i = some v := by
  unfold atI ixN
  rw [if_pos h.1, if_pos h.2]
  exact e
theorem x_tryC {K : PySem.W.Frag} {Wout : WX} {l : List Cl} {tb : WX → TS} {D : Ends} {σ : L2.St} {H : Hp} (C : WX → Prop) (hW : C (wAsL K Wout D l)) (h : ∀ W, C W → tb W D σ H) : tTryAs K Wout l tb D σ H := h _ hW
theorem lk1 {f : Str} {v : V} : List.lookup f [(f, v)] = some v := by
  have e : (f == f) = true := beq_self_eq_true f
  simp only [List.lookup, e]
theorem x_notW {t1 : TT} {σ : L2.St} {H : Hp} {QB : Bool → Hp → Prop} (h : t1 σ H fun c H1 => QB (!c) H1) : tNot t1 σ H QB := h
theorem getI {ns : List Int} {i : Nat} {x : V} (h : (ns.map V.int)[i]? = some x) : ∃ k, x = .int k ∧ k ∈ ns := by
  rw [List.getElem?_map] at h
  cases e : ns[i]? with
  | none => rw [e] at h; cases h
  | some w =>
    rw [e] at h
    cases h
    exact ⟨w, rfl, List.mem_of_getElem? e⟩
theorem list_int (ns : List Int) (lo hi : Option Int) : ∃ ms : List Int, cutV (ns.map V.int) lo hi = ms.map V.int := by
  unfold cutV
  rw [← List.map_drop, ← List.map_take]
  exact ⟨_, rfl⟩
theorem rng_int (lo : Int) (n : Nat) : ((List.range n).map fun (i : Nat) => V.int (lo + (i : Int))) = (((List.range n).map fun (i : Nat) => lo + (i : Int)) : List Int).map V.int := by
  rw [List.map_map]; rfl
/-- [e for x in range(n)], texts, the heap as it is -/
theorem sum_ones' : ∀ ys : List Str, (∀ y ∈ ys, y.length = 1) → (ys.map (·.length)).sum = ys.length
  | [], _ => rfl
  | y :: r, h => by
    rw [List.map_cons, List.sum_cons, sum_ones' r fun x hx => h x (List.mem_cons_of_mem _ hx), h y List.mem_cons_self, List.length_cons]
    omega
theorem join_l : ∀ ys : List Str, (Str.join "" ys).cps.toList = (ys.map (·.cps.toList)).flatten
  | [] => rfl
  | [x] => by simp [Str.join]
  | x :: y :: r => by
    have ih := join_l (y :: r)
    have e : Str.join "" (x :: y :: r) = x ++ "" ++ Str.join "" (y :: r) := by first | rfl | simp [Str.join]
    have e2 : ∀ a b : Str, (a ++ b).cps.toList = a.cps.toList ++ b.cps.toList := fun a b => by
      show (a.cps ++ b.cps).toList = _
      simp
    rw [e, e2, e2, ih, show ("" : Str).cps.toList = [] from rfl]
    simp
theorem joinE_l (ys : List Str) : (Txt.join "" ys).cps.toList = (ys.map (·.cps.toList)).flatten := by
  rw [show Txt.join "" ys = Str.join "" ys from PySem.StrLaws.glued_eq_join _ _]
  exact join_l ys
/-- [..][i], items that keep P -/
theorem x_ixAll {K : PySem.W.Frag} {H : Hp} {Q : VK} {p : Addr} {i : Int} (P : V → Prop) {vs : List V} (h : H p = some (.lst vs)) (hi : 0 ≤ i ∧ i < vs.length) (hP : ∀ v ∈ vs, P v) (q : ∀ v, P v → Q v H) : rIx K (.ref p) (.int i) H Q := by
  have hj : i.toNat < vs.length := by omega
  exact x_ixL2 h (atI_nat hi (List.getElem?_eq_getElem hj)) (q _ (hP _ (List.getElem_mem hj)))
/-! ### lists of generator methods -/
section
variable {σ : L2.St} {H : Hp} {Q : VK}
def kLG (Q : VK) : List V → Hp → Prop := fun out H2 => ∀ p, H2 p = none → Q (.ref p) (upd H2 p (.lst out))
theorem x_listG {tg : TGen} (h : tg σ H (kLG Q)) : tListG tg σ H Q := h
theorem x_kLG {out : List V} (q : ∀ p H1, H p = none → Le H H1 → H1 p = some (.lst out) → Q (.ref p) H1) : kLG Q out H := fun p hp => q p _ hp (Le.new hp) upd_same
def kGM (C : Addr) (m : Str) (sp : SpG) (t : TA) (σ : L2.St) (cont : List V → Hp → Prop) : VK := fun x H1 => ∃ a dx fs, x = .ref a ∧ H1 a = some (.ins C dx fs) ∧ fs.lookup m = none ∧ t σ H1 fun vs H2 => sp (x :: (vs ++ [])) H2 cont XE0
theorem x_gm {C : Addr} {m : Str} {sp : SpG} {ta : TE} {t : TA} {cont : List V → Hp → Prop} (h : ta σ H (kGM C m sp t σ cont)) : L2.tMethG C m sp [] XE0 ta t σ H cont := h
theorem x_kGM {C : Addr} {m : Str} {sp : SpG} {t : TA} {cont : List V → Hp → Prop} {a dx : Addr} {fs : List (Str × V)} (h : H a = some (.ins C dx fs)) (hl : fs.lookup m = none) (q : t σ H fun vs H2 => sp (.ref a :: (vs ++ [])) H2 cont XE0) : kGM C m sp t σ cont (.ref a) H := ⟨a, dx, fs, rfl, h, hl, q⟩
end
/-! ### data of ints -/
theorem ev_self_int (i : Int) : PyData.eqv (.int i) (.int i) = true := by simp [PyData.eqv]
/-- pairs of numbers, as data -/
def prDt (x : Nat × Nat) : PyData := .tuple [.int x.1, .int x.2]
theorem prDt_self (x : Nat × Nat) : PyData.eqv (prDt x) (prDt x) = true := by simp [prDt, PyData.eqv, PyData.eqvAll]
theorem prAll_self : ∀ xs : List (Nat × Nat), PyData.eqvAll (xs.map prDt) (xs.map prDt) = true
  | [] => by simp [PyData.eqvAll]
  | x :: xs => by simp [PyData.eqvAll, prDt_self, prAll_self xs]
theorem prs_self (xs : List (Nat × Nat)) : PyData.eqv (.list (xs.map prDt)) (.list (xs.map prDt)) = true := by
  simp only [PyData.eqv]; exact prAll_self xs
theorem prDt_lay (x : Nat × Nat) : (prDt x).canLay0 = true := by simp [prDt, PyData.canLay0, PyData.canLayAll0]
theorem prs_lay : ∀ xs : List (Nat × Nat), PyData.canLayAll0 (xs.map prDt) = true
  | [] => by simp [PyData.canLayAll0]
  | x :: xs => by simp [PyData.canLayAll0, prDt_lay, prs_lay xs]
theorem prs_dep : ∀ xs : List (Nat × Nat), PyData.depthAll (xs.map prDt) ≤ 1
  | [] => by simp [PyData.depthAll]
  | x :: xs => by
    have ih := prs_dep xs
    have h1 : (prDt x).depth = 1 := by simp [prDt, PyData.depth, PyData.depthAll]
    simp only [List.map_cons, PyData.depthAll]
    omega
theorem prs_shaped (xs : List (Nat × Nat)) : SeqAt.shaped (.list (xs.map prDt)) = true := by
  have h1 := prs_dep xs
  have h2 : PyData.depth (.list (xs.map prDt)) ≤ 64 := by
    simp only [PyData.depth]
    omega
  show (PyData.canLay0 (.list (xs.map prDt)) && decide (PyData.depth (.list (xs.map prDt)) ≤ 64)) = true
  rw [Bool.and_eq_true]
  exact ⟨by simp only [PyData.canLay0]; exact prs_lay xs, decide_eq_true h2⟩
theorem x_cut {t u : TS} {D : Ends} {σ : L2.St} {H : Hp} (Mid : L2.St → Hp → Prop) (h1 : t { D with nx := Mid } σ H) (h2 : ∀ σ' H', Mid σ' H' → u D σ' H') : Evl.tCut t u D σ H := ⟨Mid, h1, h2⟩
def rRng1 : List V → Hp → VK → Prop := fun vs H Q => ∃ j, vs = [V.int j] ∧ ∀ p, H p = none → Q (.ref p) (upd H p (.rng 0 j))
theorem call_rng1 {X : Cx} : CallR X (.type "range") rRng1 := by
  intro pins s σ H vs us Q I r h
  obtain ⟨j, rfl, q⟩ := h
  obtain ⟨u1, rfl, ri⟩ := r.one
  obtain ⟨t, rfl⟩ := ri
  refine call_range_1 ⟨.ref s.heap.objs.size, upd H s.heap.objs.size (.rng 0 j), I.laid (fun b o e => Heap.get?_push_of_some _ e) (Nat.le_refl _) ?_, rfl, q _ (I.hok.fresh (Nat.le_refl _))⟩
  exact ⟨_, _, _, Heap.get?_push_size _ rfl⟩
theorem x_rng1 {H : Hp} {Q : VK} {j : Int} (q : ∀ p H1, H p = none → Le H H1 → H1 p = some (.rng 0 j) → Q (.ref p) H1) : rRng1 [.int j] H Q := ⟨j, rfl, fun p hp => q p _ hp (Le.new hp) upd_same⟩
/-! ### rules as tuples -/
theorem R4s.put {H : Hp} {p : Addr} {o : HO} {ys : List V} (hp : H p = some (.lst ys)) : ∀ {vs : List V} {xs : List R4}, R4s H vs xs → R4s (upd H p o) vs xs
  | [], [], _ => trivial
  | _ :: _, _ :: _, h => by
    obtain ⟨⟨r, q, hr⟩, h2⟩ := h
    refine ⟨⟨r, q, ?_⟩, R4s.put hp h2⟩
    rw [upd_ne (fun z => by rw [z, hp] at hr; cases hr)]
    exact hr
  | [], _ :: _, h => h.elim
  | _ :: _, [], h => h.elim
theorem R4s.sh {H : Hp} : ∀ {vs : List V} {xs : List R4}, R4s H vs xs → stSh (.lst vs) = false
  | [], [], _ => rfl
  | [_], [_], h => by obtain ⟨⟨p, rfl, _⟩, _⟩ := h; rfl
  | _ :: _ :: _, _ :: _ :: _, h => by obtain ⟨⟨p, rfl, _⟩, ⟨q, rfl, _⟩, _⟩ := h; rfl
  | [], _ :: _, h => h.elim
  | _ :: _, [], h => h.elim
  | [_], _ :: _ :: _, h => h.2.elim
  | _ :: _ :: _, [_], h => h.2.elim
/-- rules of a drawn list -/
def Rs (H : Hp) (p : Addr) (xs : List R4) : Prop := ∃ us, H p = some (.lst us) ∧ R4s H us xs
theorem Rs.le {H H' : Hp} {p : Addr} {xs : List R4} (e : Le H H') (h : Rs H p xs) : Rs H' p xs := by
  obtain ⟨us, h1, h2⟩ := h
  exact ⟨us, e.keep h1, h2.le e⟩
theorem Rs.lw {H H' : Hp} {p : Addr} {xs : List R4} (e : Lw H H') (h : Rs H p xs) : Rs H' p xs := by
  obtain ⟨us, h1, h2⟩ := h
  exact ⟨us, e.keep h1 h2.sh, h2.lw e⟩
/-- rules[i] -/
theorem x_ixRs {K : PySem.W.Frag} {H : Hp} {Q : VK} {p : Addr} {xs : List R4} {i : Int} (h : Rs H p xs) (hi : 0 ≤ i ∧ i < xs.length) (q : ∀ r x, xs[i.toNat]? = some x → H r = some (.tup x.vs) → Q (.ref r) H) : rIx K (.ref p) (.int i) H Q := by
  obtain ⟨us, h1, h2⟩ := h
  have hlen := h2.len
  have hlt : i.toNat < xs.length := by omega
  obtain ⟨r, hr, hr2⟩ := h2.get (List.getElem?_eq_getElem hlt)
  exact x_ixL2 h1 (atI_nat ⟨hi.1, by omega⟩ hr) (q r _ (List.getElem?_eq_getElem hlt) hr2)
theorem x_lenRs {K : PySem.W.Frag} {H : Hp} {Q : VK} {p : Addr} {xs : List R4} (h : Rs H p xs) (q : Q (.int (xs.length : Nat)) H) : rLenU K [.ref p] H Q := by
  obtain ⟨us, h1, h2⟩ := h
  refine x_lenL2 h1 ?_
  rw [h2.len]; exact q
/-- rule[0] .. rule[3] -/
theorem x_r0 {K : PySem.W.Frag} {H : Hp} {Q : VK} {p : Addr} {x : R4} (h : H p = some (.tup x.vs)) (q : Q (.str x.l) H) : rIx K (.ref p) (.int 0) H Q := x_ixT h rfl q
theorem x_r1' {K : PySem.W.Frag} {H : Hp} {Q : VK} {p : Addr} {x : R4} (h : H p = some (.tup x.vs)) (q : Q (.str x.o) H) : rIx K (.ref p) (.int 1) H Q := x_ixT h rfl q
theorem x_r2' {K : PySem.W.Frag} {H : Hp} {Q : VK} {p : Addr} {x : R4} (h : H p = some (.tup x.vs)) (q : Q (.str x.n) H) : rIx K (.ref p) (.int 2) H Q := x_ixT h rfl q
theorem x_r3 {K : PySem.W.Frag} {H : Hp} {Q : VK} {p : Addr} {x : R4} (h : H p = some (.tup x.vs)) (q : Q (.str x.r) H) : rIx K (.ref p) (.int 3) H Q := x_ixT h rfl q
theorem R4s.at {H : Hp} : ∀ {vs : List V} {xs : List R4} {i : Nat} {v : V}, R4s H vs xs → vs[i]? = some v → ∃ p x, xs[i]? = some x ∧ v = .ref p ∧ H p = some (.tup x.vs)
  | [], [], i, _, _, e => by simp at e
  | v :: vs, y :: ys, 0, x, h, e => by
    have : v = x := by simpa using e
    subst this
    obtain ⟨p, rfl, hp⟩ := h.1
    exact ⟨p, y, rfl, rfl, hp⟩
  | v :: vs, y :: ys, i + 1, x, h, e => R4s.at (i := i) h.2 (by simpa using e)
  | [], _ :: _, _, _, h, _ => h.elim
  | _ :: _, [], _, _, h, _ => h.elim
theorem map_range {α β : Type} (f : α → β) (d : α) (xs : List α) {n : Nat} (hn : n = xs.length) : (List.range n).map (fun i => f (xs.getD i d)) = xs.map f := by
  subst hn
  refine List.ext_getElem? fun i => ?_
  by_cases hi : i < xs.length
  · rw [List.getElem?_map, List.getElem?_map, List.getElem?_eq_getElem hi, List.getElem?_range hi]
    simp [List.getD_eq_getElem?_getD, hi]
  · rw [List.getElem?_eq_none (by simp; omega), List.getElem?_eq_none (by simp; omega)]
end MC
set_option maxHeartbeats 4000000
/-! MB20: what the head is asked, and what follows from it -/
namespace MC
open PySem PySem.Spec PyProof.Rows L2
abbrev Fr := PySem.W.Frag
/-- a classmethod's def -/
def cmA (K : Fr) (C : Addr) (m : Str) : Addr := match PySem.W.recIn K (He.ma K C m) "classmethod" with
  | some (.ref g :: _) => g
  | _ => 0
/-- a property's getter -/
def prA (K : Fr) (C : Addr) (m : Str) : Addr := match PySem.W.recIn K (He.ma K C m) "property" with
  | some (.ref g :: _) => g
  | _ => 0
/-- a def of the text: where it stands (by names), its statement, its keyword-only defaults, the class whose __init__ it is, if it says super() -/
structure Df where
  adr : Fr → Addr
  name : Str
  qual : Str
  st : Stmt
  kwd : List (Str × V) := []
  sup : Option Str := none
  dfl : List V := []
abbrev FnV2 : Type := Option (Str × Str × Arguments × FuncBody × Scope × Addr × List Str × Addr)
def fnV2 (K : Fr) (f : Addr) : FnV2 := match K.lookup f with
  | some ⟨_, _, .func fd, _⟩ => some (fd.name, fd.qualname, fd.params, fd.body, fd.scope, fd.globals, fd.closure.map (·.1), fd.builtins)
  | _ => none
def Df.val (d : Df) : FnV2 := some (d.name, d.qual, defArgs d.st, .stmts (defBody d.st), defScope d.st, mainGlobals, (match d.sup with
  | none => []
  | some _ => ["__class__"]), builtinsNs)
def supB (file : Str) (K : Fr) (C : Addr) (fd : FuncData) : Bool := match fd.closure, fd.code with
  | [(_, cc)], .ref cda => (match K.lookup cc with
    | some ⟨_, _, .cell (some (.ref D)), _⟩ => decide (D = C)
    | _ => false) && (match K.lookup cda with
    | some ⟨_, _, .fields vs, _⟩ => (match (vs[2]? : Option Value) with
      | some (Value.str x _) => file == x
      | _ => false)
    | _ => false)
  | _, _ => false
def Df.ok (file : Str) (K : Fr) (d : Df) : Bool := PySem.W.keepIn K (.ref (d.adr K)) && (match K.lookup (d.adr K) with
  | some ⟨_, _, .func fd, _⟩ => PySem.W.codeIn K fd.code d.qual && (He.dflB K fd.defaults d.dfl && (He.kwdB K fd.kwdefaults d.kwd && (match d.sup with
    | none => true
    | some c => supB file K (He.ga K c) fd)))
  | _ => false)
theorem Df.parts {file : Str} {K : Fr} {d : Df} (e : fnV2 K (d.adr K) = d.val) (c : d.ok file K = true) :
    PySem.W.keepIn K (.ref (d.adr K)) = true ∧ ∃ oc od osl dV kV doc pm an cdv ct cl, K.lookup (d.adr K) = some ⟨oc, od, .func (FuncData.mk d.name d.qual (defArgs d.st) (.stmts (defBody d.st)) (defScope d.st) mainGlobals cl dV kV doc pm an cdv ct builtinsNs), osl⟩ ∧
      cl.map (·.1) = (match d.sup with | none => [] | some _ => ["__class__"]) ∧ PySem.W.codeIn K cdv d.qual = true ∧ He.dflB K dV d.dfl = true ∧ He.kwdB K kV d.kwd = true ∧
      (match d.sup with | none => true | some c => supB file K (He.ga K c) (FuncData.mk d.name d.qual (defArgs d.st) (.stmts (defBody d.st)) (defScope d.st) mainGlobals cl dV kV doc pm an cdv ct builtinsNs)) = true := by
  obtain ⟨kp, c2⟩ := He.ba c
  refine ⟨kp, ?_⟩
  unfold fnV2 at e
  cases q : K.lookup (d.adr K) with
  | none =>
    rw [q] at c2
    cases c2
  | some o =>
    obtain ⟨oc, od, dt, osl⟩ := o
    rw [q] at c2 e
    cases dt with
    | func fd =>
      obtain ⟨n1, n2, n3, n4, n5, n6, n7, n8, n9, n10, n11, n12, n13, n14, n15⟩ := fd
      have e2 : (some (n1, n2, n3, n4, n5, n6, n7.map (·.1), n15) : FnV2) = some (d.name, d.qual, defArgs d.st, .stmts (defBody d.st), defScope d.st, mainGlobals, (match d.sup with | none => [] | some _ => ["__class__"]), builtinsNs) := e
      simp only [Option.some.injEq, Prod.mk.injEq] at e2
      obtain ⟨h1, h2, h3, h4, h5, h6, h7, h8⟩ := e2
      subst h1 h2 h3 h4 h5 h6 h8
      have c3 : (PySem.W.codeIn K n13 d.qual && (He.dflB K n8 d.dfl && (He.kwdB K n9 d.kwd && (match d.sup with | none => true | some c => supB file K (He.ga K c) (FuncData.mk d.name d.qual (defArgs d.st) (.stmts (defBody d.st)) (defScope d.st) mainGlobals n7 n8 n9 n10 n11 n12 n13 n14 builtinsNs))))) = true := c2
      obtain ⟨k1, k2⟩ := He.ba c3
      obtain ⟨k3, k4⟩ := He.ba k2
      obtain ⟨k5, k6⟩ := He.ba k4
      exact ⟨oc, od, osl, n8, n9, n10, n11, n12, n13, n14, n7, rfl, h7, k1, k3, k5, k6⟩
    | _ => cases c2
theorem Df.funD {file : Str} {K : Fr} {d : Df} (e : fnV2 K (d.adr K) = d.val) (c : d.ok file K = true) (hs : d.sup = none) : ∃ fd, FunD K d.name d.qual (defArgs d.st) (defBody d.st) (defScope d.st) d.dfl d.kwd (d.adr K) fd := by
  obtain ⟨kp, oc, od, osl, dV, kV, doc, pm, an, cdv, ct, cl, lk, hcl, h1, h2, h3, h4⟩ := Df.parts e c
  rw [hs] at hcl
  have e0 : cl = [] := List.map_eq_nil_iff.mp hcl
  subst e0
  exact ⟨_, ⟨oc, od, dV, kV, doc, pm, an, cdv, ct, osl, rfl, lk, h1, He.dflB_ok h2, He.kwdB_ok h3⟩, kp⟩
theorem Df.supF {P : Program} {K : Fr} {d : Df} {c : Str} (e : fnV2 K (d.adr K) = d.val) (k : d.ok P.main.file K = true) (hs : d.sup = some c) (h0 : d.dfl = []) : ∃ fd cc, SupF P K d.name d.qual (defArgs d.st) (defBody d.st) (defScope d.st) (d.adr K) fd (He.ga K c) cc ∧ ∃ kV doc pm an cdv ct, fd = PySem.W.ksFn d.name d.qual (defArgs d.st) (defBody d.st) (defScope d.st) .none kV doc pm an cdv ct cc := by
  obtain ⟨kp, oc, od, osl, dV, kV, doc, pm, an, cdv, ct, cl, lk, hcl, h1, h2, h3, h4⟩ := Df.parts e k
  rw [hs] at hcl h4
  rw [h0] at h2
  unfold supB at h4
  cases cl with
  | nil => cases hcl
  | cons p r =>
    obtain ⟨x, cc⟩ := p
    cases r with
    | cons _ _ => cases hcl
    | nil =>
      have hx : x = "__class__" := by simpa using hcl
      subst hx
      cases cdv with
      | ref cda =>
        dsimp only at h4
        obtain ⟨h5, h6⟩ := He.ba h4
        cases q : K.lookup cc with
        | none => rw [q] at h5; cases h5
        | some o =>
          obtain ⟨c1, c2, dt, c3⟩ := o
          rw [q] at h5
          cases dt with
          | cell v =>
            cases v with
            | none => cases h5
            | some v =>
              cases v with
              | ref D =>
                have hD : D = He.ga K c := of_decide_eq_true h5
                subst hD
                cases q2 : K.lookup cda with
                | none => rw [q2] at h6; cases h6
                | some o2 =>
                  obtain ⟨d1, d2, dt2, d3⟩ := o2
                  rw [q2] at h6
                  cases dt2 with
                  | fields vs =>
                    dsimp only at h6
                    cases q3 : vs[2]? with
                    | none => rw [q3] at h6; cases h6
                    | some u =>
                      rw [q3] at h6
                      cases u with
                      | str file tf =>
                        have hdv : dV = .none := by
                          rcases He.dflB_ok h2 with ⟨_, e⟩ | ⟨e, _⟩
                          · exact e
                          · exact absurd rfl e
                        subst hdv
                        exact ⟨_, cc, ⟨⟨oc, od, .none, kV, doc, pm, an, cda, ct, osl, rfl, lk, h1, d1, d2, vs, d3, file, tf, q2, q3, h6⟩, ⟨c1, c2, c3, q⟩, kp⟩, kV, doc, pm, an, .ref cda, ct, rfl⟩
                      | _ => cases h6
                  | _ => cases h6
              | _ => cases h5
          | _ => cases h5
      | _ => cases h4
/-! ### the Hook -/
abbrev Al2 : Type := Bool × List FnV2
def obs2 (file : Str) (fa : List He.Fa) (ds : List Df) (ex : Fr → Bool) (K : Fr) : Al2 := ((fa.all fun f => f.ok K) && ((ds.all fun d => d.ok file K) && ex K), ds.map fun d => fnV2 K (d.adr K))
def val2 (ds : List Df) : Al2 := (true, ds.map Df.val)
def Says2 (file : Str) (fa : List He.Fa) (ds : List Df) (ex : Fr → Bool) (K : Fr) : Prop := obs2 file fa ds ex K = val2 ds
def frS2 (n : Nat) (g : Addr → Option Obj) : Fr := He.frG g (cStatics :: He.asD g n)
def obs2G (n : Nat) (file : Str) (fa : List He.Fa) (ds : List Df) (ex : Fr → Bool) (g : Addr → Option Obj) : Al2 := obs2 file fa ds ex (frS2 n g)
/-! what the text's names reach, with no look for doubles -/
def leafs (g : Addr → Option Obj) (a : Addr) : List Addr := match g a with
  | some o => (match o.data with
    | .func fd => He.refV fd.code ++ (He.refV fd.defaults ++ (He.refV fd.kwdefaults ++ fd.closure.map (·.2)))
    | .fields vs => vs.toList.flatMap He.refV
    | _ => [])
  | none => []
def fnT (g : Addr → Option Obj) (a : Addr) : List Addr := a :: leafs g a
def recT (g : Addr → Option Obj) (a : Addr) : List Addr := a :: (leafs g a).flatMap (fnT g)
def valsT (g : Addr → Option Obj) (a : Addr) : List Addr := match g a with
  | some o => (match o.data with
    | .dict es _ => es.toList.flatMap fun e => He.refV e.val
    | _ => [])
  | none => []
def clT (g : Addr → Option Obj) (a : Addr) : List Addr := match g a with
  | some o => (match o.data with
    | .cls cd => a :: cd.ns :: (valsT g cd.ns).flatMap (recT g)
    | _ => recT g a)
  | none => []
def frT2 (g : Addr → Option Obj) : Fr := He.frG g (cStatics :: mainGlobals :: (valsT g mainGlobals).flatMap (clT g))
def obsT2 (file : Str) (fa : List He.Fa) (ds : List Df) (ex : Fr → Bool) (g : Addr → Option Obj) : Al2 := obs2 file fa ds ex (frT2 g)
def hookT2 (file : Str) (fa : List He.Fa) (ds : List Df) (ex : Fr → Bool) : PySem.W.Hook where
  α := Al2
  obs := fun s => obsT2 file fa ds ex s.heap.get?
  val := fun _ => val2 ds
  says := fun _ h => ∃ K : Fr, K.In h ∧ Says2 file fa ds ex K
  of := fun _ _ e => ⟨_, He.frG_in, e⟩
  keeps := fun _ _ _ ⟨K, hK, c⟩ k => ⟨K, PySem.W.Frag.In.keeps hK k, c⟩
theorem obsT2_eq {file : Str} {fa : List He.Fa} {ds : List Df} {ex : Fr → Bool} {g : Addr → Option Obj} {s : Shared} (h : ∀ a, g a = s.heap.get? a) : obsT2 file fa ds ex g = (hookT2 file fa ds ex).obs s := by
  have e : g = s.heap.get? := funext h
  rw [e] <;> rfl
def hook2 (n : Nat) (file : Str) (fa : List He.Fa) (ds : List Df) (ex : Fr → Bool) : PySem.W.Hook where
  α := Al2
  obs := fun s => obs2G n file fa ds ex s.heap.get?
  val := fun _ => val2 ds
  says := fun _ h => ∃ K : Fr, K.In h ∧ Says2 file fa ds ex K
  of := fun _ _ e => ⟨_, He.frG_in, e⟩
  keeps := fun _ _ _ ⟨K, hK, c⟩ k => ⟨K, PySem.W.Frag.In.keeps hK k, c⟩
theorem obs2G_eq {n : Nat} {file : Str} {fa : List He.Fa} {ds : List Df} {ex : Fr → Bool} {g : Addr → Option Obj} {s : Shared} (h : ∀ a, g a = s.heap.get? a) : obs2G n file fa ds ex g = (hook2 n file fa ds ex).obs s := by
  have e : g = s.heap.get? := funext h
  rw [e] <;> rfl
section
variable {file : Str} {fa : List He.Fa} {ds : List Df} {ex : Fr → Bool} {K : Fr}
theorem Says2.b (c : Says2 file fa ds ex K) : ((fa.all fun f => f.ok K) && ((ds.all fun d => d.ok file K) && ex K)) = true := congrArg (fun z : Al2 => z.1) c
theorem Says2.fact (c : Says2 file fa ds ex K) (i : Nat) {f : He.Fa} (h : fa[i]? = some f := by rfl) : f.ok K = true :=
  List.all_eq_true.mp (He.ba c.b).1 f (List.mem_of_getElem? h)
theorem Says2.more (c : Says2 file fa ds ex K) : ex K = true := (He.ba (He.ba c.b).2).2
theorem Says2.df (c : Says2 file fa ds ex K) (i : Nat) {d : Df} (h : ds[i]? = some d := by rfl) : fnV2 K (d.adr K) = d.val ∧ d.ok file K = true := by
  have e : ds.map (fun d => fnV2 K (d.adr K)) = ds.map Df.val := congrArg (fun z : Al2 => z.2) c
  have e2 : (ds.map fun d => fnV2 K (d.adr K))[i]? = (ds.map Df.val)[i]? := by rw [e]
  rw [List.getElem?_map, List.getElem?_map, h] at e2
  exact ⟨Option.some.inj e2, List.all_eq_true.mp (He.ba (He.ba c.b).2).1 d (List.mem_of_getElem? h)⟩
end
/-! ### an exception class with super() in its __init__, by a Bool -/
def oexB (K : Fr) (C : Addr) : Bool := match K.lookup C with
  | some ⟨.type t, _, .cls cd, sl⟩ => (match cd.mro, sl.toList with
    | .ref C' :: bm, [_, _, _, _, some (.builtin n), _] => decide (t = "type") && (decide (C' = C) && (decide (n = "ValueError.__new__") && (!cd.hasDel && (cd.hasDict && PySem.HandSPX.refsVE bm))))
    | _, _ => false) && (decide (PySem.W.findIn K (.ref C) "__setattr__" = some (some (.builtin "object.__setattr__"))) && (decide (PySem.W.subIn K (.ref C) (.type "BaseException") = some true) && (decide (PySem.W.typeIn K (.ref C) = some (.type "type")) && PySem.W.keepIn K (.ref C))))
  | _ => false
theorem oexB_ok {K : Fr} {C : Addr} (h : oexB K C = true) : OexC K C := by
  unfold oexB at h
  split at h
  · rename_i t dd cd sl ho
    obtain ⟨h0, h⟩ := He.ba h
    obtain ⟨h1, h⟩ := He.ba h
    obtain ⟨h2, h⟩ := He.ba h
    obtain ⟨h3, h4⟩ := He.ba h
    refine ⟨?_, of_decide_eq_true h1, of_decide_eq_true h2, of_decide_eq_true h3, h4⟩
    split at h0
    · rename_i C' bm k0 k1 k2 k3 n k5 hm hs
      obtain ⟨g1, h0⟩ := He.ba h0
      obtain ⟨g2, h0⟩ := He.ba h0
      obtain ⟨g3, h0⟩ := He.ba h0
      obtain ⟨g4, h0⟩ := He.ba h0
      obtain ⟨g5, g6⟩ := He.ba h0
      obtain ⟨nm, bs, mro, ns, qn, hd, sn, sub, ab, col, del⟩ := cd
      have g1 := of_decide_eq_true g1
      have g2 := of_decide_eq_true g2
      have g3 := of_decide_eq_true g3
      have g4 : del = false := by simpa using g4
      have g5 : hd = true := g5
      have hm : mro = .ref C' :: bm := hm
      have hsl : sl = #[k0, k1, k2, k3, some (.builtin n), k5] := by
        obtain ⟨l⟩ := sl
        simp only at hs
        rw [hs]
      subst g1 g2 g3 g4 g5 hm hsl
      exact ⟨nm, qn, ns, bs, bm, sn, sub, ab, col, dd, k0, k1, k2, k3, k5, ho, g6⟩
    · cases h0
  · cases h
def supCB (K : Fr) (C : Addr) : Bool := oexB K C && (decide (PySem.W.nsIn K cStatics "thirdparty.any" = some none) && ((match PySem.W.clsIn K C with
  | some cd => (match cd.mro with
    | .ref C' :: bm => decide (C' = C) && decide (PySem.W.alongIn K "__init__" bm = some (some (.builtin "ValueError.__init__")))
    | _ => false)
  | none => false) && (decide (PySem.W.subIn K (.ref C) (.type "ValueError") = some true) && decide (PySem.W.mroIn K C (.ref C) = some true))))
theorem supCB_ok {P : Program} {K : Fr} {mg : Str → Option Value} {C : Addr} (h : supCB K C = true) (ns : mg "super" = none) (tp : (P.main.scope.names.lookup ("super" : Str)).isSome = false) : SupC P K mg C := by
  obtain ⟨h1, h⟩ := He.ba h
  obtain ⟨h2, h⟩ := He.ba h
  obtain ⟨h3, h⟩ := He.ba h
  obtain ⟨h4, h5⟩ := He.ba h
  refine ⟨oexB_ok h1, of_decide_eq_true h2, ?_, of_decide_eq_true h4, of_decide_eq_true h5, ns, tp⟩
  cases q : PySem.W.clsIn K C with
  | none => rw [q] at h3; cases h3
  | some cd =>
    rw [q] at h3
    dsimp only at h3
    cases q2 : cd.mro with
    | nil => rw [q2] at h3; cases h3
    | cons v bm =>
      rw [q2] at h3
      cases v with
      | ref C' =>
        obtain ⟨g1, g2⟩ := He.ba h3
        have g1 := of_decide_eq_true g1
        subst g1
        exact ⟨cd, bm, rfl, q2, of_decide_eq_true g2⟩
      | _ => cases h3
def excTB (K : Fr) (D : Addr) : Bool := (PySem.W.clsIn K D).isSome && (decide (PySem.W.findIn K (.ref D) "__getattribute__" = some (some (.builtin "BaseException.__getattribute__"))) && (decide (PySem.W.findIn K (.ref D) "__getattr__" = some none) && (decide (PySem.W.subIn K (.ref D) (.type "BaseException") = some true) &&
  (decide (PySem.W.findIn K (.ref D) "__class__" = some (some (.builtin "object.__class__"))) && (decide (PySem.W.specialIn K (.builtin "object.__class__") "__get__" = some (some (.builtin "getset_descriptor.__get__"))) && (decide (PySem.W.takesIn K (.builtin "object.__class__") = some true) && decide (PySem.W.mroIn K D (.type "object") = some true)))))))
theorem excTB_ok {K : Fr} {D : Addr} (h : excTB K D = true) : ExcT K D := by
  obtain ⟨h1, h⟩ := He.ba h
  obtain ⟨h2, h⟩ := He.ba h
  obtain ⟨h3, h⟩ := He.ba h
  obtain ⟨h4, h⟩ := He.ba h
  obtain ⟨h5, h⟩ := He.ba h
  obtain ⟨h6, h⟩ := He.ba h
  obtain ⟨h7, h8⟩ := He.ba h
  exact ⟨h1, of_decide_eq_true h2, of_decide_eq_true h3, of_decide_eq_true h4, of_decide_eq_true h5, of_decide_eq_true h6, of_decide_eq_true h7, of_decide_eq_true h8⟩
/-! ### an own class's special methods, classmethods -/
def specB (K : Fr) (C : Addr) (m : Str) : Bool := decide (PySem.W.findIn K (.ref C) m = some (some (.ref (He.ma K C m)))) && (PySem.W.isFn K (.ref (He.ma K C m)) && PySem.W.fnIn K (He.ma K C m))
theorem specB_ok {K : Fr} {C : Addr} {m : Str} (h : specB K C m = true) : Spec K C m (He.ma K C m) ∧ PySem.W.fnIn K (He.ma K C m) = true := by
  obtain ⟨h1, h⟩ := He.ba h
  obtain ⟨h2, h3⟩ := He.ba h
  exact ⟨⟨of_decide_eq_true h1, h2⟩, h3⟩
def creadB (K : Fr) (C : Addr) : Bool := PySem.W.readsIn K C (.type "type") && decide (PySem.W.specialIn K (.ref C) "__getattribute__" = some (some (.builtin "type.__getattribute__")))
theorem creadB_ok {K : Fr} {C : Addr} (h : creadB K C = true) : ClX.CRead K C (.type "type") := by
  obtain ⟨h1, h2⟩ := He.ba h
  exact ⟨h1, of_decide_eq_true h2⟩
def cmetB (K : Fr) (C : Addr) (m : Str) : Bool := (match PySem.W.findCls K (.ref C) (.type "type") m with
  | some (.get (.builtin b) (.ref p) .none (.ref D)) => decide (b = "classmethod.__get__") && (decide (p = He.ma K C m) && decide (D = C))
  | _ => false) && ((match PySem.W.recIn K (He.ma K C m) "classmethod" with
  | some (.ref g :: _) => true
  | _ => false) && PySem.W.fnIn K (cmA K C m))
theorem cmetB_ok {K : Fr} {C : Addr} {m : Str} (h : cmetB K C m = true) : ClX.CMet K C (.type "type") m (He.ma K C m) (cmA K C m) := by
  obtain ⟨h1, h⟩ := He.ba h
  obtain ⟨h2, h3⟩ := He.ba h
  refine ⟨?_, ?_, h3⟩
  · split at h1
    · rename_i b p D q
      obtain ⟨g1, h1⟩ := He.ba h1
      obtain ⟨g2, g3⟩ := He.ba h1
      rw [q, of_decide_eq_true g1, of_decide_eq_true g2, of_decide_eq_true g3]
    · cases h1
  · unfold cmA
    split at h2
    · rename_i g rest q
      rw [q]
      exact ⟨rest, rfl⟩
    · cases h2
def propB (K : Fr) (C : Addr) (m : Str) : Bool := decide (PySem.W.findIn K (.ref C) m = some (some (.ref (He.ma K C m)))) && (decide (PySem.W.specialIn K (.ref (He.ma K C m)) "__get__" = some (some (.builtin "property.__get__"))) && (decide (PySem.W.takesIn K (.ref (He.ma K C m)) = some true) && (match PySem.W.recIn K (He.ma K C m) "property" with
  | some (.ref _ :: _) => true
  | _ => false)))
theorem propB_ok {K : Fr} {C : Addr} {m : Str} (h : propB K C m = true) : PropOf K C m (He.ma K C m) (prA K C m) := by
  obtain ⟨h1, h⟩ := He.ba h
  obtain ⟨h2, h⟩ := He.ba h
  obtain ⟨h3, h4⟩ := He.ba h
  refine ⟨of_decide_eq_true h1, of_decide_eq_true h2, of_decide_eq_true h3, ?_⟩
  unfold prA
  split at h4
  · rename_i g rest q
    rw [q]
    exact ⟨rest, rfl⟩
  · cases h4
theorem callB_ok {K : Fr} {C : Addr} (h : specB K C "__call__" = true) : StX.CallO K C (He.ma K C "__call__") := by
  obtain ⟨h1, h⟩ := He.ba h
  obtain ⟨h2, h3⟩ := He.ba h
  exact ⟨of_decide_eq_true h1, h2, h3⟩
def cvIntB (K : Fr) (C : Addr) (f : Str) (i : Int) : Bool := match PySem.W.findCls K (.ref C) (.type "type") f with
  | some (.val (.int j _)) => decide (j = i)
  | _ => false
theorem cvIntB_ok {K : Fr} {C : Addr} {f : Str} {i : Int} (r : creadB K C = true) (h : cvIntB K C f i = true) : CvOk K C f (.int i) := by
  unfold cvIntB at h
  split at h
  · rename_i j t q
    have := of_decide_eq_true h
    subst this
    exact ⟨_, _, creadB_ok r, ⟨q, ⟨t, rfl⟩⟩⟩
  · cases h
def insB (K : Fr) (C : Addr) : Bool := decide (PySem.W.findIn K (.ref C) "__class__" = some (some (.builtin "object.__class__"))) && (decide (PySem.W.specialIn K (.builtin "object.__class__") "__get__" = some (some (.builtin "getset_descriptor.__get__"))) && (decide (PySem.W.takesIn K (.builtin "object.__class__") = some true) && decide (PySem.W.mroIn K C (.type "object") = some true)))
theorem insB_ok {K : Fr} {C : Addr} (c : Cls K C) (h : insB K C = true) : InsOk K C := by
  obtain ⟨h1, h⟩ := He.ba h
  obtain ⟨h2, h⟩ := He.ba h
  obtain ⟨h3, h4⟩ := He.ba h
  exact fun e => .ins e c (of_decide_eq_true h1) (of_decide_eq_true h2) (of_decide_eq_true h3) (of_decide_eq_true h4)
def binIB (K : Fr) (C : Addr) (op : Operator) : Bool := PySem.W.selfFirst K C && ((match PySem.W.findIn K (.ref C) (dunderR op.info.2) with
  | some none => true
  | some (some (.ref _)) => true
  | _ => false) && ((PySem.W.findIn K (.type "int") (PySem.dunder op.info.2)).isSome && ((PySem.W.findIn K (.type "int") (dunderR op.info.2)).isSome && decide (PySem.W.subIn K (.type "int") (.ref C) = some false))))
theorem binIB_ok {K : Fr} {C : Addr} {op : Operator} (h : binIB K C op = true) : BinI K C op := by
  obtain ⟨h1, h⟩ := He.ba h
  obtain ⟨h2, h⟩ := He.ba h
  obtain ⟨h3, h⟩ := He.ba h
  obtain ⟨h4, h5⟩ := He.ba h
  refine ⟨h1, ?_, Option.isSome_iff_exists.mp h3, Option.isSome_iff_exists.mp h4, of_decide_eq_true h5⟩
  split at h2
  · rename_i q
    exact ⟨_, q, .inl rfl⟩
  · rename_i g q
    exact ⟨_, q, .inr ⟨g, rfl⟩⟩
  · cases h2
end MC
set_option maxHeartbeats 4000000
/-! MB21: typed readings: how values stand, what an expression gives, with no heap in sight -/
namespace MC
open PySem PySem.Spec PyProof.Rows L2
/-! ### how a value stands -/
structure Rp (α : Type) where
  at_ : Hp → V → α → Prop
  le : ∀ {H H' : Hp} {v : V} {x : α}, Le H H' → at_ H v x → at_ H' v x
def rInt : Rp Int := ⟨fun _ v x => v = .int x, fun _ h => h⟩
def rNat : Rp Nat := ⟨fun _ v x => v = .int (x : Nat), fun _ h => h⟩
def rBool : Rp Bool := ⟨fun _ v x => v = .bl x, fun _ h => h⟩
def rStr : Rp Str := ⟨fun _ v x => v = .str x, fun _ h => h⟩
def rNon : Rp Unit := ⟨fun _ v _ => v = .non, fun _ h => h⟩
def rOpt {α : Type} (r : Rp α) : Rp (Option α) := ⟨fun H v x => match x with
  | none => v = .non
  | some y => v ≠ .non ∧ r.at_ H v y, fun {H H' v x} e h => by
  cases x with
  | none => exact h
  | some y => exact ⟨h.1, r.le e h.2⟩⟩
def All2 {α : Type} (r : Rp α) (H : Hp) : List V → List α → Prop
  | [], [] => True
  | v :: vs, x :: xs => r.at_ H v x ∧ All2 r H vs xs
  | _, _ => False
theorem All2.le {α : Type} {r : Rp α} {H H' : Hp} (e : Le H H') : ∀ {vs : List V} {xs : List α}, All2 r H vs xs → All2 r H' vs xs
  | [], [], _ => trivial
  | _ :: _, _ :: _, h => ⟨r.le e h.1, All2.le e h.2⟩
  | [], _ :: _, h => h.elim
  | _ :: _, [], h => h.elim
theorem All2.len {α : Type} {r : Rp α} {H : Hp} : ∀ {vs : List V} {xs : List α}, All2 r H vs xs → vs.length = xs.length
  | [], [], _ => rfl
  | _ :: _, _ :: _, h => by simp [All2.len h.2]
  | [], _ :: _, h => h.elim
  | _ :: _, [], h => h.elim
theorem All2.get {α : Type} {r : Rp α} {H : Hp} : ∀ {vs : List V} {xs : List α} {i : Nat} {x : α}, All2 r H vs xs → xs[i]? = some x → ∃ v, vs[i]? = some v ∧ r.at_ H v x
  | [], [], _, _, _, e => by simp at e
  | v :: vs, y :: ys, 0, x, h, e => by
    have : y = x := by simpa using e
    subst this
    exact ⟨v, rfl, h.1⟩
  | v :: vs, y :: ys, i + 1, x, h, e => All2.get (i := i) h.2 (by simpa using e)
  | [], _ :: _, _, _, h, _ => h.elim
  | _ :: _, [], _, _, h, _ => h.elim
theorem All2.of {α : Type} {r : Rp α} {H : Hp} : ∀ {vs : List V} {xs : List α} {i : Nat} {v : V}, All2 r H vs xs → vs[i]? = some v → ∃ x, xs[i]? = some x ∧ r.at_ H v x
  | [], [], _, _, _, e => by simp at e
  | v :: vs, y :: ys, 0, x, h, e => by
    have : v = x := by simpa using e
    subst this
    exact ⟨y, rfl, h.1⟩
  | v :: vs, y :: ys, i + 1, x, h, e => All2.of (i := i) h.2 (by simpa using e)
  | [], _ :: _, _, _, h, _ => h.elim
  | _ :: _, [], _, _, h, _ => h.elim
theorem All2.app {α : Type} {r : Rp α} {H : Hp} {v : V} {x : α} (hv : r.at_ H v x) : ∀ {vs : List V} {xs : List α}, All2 r H vs xs → All2 r H (vs ++ [v]) (xs ++ [x])
  | [], [], _ => ⟨hv, trivial⟩
  | _ :: _, _ :: _, h => ⟨h.1, All2.app hv h.2⟩
  | [], _ :: _, h => h.elim
  | _ :: _, [], h => h.elim
theorem All2.cat {α : Type} {r : Rp α} {H : Hp} {us : List V} {ys : List α} (h2 : All2 r H us ys) : ∀ {vs : List V} {xs : List α}, All2 r H vs xs → All2 r H (vs ++ us) (xs ++ ys)
  | [], [], _ => h2
  | _ :: _, _ :: _, h => ⟨h.1, All2.cat h2 h.2⟩
  | [], _ :: _, h => h.elim
  | _ :: _, [], h => h.elim
theorem All2.drop {α : Type} {r : Rp α} {H : Hp} : ∀ {vs : List V} {xs : List α} (i : Nat), All2 r H vs xs → All2 r H (vs.drop i) (xs.drop i)
  | [], [], i, _ => by simp [All2]
  | _ :: _, _ :: _, 0, h => h
  | _ :: _, _ :: _, i + 1, h => All2.drop i h.2
  | [], _ :: _, _, h => h.elim
  | _ :: _, [], _, h => h.elim
theorem All2.take {α : Type} {r : Rp α} {H : Hp} : ∀ {vs : List V} {xs : List α} (i : Nat), All2 r H vs xs → All2 r H (vs.take i) (xs.take i)
  | [], [], i, _ => by simp [All2]
  | _ :: _, _ :: _, 0, h => trivial
  | _ :: _, _ :: _, i + 1, h => ⟨h.1, All2.take i h.2⟩
  | [], _ :: _, _, h => h.elim
  | _ :: _, [], _, h => h.elim
theorem All2.put {α : Type} {r : Rp α} {H : Hp} {v : V} {x : α} (hv : r.at_ H v x) : ∀ {vs : List V} {xs : List α} (i : Nat), All2 r H vs xs → All2 r H (vs.set i v) (xs.set i x)
  | [], [], _, _ => trivial
  | _ :: _, _ :: _, 0, h => ⟨hv, h.2⟩
  | _ :: _, _ :: _, i + 1, h => ⟨h.1, All2.put hv i h.2⟩
  | [], _ :: _, _, h => h.elim
  | _ :: _, [], _, h => h.elim
/-- of what is at each place -/
theorem All2.mk {α : Type} {r : Rp α} {H : Hp} : ∀ {vs : List V} {xs : List α}, vs.length = xs.length → (∀ (i : Nat) (v : V) (x : α), vs[i]? = some v → xs[i]? = some x → r.at_ H v x) → All2 r H vs xs
  | [], [], _, _ => trivial
  | v :: vs, x :: xs, hl, h => ⟨h 0 v x rfl rfl, All2.mk (by simpa using hl) fun i v x e1 e2 => h (i + 1) v x (by simpa using e1) (by simpa using e2)⟩
  | [], _ :: _, hl, _ => by simp at hl
  | _ :: _, [], hl, _ => by simp at hl
def rList {α : Type} (r : Rp α) : Rp (List α) := ⟨fun H v xs => ∃ p vs, v = .ref p ∧ H p = some (.lst vs) ∧ All2 r H vs xs, fun e ⟨p, vs, h1, h2, h3⟩ => ⟨p, vs, h1, e.keep h2, h3.le e⟩⟩
def rTupL {α : Type} (r : Rp α) : Rp (List α) := ⟨fun H v xs => ∃ p vs, v = .ref p ∧ H p = some (.tup vs) ∧ All2 r H vs xs, fun e ⟨p, vs, h1, h2, h3⟩ => ⟨p, vs, h1, e.keep h2, h3.le e⟩⟩
def rT2 {α β : Type} (ra : Rp α) (rb : Rp β) : Rp (α × β) := ⟨fun H v x => ∃ p u w, v = .ref p ∧ H p = some (.tup [u, w]) ∧ ra.at_ H u x.1 ∧ rb.at_ H w x.2, fun e ⟨p, u, w, h1, h2, h3, h4⟩ => ⟨p, u, w, h1, e.keep h2, ra.le e h3, rb.le e h4⟩⟩
def rT3 {α β γ : Type} (ra : Rp α) (rb : Rp β) (rc : Rp γ) : Rp (α × β × γ) := ⟨fun H v x => ∃ p u w t, v = .ref p ∧ H p = some (.tup [u, w, t]) ∧ ra.at_ H u x.1 ∧ rb.at_ H w x.2.1 ∧ rc.at_ H t x.2.2, fun e ⟨p, u, w, t, h1, h2, h3, h4, h5⟩ => ⟨p, u, w, t, h1, e.keep h2, ra.le e h3, rb.le e h4, rc.le e h5⟩⟩
def rT4 {α β γ δ : Type} (ra : Rp α) (rb : Rp β) (rc : Rp γ) (rd : Rp δ) : Rp (α × β × γ × δ) := ⟨fun H v x => ∃ p u w t s, v = .ref p ∧ H p = some (.tup [u, w, t, s]) ∧ ra.at_ H u x.1 ∧ rb.at_ H w x.2.1 ∧ rc.at_ H t x.2.2.1 ∧ rd.at_ H s x.2.2.2, fun e ⟨p, u, w, t, s, h1, h2, h3, h4, h5, h6⟩ => ⟨p, u, w, t, s, h1, e.keep h2, ra.le e h3, rb.le e h4, rc.le e h5, rd.le e h6⟩⟩
/-- a tuple of four texts -/
def rR4 : Rp R4 := ⟨fun H v x => ∃ p, v = .ref p ∧ H p = some (.tup x.vs), fun e ⟨p, h1, h2⟩ => ⟨p, h1, e.keep h2⟩⟩
/-- never None -/
class RpN {α : Type} (r : Rp α) : Prop where
  nn : ∀ H x, ¬ r.at_ H .non x
instance : RpN rInt := ⟨fun _ _ h => by cases h⟩
instance : RpN rNat := ⟨fun _ _ h => by cases h⟩
instance : RpN rBool := ⟨fun _ _ h => by cases h⟩
instance : RpN rStr := ⟨fun _ _ h => by cases h⟩
instance : RpN rR4 := ⟨fun _ _ ⟨_, h, _⟩ => by cases h⟩
instance {α : Type} {r : Rp α} : RpN (rList r) := ⟨fun _ _ ⟨_, _, h, _⟩ => by cases h⟩
instance {α : Type} {r : Rp α} : RpN (rTupL r) := ⟨fun _ _ ⟨_, _, h, _⟩ => by cases h⟩
instance {α β : Type} {ra : Rp α} {rb : Rp β} : RpN (rT2 ra rb) := ⟨fun _ _ ⟨_, _, _, h, _⟩ => by cases h⟩
instance {α β γ : Type} {ra : Rp α} {rb : Rp β} {rc : Rp γ} : RpN (rT3 ra rb rc) := ⟨fun _ _ ⟨_, _, _, _, h, _⟩ => by cases h⟩
instance {α β γ δ : Type} {ra : Rp α} {rb : Rp β} {rc : Rp γ} {rd : Rp δ} : RpN (rT4 ra rb rc rd) := ⟨fun _ _ ⟨_, _, _, _, _, h, _⟩ => by cases h⟩
/-! ### what is hidden: the lists that a def still fills -/
def hid (H : Hp) (O : List Addr) : Hp := fun a => if a ∈ O then none else H a
theorem hid_nil (H : Hp) : hid H [] = H := by funext a; simp [hid]
theorem unhid {H : Hp} {O : List Addr} : Le (hid H O) H := ⟨fun a o h => by
  unfold hid at h
  split at h
  · cases h
  · exact h, fun a h => by
  unfold hid
  split
  · rfl
  · exact h⟩
theorem hid_le {H H' : Hp} {O : List Addr} (e : Le H H') : Le (hid H O) (hid H' O) := ⟨fun a o h => by
  unfold hid at *
  split at h
  · cases h
  · rename_i n; rw [if_neg n]; exact e.at_ a o h, fun a h => by
  unfold hid at *
  split at h
  · rename_i n; rw [if_pos n]
  · rename_i n; rw [if_neg n]; exact e.fr a h⟩
theorem hid_sub {H : Hp} {O O' : List Addr} (h : ∀ a ∈ O', a ∈ O) : Le (hid H O) (hid H O') := ⟨fun a o e => by
  unfold hid at *
  split at e
  · cases e
  · rename_i n; rw [if_neg fun q => n (h a q)]; exact e, fun a e => by
  unfold hid at *
  split
  · rfl
  · rename_i n; rw [if_neg fun q => n (h a q)] at e; exact e⟩
theorem hid_at {H : Hp} {O : List Addr} {p : Addr} {o : HO} (h : H p = some o) (n : p ∉ O) : hid H O p = some o := by unfold hid; rw [if_neg n]; exact h
theorem hid_upd {H : Hp} {O : List Addr} {p : Addr} {o : HO} (h : p ∈ O) : hid (upd H p o) O = hid H O := by
  funext a
  unfold hid
  by_cases q : a ∈ O
  · rw [if_pos q, if_pos q]
  · rw [if_neg q, if_neg q, upd_ne (fun z => q (by rw [z]; exact h))]
/-! ### typed slots -/
inductive Sl : Type 1
  | pure {α : Type} (r : Rp α) (x : α)
  | own {α : Type} (p : Addr) (r : Rp α) (xs : List α)
abbrev Gm := List (Option Sl)
def owns : Gm → List Addr
  | [] => []
  | some (.own p _ _) :: g => p :: owns g
  | some (.pure _ _) :: g => owns g
  | none :: g => owns g
def SlAt (H : Hp) (O : List Addr) : Option V → Option Sl → Prop
  | _, none => True
  | some v, some (.pure r x) => r.at_ (hid H O) v x
  | some v, some (.own p r xs) => v = .ref p ∧ ∃ vs, H p = some (.lst vs) ∧ All2 r (hid H O) vs xs
  | none, some _ => False
def EnvAt (H : Hp) (O : List Addr) : L2.St → Gm → Prop
  | [], [] => True
  | v :: σ, s :: g => SlAt H O v s ∧ EnvAt H O σ g
  | _, _ => False
/-- a def as it runs: B what stood at its begin -/
structure Sta (A : Hp × List Addr) (B H : Hp) (O : List Addr) (σ : L2.St) (Γ : Gm) : Prop where
  al : Le A.1 H
  a0 : ∀ p ∈ A.2, ∃ vs, A.1 p = some (.lst vs)
  su : ∀ p ∈ A.2, p ∈ O
  an : ∀ p ∈ owns Γ, A.1 p = none
  le : Le B (hid H O)
  env : EnvAt H O σ Γ
  fr : ∀ p ∈ O, ∃ vs, H p = some (.lst vs)
  sub : ∀ p ∈ owns Γ, p ∈ O
  nd : (owns Γ).Nodup
def slOwn : Option Sl → List Addr
  | some (.own p _ _) => [p]
  | _ => []
theorem SlAt.le {H H' : Hp} {O O' : List Addr} {v : Option V} {s : Option Sl} (e : Le (hid H O) (hid H' O')) (k : ∀ p ∈ slOwn s, ∀ o, H p = some o → H' p = some o) (h : SlAt H O v s) : SlAt H' O' v s := by
  match v, s, h with
  | some _, none, _ => trivial
  | none, none, _ => trivial
  | some v, some (.pure r x), h => exact r.le e h
  | some v, some (.own p r xs), h =>
    obtain ⟨h1, vs, h2, h3⟩ := h
    exact ⟨h1, vs, k p (by simp [slOwn]) _ h2, h3.le e⟩
theorem EnvAt.le {H H' : Hp} {O : List Addr} (e : Le H H') : ∀ {σ : L2.St} {Γ : Gm}, EnvAt H O σ Γ → EnvAt H' O σ Γ
  | [], [], _ => trivial
  | _ :: _, _ :: _, h => ⟨SlAt.le (hid_le e) (fun p _ o ho => e.at_ p o ho) h.1, EnvAt.le e h.2⟩
  | [], _ :: _, h => h.elim
  | _ :: _, [], h => h.elim
theorem Sta.go {A : Hp × List Addr} {B H H' : Hp} {O : List Addr} {σ : L2.St} {Γ : Gm} (s : Sta A B H O σ Γ) (e : Le H H') : Sta A B H' O σ Γ :=
  ⟨s.al.trans e, s.a0, s.su, s.an, s.le.trans (hid_le e), s.env.le e, fun p hp => let ⟨o, h⟩ := s.fr p hp; ⟨o, e.at_ p _ h⟩, s.sub, s.nd⟩
theorem EnvAt.get {H : Hp} {O : List Addr} : ∀ {σ : L2.St} {Γ : Gm} {i : Nat} {s : Sl}, EnvAt H O σ Γ → Γ[i]? = some (some s) → ∃ v, σ[i]? = some (some v) ∧ SlAt H O (some v) (some s)
  | [], [], _, _, _, e => by simp at e
  | v :: σ, t :: g, 0, s, h, e => by
    have : t = some s := by simpa using e
    subst this
    match v, h.1 with
    | none, h1 => cases s <;> exact False.elim h1
    | some v, h1 => exact ⟨v, rfl, h1⟩
  | v :: σ, t :: g, i + 1, s, h, e => EnvAt.get (i := i) h.2 (by simpa using e)
  | [], _ :: _, _, _, h, _ => h.elim
  | _ :: _, [], _, _, h, _ => h.elim
theorem Sta.new {A : Hp × List Addr} {B H : Hp} {O : List Addr} {σ : L2.St} {Γ : Gm} {p : Addr} {o : HO} (s : Sta A B H O σ Γ) (h : H p = none) : hid (upd H p o) O p = some o :=
  hid_at upd_same fun q => by obtain ⟨u, e⟩ := s.fr p q; rw [h] at e; cases e
theorem Sta.out {A : Hp × List Addr} {B H : Hp} {O : List Addr} {σ : L2.St} {Γ : Gm} (s : Sta A B H O σ Γ) : Le B H := s.le.trans unhid
/-! ### what an expression gives -/
def Pg {α : Type} (te : TE) (Γ : Gm) (r : Rp α) (x : α) : Prop := ∀ A B H O σ, Sta A B H O σ Γ → ∀ Q : VK, (∀ v H2, Le H H2 → r.at_ (hid H2 O) v x → Q v H2) → te σ H Q
def Tg (tt : TT) (Γ : Gm) (b : Bool) : Prop := ∀ A B H O σ, Sta A B H O σ Γ → ∀ Q : Bool → Hp → Prop, (∀ H2, Le H H2 → Q b H2) → tt σ H Q
section
variable {α β γ δ ε : Type} {Γ : Gm} {ra : Rp α} {rb : Rp β} {rc : Rp γ} {rd' : Rp δ} {x : α} {y : β} {te ta tb tc : TE} {t1 t2 : TT} {b c : Bool} {i j : Int} {z w : Str} {K : PySem.W.Frag} {xs : List α}
theorem p_var {k : Nat} (h : Γ[k]? = some (some (.pure ra x))) : Pg (tVar k) Γ ra x := fun A B H O σ s Q q => by
  obtain ⟨v, h1, h2⟩ := s.env.get h
  exact ⟨v, h1, q v H (Le.refl _) h2⟩
theorem p_int : Pg (tC (.int i)) Γ rInt i := fun A B H O σ s Q q => q _ H (Le.refl _) rfl
theorem p_str : Pg (tC (.str z)) Γ rStr z := fun A B H O σ s Q q => q _ H (Le.refl _) rfl
theorem p_bl : Pg (tC (.bl b)) Γ rBool b := fun A B H O σ s Q q => q _ H (Le.refl _) rfl
theorem p_non : Pg (tC .non) Γ (rOpt ra) none := fun A B H O σ s Q q => q _ H (Le.refl _) rfl
theorem p_unit : Pg (tC .non) Γ rNon () := fun A B H O σ s Q q => q _ H (Le.refl _) rfl
theorem p_some [RpN ra] (h : Pg te Γ ra x) : Pg te Γ (rOpt ra) (some x) := fun A B H O σ s Q q => h A B H O σ s Q fun v H2 e hv => q v H2 e ⟨fun z => RpN.nn (r := ra) _ _ (z ▸ hv), hv⟩
theorem p_is {x' : α} (h : Pg te Γ ra x) (e : x = x') : Pg te Γ ra x' := e ▸ h
theorem p_natInt {n : Nat} (h : Pg te Γ rNat n) : Pg te Γ rInt (n : Int) := h
theorem p_intNat {n : Nat} (h : Pg te Γ rInt (n : Int)) : Pg te Γ rNat n := h
/-- two values, one operator -/
theorem p_op {rd : R2} {u : γ} (ha : Pg ta Γ ra x) (hb : Pg tb Γ rb y) (h : ∀ A B H O σ, Sta A B H O σ Γ → ∀ v1 v2 (Q : VK), ra.at_ (hid H O) v1 x → rb.at_ (hid H O) v2 y → (∀ w H', Le H H' → rc.at_ (hid H' O) w u → Q w H') → rd v1 v2 H Q) : Pg (tOp rd ta tb) Γ rc u := fun A B H O σ s Q q =>
  ha A B H O σ s _ fun v1 H1 e1 h1 => hb A B H1 O σ (s.go e1) _ fun v2 H2 e2 h2 => h A B H2 O σ ((s.go e1).go e2) v1 v2 Q (ra.le (hid_le e2) h1) h2 fun w H' e hw => q w H' ((e1.trans e2).trans e) hw
theorem p_addI (ha : Pg ta Γ rInt i) (hb : Pg tb Γ rInt j) : Pg (tOp rAddU ta tb) Γ rInt (i + j) := p_op ha hb fun A B H O σ s v1 v2 Q h1 h2 q => by
  cases h1; cases h2; exact x_addI (q _ _ (Le.refl _) rfl)
theorem p_addS (ha : Pg ta Γ rStr z) (hb : Pg tb Γ rStr w) (hz : z.length + w.length ≤ 1000000) : Pg (tOp rAddU ta tb) Γ rStr (z ++ w) := p_op ha hb fun A B H O σ s v1 v2 Q h1 h2 q => by
  cases h1; cases h2; exact x_addS hz (q _ _ (Le.refl _) rfl)
theorem p_addL {ys : List α} (ha : Pg ta Γ (rList ra) xs) (hb : Pg tb Γ (rList ra) ys) (hz : xs.length + ys.length ≤ 1000000) : Pg (tOp rAddU ta tb) Γ (rList ra) (xs ++ ys) := p_op ha hb fun A B H O σ s v1 v2 Q h1 h2 q => by
  obtain ⟨p1, vs1, rfl, g1, a1⟩ := h1
  obtain ⟨p2, vs2, rfl, g2, a2⟩ := h2
  refine x_addL (unhid.keep g1) (unhid.keep g2) (by rw [a1.len, a2.len]; exact hz) fun p H1 n e h => ?_
  exact q _ _ e ⟨p, _, rfl, hid_at h (fun m => by obtain ⟨o, ho⟩ := s.fr p m; rw [n] at ho; cases ho), All2.cat (a2.le (hid_le e)) (a1.le (hid_le e))⟩
theorem p_I0 {g : Int → Int → V} {u : γ} (ha : Pg ta Γ rInt i) (hb : Pg tb Γ rInt j) (hu : ∀ H, rc.at_ H (g i j) u) : Pg (tOp (rI0 g) ta tb) Γ rc u := p_op ha hb fun A B H O σ s v1 v2 Q h1 h2 q => by
  cases h1; cases h2; exact x_I0 (q _ _ (Le.refl _) (hu _))
theorem p_I {C : Int → Int → Prop} {g : Int → Int → V} {u : γ} (ha : Pg ta Γ rInt i) (hb : Pg tb Γ rInt j) (hc : C i j) (hu : ∀ H, rc.at_ H (g i j) u) : Pg (tOp (rI C g) ta tb) Γ rc u := p_op ha hb fun A B H O σ s v1 v2 Q h1 h2 q => by
  cases h1; cases h2; exact x_I hc (q _ _ (Le.refl _) (hu _))
theorem p_sub (ha : Pg ta Γ rInt i) (hb : Pg tb Γ rInt j) : Pg (tOp (rI0 fun i j => .int (i - j)) ta tb) Γ rInt (i - j) := p_I0 ha hb fun _ => rfl
theorem p_gt (ha : Pg ta Γ rInt i) (hb : Pg tb Γ rInt j) : Pg (tOp (rI0 fun i j => .bl (decide (j < i))) ta tb) Γ rBool (decide (j < i)) := p_I0 ha hb fun _ => rfl
theorem p_ge (ha : Pg ta Γ rInt i) (hb : Pg tb Γ rInt j) : Pg (tOp (rI0 fun i j => .bl (decide (j ≤ i))) ta tb) Γ rBool (decide (j ≤ i)) := p_I0 ha hb fun _ => rfl
theorem p_lt (ha : Pg ta Γ rInt i) (hb : Pg tb Γ rInt j) : Pg (tOp rLtU ta tb) Γ rBool (decide (i < j)) := p_op ha hb fun A B H O σ s v1 v2 Q h1 h2 q => by
  cases h1; cases h2; exact x_ltI (q _ _ (Le.refl _) rfl)
theorem p_le (ha : Pg ta Γ rInt i) (hb : Pg tb Γ rInt j) : Pg (tOp rLeU ta tb) Γ rBool (decide (i ≤ j)) := p_op ha hb fun A B H O σ s v1 v2 Q h1 h2 q => by
  cases h1; cases h2; exact x_leI (q _ _ (Le.refl _) rfl)
theorem p_eqI (ha : Pg ta Γ rInt i) (hb : Pg tb Γ rInt j) : Pg (tOp (rEqU K) ta tb) Γ rBool (decide (i = j)) := p_op ha hb fun A B H O σ s v1 v2 Q h1 h2 q => by
  cases h1; cases h2; exact x_eqI (q _ _ (Le.refl _) rfl)
theorem p_neI (ha : Pg ta Γ rInt i) (hb : Pg tb Γ rInt j) : Pg (tOp (rNeU K) ta tb) Γ rBool (!decide (i = j)) := p_op ha hb fun A B H O σ s v1 v2 Q h1 h2 q => by
  cases h1; cases h2; exact x_neI (q _ _ (Le.refl _) rfl)
theorem p_eqS (ha : Pg ta Γ rStr z) (hb : Pg tb Γ rStr w) : Pg (tOp (rEqU K) ta tb) Γ rBool (decide (z = w)) := p_op ha hb fun A B H O σ s v1 v2 Q h1 h2 q => by
  cases h1; cases h2; exact x_eqS (q _ _ (Le.refl _) rfl)
theorem p_neS (ha : Pg ta Γ rStr z) (hb : Pg tb Γ rStr w) : Pg (tOp (rNeU K) ta tb) Γ rBool (!decide (z = w)) := p_op ha hb fun A B H O σ s v1 v2 Q h1 h2 q => by
  cases h1; cases h2; exact x_neS (q _ _ (Le.refl _) rfl)
theorem p_eqB (ha : Pg ta Γ rBool b) (hb : Pg tb Γ rBool c) : Pg (tOp (rEqU K) ta tb) Γ rBool (b == c) := p_op ha hb fun A B H O σ s v1 v2 Q h1 h2 q => by
  cases h1; cases h2; exact x_eqB (q _ _ (Le.refl _) rfl)
theorem p_neB (ha : Pg ta Γ rBool b) (hb : Pg tb Γ rBool c) : Pg (tOp (rNeU K) ta tb) Γ rBool (!(b == c)) := p_op ha hb fun A B H O σ s v1 v2 Q h1 h2 q => by
  cases h1; cases h2; exact x_neB (q _ _ (Le.refl _) rfl)
/-- is None -/
theorem p_isN {o : Option α} (ha : Pg ta Γ (rOpt ra) o) : Pg (tOp rIsN ta (tC .non)) Γ rBool o.isNone := fun A B H O σ s Q q => ha A B H O σ s _ fun v H1 e1 h1 => x_isN (by
  cases o with
  | none => cases h1; rw [decide_eq_true rfl]; exact q _ _ e1 rfl
  | some y => rw [decide_eq_false h1.1]; exact q _ _ e1 rfl)
theorem p_neg (ha : Pg ta Γ rInt i) : Pg (tUn (rU fun i => .int (-i)) ta) Γ rInt (-i) := fun A B H O σ s Q q => ha A B H O σ s _ fun v H1 e1 h1 => by
  cases h1; exact x_neg (q _ _ e1 rfl)
theorem p_not (ha : Pg ta Γ rBool b) : Pg (tNotV ta) Γ rBool (!b) := fun A B H O σ s Q q => ha A B H O σ s _ fun v H1 e1 h1 => ⟨b, h1, q _ _ e1 rfl⟩
theorem p_and (ha : Pg ta Γ rBool b) (hb : b = true → Pg tb Γ rBool c) : Pg (tAndV ta tb) Γ rBool (b && c) := fun A B H O σ s Q q => ha A B H O σ s _ fun v H1 e1 h1 => ⟨b, h1, by
  cases b with
  | true => rw [if_pos rfl]; exact hb rfl A B H1 O σ (s.go e1) Q fun v H2 e2 h2 => q v H2 (e1.trans e2) h2
  | false => rw [if_neg Bool.false_ne_true]; exact q _ _ e1 rfl⟩
theorem p_or (ha : Pg ta Γ rBool b) (hb : b = false → Pg tb Γ rBool c) : Pg (tOrV ta tb) Γ rBool (b || c) := fun A B H O σ s Q q => ha A B H O σ s _ fun v H1 e1 h1 => ⟨b, h1, by
  cases b with
  | false => rw [if_neg Bool.false_ne_true]; exact hb rfl A B H1 O σ (s.go e1) Q fun v H2 e2 h2 => q v H2 (e1.trans e2) h2
  | true => rw [if_pos rfl]; exact q _ _ e1 rfl⟩
/-- a < b < c -/
theorem p_chain {r r' : R2} {rx : Rp γ} {u : γ} (ha : Pg ta Γ ra x) (hb : Pg tb Γ rb y) (hc : Pg tc Γ rx u)
    (h1 : ∀ v1 v2 H (Q : VK), (∃ H', ra.at_ H' v1 x) → (∃ H', rb.at_ H' v2 y) → Q (.bl b) H → r v1 v2 H Q) (h2 : ∀ v1 v2 H (Q : VK), (∃ H', rb.at_ H' v1 y) → (∃ H', rx.at_ H' v2 u) → Q (.bl c) H → r' v1 v2 H Q) : Pg (tChain r r' ta tb tc) Γ rBool (b && c) := fun A B H O σ s Q q =>
  ha A B H O σ s _ fun v1 H1 e1 g1 => hb A B H1 O σ (s.go e1) _ fun v2 H2 e2 g2 => h1 v1 v2 H2 _ ⟨_, g1⟩ ⟨_, g2⟩ ⟨b, rfl, by
    cases b with
    | true => rw [if_pos rfl]; exact hc A B H2 O σ ((s.go e1).go e2) _ fun v3 H3 e3 g3 => h2 v2 v3 H3 Q ⟨_, g2⟩ ⟨_, g3⟩ (q _ _ ((e1.trans e2).trans e3) rfl)
    | false => rw [if_neg Bool.false_ne_true]; exact q _ _ (e1.trans e2) rfl⟩
theorem ch_lt {v1 v2 : V} {H : Hp} {Q : VK} (h1 : ∃ H', rInt.at_ H' v1 i) (h2 : ∃ H', rInt.at_ H' v2 j) (q : Q (.bl (decide (i < j))) H) : rLtU v1 v2 H Q := by
  obtain ⟨_, rfl⟩ := h1; obtain ⟨_, rfl⟩ := h2; exact x_ltI q
theorem ch_le {v1 v2 : V} {H : Hp} {Q : VK} (h1 : ∃ H', rInt.at_ H' v1 i) (h2 : ∃ H', rInt.at_ H' v2 j) (q : Q (.bl (decide (i ≤ j))) H) : rLeU v1 v2 H Q := by
  obtain ⟨_, rfl⟩ := h1; obtain ⟨_, rfl⟩ := h2; exact x_leI q
/-! tests -/
theorem t_B (h : Pg te Γ rBool b) : Tg (tB te) Γ b := fun A B H O σ s Q q => h A B H O σ s _ fun v H1 e1 h1 => ⟨b, h1, q H1 e1⟩
theorem t_T (h : Pg te Γ rBool b) : Tg (tTest te) Γ b := fun A B H O σ s Q q => h A B H O σ s _ fun v H1 e1 h1 => ⟨b, h1, q H1 e1⟩
theorem t_not (h : Tg t1 Γ b) : Tg (tNot t1) Γ (!b) := fun A B H O σ s Q q => h A B H O σ s _ fun H1 e1 => q H1 e1
theorem t_and (h1 : Tg t1 Γ b) (h2 : b = true → Tg t2 Γ c) : Tg (tAnd t1 t2) Γ (b && c) := fun A B H O σ s Q q => h1 A B H O σ s _ fun H1 e1 => by
  cases b with
  | true => rw [if_pos rfl]; exact h2 rfl A B H1 O σ (s.go e1) Q fun H2 e2 => q H2 (e1.trans e2)
  | false => rw [if_neg Bool.false_ne_true]; exact q H1 e1
theorem t_or (h1 : Tg t1 Γ b) (h2 : b = false → Tg t2 Γ c) : Tg (tOr t1 t2) Γ (b || c) := fun A B H O σ s Q q => h1 A B H O σ s _ fun H1 e1 => by
  cases b with
  | false => rw [if_neg Bool.false_ne_true]; exact h2 rfl A B H1 O σ (s.go e1) Q fun H2 e2 => q H2 (e1.trans e2)
  | true => rw [if_pos rfl]; exact q H1 e1
end
end MC
set_option maxHeartbeats 4000000
/-! MB22: typed readings: sequences, calls, statements, loops -/
namespace MC
open PySem PySem.Spec PyProof.Rows L2
instance : Inhabited R4 := ⟨⟨"", "", "", ""⟩⟩
section
variable {α β γ δ ε : Type} {Γ : Gm} {ra : Rp α} {rb : Rp β} {rc : Rp γ} {rd : Rp δ} {re : Rp ε} {x : α} {y : β} {te ta tb tc td : TE} {t : TA} {t1 t2 tt : TT} {b c : Bool} {i j : Int} {z w : Str} {K : PySem.W.Frag} {xs : List α}
theorem Sta.fresh {A : Hp × List Addr} {B H : Hp} {O : List Addr} {σ : L2.St} {Γ : Gm} {p : Addr} (s : Sta A B H O σ Γ) (h : H p = none) : p ∉ O := fun m => by
  obtain ⟨o, ho⟩ := s.fr p m; rw [h] at ho; cases ho
/-! len -/
theorem p_lenS (ha : Pg ta Γ rStr z) (hz : z.length ≤ 1000000) : Pg (tCB (rLenU K) (tCons ta tNil)) Γ rInt (z.length : Nat) := fun A B H O σ s Q q => ha A B H O σ s _ fun v H1 e1 h1 => by
  cases h1; exact x_lenS hz (q _ _ e1 rfl)
theorem p_lenL (ha : Pg ta Γ (rList ra) xs) : Pg (tCB (rLenU K) (tCons ta tNil)) Γ rInt (xs.length : Nat) := fun A B H O σ s Q q => ha A B H O σ s _ fun v H1 e1 h1 => by
  obtain ⟨p, vs, rfl, g, a⟩ := h1
  refine x_lenL (sql (unhid.keep g)) ?_
  rw [a.len]; exact q _ _ e1 rfl
theorem p_lenT (ha : Pg ta Γ (rTupL ra) xs) : Pg (tCB (rLenU K) (tCons ta tNil)) Γ rInt (xs.length : Nat) := fun A B H O σ s Q q => ha A B H O σ s _ fun v H1 e1 h1 => by
  obtain ⟨p, vs, rfl, g, a⟩ := h1
  refine x_lenT (unhid.keep g) ?_
  rw [a.len]; exact q _ _ e1 rfl
theorem p_lenO {k : Nat} {p : Addr} (h : Γ[k]? = some (some (.own p ra xs))) : Pg (tCB (rLenU K) (tCons (tVar k) tNil)) Γ rInt (xs.length : Nat) := fun A B H O σ s Q q => by
  obtain ⟨v, h1, h2, vs, h3, h4⟩ := s.env.get h
  subst h2
  refine ⟨_, h1, x_lenL (sql h3) ?_⟩
  rw [h4.len]; exact q _ _ (Le.refl _) rfl
/-! parts of texts, lists, tuples -/
theorem p_ixL [Inhabited α] (ha : Pg ta Γ (rList ra) xs) (hb : Pg tb Γ rInt i) (hi : 0 ≤ i ∧ i < xs.length) : Pg (tOp (rIx K) ta tb) Γ ra (xs.getD i.toNat default) := p_op ha hb fun A B H O σ s v1 v2 Q h1 h2 q => by
  obtain ⟨p, vs, rfl, g, a⟩ := h1
  cases h2
  have hlt : i.toNat < xs.length := by omega
  obtain ⟨v, hv, hx⟩ := a.get (List.getElem?_eq_getElem hlt)
  refine x_ixL (sql (unhid.keep g)) (atI_nat ⟨hi.1, by rw [a.len]; exact hi.2⟩ hv) (q _ _ (Le.refl _) ?_)
  rw [List.getD_eq_getElem?_getD, List.getElem?_eq_getElem hlt]; exact hx
theorem p_ixTL [Inhabited α] (ha : Pg ta Γ (rTupL ra) xs) (hb : Pg tb Γ rInt i) (hi : 0 ≤ i ∧ i < xs.length) : Pg (tOp (rIx K) ta tb) Γ ra (xs.getD i.toNat default) := p_op ha hb fun A B H O σ s v1 v2 Q h1 h2 q => by
  obtain ⟨p, vs, rfl, g, a⟩ := h1
  cases h2
  have hlt : i.toNat < xs.length := by omega
  obtain ⟨v, hv, hx⟩ := a.get (List.getElem?_eq_getElem hlt)
  refine x_ixT (unhid.keep g) (atI_nat ⟨hi.1, by rw [a.len]; exact hi.2⟩ hv) (q _ _ (Le.refl _) ?_)
  rw [List.getD_eq_getElem?_getD, List.getElem?_eq_getElem hlt]; exact hx
theorem p_ixS (ha : Pg ta Γ rStr z) (hb : Pg tb Γ rInt i) (hz : z.length ≤ 1000000) (hi : 0 ≤ i ∧ i < z.length) : Pg (tOp (rIx K) ta tb) Γ rStr ⟨#[z.cps.getD i.toNat 0]⟩ := p_op ha hb fun A B H O σ s v1 v2 Q h1 h2 q => by
  cases h1; cases h2
  refine x_ixS hz ?_ (q _ _ (Le.refl _) rfl)
  have hn : i.toNat < z.cps.size := by show _ < z.length; omega
  have hl : z.cps.toList.length = z.length := by simp [Str.length]
  refine atI_nat ⟨hi.1, by rw [hl]; exact hi.2⟩ ?_
  rw [Array.getElem?_toList, Array.getElem?_eq_getElem hn, Array.getD_eq_getD_getElem?, Array.getElem?_eq_getElem hn]; rfl
section
variable {u2 : α × β} {u3 : α × β × γ} {u4 : α × β × γ × δ} {r4 : R4}
theorem p_20 (ha : Pg ta Γ (rT2 ra rb) u2) : Pg (tOp (rIx K) ta (tC (.int 0))) Γ ra u2.1 := fun A B H O σ s Q q => ha A B H O σ s _ fun v H1 e1 ⟨p, u, w, hv, g, a1, a2⟩ => by
  subst hv; exact x_ixT (unhid.keep g) rfl (q _ _ e1 a1)
theorem p_21 (ha : Pg ta Γ (rT2 ra rb) u2) : Pg (tOp (rIx K) ta (tC (.int 1))) Γ rb u2.2 := fun A B H O σ s Q q => ha A B H O σ s _ fun v H1 e1 ⟨p, u, w, hv, g, a1, a2⟩ => by
  subst hv; exact x_ixT (unhid.keep g) rfl (q _ _ e1 a2)
theorem p_30 (ha : Pg ta Γ (rT3 ra rb rc) u3) : Pg (tOp (rIx K) ta (tC (.int 0))) Γ ra u3.1 := fun A B H O σ s Q q => ha A B H O σ s _ fun v H1 e1 ⟨p, u, w, t, hv, g, a1, a2, a3⟩ => by
  subst hv; exact x_ixT (unhid.keep g) rfl (q _ _ e1 a1)
theorem p_31 (ha : Pg ta Γ (rT3 ra rb rc) u3) : Pg (tOp (rIx K) ta (tC (.int 1))) Γ rb u3.2.1 := fun A B H O σ s Q q => ha A B H O σ s _ fun v H1 e1 ⟨p, u, w, t, hv, g, a1, a2, a3⟩ => by
  subst hv; exact x_ixT (unhid.keep g) rfl (q _ _ e1 a2)
theorem p_32 (ha : Pg ta Γ (rT3 ra rb rc) u3) : Pg (tOp (rIx K) ta (tC (.int 2))) Γ rc u3.2.2 := fun A B H O σ s Q q => ha A B H O σ s _ fun v H1 e1 ⟨p, u, w, t, hv, g, a1, a2, a3⟩ => by
  subst hv; exact x_ixT (unhid.keep g) rfl (q _ _ e1 a3)
theorem p_40 (ha : Pg ta Γ (rT4 ra rb rc rd) u4) : Pg (tOp (rIx K) ta (tC (.int 0))) Γ ra u4.1 := fun A B H O σ s Q q => ha A B H O σ s _ fun v H1 e1 ⟨p, u, w, t, r, hv, g, a1, a2, a3, a4⟩ => by
  subst hv; exact x_ixT (unhid.keep g) rfl (q _ _ e1 a1)
theorem p_41 (ha : Pg ta Γ (rT4 ra rb rc rd) u4) : Pg (tOp (rIx K) ta (tC (.int 1))) Γ rb u4.2.1 := fun A B H O σ s Q q => ha A B H O σ s _ fun v H1 e1 ⟨p, u, w, t, r, hv, g, a1, a2, a3, a4⟩ => by
  subst hv; exact x_ixT (unhid.keep g) rfl (q _ _ e1 a2)
theorem p_42 (ha : Pg ta Γ (rT4 ra rb rc rd) u4) : Pg (tOp (rIx K) ta (tC (.int 2))) Γ rc u4.2.2.1 := fun A B H O σ s Q q => ha A B H O σ s _ fun v H1 e1 ⟨p, u, w, t, r, hv, g, a1, a2, a3, a4⟩ => by
  subst hv; exact x_ixT (unhid.keep g) rfl (q _ _ e1 a3)
theorem p_43 (ha : Pg ta Γ (rT4 ra rb rc rd) u4) : Pg (tOp (rIx K) ta (tC (.int 3))) Γ rd u4.2.2.2 := fun A B H O σ s Q q => ha A B H O σ s _ fun v H1 e1 ⟨p, u, w, t, r, hv, g, a1, a2, a3, a4⟩ => by
  subst hv; exact x_ixT (unhid.keep g) rfl (q _ _ e1 a4)
theorem p_R0 (ha : Pg ta Γ rR4 r4) : Pg (tOp (rIx K) ta (tC (.int 0))) Γ rStr r4.l := fun A B H O σ s Q q => ha A B H O σ s _ fun v H1 e1 ⟨p, hv, g⟩ => by
  subst hv; exact x_ixT (unhid.keep g) rfl (q _ _ e1 rfl)
theorem p_R1 (ha : Pg ta Γ rR4 r4) : Pg (tOp (rIx K) ta (tC (.int 1))) Γ rStr r4.o := fun A B H O σ s Q q => ha A B H O σ s _ fun v H1 e1 ⟨p, hv, g⟩ => by
  subst hv; exact x_ixT (unhid.keep g) rfl (q _ _ e1 rfl)
theorem p_R2 (ha : Pg ta Γ rR4 r4) : Pg (tOp (rIx K) ta (tC (.int 2))) Γ rStr r4.n := fun A B H O σ s Q q => ha A B H O σ s _ fun v H1 e1 ⟨p, hv, g⟩ => by
  subst hv; exact x_ixT (unhid.keep g) rfl (q _ _ e1 rfl)
theorem p_R3 (ha : Pg ta Γ rR4 r4) : Pg (tOp (rIx K) ta (tC (.int 3))) Γ rStr r4.r := fun A B H O σ s Q q => ha A B H O σ s _ fun v H1 e1 ⟨p, hv, g⟩ => by
  subst hv; exact x_ixT (unhid.keep g) rfl (q _ _ e1 rfl)
end
/-! slices -/
def Og (to : TO) (Γ : Gm) (o : Option Int) : Prop := ∀ A B H O σ, Sta A B H O σ Γ → ∀ Q : Option Int → Hp → Prop, (∀ H2, Le H H2 → Q o H2) → to σ H Q
theorem o_none : Og tNoPart Γ none := fun A B H O σ s Q q => q H (Le.refl _)
theorem o_some (h : Pg te Γ rInt i) : Og (tPart te) Γ (some i) := fun A B H O σ s Q q => h A B H O σ s _ fun v H1 e1 h1 => ⟨i, h1, q H1 e1⟩
def cutL {α : Type} (xs : List α) (lo hi : Option Int) : List α := (xs.drop (HT.sIx xs.length 0 lo)).take (HT.sIx xs.length xs.length hi - HT.sIx xs.length 0 lo)
theorem p_slS {tl th : TO} {lo hi : Option Int} (ha : Pg te Γ rStr z) (h1 : Og tl Γ lo) (h2 : Og th Γ hi) (hz : z.length ≤ 1000000) : Pg (L2.tSl (rSlU K) te tl th) Γ rStr (cutS z lo hi) := fun A B H O σ s Q q =>
  ha A B H O σ s _ fun v H1 e1 g1 => h1 A B H1 O σ (s.go e1) _ fun H2 e2 => h2 A B H2 O σ ((s.go e1).go e2) _ fun H3 e3 => by
    cases g1; exact x_slS hz (q _ _ ((e1.trans e2).trans e3) rfl)
theorem p_slL {tl th : TO} {lo hi : Option Int} (ha : Pg te Γ (rList ra) xs) (h1 : Og tl Γ lo) (h2 : Og th Γ hi) : Pg (L2.tSl (rSlU K) te tl th) Γ (rList ra) (cutL xs lo hi) := fun A B H O σ s Q q =>
  ha A B H O σ s _ fun v H1 e1 g1 => h1 A B H1 O σ (s.go e1) _ fun H2 e2 => h2 A B H2 O σ ((s.go e1).go e2) _ fun H3 e3 => by
    obtain ⟨p, vs, rfl, g, a⟩ := g1
    have g3 := e3.keep (e2.keep (unhid.keep g))
    refine x_slL (sql g3) fun p' H4 n4 e4 h4 => q _ _ (((e1.trans e2).trans e3).trans e4) ⟨p', _, rfl, hid_at h4 (((s.go e1).go e2).go e3 |>.fresh n4), ?_⟩
    have a4 := a.le (hid_le ((e2.trans e3).trans e4))
    have hl := a.len
    unfold cutL cutV
    rw [hl]
    exact (a4.drop _).take _
theorem p_rev (ha : Pg te Γ rStr z) (hz : z.length ≤ 1000000) : Pg (tRevS te) Γ rStr (revS z) := fun A B H O σ s Q q => ha A B H O σ s _ fun v H1 e1 h1 => by
  cases h1; exact x_kRev hz (q _ _ e1 rfl)
/-! displays -/
def Ag {α : Type} (t : TA) (Γ : Gm) (r : Rp α) (xs : List α) : Prop := ∀ A B H O σ, Sta A B H O σ Γ → ∀ Q : List V → Hp → Prop, (∀ vs H2, Le H H2 → All2 r (hid H2 O) vs xs → Q vs H2) → t σ H Q
theorem a_nil : Ag tNil Γ ra [] := fun A B H O σ s Q q => q [] H (Le.refl _) trivial
theorem a_cons {tr : TA} (ha : Pg ta Γ ra x) (hr : Ag tr Γ ra xs) : Ag (tCons ta tr) Γ ra (x :: xs) := fun A B H O σ s Q q =>
  ha A B H O σ s _ fun v H1 e1 h1 => hr A B H1 O σ (s.go e1) _ fun vs H2 e2 h2 => q _ H2 (e1.trans e2) ⟨ra.le (hid_le e2) h1, h2⟩
theorem p_lst (h : Ag t Γ ra xs) (hl : xs.length ≤ 1000000) : Pg (tLst t) Γ (rList ra) xs := fun A B H O σ s Q q => h A B H O σ s _ fun vs H1 e1 h1 => x_kLst (by rw [h1.len]; exact hl) fun p H2 n e2 g =>
  q _ _ (e1.trans e2) ⟨p, vs, rfl, hid_at g ((s.go e1).fresh n), h1.le (hid_le e2)⟩
theorem p_tupL (h : Ag t Γ ra xs) (hl : xs.length ≤ 1000000) : Pg (tTup t) Γ (rTupL ra) xs := fun A B H O σ s Q q => h A B H O σ s _ fun vs H1 e1 h1 => x_kTup (by rw [h1.len]; exact hl) fun p H2 n e2 g =>
  q _ _ (e1.trans e2) ⟨p, vs, rfl, hid_at g ((s.go e1).fresh n), h1.le (hid_le e2)⟩
theorem p_t2 (ha : Pg ta Γ ra x) (hb : Pg tb Γ rb y) : Pg (tTup (tCons ta (tCons tb tNil))) Γ (rT2 ra rb) (x, y) := fun A B H O σ s Q q =>
  ha A B H O σ s _ fun v1 H1 e1 h1 => hb A B H1 O σ (s.go e1) _ fun v2 H2 e2 h2 => x_kTup (by decide : 2 ≤ 1000000) fun p H3 n e3 g =>
    q _ _ ((e1.trans e2).trans e3) ⟨p, v1, v2, rfl, hid_at g (((s.go e1).go e2).fresh n), ra.le (hid_le (e2.trans e3)) h1, rb.le (hid_le e3) h2⟩
theorem p_t3 {u : γ} (ha : Pg ta Γ ra x) (hb : Pg tb Γ rb y) (hc : Pg tc Γ rc u) : Pg (tTup (tCons ta (tCons tb (tCons tc tNil)))) Γ (rT3 ra rb rc) (x, y, u) := fun A B H O σ s Q q =>
  ha A B H O σ s _ fun v1 H1 e1 h1 => hb A B H1 O σ (s.go e1) _ fun v2 H2 e2 h2 => hc A B H2 O σ ((s.go e1).go e2) _ fun v3 H3 e3 h3 => x_kTup (by decide : 3 ≤ 1000000) fun p H4 n e4 g =>
    q _ _ (((e1.trans e2).trans e3).trans e4) ⟨p, v1, v2, v3, rfl, hid_at g ((((s.go e1).go e2).go e3).fresh n), ra.le (hid_le ((e2.trans e3).trans e4)) h1, rb.le (hid_le (e3.trans e4)) h2, rc.le (hid_le e4) h3⟩
theorem p_t4 {u : γ} {u' : δ} (ha : Pg ta Γ ra x) (hb : Pg tb Γ rb y) (hc : Pg tc Γ rc u) (hd : Pg td Γ rd u') : Pg (tTup (tCons ta (tCons tb (tCons tc (tCons td tNil))))) Γ (rT4 ra rb rc rd) (x, y, u, u') := fun A B H O σ s Q q =>
  ha A B H O σ s _ fun v1 H1 e1 h1 => hb A B H1 O σ (s.go e1) _ fun v2 H2 e2 h2 => hc A B H2 O σ ((s.go e1).go e2) _ fun v3 H3 e3 h3 => hd A B H3 O σ (((s.go e1).go e2).go e3) _ fun v4 H4 e4 h4 => x_kTup (by decide : 4 ≤ 1000000) fun p H5 n e5 g =>
    q _ _ ((((e1.trans e2).trans e3).trans e4).trans e5) ⟨p, v1, v2, v3, v4, rfl, hid_at g (((((s.go e1).go e2).go e3).go e4).fresh n), ra.le (hid_le (((e2.trans e3).trans e4).trans e5)) h1, rb.le (hid_le ((e3.trans e4).trans e5)) h2, rc.le (hid_le (e4.trans e5)) h3, rd.le (hid_le e5) h4⟩
theorem p_tR {z1 z2 z3 z4 : Str} (ha : Pg ta Γ rStr z1) (hb : Pg tb Γ rStr z2) (hc : Pg tc Γ rStr z3) (hd : Pg td Γ rStr z4) : Pg (tTup (tCons ta (tCons tb (tCons tc (tCons td tNil))))) Γ rR4 ⟨z1, z2, z3, z4⟩ := fun A B H O σ s Q q =>
  p_t4 ha hb hc hd A B H O σ s _ fun v H1 e1 ⟨p, v1, v2, v3, v4, hv, g, h1, h2, h3, h4⟩ => by
    cases h1; cases h2; cases h3; cases h4
    exact q _ _ e1 ⟨p, hv, g⟩
/-! built-ins -/
theorem p_int1 (ha : Pg ta Γ rInt i) : Pg (tCB rInt1 (tCons ta tNil)) Γ rInt i := fun A B H O σ s Q q => ha A B H O σ s _ fun v H1 e1 h1 => by
  cases h1; exact x_int (q _ _ e1 rfl)
theorem p_intB (ha : Pg ta Γ rBool b) : Pg (tCB rInt1 (tCons ta tNil)) Γ rInt (if b then 1 else 0) := fun A B H O σ s Q q => ha A B H O σ s _ fun v H1 e1 h1 => by
  cases h1; exact x_intB (q _ _ e1 rfl)
theorem p_abs (ha : Pg ta Γ rInt i) : Pg (tCB rAbs (tCons ta tNil)) Γ rInt (if i < 0 then -i else i) := fun A B H O σ s Q q => ha A B H O σ s _ fun v H1 e1 h1 => by
  cases h1; exact x_abs (q _ _ e1 rfl)
theorem p_max (ha : Pg ta Γ rInt i) (hb : Pg tb Γ rInt j) : Pg (tCB rMax2 (tCons ta (tCons tb tNil))) Γ rInt (if j > i then j else i) := fun A B H O σ s Q q =>
  ha A B H O σ s _ fun v H1 e1 h1 => hb A B H1 O σ (s.go e1) _ fun v2 H2 e2 h2 => by
    cases h1; cases h2; exact x_max (q _ _ (e1.trans e2) rfl)
theorem p_strS (ha : Pg ta Γ rStr z) : Pg (tCB rStrS (tCons ta tNil)) Γ rStr z := fun A B H O σ s Q q => ha A B H O σ s _ fun v H1 e1 h1 => by
  cases h1; exact x_strS (q _ _ e1 rfl)
theorem All2.strs {H : Hp} : ∀ {vs : List V} {zs : List Str}, All2 rStr H vs zs → vs = zs.map V.str
  | [], [], _ => rfl
  | _ :: _, _ :: _, h => by rw [show _ = V.str _ from h.1, All2.strs h.2]; rfl
  | [], _ :: _, h => h.elim
  | _ :: _, [], h => h.elim
theorem All2.ints {H : Hp} : ∀ {vs : List V} {zs : List Int}, All2 rInt H vs zs → vs = zs.map V.int
  | [], [], _ => rfl
  | _ :: _, _ :: _, h => by rw [show _ = V.int _ from h.1, All2.ints h.2]; rfl
  | [], _ :: _, h => h.elim
  | _ :: _, [], h => h.elim
theorem All2.ofMap {α : Type} {r : Rp α} {H : Hp} (f : α → V) (h : ∀ x, r.at_ H (f x) x) : ∀ xs : List α, All2 r H (xs.map f) xs
  | [] => trivial
  | x :: xs => ⟨h x, All2.ofMap f h xs⟩
theorem p_join {zs : List Str} (ha : Pg ta Γ rStr z) (hb : Pg tb Γ (rList rStr) zs) (hz : (zs.map (·.length)).sum + zs.length * z.length ≤ 1000000) : Pg (tBM K "str" (rJoin K) ta (tCons tb tNil)) Γ rStr (Txt.join z zs) := fun A B H O σ s Q q =>
  ha A B H O σ s _ fun v H1 e1 h1 => by
    cases h1
    refine x_tyS (hb A B H1 O σ (s.go e1) _ fun v2 H2 e2 h2 => ?_)
    obtain ⟨p, vs, rfl, g, a⟩ := h2
    rw [a.strs] at g
    exact x_join (unhid.keep g) hz (q _ _ (e1.trans e2) rfl)
theorem p_listL (hl : Pg ta Γ (rList ra) xs) : Pg (tCB (rListU K) (tCons ta tNil)) Γ (rList ra) xs := fun A B H O σ s Q q => hl A B H O σ s _ fun v H1 e1 h1 => by
  obtain ⟨p, vs, rfl, g, a⟩ := h1
  exact x_listL (sql (unhid.keep g)) fun p' H2 n e2 h2 => q _ _ (e1.trans e2) ⟨p', vs, rfl, hid_at h2 ((s.go e1).fresh n), a.le (hid_le e2)⟩
end
end MC
set_option maxHeartbeats 4000000
/-! MB23: typed readings: calls (printed by mb23.py) -/
namespace MC
open PySem PySem.Spec PyProof.Rows L2
/-- what is hidden is there -/
def Hd (O : List Addr) (H : Hp) : Prop := ∀ p ∈ O, ∃ vs, H p = some (.lst vs)
/-- an instance of a class with these fields -/
def InsRp {α : Type} (r : Rp α) (C : Addr) (ns : List Str) : Prop := ∀ H v x, r.at_ H v x → ∃ a dx fs, v = .ref a ∧ H a = some (.ins C dx fs) ∧ fs.map (·.1) = ns
theorem lk_none {m : Str} : ∀ {fs : List (Str × V)} {ns : List Str}, fs.map (·.1) = ns → ns.contains m = false → fs.lookup m = none
  | [], _, _, _ => rfl
  | (n, v) :: fs, ns, h, hm => by
    subst h
    have h1 : (m == n) = false ∧ (fs.map (·.1)).contains m = false := by simpa [List.contains_cons] using hm
    simp only [List.lookup, h1.1]
    exact lk_none rfl h1.2
abbrev spP1 {A0 C : Type} (r0 : Rp A0) (rc : Rp C) (pre : A0 → Prop) (f : A0 → C) : Sp := fun vs H Q E => ∃ O : List Addr, ∃ v0 x0, vs = [v0] ∧ Hd O H ∧ r0.at_ (hid H O) v0 x0 ∧ pre x0 ∧ ∀ u H', Le H H' → rc.at_ (hid H' O) u (f x0) → Q u H'
theorem p_call1 {Γ : Gm} {A0 C : Type} {r0 : Rp A0} {rc : Rp C} {pre : A0 → Prop} {f : A0 → C} {t0 : TE} {x0 : A0} (h0 : Pg t0 Γ r0 x0) (hp : pre x0) : Pg (tCallS (spP1 r0 rc pre f) EN (tCons t0 tNil)) Γ rc (f x0) := fun A B H O σ s Q q =>
  h0 A B H O σ s _ fun v0 H0 e0 g0 => 
  ⟨O, v0, x0, rfl, (s.go e0).fr, g0, hp, fun u H' e hu => q u H' (e0.trans e) hu⟩
theorem p_meth1 {Γ : Gm} {A0 C : Type} {r0 : Rp A0} {rc : Rp C} {pre : A0 → Prop} {f : A0 → C} {t0 : TE} {x0 : A0} {Cl : Addr} {m : Str} {ns : List Str} (hI : InsRp r0 Cl ns) (h0 : Pg t0 Γ r0 x0) (hp : pre x0) (hm : ns.contains m = false := by decide +kernel) : Pg (MC.tMethG Cl m (spP1 r0 rc pre f) EN t0 tNil) Γ rc (f x0) := fun A B H O σ s Q q =>
  h0 A B H O σ s _ fun v0 H0 e0 g0 => by
  obtain ⟨oa, dx, fs, ev, ha, hl⟩ := hI _ _ _ g0
  subst ev
  refine ⟨oa, dx, fs, rfl, unhid.keep ha, lk_none hl hm, ?_⟩
  exact 
  ⟨O, _, x0, rfl, (s.go e0).fr, g0, hp, fun u H' e hu => q u H' (e0.trans e) hu⟩
abbrev spP2 {A0 A1 C : Type} (r0 : Rp A0) (r1 : Rp A1) (rc : Rp C) (pre : A0 → A1 → Prop) (f : A0 → A1 → C) : Sp := fun vs H Q E => ∃ O : List Addr, ∃ v0 v1 x0 x1, vs = [v0, v1] ∧ Hd O H ∧ r0.at_ (hid H O) v0 x0 ∧ r1.at_ (hid H O) v1 x1 ∧ pre x0 x1 ∧ ∀ u H', Le H H' → rc.at_ (hid H' O) u (f x0 x1) → Q u H'
theorem p_call2 {Γ : Gm} {A0 A1 C : Type} {r0 : Rp A0} {r1 : Rp A1} {rc : Rp C} {pre : A0 → A1 → Prop} {f : A0 → A1 → C} {t0 : TE} {t1 : TE} {x0 : A0} {x1 : A1} (h0 : Pg t0 Γ r0 x0) (h1 : Pg t1 Γ r1 x1) (hp : pre x0 x1) : Pg (tCallS (spP2 r0 r1 rc pre f) EN (tCons t0 (tCons t1 tNil))) Γ rc (f x0 x1) := fun A B H O σ s Q q =>
  h0 A B H O σ s _ fun v0 H0 e0 g0 =>   h1 A B H0 O σ (s.go e0) _ fun v1 H1 e1 g1 => 
  ⟨O, v0, v1, x0, x1, rfl, ((s.go e0).go e1).fr, r0.le (hid_le e1) g0, g1, hp, fun u H' e hu => q u H' ((e0.trans e1).trans e) hu⟩
theorem p_meth2 {Γ : Gm} {A0 A1 C : Type} {r0 : Rp A0} {r1 : Rp A1} {rc : Rp C} {pre : A0 → A1 → Prop} {f : A0 → A1 → C} {t0 : TE} {t1 : TE} {x0 : A0} {x1 : A1} {Cl : Addr} {m : Str} {ns : List Str} (hI : InsRp r0 Cl ns) (h0 : Pg t0 Γ r0 x0) (h1 : Pg t1 Γ r1 x1) (hp : pre x0 x1) (hm : ns.contains m = false := by decide +kernel) : Pg (MC.tMethG Cl m (spP2 r0 r1 rc pre f) EN t0 (tCons t1 tNil)) Γ rc (f x0 x1) := fun A B H O σ s Q q =>
  h0 A B H O σ s _ fun v0 H0 e0 g0 => by
  obtain ⟨oa, dx, fs, ev, ha, hl⟩ := hI _ _ _ g0
  subst ev
  refine ⟨oa, dx, fs, rfl, unhid.keep ha, lk_none hl hm, ?_⟩
  exact   h1 A B H0 O σ (s.go e0) _ fun v1 H1 e1 g1 => 
  ⟨O, _, v1, x0, x1, rfl, ((s.go e0).go e1).fr, r0.le (hid_le e1) g0, g1, hp, fun u H' e hu => q u H' ((e0.trans e1).trans e) hu⟩
abbrev spP3 {A0 A1 A2 C : Type} (r0 : Rp A0) (r1 : Rp A1) (r2 : Rp A2) (rc : Rp C) (pre : A0 → A1 → A2 → Prop) (f : A0 → A1 → A2 → C) : Sp := fun vs H Q E => ∃ O : List Addr, ∃ v0 v1 v2 x0 x1 x2, vs = [v0, v1, v2] ∧ Hd O H ∧ r0.at_ (hid H O) v0 x0 ∧ r1.at_ (hid H O) v1 x1 ∧ r2.at_ (hid H O) v2 x2 ∧ pre x0 x1 x2 ∧ ∀ u H', Le H H' → rc.at_ (hid H' O) u (f x0 x1 x2) → Q u H'
theorem p_call3 {Γ : Gm} {A0 A1 A2 C : Type} {r0 : Rp A0} {r1 : Rp A1} {r2 : Rp A2} {rc : Rp C} {pre : A0 → A1 → A2 → Prop} {f : A0 → A1 → A2 → C} {t0 : TE} {t1 : TE} {t2 : TE} {x0 : A0} {x1 : A1} {x2 : A2} (h0 : Pg t0 Γ r0 x0) (h1 : Pg t1 Γ r1 x1) (h2 : Pg t2 Γ r2 x2) (hp : pre x0 x1 x2) : Pg (tCallS (spP3 r0 r1 r2 rc pre f) EN (tCons t0 (tCons t1 (tCons t2 tNil)))) Γ rc (f x0 x1 x2) := fun A B H O σ s Q q =>
  h0 A B H O σ s _ fun v0 H0 e0 g0 =>   h1 A B H0 O σ (s.go e0) _ fun v1 H1 e1 g1 =>   h2 A B H1 O σ ((s.go e0).go e1) _ fun v2 H2 e2 g2 => 
  ⟨O, v0, v1, v2, x0, x1, x2, rfl, (((s.go e0).go e1).go e2).fr, r0.le (hid_le (e1.trans e2)) g0, r1.le (hid_le e2) g1, g2, hp, fun u H' e hu => q u H' (((e0.trans e1).trans e2).trans e) hu⟩
theorem p_meth3 {Γ : Gm} {A0 A1 A2 C : Type} {r0 : Rp A0} {r1 : Rp A1} {r2 : Rp A2} {rc : Rp C} {pre : A0 → A1 → A2 → Prop} {f : A0 → A1 → A2 → C} {t0 : TE} {t1 : TE} {t2 : TE} {x0 : A0} {x1 : A1} {x2 : A2} {Cl : Addr} {m : Str} {ns : List Str} (hI : InsRp r0 Cl ns) (h0 : Pg t0 Γ r0 x0) (h1 : Pg t1 Γ r1 x1) (h2 : Pg t2 Γ r2 x2) (hp : pre x0 x1 x2) (hm : ns.contains m = false := by decide +kernel) : Pg (MC.tMethG Cl m (spP3 r0 r1 r2 rc pre f) EN t0 (tCons t1 (tCons t2 tNil))) Γ rc (f x0 x1 x2) := fun A B H O σ s Q q =>
  h0 A B H O σ s _ fun v0 H0 e0 g0 => by
  obtain ⟨oa, dx, fs, ev, ha, hl⟩ := hI _ _ _ g0
  subst ev
  refine ⟨oa, dx, fs, rfl, unhid.keep ha, lk_none hl hm, ?_⟩
  exact   h1 A B H0 O σ (s.go e0) _ fun v1 H1 e1 g1 =>   h2 A B H1 O σ ((s.go e0).go e1) _ fun v2 H2 e2 g2 => 
  ⟨O, _, v1, v2, x0, x1, x2, rfl, (((s.go e0).go e1).go e2).fr, r0.le (hid_le (e1.trans e2)) g0, r1.le (hid_le e2) g1, g2, hp, fun u H' e hu => q u H' (((e0.trans e1).trans e2).trans e) hu⟩
abbrev spP4 {A0 A1 A2 A3 C : Type} (r0 : Rp A0) (r1 : Rp A1) (r2 : Rp A2) (r3 : Rp A3) (rc : Rp C) (pre : A0 → A1 → A2 → A3 → Prop) (f : A0 → A1 → A2 → A3 → C) : Sp := fun vs H Q E => ∃ O : List Addr, ∃ v0 v1 v2 v3 x0 x1 x2 x3, vs = [v0, v1, v2, v3] ∧ Hd O H ∧ r0.at_ (hid H O) v0 x0 ∧ r1.at_ (hid H O) v1 x1 ∧ r2.at_ (hid H O) v2 x2 ∧ r3.at_ (hid H O) v3 x3 ∧ pre x0 x1 x2 x3 ∧ ∀ u H', Le H H' → rc.at_ (hid H' O) u (f x0 x1 x2 x3) → Q u H'
theorem p_call4 {Γ : Gm} {A0 A1 A2 A3 C : Type} {r0 : Rp A0} {r1 : Rp A1} {r2 : Rp A2} {r3 : Rp A3} {rc : Rp C} {pre : A0 → A1 → A2 → A3 → Prop} {f : A0 → A1 → A2 → A3 → C} {t0 : TE} {t1 : TE} {t2 : TE} {t3 : TE} {x0 : A0} {x1 : A1} {x2 : A2} {x3 : A3} (h0 : Pg t0 Γ r0 x0) (h1 : Pg t1 Γ r1 x1) (h2 : Pg t2 Γ r2 x2) (h3 : Pg t3 Γ r3 x3) (hp : pre x0 x1 x2 x3) : Pg (tCallS (spP4 r0 r1 r2 r3 rc pre f) EN (tCons t0 (tCons t1 (tCons t2 (tCons t3 tNil))))) Γ rc (f x0 x1 x2 x3) := fun A B H O σ s Q q =>
  h0 A B H O σ s _ fun v0 H0 e0 g0 =>   h1 A B H0 O σ (s.go e0) _ fun v1 H1 e1 g1 =>   h2 A B H1 O σ ((s.go e0).go e1) _ fun v2 H2 e2 g2 =>   h3 A B H2 O σ (((s.go e0).go e1).go e2) _ fun v3 H3 e3 g3 => 
  ⟨O, v0, v1, v2, v3, x0, x1, x2, x3, rfl, ((((s.go e0).go e1).go e2).go e3).fr, r0.le (hid_le ((e1.trans e2).trans e3)) g0, r1.le (hid_le (e2.trans e3)) g1, r2.le (hid_le e3) g2, g3, hp, fun u H' e hu => q u H' ((((e0.trans e1).trans e2).trans e3).trans e) hu⟩
theorem p_meth4 {Γ : Gm} {A0 A1 A2 A3 C : Type} {r0 : Rp A0} {r1 : Rp A1} {r2 : Rp A2} {r3 : Rp A3} {rc : Rp C} {pre : A0 → A1 → A2 → A3 → Prop} {f : A0 → A1 → A2 → A3 → C} {t0 : TE} {t1 : TE} {t2 : TE} {t3 : TE} {x0 : A0} {x1 : A1} {x2 : A2} {x3 : A3} {Cl : Addr} {m : Str} {ns : List Str} (hI : InsRp r0 Cl ns) (h0 : Pg t0 Γ r0 x0) (h1 : Pg t1 Γ r1 x1) (h2 : Pg t2 Γ r2 x2) (h3 : Pg t3 Γ r3 x3) (hp : pre x0 x1 x2 x3) (hm : ns.contains m = false := by decide +kernel) : Pg (MC.tMethG Cl m (spP4 r0 r1 r2 r3 rc pre f) EN t0 (tCons t1 (tCons t2 (tCons t3 tNil)))) Γ rc (f x0 x1 x2 x3) := fun A B H O σ s Q q =>
  h0 A B H O σ s _ fun v0 H0 e0 g0 => by
  obtain ⟨oa, dx, fs, ev, ha, hl⟩ := hI _ _ _ g0
  subst ev
  refine ⟨oa, dx, fs, rfl, unhid.keep ha, lk_none hl hm, ?_⟩
  exact   h1 A B H0 O σ (s.go e0) _ fun v1 H1 e1 g1 =>   h2 A B H1 O σ ((s.go e0).go e1) _ fun v2 H2 e2 g2 =>   h3 A B H2 O σ (((s.go e0).go e1).go e2) _ fun v3 H3 e3 g3 => 
  ⟨O, _, v1, v2, v3, x0, x1, x2, x3, rfl, ((((s.go e0).go e1).go e2).go e3).fr, r0.le (hid_le ((e1.trans e2).trans e3)) g0, r1.le (hid_le (e2.trans e3)) g1, r2.le (hid_le e3) g2, g3, hp, fun u H' e hu => q u H' ((((e0.trans e1).trans e2).trans e3).trans e) hu⟩
abbrev spP5 {A0 A1 A2 A3 A4 C : Type} (r0 : Rp A0) (r1 : Rp A1) (r2 : Rp A2) (r3 : Rp A3) (r4 : Rp A4) (rc : Rp C) (pre : A0 → A1 → A2 → A3 → A4 → Prop) (f : A0 → A1 → A2 → A3 → A4 → C) : Sp := fun vs H Q E => ∃ O : List Addr, ∃ v0 v1 v2 v3 v4 x0 x1 x2 x3 x4, vs = [v0, v1, v2, v3, v4] ∧ Hd O H ∧ r0.at_ (hid H O) v0 x0 ∧ r1.at_ (hid H O) v1 x1 ∧ r2.at_ (hid H O) v2 x2 ∧ r3.at_ (hid H O) v3 x3 ∧ r4.at_ (hid H O) v4 x4 ∧ pre x0 x1 x2 x3 x4 ∧ ∀ u H', Le H H' → rc.at_ (hid H' O) u (f x0 x1 x2 x3 x4) → Q u H'
theorem p_call5 {Γ : Gm} {A0 A1 A2 A3 A4 C : Type} {r0 : Rp A0} {r1 : Rp A1} {r2 : Rp A2} {r3 : Rp A3} {r4 : Rp A4} {rc : Rp C} {pre : A0 → A1 → A2 → A3 → A4 → Prop} {f : A0 → A1 → A2 → A3 → A4 → C} {t0 : TE} {t1 : TE} {t2 : TE} {t3 : TE} {t4 : TE} {x0 : A0} {x1 : A1} {x2 : A2} {x3 : A3} {x4 : A4} (h0 : Pg t0 Γ r0 x0) (h1 : Pg t1 Γ r1 x1) (h2 : Pg t2 Γ r2 x2) (h3 : Pg t3 Γ r3 x3) (h4 : Pg t4 Γ r4 x4) (hp : pre x0 x1 x2 x3 x4) : Pg (tCallS (spP5 r0 r1 r2 r3 r4 rc pre f) EN (tCons t0 (tCons t1 (tCons t2 (tCons t3 (tCons t4 tNil)))))) Γ rc (f x0 x1 x2 x3 x4) := fun A B H O σ s Q q =>
  h0 A B H O σ s _ fun v0 H0 e0 g0 =>   h1 A B H0 O σ (s.go e0) _ fun v1 H1 e1 g1 =>   h2 A B H1 O σ ((s.go e0).go e1) _ fun v2 H2 e2 g2 =>   h3 A B H2 O σ (((s.go e0).go e1).go e2) _ fun v3 H3 e3 g3 =>   h4 A B H3 O σ ((((s.go e0).go e1).go e2).go e3) _ fun v4 H4 e4 g4 => 
  ⟨O, v0, v1, v2, v3, v4, x0, x1, x2, x3, x4, rfl, (((((s.go e0).go e1).go e2).go e3).go e4).fr, r0.le (hid_le (((e1.trans e2).trans e3).trans e4)) g0, r1.le (hid_le ((e2.trans e3).trans e4)) g1, r2.le (hid_le (e3.trans e4)) g2, r3.le (hid_le e4) g3, g4, hp, fun u H' e hu => q u H' (((((e0.trans e1).trans e2).trans e3).trans e4).trans e) hu⟩
theorem p_meth5 {Γ : Gm} {A0 A1 A2 A3 A4 C : Type} {r0 : Rp A0} {r1 : Rp A1} {r2 : Rp A2} {r3 : Rp A3} {r4 : Rp A4} {rc : Rp C} {pre : A0 → A1 → A2 → A3 → A4 → Prop} {f : A0 → A1 → A2 → A3 → A4 → C} {t0 : TE} {t1 : TE} {t2 : TE} {t3 : TE} {t4 : TE} {x0 : A0} {x1 : A1} {x2 : A2} {x3 : A3} {x4 : A4} {Cl : Addr} {m : Str} {ns : List Str} (hI : InsRp r0 Cl ns) (h0 : Pg t0 Γ r0 x0) (h1 : Pg t1 Γ r1 x1) (h2 : Pg t2 Γ r2 x2) (h3 : Pg t3 Γ r3 x3) (h4 : Pg t4 Γ r4 x4) (hp : pre x0 x1 x2 x3 x4) (hm : ns.contains m = false := by decide +kernel) : Pg (MC.tMethG Cl m (spP5 r0 r1 r2 r3 r4 rc pre f) EN t0 (tCons t1 (tCons t2 (tCons t3 (tCons t4 tNil))))) Γ rc (f x0 x1 x2 x3 x4) := fun A B H O σ s Q q =>
  h0 A B H O σ s _ fun v0 H0 e0 g0 => by
  obtain ⟨oa, dx, fs, ev, ha, hl⟩ := hI _ _ _ g0
  subst ev
  refine ⟨oa, dx, fs, rfl, unhid.keep ha, lk_none hl hm, ?_⟩
  exact   h1 A B H0 O σ (s.go e0) _ fun v1 H1 e1 g1 =>   h2 A B H1 O σ ((s.go e0).go e1) _ fun v2 H2 e2 g2 =>   h3 A B H2 O σ (((s.go e0).go e1).go e2) _ fun v3 H3 e3 g3 =>   h4 A B H3 O σ ((((s.go e0).go e1).go e2).go e3) _ fun v4 H4 e4 g4 => 
  ⟨O, _, v1, v2, v3, v4, x0, x1, x2, x3, x4, rfl, (((((s.go e0).go e1).go e2).go e3).go e4).fr, r0.le (hid_le (((e1.trans e2).trans e3).trans e4)) g0, r1.le (hid_le ((e2.trans e3).trans e4)) g1, r2.le (hid_le (e3.trans e4)) g2, r3.le (hid_le e4) g3, g4, hp, fun u H' e hu => q u H' (((((e0.trans e1).trans e2).trans e3).trans e4).trans e) hu⟩
abbrev spP6 {A0 A1 A2 A3 A4 A5 C : Type} (r0 : Rp A0) (r1 : Rp A1) (r2 : Rp A2) (r3 : Rp A3) (r4 : Rp A4) (r5 : Rp A5) (rc : Rp C) (pre : A0 → A1 → A2 → A3 → A4 → A5 → Prop) (f : A0 → A1 → A2 → A3 → A4 → A5 → C) : Sp := fun vs H Q E => ∃ O : List Addr, ∃ v0 v1 v2 v3 v4 v5 x0 x1 x2 x3 x4 x5, vs = [v0, v1, v2, v3, v4, v5] ∧ Hd O H ∧ r0.at_ (hid H O) v0 x0 ∧ r1.at_ (hid H O) v1 x1 ∧ r2.at_ (hid H O) v2 x2 ∧ r3.at_ (hid H O) v3 x3 ∧ r4.at_ (hid H O) v4 x4 ∧ r5.at_ (hid H O) v5 x5 ∧ pre x0 x1 x2 x3 x4 x5 ∧ ∀ u H', Le H H' → rc.at_ (hid H' O) u (f x0 x1 x2 x3 x4 x5) → Q u H'
theorem p_call6 {Γ : Gm} {A0 A1 A2 A3 A4 A5 C : Type} {r0 : Rp A0} {r1 : Rp A1} {r2 : Rp A2} {r3 : Rp A3} {r4 : Rp A4} {r5 : Rp A5} {rc : Rp C} {pre : A0 → A1 → A2 → A3 → A4 → A5 → Prop} {f : A0 → A1 → A2 → A3 → A4 → A5 → C} {t0 : TE} {t1 : TE} {t2 : TE} {t3 : TE} {t4 : TE} {t5 : TE} {x0 : A0} {x1 : A1} {x2 : A2} {x3 : A3} {x4 : A4} {x5 : A5} (h0 : Pg t0 Γ r0 x0) (h1 : Pg t1 Γ r1 x1) (h2 : Pg t2 Γ r2 x2) (h3 : Pg t3 Γ r3 x3) (h4 : Pg t4 Γ r4 x4) (h5 : Pg t5 Γ r5 x5) (hp : pre x0 x1 x2 x3 x4 x5) : Pg (tCallS (spP6 r0 r1 r2 r3 r4 r5 rc pre f) EN (tCons t0 (tCons t1 (tCons t2 (tCons t3 (tCons t4 (tCons t5 tNil))))))) Γ rc (f x0 x1 x2 x3 x4 x5) := fun A B H O σ s Q q =>
  h0 A B H O σ s _ fun v0 H0 e0 g0 =>   h1 A B H0 O σ (s.go e0) _ fun v1 H1 e1 g1 =>   h2 A B H1 O σ ((s.go e0).go e1) _ fun v2 H2 e2 g2 =>   h3 A B H2 O σ (((s.go e0).go e1).go e2) _ fun v3 H3 e3 g3 =>   h4 A B H3 O σ ((((s.go e0).go e1).go e2).go e3) _ fun v4 H4 e4 g4 =>   h5 A B H4 O σ (((((s.go e0).go e1).go e2).go e3).go e4) _ fun v5 H5 e5 g5 => 
  ⟨O, v0, v1, v2, v3, v4, v5, x0, x1, x2, x3, x4, x5, rfl, ((((((s.go e0).go e1).go e2).go e3).go e4).go e5).fr, r0.le (hid_le ((((e1.trans e2).trans e3).trans e4).trans e5)) g0, r1.le (hid_le (((e2.trans e3).trans e4).trans e5)) g1, r2.le (hid_le ((e3.trans e4).trans e5)) g2, r3.le (hid_le (e4.trans e5)) g3, r4.le (hid_le e5) g4, g5, hp, fun u H' e hu => q u H' ((((((e0.trans e1).trans e2).trans e3).trans e4).trans e5).trans e) hu⟩
theorem p_meth6 {Γ : Gm} {A0 A1 A2 A3 A4 A5 C : Type} {r0 : Rp A0} {r1 : Rp A1} {r2 : Rp A2} {r3 : Rp A3} {r4 : Rp A4} {r5 : Rp A5} {rc : Rp C} {pre : A0 → A1 → A2 → A3 → A4 → A5 → Prop} {f : A0 → A1 → A2 → A3 → A4 → A5 → C} {t0 : TE} {t1 : TE} {t2 : TE} {t3 : TE} {t4 : TE} {t5 : TE} {x0 : A0} {x1 : A1} {x2 : A2} {x3 : A3} {x4 : A4} {x5 : A5} {Cl : Addr} {m : Str} {ns : List Str} (hI : InsRp r0 Cl ns) (h0 : Pg t0 Γ r0 x0) (h1 : Pg t1 Γ r1 x1) (h2 : Pg t2 Γ r2 x2) (h3 : Pg t3 Γ r3 x3) (h4 : Pg t4 Γ r4 x4) (h5 : Pg t5 Γ r5 x5) (hp : pre x0 x1 x2 x3 x4 x5) (hm : ns.contains m = false := by decide +kernel) : Pg (MC.tMethG Cl m (spP6 r0 r1 r2 r3 r4 r5 rc pre f) EN t0 (tCons t1 (tCons t2 (tCons t3 (tCons t4 (tCons t5 tNil)))))) Γ rc (f x0 x1 x2 x3 x4 x5) := fun A B H O σ s Q q =>
  h0 A B H O σ s _ fun v0 H0 e0 g0 => by
  obtain ⟨oa, dx, fs, ev, ha, hl⟩ := hI _ _ _ g0
  subst ev
  refine ⟨oa, dx, fs, rfl, unhid.keep ha, lk_none hl hm, ?_⟩
  exact   h1 A B H0 O σ (s.go e0) _ fun v1 H1 e1 g1 =>   h2 A B H1 O σ ((s.go e0).go e1) _ fun v2 H2 e2 g2 =>   h3 A B H2 O σ (((s.go e0).go e1).go e2) _ fun v3 H3 e3 g3 =>   h4 A B H3 O σ ((((s.go e0).go e1).go e2).go e3) _ fun v4 H4 e4 g4 =>   h5 A B H4 O σ (((((s.go e0).go e1).go e2).go e3).go e4) _ fun v5 H5 e5 g5 => 
  ⟨O, _, v1, v2, v3, v4, v5, x0, x1, x2, x3, x4, x5, rfl, ((((((s.go e0).go e1).go e2).go e3).go e4).go e5).fr, r0.le (hid_le ((((e1.trans e2).trans e3).trans e4).trans e5)) g0, r1.le (hid_le (((e2.trans e3).trans e4).trans e5)) g1, r2.le (hid_le ((e3.trans e4).trans e5)) g2, r3.le (hid_le (e4.trans e5)) g3, r4.le (hid_le e5) g4, g5, hp, fun u H' e hu => q u H' ((((((e0.trans e1).trans e2).trans e3).trans e4).trans e5).trans e) hu⟩
/-! special methods, properties, attributes -/
section
variable {α β γ : Type} {Γ : Gm} {ra : Rp α} {rb : Rp β} {rc : Rp γ} {x : α} {y : β} {te ta tb : TE} {K : PySem.W.Frag} {C : Addr} {ns : List Str}
theorem p_lenOb {pre : α → Prop} {f : α → Int} (hI : InsRp ra C ns) (ha : Pg ta Γ ra x) (hp : pre x) (hf : 0 ≤ f x ∧ f x < 2 ^ 63) : Pg (tCB (rLenO C (spP1 ra rInt pre f)) (tCons ta tNil)) Γ rInt (f x) := fun A B H O σ s Q q => ha A B H O σ s _ fun v H1 e1 h1 => by
  obtain ⟨oa, dx, fs, rfl, hd, _⟩ := hI _ _ _ h1
  exact x_lenO (unhid.keep hd) ⟨O, _, x, rfl, (s.go e1).fr, h1, hp, fun u H2 e2 hu => ⟨f x, hu, hf, q _ _ (e1.trans e2) rfl⟩⟩
theorem p_strOb {pre : α → Prop} {f : α → Str} (hI : InsRp ra C ns) (ha : Pg ta Γ ra x) (hp : pre x) : Pg (tCB (rStrO C (spP1 ra rStr pre f)) (tCons ta tNil)) Γ rStr (f x) := fun A B H O σ s Q q => ha A B H O σ s _ fun v H1 e1 h1 => by
  obtain ⟨oa, dx, fs, rfl, hd, _⟩ := hI _ _ _ h1
  exact x_strO (unhid.keep hd) ⟨O, _, x, rfl, (s.go e1).fr, h1, hp, fun u H2 e2 hu => ⟨f x, hu, q _ _ (e1.trans e2) rfl⟩⟩
theorem p_propOb {pre : α → Prop} {f : α → γ} (hI : InsRp ra C ns) (ha : Pg ta Γ ra x) (hp : pre x) : Pg (tPropG C (spP1 ra rc pre f) ta) Γ rc (f x) := fun A B H O σ s Q q => ha A B H O σ s _ fun v H1 e1 h1 => by
  obtain ⟨oa, dx, fs, rfl, hd, _⟩ := hI _ _ _ h1
  exact ⟨oa, dx, fs, rfl, unhid.keep hd, O, _, x, rfl, (s.go e1).fr, h1, hp, fun u H2 e2 hu => q _ _ (e1.trans e2) hu⟩
theorem p_eqOb {pre : α → α → Prop} {f : α → α → Bool} {x2 : α} (hI : InsRp ra C ns) (iC : InsOk K C) (nf : PySem.W.notFirst K C (.ref C) = true) (ha : Pg ta Γ ra x) (hb : Pg tb Γ ra x2) (hp : pre x x2) : Pg (tOp (rEqO K C (spP2 ra ra rBool pre f)) ta tb) Γ rBool (f x x2) := p_op ha hb fun A B H O σ s v1 v2 Q h1 h2 q => by
  obtain ⟨oa, dx, fs, rfl, hd, _⟩ := hI _ _ _ h1
  obtain ⟨ob, dy, gs, rfl, hd2, _⟩ := hI _ _ _ h2
  exact x_eqO (unhid.keep hd) (iC (unhid.keep hd2)) nf ⟨O, _, _, x, x2, rfl, s.fr, h1, h2, hp, fun u H2 e2 hu => ⟨f x x2, hu, q _ _ e2 rfl⟩⟩
/-- an attribute -/
def FldRp {α γ : Type} (K : PySem.W.Frag) (ra : Rp α) (C : Addr) (f : Str) (rc : Rp γ) (g : α → γ) : Prop := FldOk K C f ∧ ∀ H v x, ra.at_ H v x → ∃ a dx fs u, v = .ref a ∧ H a = some (.ins C dx fs) ∧ fs.lookup f = some u ∧ rc.at_ H u (g x)
theorem p_fld {f : Str} {g : α → γ} (hF : FldRp K ra C f rc g) (ha : Pg ta Γ ra x) : Pg (tFld K ta f) Γ rc (g x) := fun A B H O σ s Q q => ha A B H O σ s _ fun v H1 e1 h1 => by
  obtain ⟨oa, dx, fs, u, rfl, hd, hl, hu⟩ := hF.2 _ _ _ h1
  exact x_kFld (unhid.keep hd) hF.1 hl (q _ _ e1 hu)
end
end MC
set_option maxHeartbeats 4000000
/-! MB24: typed readings: statements, loops, comprehensions -/
namespace MC
open PySem PySem.Spec PyProof.Rows L2
/-! ### slots set -/
theorem owns_pure {α : Type} {r : Rp α} {x : α} : ∀ (Γ : Gm) (i : Nat), (owns (Γ.set i (some (.pure r x)))).Sublist (owns Γ)
  | [], _ => by simp [owns]
  | some (.own p r' xs) :: g, 0 => by simp [owns]
  | some (.pure r' y) :: g, 0 => by simp [owns]
  | none :: g, 0 => by simp [owns]
  | some (.own p r' xs) :: g, i + 1 => by simpa [owns] using owns_pure g i
  | some (.pure r' y) :: g, i + 1 => by simpa [owns] using owns_pure g i
  | none :: g, i + 1 => by simpa [owns] using owns_pure g i
theorem owns_own {α : Type} {r : Rp α} {p : Addr} {xs : List α} : ∀ (Γ : Gm) (i : Nat), p ∉ owns Γ → (owns Γ).Nodup → (∀ q ∈ owns (Γ.set i (some (.own p r xs))), q = p ∨ q ∈ owns Γ) ∧ (owns (Γ.set i (some (.own p r xs)))).Nodup
  | [], _, _, _ => by simp [owns]
  | some (.own p' r' ys) :: g, 0, h, nd => by
    simp only [owns, List.mem_cons, not_or, List.nodup_cons, List.set_cons_zero] at *
    exact ⟨fun q hq => hq.elim .inl fun z => .inr (.inr z), h.2, nd.2⟩
  | some (.pure r' y) :: g, 0, h, nd => by
    simp only [owns, List.mem_cons, List.nodup_cons, List.set_cons_zero] at *
    exact ⟨fun q hq => hq, h, nd⟩
  | none :: g, 0, h, nd => by
    simp only [owns, List.mem_cons, List.nodup_cons, List.set_cons_zero] at *
    exact ⟨fun q hq => hq, h, nd⟩
  | some (.own p' r' ys) :: g, i + 1, h, nd => by
    simp only [owns, List.mem_cons, not_or, List.nodup_cons, List.set_cons_succ] at *
    obtain ⟨h1, h2⟩ := owns_own (r := r) (xs := xs) g i h.2 nd.2
    refine ⟨fun q hq => ?_, fun z => ?_, h2⟩
    · rcases hq with rfl | hq
      · exact .inr (.inl rfl)
      · exact (h1 q hq).elim .inl fun z => .inr (.inr z)
    · rcases h1 p' z with e | e
      · exact h.1 e.symm
      · exact nd.1 e
  | some (.pure r' y) :: g, i + 1, h, nd => by
    simp only [owns, List.set_cons_succ] at *
    exact owns_own (r := r) (xs := xs) g i h nd
  | none :: g, i + 1, h, nd => by
    simp only [owns, List.set_cons_succ] at *
    exact owns_own (r := r) (xs := xs) g i h nd
theorem own_mem {α : Type} {r : Rp α} {p : Addr} {xs : List α} : ∀ {Γ : Gm} {i : Nat}, Γ[i]? = some (some (.own p r xs)) → p ∈ owns Γ
  | [], _, h => by simp at h
  | s :: g, 0, h => by
    have : s = some (.own p r xs) := by simpa using h
    subst this
    simp [owns]
  | some (.own p' r' ys) :: g, i + 1, h => by
    have := own_mem (Γ := g) (i := i) (by simpa using h)
    simp [owns, this]
  | some (.pure r' y) :: g, i + 1, h => by
    have := own_mem (Γ := g) (i := i) (by simpa using h)
    simpa [owns] using this
  | none :: g, i + 1, h => by
    have := own_mem (Γ := g) (i := i) (by simpa using h)
    simpa [owns] using this
/-- an own list's slot told anew -/
theorem owns_same {α β : Type} {r : Rp α} {r2 : Rp β} {p : Addr} {xs : List α} {ys : List β} : ∀ {Γ : Gm} {i : Nat}, Γ[i]? = some (some (.own p r xs)) → owns (Γ.set i (some (.own p r2 ys))) = owns Γ
  | [], _, h => by simp at h
  | s :: g, 0, h => by
    have : s = some (.own p r xs) := by simpa using h
    subst this
    simp [owns]
  | some (.own p' r' zs) :: g, i + 1, h => by
    have := owns_same (r2 := r2) (ys := ys) (Γ := g) (i := i) (by simpa using h)
    simp [owns, this]
  | some (.pure r' y) :: g, i + 1, h => by
    have := owns_same (r2 := r2) (ys := ys) (Γ := g) (i := i) (by simpa using h)
    simpa [owns] using this
  | none :: g, i + 1, h => by
    have := owns_same (r2 := r2) (ys := ys) (Γ := g) (i := i) (by simpa using h)
    simpa [owns] using this
/-- no longer own -/
theorem owns_free {α β : Type} {r : Rp α} {r2 : Rp β} {p : Addr} {xs : List α} {y : β} : ∀ {Γ : Gm} {i : Nat}, Γ[i]? = some (some (.own p r xs)) → (owns Γ).Nodup → p ∉ owns (Γ.set i (some (.pure r2 y)))
  | [], _, h, _ => by simp at h
  | s :: g, 0, h, nd => by
    have : s = some (.own p r xs) := by simpa using h
    subst this
    simp only [owns, List.nodup_cons, List.set_cons_zero] at *
    exact nd.1
  | some (.own p' r' zs) :: g, i + 1, h, nd => by
    simp only [owns, List.nodup_cons, List.set_cons_succ, List.mem_cons, not_or] at *
    have hg : g[i]? = some (some (.own p r xs)) := by simpa using h
    exact ⟨fun e => nd.1 (e ▸ own_mem hg), owns_free hg nd.2⟩
  | some (.pure r' y') :: g, i + 1, h, nd => by
    simp only [owns, List.set_cons_succ] at *
    exact owns_free (Γ := g) (i := i) (by simpa using h) nd
  | none :: g, i + 1, h, nd => by
    simp only [owns, List.set_cons_succ] at *
    exact owns_free (Γ := g) (i := i) (by simpa using h) nd
theorem EnvAt.set {H : Hp} {O : List Addr} {v : Option V} {s : Option Sl} (hs : SlAt H O v s) : ∀ {σ : L2.St} {Γ : Gm} (i : Nat), EnvAt H O σ Γ → EnvAt H O (σ.set i v) (Γ.set i s)
  | [], [], _, _ => trivial
  | _ :: _, _ :: _, 0, h => ⟨hs, h.2⟩
  | _ :: _, _ :: _, i + 1, h => ⟨h.1, EnvAt.set hs i h.2⟩
  | [], _ :: _, _, h => h.elim
  | _ :: _, [], _, h => h.elim
/-- to another heap -/
theorem EnvAt.mv {H H' : Hp} {O O' : List Addr} (e : Le (hid H O) (hid H' O')) : ∀ {σ : L2.St} {Γ : Gm}, (∀ p ∈ owns Γ, ∀ o, H p = some o → H' p = some o) → EnvAt H O σ Γ → EnvAt H' O' σ Γ
  | [], [], _, _ => trivial
  | _ :: _, some (.own p r xs) :: _, k, h => ⟨SlAt.le e (fun p' hp o ho => k p' (by simp only [slOwn, List.mem_singleton] at hp; simp [owns, hp]) o ho) h.1, EnvAt.mv e (fun p' hp => k p' (by simp [owns, hp])) h.2⟩
  | _ :: _, some (.pure r x) :: _, k, h => ⟨SlAt.le e (fun p' hp => by simp [slOwn] at hp) h.1, EnvAt.mv e (fun p' hp => k p' (by simpa [owns] using hp)) h.2⟩
  | _ :: _, none :: _, k, h => ⟨SlAt.le e (fun p' hp => by simp [slOwn] at hp) h.1, EnvAt.mv e (fun p' hp => k p' (by simpa [owns] using hp)) h.2⟩
  | [], _ :: _, _, h => h.elim
  | _ :: _, [], _, h => h.elim
theorem EnvAt.len {H : Hp} {O : List Addr} : ∀ {σ : L2.St} {Γ : Gm}, EnvAt H O σ Γ → σ.length = Γ.length
  | [], [], _ => rfl
  | _ :: _, _ :: _, h => by simp [EnvAt.len h.2]
  | [], _ :: _, h => h.elim
  | _ :: _, [], h => h.elim
theorem EnvAt.app {α : Type} {H : Hp} {O : List Addr} {r : Rp α} {p : Addr} {vs' : List V} {xs xs' : List α} (hp : p ∈ O) (ha : All2 r (hid H O) vs' xs') : ∀ {σ : L2.St} {Γ : Gm} {i : Nat}, EnvAt H O σ Γ → Γ[i]? = some (some (.own p r xs)) → (owns Γ).Nodup → EnvAt (upd H p (.lst vs')) O σ (Γ.set i (some (.own p r xs')))
  | [], [], _, _, h, _ => by simp at h
  | v :: σ, s :: g, 0, he, h, nd => by
    have : s = some (.own p r xs) := by simpa using h
    subst this
    simp only [owns, List.nodup_cons] at nd
    have e : hid (upd H p (.lst vs')) O = hid H O := hid_upd hp
    refine ⟨?_, EnvAt.mv (by rw [e]; exact Le.refl _) (fun q hq o ho => by rw [upd_ne (fun z => nd.1 (by rw [← z]; exact hq))]; exact ho) he.2⟩
    match v, he.1 with
    | some v, h1 => exact ⟨h1.1, vs', upd_same, by rw [e]; exact ha⟩
    | none, h1 => exact False.elim h1
  | v :: σ, some (.own p' r' zs) :: g, i + 1, he, h, nd => by
    simp only [owns, List.nodup_cons] at nd
    have hg : g[i]? = some (some (.own p r xs)) := by simpa using h
    have e : hid (upd H p (.lst vs')) O = hid H O := hid_upd hp
    refine ⟨SlAt.le (by rw [e]; exact Le.refl _) (fun q hq o ho => ?_) he.1, EnvAt.app hp ha he.2 hg nd.2⟩
    simp only [slOwn, List.mem_singleton] at hq
    rw [upd_ne (fun z => nd.1 (by rw [← hq, z]; exact own_mem hg))]; exact ho
  | v :: σ, some (.pure r' y) :: g, i + 1, he, h, nd => by
    have hg : g[i]? = some (some (.own p r xs)) := by simpa using h
    have e : hid (upd H p (.lst vs')) O = hid H O := hid_upd hp
    exact ⟨SlAt.le (by rw [e]; exact Le.refl _) (fun q hq => by simp [slOwn] at hq) he.1, EnvAt.app hp ha he.2 hg (by simpa [owns] using nd)⟩
  | v :: σ, none :: g, i + 1, he, h, nd => by
    have hg : g[i]? = some (some (.own p r xs)) := by simpa using h
    have e : hid (upd H p (.lst vs')) O = hid H O := hid_upd hp
    exact ⟨SlAt.le (by rw [e]; exact Le.refl _) (fun q hq => by simp [slOwn] at hq) he.1, EnvAt.app hp ha he.2 hg (by simpa [owns] using nd)⟩
  | [], _ :: _, _, h, _, _ => h.elim
  | _ :: _, [], _, h, _, _ => h.elim
section
variable {A : Hp × List Addr} {B H : Hp} {O : List Addr} {σ : L2.St} {Γ : Gm} {α β γ : Type} {r : Rp α} {rb : Rp β} {x : α} {p : Addr} {xs : List α} {D : Ends} {te tl : TE} {tt : TT} {u1 u2 tb : TS} {b : Bool} {K : PySem.W.Frag} {i j : Nat}
theorem Sta.set {v : V} (s : Sta A B H O σ Γ) (h : r.at_ (hid H O) v x) : Sta A B H O (σ.set i (some v)) (Γ.set i (some (.pure r x))) :=
  ⟨s.al, s.a0, s.su, fun p hp => s.an p ((owns_pure Γ i).subset hp), s.le, EnvAt.set (s := some (.pure r x)) (v := some v) h i s.env, s.fr, fun p hp => s.sub p ((owns_pure Γ i).subset hp), s.nd.sublist (owns_pure Γ i)⟩
/-- a new list, to be filled -/
theorem Sta.own (s : Sta A B H O σ Γ) (n : H p = none) : Sta A B (upd H p (.lst [])) (p :: O) (σ.set i (some (.ref p))) (Γ.set i (some (.own p r []))) := by
  have hpO : p ∉ O := s.fresh n
  have hpG : p ∉ owns Γ := fun m => hpO (s.sub p m)
  obtain ⟨o1, o2⟩ := owns_own (r := r) (xs := []) Γ i hpG s.nd
  have e : Le (hid H O) (hid (upd H p (.lst [])) (p :: O)) := ⟨fun a o h => by
    unfold hid at *
    split at h
    · cases h
    · rename_i na
      have hap : a ≠ p := fun z => by rw [z, n] at h; cases h
      rw [if_neg (by simp [hap, na]), upd_ne hap]; exact h, fun a h => by
    unfold hid at *
    split
    · rfl
    · rename_i na
      by_cases hap : a = p
      · rw [hap]; exact n
      · rw [if_neg (by simp [hap, na]), upd_ne hap] at h; exact h⟩
  refine ⟨s.al.trans (Le.new n), s.a0, fun q hq => List.mem_cons_of_mem _ (s.su q hq), fun q hq => ?_, s.le.trans e, EnvAt.set (s := some (.own p r [])) (v := some (V.ref p)) (show _ ∧ _ from ⟨rfl, [], upd_same, trivial⟩) i (EnvAt.mv e (fun q hq o ho => by rw [upd_ne (fun z => hpG (by rw [← z]; exact hq))]; exact ho) s.env), fun q hq => ?_, fun q hq => ?_, o2⟩
  · rcases o1 q hq with rfl | hq
    · exact s.al.fr _ n
    · exact s.an q hq
  · rcases List.mem_cons.mp hq with rfl | hq
    · exact ⟨_, upd_same⟩
    · obtain ⟨o, ho⟩ := s.fr q hq
      exact ⟨o, by rw [upd_ne (fun z => hpO (by rw [← z]; exact hq))]; exact ho⟩
  · rcases o1 q hq with rfl | hq
    · exact List.mem_cons_self
    · exact List.mem_cons_of_mem _ (s.sub q hq)
/-- filled -/
theorem Sta.app {vs' : List V} {xs' : List α} (s : Sta A B H O σ Γ) (h : Γ[i]? = some (some (.own p r xs))) (ha : All2 r (hid H O) vs' xs') : Sta A B (upd H p (.lst vs')) O σ (Γ.set i (some (.own p r xs'))) := by
  have hpG := own_mem h
  have hpO := s.sub p hpG
  have e : hid (upd H p (.lst vs')) O = hid H O := hid_upd hpO
  have eo := owns_same (r2 := r) (ys := xs') h
  refine ⟨le_own s.al (s.an p hpG), s.a0, s.su, fun q hq => s.an q (eo ▸ hq), by rw [e]; exact s.le, EnvAt.app hpO ha s.env h s.nd, fun q hq => ?_, fun q hq => s.sub q (eo ▸ hq), eo ▸ s.nd⟩
  by_cases z : q = p
  · exact ⟨_, by rw [z]; exact upd_same⟩
  · rw [upd_ne z]; exact s.fr q hq
/-- filled no more -/
theorem Sta.done (s : Sta A B H O σ Γ) (i : Nat) (h : Γ[i]? = some (some (.own p r xs))) : ∃ O', Sta A B H O' σ (Γ.set i (some (.pure (rList r) xs))) := by
  have hpG := own_mem h
  have hf := owns_free (r2 := rList r) (y := xs) h s.nd
  obtain ⟨v, hv, ev, vs, hp, ha⟩ := s.env.get h
  have e : Le (hid H O) (hid H (O.filter (· ≠ p))) := hid_sub fun a ha => (List.mem_filter.mp ha).1
  have hs : σ.set i (some v) = σ := by
    refine List.ext_getElem? fun k => ?_
    by_cases z : i = k
    · subst z; rw [List.getElem?_set_self (List.getElem?_eq_some_iff.mp hv).1, hv]
    · rw [List.getElem?_set_ne z]
  refine ⟨O.filter (· ≠ p), s.al, s.a0, fun q hq => ?_, fun q hq => s.an q ((owns_pure Γ i).subset hq), s.le.trans e, ?_, fun q hq => s.fr q (List.mem_filter.mp hq).1, fun q hq => ?_, s.nd.sublist (owns_pure Γ i)⟩
  · refine List.mem_filter.mpr ⟨s.su q hq, ?_⟩
    obtain ⟨o, ho⟩ := s.a0 q hq
    have := s.an p hpG
    simp only [ne_eq, decide_not, Bool.not_eq_true', decide_eq_false_iff_not]
    intro z
    rw [z, this] at ho; cases ho
  · rw [← hs]
    refine EnvAt.set ?_ i (EnvAt.mv e (fun _ _ _ ho => ho) s.env)
    exact ⟨p, vs, ev, hid_at hp (by simp), ha.le e⟩
  · refine List.mem_filter.mpr ⟨s.sub q ((owns_pure Γ i).subset hq), ?_⟩
    simp only [ne_eq, decide_not, Bool.not_eq_true', decide_eq_false_iff_not]
    intro z
    rw [z] at hq; exact hf hq
/-- what is told stands still when it is told -/
theorem Sta.told {v : V} (s : Sta A B H O σ Γ) (h : r.at_ (hid H O) v x) : r.at_ (hid H A.2) v x := r.le (hid_sub s.su) h
/-! ### statements -/
theorem g_set (h : Pg te Γ r x) (s : Sta A B H O σ Γ) (q : ∀ σ' H', Sta A B H' O σ' (Γ.set i (some (.pure r x))) → D.nx σ' H') : tAsg te (gName i) D σ H := h A B H O σ s _ fun v H1 e1 h1 => q _ _ ((s.go e1).set h1)
theorem g_own (r : Rp α) (s : Sta A B H O σ Γ) (q : ∀ p O' σ' H', Sta A B H' O' σ' (Γ.set i (some (.own p r []))) → D.nx σ' H') : tAsg (tLst tNil) (gName i) D σ H := ⟨by decide, fun p n => q p _ _ _ (s.own n)⟩
theorem g_app (hk : Γ[i]? = some (some (.own p r xs))) (h : Pg te Γ r x) (hz : xs.length < 1000000) (s : Sta A B H O σ Γ) (q : ∀ σ' H', Sta A B H' O σ' (Γ.set i (some (.own p r (xs ++ [x])))) → D.nx σ' H') : tDrop (tBM K "list" rAppend (tVar i) (tCons te tNil)) D σ H := by
  obtain ⟨v, hv, ev, vs, hp, ha⟩ := s.env.get hk
  subst ev
  refine ⟨_, hv, x_tyL hp (h A B H O σ s _ fun u H1 e1 h1 => ?_)⟩
  refine x_app (v := u) (Q := fun _ H2 => D.nx σ H2) (e1.keep hp) (by rw [ha.len]; exact hz) (q _ _ ((s.go e1).app hk (All2.app h1 (ha.le (hid_le e1)))))
theorem g_drop (h : Pg te Γ r x) (s : Sta A B H O σ Γ) (q : ∀ H', Sta A B H' O σ Γ → D.nx σ H') : tDrop te D σ H := h A B H O σ s _ fun v H1 e1 h1 => q _ (s.go e1)
theorem g_ret (h : Pg te Γ r x) (s : Sta A B H O σ Γ) (q : ∀ v H', Le A.1 H' → r.at_ (hid H' A.2) v x → D.rt v H') : tRet te D σ H := h A B H O σ s _ fun v H1 e1 h1 => q v H1 (s.go e1).al ((s.go e1).told h1)
theorem g_retO (hk : Γ[i]? = some (some (.own p r xs))) (s : Sta A B H O σ Γ) (q : ∀ v H', Le A.1 H' → (rList r).at_ (hid H' A.2) v xs → D.rt v H') : tRet (tVar i) D σ H := by
  obtain ⟨O', s'⟩ := s.done i hk
  refine g_ret (r := rList r) (x := xs) (p_var (k := i) ?_) s' q
  rw [List.getElem?_set_self (List.getElem?_eq_some_iff.mp hk).1]
theorem g_if (h : Tg tt Γ b) (s : Sta A B H O σ Γ) (h1 : b = true → ∀ H', Sta A B H' O σ Γ → u1 D σ H') (h2 : b = false → ∀ H', Sta A B H' O σ Γ → u2 D σ H') : tIfS tt u1 u2 D σ H := h A B H O σ s _ fun H1 e1 => by
  cases b with
  | true => rw [if_pos rfl]; exact h1 rfl H1 (s.go e1)
  | false => rw [if_neg Bool.false_ne_true]; exact h2 rfl H1 (s.go e1)
/-! ### loops: I k Γ what is known ahead of turn k -/
def NX (A : Hp × List Addr) (B : Hp) (I : Gm → Prop) : L2.St → Hp → Prop := fun σ H => ∃ Γ O, I Γ ∧ Sta A B H O σ Γ
theorem nx_mk {I : Gm → Prop} (hi : I Γ) (s : Sta A B H O σ Γ) : NX A B I σ H := ⟨Γ, O, hi, s⟩
theorem Sta.rebase {B' : Hp} (s : Sta A B' H O σ Γ) (e : Le B B') : Sta A B H O σ Γ := ⟨s.al, s.a0, s.su, s.an, e.trans s.le, s.env, s.fr, s.sub, s.nd⟩
theorem Sta.base (s : Sta A B H O σ Γ) : Sta A (hid H O) H O σ Γ := ⟨s.al, s.a0, s.su, s.an, Le.refl _, s.env, s.fr, s.sub, s.nd⟩
theorem g_forL (I : Nat → Gm → Prop) (h : Pg tl Γ (rList r) xs) (s : Sta A B H O σ Γ) (h0 : I 0 Γ)
    (hs : ∀ (B' : Hp) k x Γk O' σ' H', xs[k]? = some x → I k Γk → Sta A B' H' O' σ' (Γk.set j (some (.pure r x))) → tb { D with nx := NX A B' (I (k + 1)), ct := NX A B' (I (k + 1)), bk := D.nx } σ' H')
    (hd : ∀ Γn O' σ' H', I xs.length Γn → Sta A B H' O' σ' Γn → D.nx σ' H') : tFor (iList K tl) (gName j) tb D σ H :=
  h A B H O σ s _ fun v H1 e1 ⟨p, vs, ev, hp, ha⟩ => by
    subst ev
    have s1 := s.go e1
    have stay : ∀ {Γ' O' σ' H'}, Sta A (hid H1 O) H' O' σ' Γ' → SqL K H' p vs := fun s' => sql (s'.out.keep hp)
    refine ⟨p, rfl, ⟨vs, sql (unhid.keep hp)⟩, for_list (g := gName j) (fun k => NX A (hid H1 O) (I k)) ⟨Γ, O, h0, s1.base⟩ (fun k σ' H' _ ⟨Γ', O', _, s'⟩ => stay s') (fun k w σ' H' hw hN => ?_) fun σ' H' hN => ?_⟩
    · obtain ⟨Γ', O', hi, s'⟩ := hN
      obtain ⟨x, hx, hr⟩ := ha.of hw
      exact hs _ k x Γ' O' _ _ hx hi (s'.set (r.le s'.le hr))
    · obtain ⟨Γ', O', hi, s'⟩ := hN
      rw [ha.len] at hi
      exact hd Γ' O' σ' H' hi (s'.rebase s1.le)
theorem g_forT (I : Nat → Gm → Prop) (h : Pg tl Γ (rTupL r) xs) (s : Sta A B H O σ Γ) (h0 : I 0 Γ)
    (hs : ∀ (B' : Hp) k x Γk O' σ' H', xs[k]? = some x → I k Γk → Sta A B' H' O' σ' (Γk.set j (some (.pure r x))) → tb { D with nx := NX A B' (I (k + 1)), ct := NX A B' (I (k + 1)), bk := D.nx } σ' H')
    (hd : ∀ Γn O' σ' H', I xs.length Γn → Sta A B H' O' σ' Γn → D.nx σ' H') : tFor (iTup K tl) (gName j) tb D σ H :=
  h A B H O σ s _ fun v H1 e1 ⟨p, vs, ev, hp, ha⟩ => by
    subst ev
    have s1 := s.go e1
    refine x_forT (unhid.keep hp) (fun k => NX A (hid H1 O) (I k)) ⟨Γ, O, h0, s1.base⟩ (fun k σ' H' _ ⟨Γ', O', _, s'⟩ => s'.out.keep hp) (fun k w σ' H' hw hN => ?_) fun σ' H' hN => ?_
    · obtain ⟨Γ', O', hi, s'⟩ := hN
      obtain ⟨x, hx, hr⟩ := ha.of hw
      exact hs _ k x Γ' O' _ _ hx hi (s'.set (r.le s'.le hr))
    · obtain ⟨Γ', O', hi, s'⟩ := hN
      rw [ha.len] at hi
      exact hd Γ' O' σ' H' hi (s'.rebase s1.le)
theorem g_for1 {n : Int} (I : Nat → Gm → Prop) (h : Pg te Γ rInt n) (hn : -(2 ^ 62) ≤ n ∧ n < 2 ^ 62) (s : Sta A B H O σ Γ) (h0 : I 0 Γ)
    (hs : ∀ (k : Nat) Γk O' σ' H', (k : Int) < n → I k Γk → Sta A B H' O' σ' (Γk.set j (some (.pure rInt (k : Int)))) → tb { D with nx := NX A B (I (k + 1)), ct := NX A B (I (k + 1)), bk := D.nx } σ' H')
    (hd : ∀ Γn O' σ' H', I n.toNat Γn → Sta A B H' O' σ' Γn → D.nx σ' H') : tFor (iRng1 (tCons te tNil)) (gName j) tb D σ H :=
  h A B H O σ s _ fun v H1 e1 hv => by
    cases hv
    refine x_for1 hn (fun k => NX A B (I k)) ⟨Γ, O, h0, s.go e1⟩ (fun k σ' H' hk hN => ?_) fun σ' H' hN => ?_
    · obtain ⟨Γ', O', hi, s'⟩ := hN
      exact hs k Γ' O' _ _ hk hi (s'.set rfl)
    · obtain ⟨Γ', O', hi, s'⟩ := hN
      exact hd Γ' O' σ' H' hi s'
theorem g_for2 {lo n : Int} {t1 t2 : TE} (I : Nat → Gm → Prop) (h1 : Pg t1 Γ rInt lo) (h2 : Pg t2 Γ rInt n) (hn : -(2 ^ 62) ≤ lo ∧ lo < 2 ^ 62 ∧ -(2 ^ 62) ≤ n ∧ n < 2 ^ 62) (s : Sta A B H O σ Γ) (h0 : I 0 Γ)
    (hs : ∀ (k : Nat) Γk O' σ' H', lo + (k : Int) < n → I k Γk → Sta A B H' O' σ' (Γk.set j (some (.pure rInt (lo + (k : Int))))) → tb { D with nx := NX A B (I (k + 1)), ct := NX A B (I (k + 1)), bk := D.nx } σ' H')
    (hd : ∀ Γn O' σ' H', I (n - lo).toNat Γn → Sta A B H' O' σ' Γn → D.nx σ' H') : tFor (iRng2 (tCons t1 (tCons t2 tNil))) (gName j) tb D σ H :=
  h1 A B H O σ s _ fun v H1 e1 hv => h2 A B H1 O σ (s.go e1) _ fun v2 H2 e2 hv2 => by
    cases hv; cases hv2
    refine x_for2 hn (fun k => NX A B (I k)) ⟨Γ, O, h0, (s.go e1).go e2⟩ (fun k σ' H' hk hN => ?_) fun σ' H' hN => ?_
    · obtain ⟨Γ', O', hi, s'⟩ := hN
      exact hs k Γ' O' _ _ hk hi (s'.set rfl)
    · obtain ⟨Γ', O', hi, s'⟩ := hN
      exact hd Γ' O' σ' H' hi s'
theorem g_forEn {i j : Nat} (I : Nat → Gm → Prop) (h : Pg tl Γ (rList r) xs) (s : Sta A B H O σ Γ) (h0 : I 0 Γ)
    (hs : ∀ (B' : Hp) (k : Nat) x Γk O' σ' H', xs[k]? = some x → I k Γk → Sta A B' H' O' σ' ((Γk.set i (some (.pure rInt (k : Int)))).set j (some (.pure r x))) → tb { D with nx := NX A B' (I (k + 1)), ct := NX A B' (I (k + 1)), bk := D.nx } σ' H')
    (hd : ∀ Γn O' σ' H', I xs.length Γn → Sta A B H' O' σ' Γn → D.nx σ' H') : tFor (iEnum K (tCons tl tNil)) (gTup K 2 (gCons (gName i) (gCons (gName j) gNil))) tb D σ H :=
  h A B H O σ s _ fun v H1 e1 ⟨p, vs, ev, hp, ha⟩ => by
    subst ev
    have s1 := s.go e1
    refine x_forEn (sql (unhid.keep hp)) (fun k => NX A (hid H1 O) (I k)) ⟨Γ, O, h0, s1.base⟩ (fun k σ' H' _ ⟨Γ', O', _, s'⟩ => sql (s'.out.keep hp)) (fun k w T σ' H2 H3 hw hN e3 hT => ?_) fun σ' H' hN => ?_
    · obtain ⟨Γ', O', hi, s'⟩ := hN
      obtain ⟨x, hx, hr⟩ := ha.of hw
      have s3 := s'.go e3
      refine x_g2 hT ?_
      exact hs _ k x Γ' O' _ _ hx hi ((s3.set (r := rInt) (x := (k : Int)) rfl).set (r.le s3.le hr))
    · obtain ⟨Γ', O', hi, s'⟩ := hN
      rw [ha.len] at hi
      exact hd Γ' O' σ' H' hi (s'.rebase s1.le)
end
end MC
set_option maxHeartbeats 4000000
/-! MB25: typed readings, one rule a construct: operands first, then the operator by how they stand -/
namespace MC
open PySem PySem.Spec PyProof.Rows L2
/-- an operator at values that stand so -/
def Op2 {α β γ : Type} (rd : R2) (ra : Rp α) (x : α) (rb : Rp β) (y : β) (rc : Rp γ) (u : γ) : Prop := ∀ A B H O σ Γ, Sta A B H O σ Γ → ∀ v1 v2 (Q : VK), ra.at_ (hid H O) v1 x → rb.at_ (hid H O) v2 y → (∀ w H', Le H H' → rc.at_ (hid H' O) w u → Q w H') → rd v1 v2 H Q
def Op1 {α γ : Type} (r : List V → Hp → VK → Prop) (ra : Rp α) (x : α) (rc : Rp γ) (u : γ) : Prop := ∀ A B H O σ Γ, Sta A B H O σ Γ → ∀ v1 (Q : VK), ra.at_ (hid H O) v1 x → (∀ w H', Le H H' → rc.at_ (hid H' O) w u → Q w H') → r [v1] H Q
def OpB {α β γ : Type} (r : List V → Hp → VK → Prop) (ra : Rp α) (x : α) (rb : Rp β) (y : β) (rc : Rp γ) (u : γ) : Prop := ∀ A B H O σ Γ, Sta A B H O σ Γ → ∀ v1 v2 (Q : VK), ra.at_ (hid H O) v1 x → rb.at_ (hid H O) v2 y → (∀ w H', Le H H' → rc.at_ (hid H' O) w u → Q w H') → r [v1, v2] H Q
def OpM {α β γ : Type} (K : PySem.W.Frag) (T : String) (r : V → List V → Hp → VK → Prop) (ra : Rp α) (x : α) (rb : Rp β) (y : β) (rc : Rp γ) (u : γ) : Prop := ∀ A B H O σ Γ, Sta A B H O σ Γ → ∀ v1 v2 (Q : VK), ra.at_ (hid H O) v1 x → rb.at_ (hid H O) v2 y → (∀ w H', Le H H' → rc.at_ (hid H' O) w u → Q w H') → tyV K T v1 H ∧ r v1 [v2] H Q
def OpC {α β : Type} (rd : R2) (ra : Rp α) (x : α) (rb : Rp β) (y : β) (b : Bool) : Prop := ∀ v1 v2 H (Q : VK), (∃ H', ra.at_ H' v1 x) → (∃ H', rb.at_ H' v2 y) → Q (.bl b) H → rd v1 v2 H Q
def OpS {α γ : Type} (r : V → Option Int → Option Int → Hp → VK → Prop) (ra : Rp α) (x : α) (lo hi : Option Int) (rc : Rp γ) (u : γ) : Prop := ∀ A B H O σ Γ, Sta A B H O σ Γ → ∀ v1 (Q : VK), ra.at_ (hid H O) v1 x → (∀ w H', Le H H' → rc.at_ (hid H' O) w u → Q w H') → r v1 lo hi H Q
section
variable {α β γ δ ε : Type} {Γ : Gm} {ra : Rp α} {rb : Rp β} {rc : Rp γ} {rd : Rp δ} {re : Rp ε} {x : α} {y : β} {u : γ} {te ta tb tc td : TE} {t : TA} {t1 t2 tt : TT} {b c : Bool} {i j : Int} {z w : Str} {K : PySem.W.Frag} {xs ys : List α}
theorem q_op {r : R2} (ha : Pg ta Γ ra x) (hb : Pg tb Γ rb y) (h : Op2 r ra x rb y rc u) : Pg (tOp r ta tb) Γ rc u := p_op ha hb fun A B H O σ s v1 v2 Q h1 h2 q => h A B H O σ Γ s v1 v2 Q h1 h2 q
theorem q_cb1 {r : List V → Hp → VK → Prop} (ha : Pg ta Γ ra x) (h : Op1 r ra x rc u) : Pg (tCB r (tCons ta tNil)) Γ rc u := fun A B H O σ s Q q => ha A B H O σ s _ fun v H1 e1 h1 => h A B H1 O σ Γ (s.go e1) v Q h1 fun w H2 e2 hw => q w H2 (e1.trans e2) hw
theorem q_cb2 {r : List V → Hp → VK → Prop} (ha : Pg ta Γ ra x) (hb : Pg tb Γ rb y) (h : OpB r ra x rb y rc u) : Pg (tCB r (tCons ta (tCons tb tNil))) Γ rc u := fun A B H O σ s Q q => ha A B H O σ s _ fun v H1 e1 h1 => hb A B H1 O σ (s.go e1) _ fun v2 H2 e2 h2 =>
  h A B H2 O σ Γ ((s.go e1).go e2) v v2 Q (ra.le (hid_le e2) h1) h2 fun w H3 e3 hw => q w H3 ((e1.trans e2).trans e3) hw
theorem q_ch {r r' : R2} {x3 : γ} (ha : Pg ta Γ ra x) (hb : Pg tb Γ rb y) (hc : Pg tc Γ rc x3) (h1 : OpC r ra x rb y b) (h2 : OpC r' rb y rc x3 c) : Pg (tChain r r' ta tb tc) Γ rBool (b && c) := p_chain ha hb hc h1 h2
theorem q_sl {r : V → Option Int → Option Int → Hp → VK → Prop} {tl th : TO} {lo hi : Option Int} (ha : Pg te Γ ra x) (h1 : Og tl Γ lo) (h2 : Og th Γ hi) (h : OpS r ra x lo hi rc u) : Pg (L2.tSl r te tl th) Γ rc u := fun A B H O σ s Q q =>
  ha A B H O σ s _ fun v H1 e1 g1 => h1 A B H1 O σ (s.go e1) _ fun H2 e2 => h2 A B H2 O σ ((s.go e1).go e2) _ fun H3 e3 =>
    h A B H3 O σ Γ (((s.go e1).go e2).go e3) v Q (ra.le (hid_le (e2.trans e3)) g1) fun w H4 e4 hw => q w H4 (((e1.trans e2).trans e3).trans e4) hw
/-! operators -/
theorem o_addI : Op2 rAddU rInt i rInt j rInt (i + j) := fun A B H O σ Γ s v1 v2 Q h1 h2 q => by cases h1; cases h2; exact x_addI (q _ _ (Le.refl _) rfl)
theorem o_addS (hz : z.length + w.length ≤ 1000000) : Op2 rAddU rStr z rStr w rStr (z ++ w) := fun A B H O σ Γ s v1 v2 Q h1 h2 q => by cases h1; cases h2; exact x_addS hz (q _ _ (Le.refl _) rfl)
theorem o_addL (hz : xs.length + ys.length ≤ 1000000) : Op2 rAddU (rList ra) xs (rList ra) ys (rList ra) (xs ++ ys) := fun A B H O σ Γ s v1 v2 Q h1 h2 q => by
  obtain ⟨p1, vs1, rfl, g1, a1⟩ := h1
  obtain ⟨p2, vs2, rfl, g2, a2⟩ := h2
  refine x_addL (unhid.keep g1) (unhid.keep g2) (by rw [a1.len, a2.len]; exact hz) fun p H1 n e h => ?_
  exact q _ _ e ⟨p, _, rfl, hid_at h (s.fresh n), All2.cat (a2.le (hid_le e)) (a1.le (hid_le e))⟩
theorem o_sub : Op2 (rI0 fun i j => .int (i - j)) rInt i rInt j rInt (i - j) := fun A B H O σ Γ s v1 v2 Q h1 h2 q => by cases h1; cases h2; exact x_I0 (q _ _ (Le.refl _) rfl)
theorem o_gt : Op2 (rI0 fun i j => .bl (decide (j < i))) rInt i rInt j rBool (decide (j < i)) := fun A B H O σ Γ s v1 v2 Q h1 h2 q => by cases h1; cases h2; exact x_I0 (q _ _ (Le.refl _) rfl)
theorem o_ge : Op2 (rI0 fun i j => .bl (decide (j ≤ i))) rInt i rInt j rBool (decide (j ≤ i)) := fun A B H O σ Γ s v1 v2 Q h1 h2 q => by cases h1; cases h2; exact x_I0 (q _ _ (Le.refl _) rfl)
theorem o_I {C : Int → Int → Prop} {g : Int → Int → V} (hc : C i j) (hu : ∀ H, rc.at_ H (g i j) u) : Op2 (rI C g) rInt i rInt j rc u := fun A B H O σ Γ s v1 v2 Q h1 h2 q => by cases h1; cases h2; exact x_I hc (q _ _ (Le.refl _) (hu _))
theorem o_mod (h : j ≠ 0) : Op2 (rI (fun _ j => j ≠ 0) fun i j => .int (i.fmod j)) rInt i rInt j rInt (i.fmod j) := o_I h fun _ => rfl
theorem o_fdiv (h : CDivN i j) : Op2 (rI CDivN fun i j => .int (i.fdiv j)) rInt i rInt j rInt (i.fdiv j) := o_I h fun _ => rfl
theorem o_pow (h : CPow i j) : Op2 (rI CPow fun i j => .int (i ^ j.toNat)) rInt i rInt j rInt (i ^ j.toNat) := o_I h fun _ => rfl
theorem o_mulI (h : -(2 ^ 64) < i ∧ i < 2 ^ 64) : Op2 rMulU rInt i rInt j rInt (i * j) := fun A B H O σ Γ s v1 v2 Q h1 h2 q => by cases h1; cases h2; exact x_mulI h (q _ _ (Le.refl _) rfl)
theorem o_mulS (h1' : j < 1000) (h0 : -1000 < j) (hz : z.length ≤ 10000) : Op2 rMulU rStr z rInt j rStr (repS z j) := fun A B H O σ Γ s v1 v2 Q h1 h2 q => by cases h1; cases h2; exact x_mulS h1' h0 hz (q _ _ (Le.refl _) rfl)
theorem o_ltI : Op2 rLtU rInt i rInt j rBool (decide (i < j)) := fun A B H O σ Γ s v1 v2 Q h1 h2 q => by cases h1; cases h2; exact x_ltI (q _ _ (Le.refl _) rfl)
theorem o_leI : Op2 rLeU rInt i rInt j rBool (decide (i ≤ j)) := fun A B H O σ Γ s v1 v2 Q h1 h2 q => by cases h1; cases h2; exact x_leI (q _ _ (Le.refl _) rfl)
theorem o_ltS : Op2 rLtU rStr z rStr w rBool (decide (z.cps.toList < w.cps.toList)) := fun A B H O σ Γ s v1 v2 Q h1 h2 q => by cases h1; cases h2; exact x_ltS (q _ _ (Le.refl _) rfl)
theorem o_eqI : Op2 (rEqU K) rInt i rInt j rBool (decide (i = j)) := fun A B H O σ Γ s v1 v2 Q h1 h2 q => by cases h1; cases h2; exact x_eqI (q _ _ (Le.refl _) rfl)
theorem o_eqS : Op2 (rEqU K) rStr z rStr w rBool (decide (z = w)) := fun A B H O σ Γ s v1 v2 Q h1 h2 q => by cases h1; cases h2; exact x_eqS (q _ _ (Le.refl _) rfl)
theorem o_eqB : Op2 (rEqU K) rBool b rBool c rBool (b == c) := fun A B H O σ Γ s v1 v2 Q h1 h2 q => by cases h1; cases h2; exact x_eqB (q _ _ (Le.refl _) rfl)
theorem o_neI : Op2 (rNeU K) rInt i rInt j rBool (!decide (i = j)) := fun A B H O σ Γ s v1 v2 Q h1 h2 q => by cases h1; cases h2; exact x_neI (q _ _ (Le.refl _) rfl)
theorem o_neS : Op2 (rNeU K) rStr z rStr w rBool (!decide (z = w)) := fun A B H O σ Γ s v1 v2 Q h1 h2 q => by cases h1; cases h2; exact x_neS (q _ _ (Le.refl _) rfl)
theorem o_neB : Op2 (rNeU K) rBool b rBool c rBool (!(b == c)) := fun A B H O σ Γ s v1 v2 Q h1 h2 q => by cases h1; cases h2; exact x_neB (q _ _ (Le.refl _) rfl)
theorem o_isN {o : Option α} : Op2 rIsN (rOpt ra) o rNon () rBool o.isNone := fun A B H O σ Γ s v1 v2 Q h1 h2 q => by
  cases h2
  refine x_isN ?_
  cases o with
  | none => cases h1; rw [decide_eq_true rfl]; exact q _ _ (Le.refl _) rfl
  | some y => rw [decide_eq_false h1.1]; exact q _ _ (Le.refl _) rfl
theorem o_isV [RpN ra] : Op2 rIsN ra x rNon () rBool false := fun A B H O σ Γ s v1 v2 Q h1 h2 q => by
  cases h2
  refine x_isN ?_
  rw [decide_eq_false fun e => RpN.nn (r := ra) _ _ (e ▸ h1)]; exact q _ _ (Le.refl _) rfl
theorem o_inT : Op2 rInT rStr z rStr w rBool (isIn z w) := fun A B H O σ Γ s v1 v2 Q h1 h2 q => by cases h1; cases h2; exact x_inT (q _ _ (Le.refl _) rfl)
theorem o_notInT : Op2 rNotInT rStr z rStr w rBool (!isIn z w) := fun A B H O σ Γ s v1 v2 Q h1 h2 q => by cases h1; cases h2; exact x_notInT (q _ _ (Le.refl _) rfl)
theorem c_lt : OpC rLtU rInt i rInt j (decide (i < j)) := fun v1 v2 H Q h1 h2 q => ch_lt h1 h2 q
theorem c_le : OpC rLeU rInt i rInt j (decide (i ≤ j)) := fun v1 v2 H Q h1 h2 q => ch_le h1 h2 q
/-! subscripts -/
theorem o_ixL [Inhabited α] (hi : 0 ≤ i ∧ i < xs.length) : Op2 (rIx K) (rList ra) xs rInt i ra (xs.getD i.toNat default) := fun A B H O σ Γ s v1 v2 Q h1 h2 q => by
  obtain ⟨p, vs, rfl, g, a⟩ := h1
  cases h2
  have hlt : i.toNat < xs.length := by omega
  obtain ⟨v, hv, hx⟩ := a.get (List.getElem?_eq_getElem hlt)
  refine x_ixL (sql (unhid.keep g)) (atI_nat ⟨hi.1, by rw [a.len]; exact hi.2⟩ hv) (q _ _ (Le.refl _) ?_)
  rw [List.getD_eq_getElem?_getD, List.getElem?_eq_getElem hlt]; exact hx
theorem o_ixTL [Inhabited α] (hi : 0 ≤ i ∧ i < xs.length) : Op2 (rIx K) (rTupL ra) xs rInt i ra (xs.getD i.toNat default) := fun A B H O σ Γ s v1 v2 Q h1 h2 q => by
  obtain ⟨p, vs, rfl, g, a⟩ := h1
  cases h2
  have hlt : i.toNat < xs.length := by omega
  obtain ⟨v, hv, hx⟩ := a.get (List.getElem?_eq_getElem hlt)
  refine x_ixT (unhid.keep g) (atI_nat ⟨hi.1, by rw [a.len]; exact hi.2⟩ hv) (q _ _ (Le.refl _) ?_)
  rw [List.getD_eq_getElem?_getD, List.getElem?_eq_getElem hlt]; exact hx
theorem o_ixS (hz : z.length ≤ 1000000) (hi : 0 ≤ i ∧ i < z.length) : Op2 (rIx K) rStr z rInt i rStr ⟨#[z.cps.getD i.toNat 0]⟩ := fun A B H O σ Γ s v1 v2 Q h1 h2 q => by
  cases h1; cases h2
  refine x_ixS hz ?_ (q _ _ (Le.refl _) rfl)
  have hn : i.toNat < z.cps.size := by show _ < z.length; omega
  have hl : z.cps.toList.length = z.length := by simp [Str.length]
  refine atI_nat ⟨hi.1, by rw [hl]; exact hi.2⟩ ?_
  rw [Array.getElem?_toList, Array.getElem?_eq_getElem hn, Array.getD_eq_getD_getElem?, Array.getElem?_eq_getElem hn]; rfl
section
variable {u2 : α × β} {u3 : α × β × γ} {u4 : α × β × γ × δ} {r4 : R4}
theorem o_20 : Op2 (rIx K) (rT2 ra rb) u2 rInt 0 ra u2.1 := fun A B H O σ Γ s v1 v2 Q ⟨p, _, _, hv, g, a1, a2⟩ h2 q => by subst hv; cases h2; exact x_ixT (unhid.keep g) rfl (q _ _ (Le.refl _) a1)
theorem o_21 : Op2 (rIx K) (rT2 ra rb) u2 rInt 1 rb u2.2 := fun A B H O σ Γ s v1 v2 Q ⟨p, _, _, hv, g, a1, a2⟩ h2 q => by subst hv; cases h2; exact x_ixT (unhid.keep g) rfl (q _ _ (Le.refl _) a2)
theorem o_30 : Op2 (rIx K) (rT3 ra rb rc) u3 rInt 0 ra u3.1 := fun A B H O σ Γ s v1 v2 Q ⟨p, _, _, _, hv, g, a1, a2, a3⟩ h2 q => by subst hv; cases h2; exact x_ixT (unhid.keep g) rfl (q _ _ (Le.refl _) a1)
theorem o_31 : Op2 (rIx K) (rT3 ra rb rc) u3 rInt 1 rb u3.2.1 := fun A B H O σ Γ s v1 v2 Q ⟨p, _, _, _, hv, g, a1, a2, a3⟩ h2 q => by subst hv; cases h2; exact x_ixT (unhid.keep g) rfl (q _ _ (Le.refl _) a2)
theorem o_32 : Op2 (rIx K) (rT3 ra rb rc) u3 rInt 2 rc u3.2.2 := fun A B H O σ Γ s v1 v2 Q ⟨p, _, _, _, hv, g, a1, a2, a3⟩ h2 q => by subst hv; cases h2; exact x_ixT (unhid.keep g) rfl (q _ _ (Le.refl _) a3)
theorem o_40 : Op2 (rIx K) (rT4 ra rb rc rd) u4 rInt 0 ra u4.1 := fun A B H O σ Γ s v1 v2 Q ⟨p, _, _, _, _, hv, g, a1, a2, a3, a4⟩ h2 q => by subst hv; cases h2; exact x_ixT (unhid.keep g) rfl (q _ _ (Le.refl _) a1)
theorem o_41 : Op2 (rIx K) (rT4 ra rb rc rd) u4 rInt 1 rb u4.2.1 := fun A B H O σ Γ s v1 v2 Q ⟨p, _, _, _, _, hv, g, a1, a2, a3, a4⟩ h2 q => by subst hv; cases h2; exact x_ixT (unhid.keep g) rfl (q _ _ (Le.refl _) a2)
theorem o_42 : Op2 (rIx K) (rT4 ra rb rc rd) u4 rInt 2 rc u4.2.2.1 := fun A B H O σ Γ s v1 v2 Q ⟨p, _, _, _, _, hv, g, a1, a2, a3, a4⟩ h2 q => by subst hv; cases h2; exact x_ixT (unhid.keep g) rfl (q _ _ (Le.refl _) a3)
theorem o_43 : Op2 (rIx K) (rT4 ra rb rc rd) u4 rInt 3 rd u4.2.2.2 := fun A B H O σ Γ s v1 v2 Q ⟨p, _, _, _, _, hv, g, a1, a2, a3, a4⟩ h2 q => by subst hv; cases h2; exact x_ixT (unhid.keep g) rfl (q _ _ (Le.refl _) a4)
theorem o_R0 : Op2 (rIx K) rR4 r4 rInt 0 rStr r4.l := fun A B H O σ Γ s v1 v2 Q ⟨p, hv, g⟩ h2 q => by subst hv; cases h2; exact x_ixT (unhid.keep g) rfl (q _ _ (Le.refl _) rfl)
theorem o_R1 : Op2 (rIx K) rR4 r4 rInt 1 rStr r4.o := fun A B H O σ Γ s v1 v2 Q ⟨p, hv, g⟩ h2 q => by subst hv; cases h2; exact x_ixT (unhid.keep g) rfl (q _ _ (Le.refl _) rfl)
theorem o_R2 : Op2 (rIx K) rR4 r4 rInt 2 rStr r4.n := fun A B H O σ Γ s v1 v2 Q ⟨p, hv, g⟩ h2 q => by subst hv; cases h2; exact x_ixT (unhid.keep g) rfl (q _ _ (Le.refl _) rfl)
theorem o_R3 : Op2 (rIx K) rR4 r4 rInt 3 rStr r4.r := fun A B H O σ Γ s v1 v2 Q ⟨p, hv, g⟩ h2 q => by subst hv; cases h2; exact x_ixT (unhid.keep g) rfl (q _ _ (Le.refl _) rfl)
end
/-! built-ins -/
theorem o_lenS (hz : z.length ≤ 1000000) : Op1 (rLenU K) rStr z rInt (z.length : Nat) := fun A B H O σ Γ s v Q h q => by cases h; exact x_lenS hz (q _ _ (Le.refl _) rfl)
theorem o_lenL : Op1 (rLenU K) (rList ra) xs rInt (xs.length : Nat) := fun A B H O σ Γ s v Q h q => by
  obtain ⟨p, vs, rfl, g, a⟩ := h
  refine x_lenL (sql (unhid.keep g)) ?_
  rw [a.len]; exact q _ _ (Le.refl _) rfl
theorem o_lenT : Op1 (rLenU K) (rTupL ra) xs rInt (xs.length : Nat) := fun A B H O σ Γ s v Q h q => by
  obtain ⟨p, vs, rfl, g, a⟩ := h
  refine x_lenT (unhid.keep g) ?_
  rw [a.len]; exact q _ _ (Le.refl _) rfl
theorem o_int : Op1 rInt1 rInt i rInt i := fun A B H O σ Γ s v Q h q => by cases h; exact x_int (q _ _ (Le.refl _) rfl)
theorem o_intB : Op1 rInt1 rBool b rInt (if b then 1 else 0) := fun A B H O σ Γ s v Q h q => by cases h; exact x_intB (q _ _ (Le.refl _) rfl)
theorem o_abs : Op1 rAbs rInt i rInt (if i < 0 then -i else i) := fun A B H O σ Γ s v Q h q => by cases h; exact x_abs (q _ _ (Le.refl _) rfl)
theorem o_strS : Op1 rStrS rStr z rStr z := fun A B H O σ Γ s v Q h q => by cases h; exact x_strS (q _ _ (Le.refl _) rfl)
theorem o_listL : Op1 (rListU K) (rList ra) xs (rList ra) xs := fun A B H O σ Γ s v Q h q => by
  obtain ⟨p, vs, rfl, g, a⟩ := h
  exact x_listL (sql (unhid.keep g)) fun p' H2 n e2 h2 => q _ _ e2 ⟨p', vs, rfl, hid_at h2 (s.fresh n), a.le (hid_le e2)⟩
theorem o_max : OpB rMax2 rInt i rInt j rInt (if j > i then j else i) := fun A B H O σ Γ s v1 v2 Q h1 h2 q => by cases h1; cases h2; exact x_max (q _ _ (Le.refl _) rfl)
theorem o_slS {lo hi : Option Int} (hz : z.length ≤ 1000000) : OpS (rSlU K) rStr z lo hi rStr (cutS z lo hi) := fun A B H O σ Γ s v Q h q => by cases h; exact x_slS hz (q _ _ (Le.refl _) rfl)
theorem o_slL {lo hi : Option Int} : OpS (rSlU K) (rList ra) xs lo hi (rList ra) (cutL xs lo hi) := fun A B H O σ Γ s v Q h q => by
  obtain ⟨p, vs, rfl, g, a⟩ := h
  refine x_slL (sql (unhid.keep g)) fun p' H4 n4 e4 h4 => q _ _ e4 ⟨p', _, rfl, hid_at h4 (s.fresh n4), ?_⟩
  have a4 := a.le (hid_le e4)
  have hl := a.len
  unfold cutL cutV
  rw [hl]
  exact (a4.drop _).take _
/-- isinstance -/
theorem o_isiB {n : String} (hk : PySem.W.kitOne K (.type "bool") (.type n) = some c) {v2 : V} (hv : v2 = .ty n) : ∀ A B H O σ Γ, Sta A B H O σ Γ → ∀ v1 (Q : VK), rBool.at_ (hid H O) v1 b → (∀ w H', Le H H' → rBool.at_ (hid H' O) w c → Q w H') → rIsi K [v1, v2] H Q := fun A B H O σ Γ s v Q h q => by
  subst hv; cases h; exact x_isB hk (q _ _ (Le.refl _) rfl)
end
/-! ### comprehensions -/
section
variable {A : Hp × List Addr} {B H : Hp} {O : List Addr} {σ : L2.St} {Γ : Gm} {α β γ : Type} {ra : Rp α} {rb : Rp β} {x : α} {te tl t1 t2 : TE} {tt : TT} {K : PySem.W.Frag} {j : Nat} {ws : List Nat}
theorem owns_none : ∀ (Γ : Gm) (i : Nat), (owns (Γ.set i none)).Sublist (owns Γ)
  | [], _ => by simp [owns]
  | some (.own p r' xs) :: g, 0 => by simp [owns]
  | some (.pure r' y) :: g, 0 => by simp [owns]
  | none :: g, 0 => by simp [owns]
  | some (.own p r' xs) :: g, i + 1 => by simpa [owns] using owns_none g i
  | some (.pure r' y) :: g, i + 1 => by simpa [owns] using owns_none g i
  | none :: g, i + 1 => by simpa [owns] using owns_none g i
theorem Sta.void (s : Sta A B H O σ Γ) (i : Nat) (v : Option V) : Sta A B H O (σ.set i v) (Γ.set i none) :=
  ⟨s.al, s.a0, s.su, fun p hp => s.an p ((owns_none Γ i).subset hp), s.le, EnvAt.set (s := none) (v := v) (by cases v <;> trivial) i s.env, s.fr, fun p hp => s.sub p ((owns_none Γ i).subset hp), s.nd.sublist (owns_none Γ i)⟩
/-- a new object, hidden -/
theorem Sta.hide {p : Addr} {vs : List V} (s : Sta A B H O σ Γ) (n : H p = none) : Sta A B (upd H p (.lst vs)) (p :: O) σ Γ := by
  have hpO : p ∉ O := s.fresh n
  have e : Le (hid H O) (hid (upd H p (.lst vs)) (p :: O)) := ⟨fun a u h => by
    unfold hid at *
    split at h
    · cases h
    · rename_i na
      have hap : a ≠ p := fun z => by rw [z, n] at h; cases h
      rw [if_neg (by simp [hap, na]), upd_ne hap]; exact h, fun a h => by
    unfold hid at *
    split
    · rfl
    · rename_i na
      by_cases hap : a = p
      · rw [hap]; exact n
      · rw [if_neg (by simp [hap, na]), upd_ne hap] at h; exact h⟩
  refine ⟨s.al.trans (Le.new n), s.a0, fun q hq => List.mem_cons_of_mem _ (s.su q hq), s.an, s.le.trans e, EnvAt.mv e (fun q hq o ho => by rw [upd_ne (fun z => hpO (by rw [← z]; exact s.sub q hq))]; exact ho) s.env, fun q hq => ?_, fun q hq => List.mem_cons_of_mem _ (s.sub q hq), s.nd⟩
  rcases List.mem_cons.mp hq with rfl | hq
  · exact ⟨_, upd_same⟩
  · obtain ⟨o, ho⟩ := s.fr q hq
    exact ⟨o, by rw [upd_ne (fun z => hpO (by rw [← z]; exact hq))]; exact ho⟩
/-- a hidden object set anew -/
theorem Sta.poke {p : Addr} {vs : List V} (s : Sta A B H O σ Γ) (hp : p ∈ O) (hg : p ∉ owns Γ) (ha : A.1 p = none) : Sta A B (upd H p (.lst vs)) O σ Γ := by
  have e : hid (upd H p (.lst vs)) O = hid H O := hid_upd hp
  refine ⟨le_own s.al ha, s.a0, s.su, s.an, by rw [e]; exact s.le, EnvAt.mv (by rw [e]; exact Le.refl _) (fun q hq u ho => by rw [upd_ne (fun z => hg (by rw [← z]; exact hq))]; exact ho) s.env, fun q hq => ?_, s.sub, s.nd⟩
  by_cases z : q = p
  · exact ⟨_, by rw [z]; exact upd_same⟩
  · rw [upd_ne z]; exact s.fr q hq
theorem lc_run {J : It} {G : Hp → Prop} {Y : Nat → Hp → V → Hp → Prop} {it : List α} (w : Walk J it.length G Y) (s : Sta A B H O σ Γ) (hj : ws = [j]) (hG : ∀ H', Le H H' → G H')
    (hY : ∀ i H' v H'', i < it.length → Le H H' → Y i H' v H'' → Le H' H'' ∧ ∃ x, it[i]? = some x ∧ ∀ O', (∀ p ∈ O', H p = none ∨ p ∈ O) → ra.at_ (hid H'' O') v x)
    (pb : α → Bool) (f : α → β) (ht : ∀ x ∈ it, Tg tt (Γ.set j (some (.pure ra x))) (pb x)) (he : ∀ x ∈ it, pb x = true → Pg te (Γ.set j (some (.pure ra x))) rb (f x)) (hz : it.length ≤ 1000000) {Q : VK}
    (q : ∀ v H', Le H H' → (rList rb).at_ (hid H' O) v ((it.filter pb).map f) → Q v H') : kLc (gName j) tt te ws σ Q J H := by
  subst hj
  intro D hD
  have hDO : D ∉ O := s.fresh hD
  have hA : A.1 D = none := s.al.fr _ hD
  have sw := (s.void j none).hide (vs := []) hD
  have hDg : D ∉ owns (Γ.set j none) := fun m => hDO ((s.void j none).sub D m)
  refine lc_it w (g := gName j) (vs := [j]) (σ := σ) (Qd := fun H' => Q (.ref D) H') (fun i H' => Le H H' ∧ Sta A B H' (D :: O) (σ.set j none) (Γ.set j none) ∧ ∃ vs, H' D = some (.lst vs) ∧ All2 rb (hid H' (D :: O)) vs (((it.take i).filter pb).map f))
    ⟨le_own (Le.refl _) hD, sw, [], upd_same, trivial⟩ (fun i H' _ h => hG H' h.1) (fun i v H1 H2 hi h hy => ?_) (fun H' h => ?_)
  · obtain ⟨e1, s1, vs, hv, ha⟩ := h
    obtain ⟨e2, x, hx, hr⟩ := hY i H1 v H2 hi e1 hy
    have s2 := s1.go e2
    have hrx : ra.at_ (hid H2 (D :: O)) v x := hr (D :: O) fun p hp => by
      rcases List.mem_cons.mp hp with rfl | hp
      · exact .inl hD
      · exact .inr hp
    have s3 := s2.set (i := j) hrx
    have hΓ : (List.set (List.set Γ j none) j (some (.pure ra x)) : Gm) = Γ.set j (some (.pure ra x)) := List.set_set ..
    rw [hΓ] at s3
    have hxm : x ∈ it := List.mem_of_getElem? hx
    have ht' : it.take (i + 1) = it.take i ++ [x] := by rw [List.take_add_one, hx]; rfl
    refine ⟨by show ((List.set (σ.set j none) j (some v))).set j none = σ.set j none; rw [List.set_set, List.set_set], ?_⟩
    refine ht x hxm A B H2 (D :: O) _ s3 _ fun H3 e3 => ?_
    cases hb : pb x with
    | false =>
      rw [if_neg Bool.false_ne_true]
      refine ⟨(e1.trans e2).trans e3, s2.go e3, vs, e3.keep (e2.keep hv), ?_⟩
      rw [ht', List.filter_append, List.map_append]
      simp only [List.filter_cons, hb, List.filter_nil, List.map_nil, List.append_nil, Bool.false_eq_true, if_false]
      exact ha.le (hid_le (e2.trans e3))
    | true =>
      rw [if_pos rfl]
      refine he x hxm hb A B H3 (D :: O) _ (s3.go e3) _ fun y H4 e4 hy4 => ?_
      have hv4 := e4.keep (e3.keep (e2.keep hv))
      have hDin : D ∈ D :: O := List.mem_cons_self
      have hlen := ha.len
      refine ⟨vs, hv4, ?_, le_own (((e1.trans e2).trans e3).trans e4) hD, ((s2.go e3).go e4).poke hDin hDg hA, vs ++ [y], upd_same, ?_⟩
      · rw [hlen, sizeLine_eq, List.length_map]
        have := List.length_filter_le pb (it.take i)
        have := List.length_take_le i it
        omega
      · rw [hid_upd hDin, ht', List.filter_append, List.map_append]
        simp only [List.filter_cons, hb, List.filter_nil, List.map_cons, List.map_nil, if_true]
        exact All2.app hy4 (ha.le (hid_le ((e2.trans e3).trans e4)))
  · obtain ⟨e1, s1, vs, hv, ha⟩ := h
    rw [List.take_length] at ha
    exact q _ _ e1 ⟨D, vs, rfl, hid_at hv hDO, ha.le (hid_sub fun a ha => List.mem_cons_of_mem _ ha)⟩
theorem t_yes : Tg tYes Γ true := fun A B H O σ s Q q => q H (Le.refl _)
theorem p_lcLF {xs : List α} {pb : α → Bool} {f : α → β} (h : Pg tl Γ (rList ra) xs) (hz : xs.length ≤ 1000000) (ht : ∀ x ∈ xs, Tg tt (Γ.set j (some (.pure ra x))) (pb x)) (he : ∀ x ∈ xs, pb x = true → Pg te (Γ.set j (some (.pure ra x))) rb (f x)) (hj : ws = [j] := by rfl) : Pg (tLc (iList K tl) (gName j) tt te ws) Γ (rList rb) ((xs.filter pb).map f) := fun A B H O σ s Q q =>
  h A B H O σ s _ fun v H1 e1 ⟨p, vs, ev, hp, ha⟩ => by
    subst ev
    have hp1 : H1 p = some (.lst vs) := unhid.keep hp
    have hpO : p ∉ O := fun m => by unfold hid at hp; rw [if_pos m] at hp; cases hp
    have w : Walk (Itl K p) xs.length (fun H => SqL K H p vs) (YAt vs) := by rw [← ha.len]; exact walk_list
    refine ⟨p, rfl, ⟨vs, sql hp1⟩, lc_run (ra := ra) (rb := rb) (it := xs) w (s.go e1) hj (fun H' e => sql (e.keep hp1)) (fun i H' v H'' hi e hy => ?_) pb f ht he hz fun v H' e hv => q v H' (e1.trans e) hv⟩
    obtain ⟨rfl, hv⟩ := hy
    obtain ⟨x, hx, hr⟩ := ha.of hv
    refine ⟨Le.refl _, x, hx, fun O' hO' => ra.le ⟨fun a o h => ?_, fun a h => ?_⟩ hr⟩
    · unfold hid at *
      split at h
      · cases h
      · rename_i na
        rw [if_neg fun m => (hO' a m).elim (fun z => by rw [z] at h; cases h) na]
        exact e.at_ a o h
    · unfold hid at *
      split
      · rfl
      · rename_i na
        split at h
        · rename_i m; exact (hO' a m).elim id fun z => absurd z na
        · exact e.fr a h
theorem p_lcL {xs : List α} {f : α → β} (h : Pg tl Γ (rList ra) xs) (hz : xs.length ≤ 1000000) (he : ∀ x ∈ xs, Pg te (Γ.set j (some (.pure ra x))) rb (f x)) (hj : ws = [j] := by rfl) : Pg (tLc (iList K tl) (gName j) tYes te ws) Γ (rList rb) (xs.map f) := by
  have := p_lcLF (K := K) (pb := fun _ => true) (f := f) h hz (fun x _ => t_yes) (fun x hx _ => he x hx) hj
  rwa [List.filter_eq_self.mpr (fun _ _ => rfl)] at this
/-- the numbers of a range -/
def rngL (lo : Int) (n : Nat) : List Int := (List.range n).map fun (k : Nat) => lo + (k : Int)
theorem rngL_len (lo : Int) (n : Nat) : (rngL lo n).length = n := by simp [rngL]
theorem p_lcRF {n : Int} {pb : Int → Bool} {f : Int → β} (h : Pg t1 Γ rInt n) (hn : -1000000 ≤ n ∧ n ≤ 1000000) (ht : ∀ x ∈ rngL 0 n.toNat, Tg tt (Γ.set j (some (.pure rInt x))) (pb x)) (he : ∀ x ∈ rngL 0 n.toNat, pb x = true → Pg te (Γ.set j (some (.pure rInt x))) rb (f x)) (hj : ws = [j] := by rfl) : Pg (tLc (iRng1 (tCons t1 tNil)) (gName j) tt te ws) Γ (rList rb) (((rngL 0 n.toNat).filter pb).map f) := fun A B H O σ s Q q =>
  h A B H O σ s _ fun v H1 e1 hv => by
    cases hv
    have w : Walk (Itr 0 n.toNat) (rngL 0 n.toNat).length (fun _ => True) (YFn fun i => .int (0 + i)) := by rw [rngL_len]; exact walk_range
    refine ⟨n, rfl, by omega, by omega, lc_run (ra := rInt) (rb := rb) (it := rngL 0 n.toNat) w (s.go e1) hj (fun _ _ => trivial) (fun i H' v H'' hi e hy => ?_) pb f ht he (by rw [rngL_len]; omega) fun v H' e hv => q v H' (e1.trans e) hv⟩
    obtain ⟨rfl, rfl⟩ := hy
    rw [rngL_len] at hi
    exact ⟨Le.refl _, 0 + (i : Int), by simp [rngL, hi], fun _ _ => rfl⟩
theorem p_lcR {n : Int} {f : Int → β} (h : Pg t1 Γ rInt n) (hn : -1000000 ≤ n ∧ n ≤ 1000000) (he : ∀ x ∈ rngL 0 n.toNat, Pg te (Γ.set j (some (.pure rInt x))) rb (f x)) (hj : ws = [j] := by rfl) : Pg (tLc (iRng1 (tCons t1 tNil)) (gName j) tYes te ws) Γ (rList rb) ((rngL 0 n.toNat).map f) := by
  have := p_lcRF (pb := fun _ => true) (f := f) h hn (fun x _ => t_yes) (fun x hx _ => he x hx) hj
  rwa [List.filter_eq_self.mpr (fun _ _ => rfl)] at this
theorem n_lcLF {nm : Str} {xs : List α} {pb : α → Bool} {f : α → β} (h : Pg tl Γ (rList ra) xs) (hz : xs.length ≤ 1000000) (ht : ∀ x ∈ xs, Tg tt (Γ.set j (some (.pure ra x))) (pb x)) (he : ∀ x ∈ xs, pb x = true → Pg te (Γ.set j (some (.pure ra x))) rb (f x)) : Pg (tLc (iList K tl) (gName j) tt te (([(nm, j)] : List (Str × Nat)).map (·.2))) Γ (rList rb) ((xs.filter pb).map f) := p_lcLF h hz ht he rfl
theorem n_lcL {nm : Str} {xs : List α} {f : α → β} (h : Pg tl Γ (rList ra) xs) (hz : xs.length ≤ 1000000) (he : ∀ x ∈ xs, Pg te (Γ.set j (some (.pure ra x))) rb (f x)) : Pg (tLc (iList K tl) (gName j) tYes te (([(nm, j)] : List (Str × Nat)).map (·.2))) Γ (rList rb) (xs.map f) := p_lcL h hz he rfl
theorem n_lcRF {nm : Str} {n : Int} {pb : Int → Bool} {f : Int → β} (h : Pg t1 Γ rInt n) (hn : -1000000 ≤ n ∧ n ≤ 1000000) (ht : ∀ x ∈ rngL 0 n.toNat, Tg tt (Γ.set j (some (.pure rInt x))) (pb x)) (he : ∀ x ∈ rngL 0 n.toNat, pb x = true → Pg te (Γ.set j (some (.pure rInt x))) rb (f x)) : Pg (tLc (iRng1 (tCons t1 tNil)) (gName j) tt te (([(nm, j)] : List (Str × Nat)).map (·.2))) Γ (rList rb) (((rngL 0 n.toNat).filter pb).map f) := p_lcRF h hn ht he rfl
theorem n_lcR {nm : Str} {n : Int} {f : Int → β} (h : Pg t1 Γ rInt n) (hn : -1000000 ≤ n ∧ n ≤ 1000000) (he : ∀ x ∈ rngL 0 n.toNat, Pg te (Γ.set j (some (.pure rInt x))) rb (f x)) : Pg (tLc (iRng1 (tCons t1 tNil)) (gName j) tYes te (([(nm, j)] : List (Str × Nat)).map (·.2))) Γ (rList rb) ((rngL 0 n.toNat).map f) := p_lcR h hn he rfl
theorem mem_rng {lo x : Int} {n : Nat} (h : x ∈ rngL lo n) : lo ≤ x ∧ x < lo + n := by
  unfold rngL at h
  simp only [List.mem_map, List.mem_range] at h
  obtain ⟨k, hk, rfl⟩ := h
  omega
end
/-! ### in a row: one statement, then the rest -/
section
variable {A : Hp × List Addr} {B H : Hp} {O : List Addr} {σ : L2.St} {Γ : Gm} {α β : Type} {r : Rp α} {x : α} {p : Addr} {xs : List α} {D : Ends} {te : TE} {tt : TT} {u u1 u2 : TS} {b : Bool} {K : PySem.W.Frag} {i j : Nat}
theorem s_set (s : Sta A B H O σ Γ) (h : Pg te Γ r x) (q : ∀ σ' H', Sta A B H' O σ' (Γ.set i (some (.pure r x))) → u D σ' H') : tSeq (tAsg te (gName i)) u D σ H := g_set (D := { D with nx := u D }) h s q
theorem s_own (r : Rp α) (s : Sta A B H O σ Γ) (q : ∀ p O' σ' H', Sta A B H' O' σ' (Γ.set i (some (.own p r []))) → u D σ' H') : tSeq (tAsg (tLst tNil) (gName i)) u D σ H := g_own (D := { D with nx := u D }) r s q
theorem s_app (s : Sta A B H O σ Γ) (hk : Γ[i]? = some (some (.own p r xs))) (h : Pg te Γ r x) (hz : xs.length < 1000000) (q : ∀ σ' H', Sta A B H' O σ' (Γ.set i (some (.own p r (xs ++ [x])))) → u D σ' H') : tSeq (tDrop (tBM K "list" rAppend (tVar i) (tCons te tNil))) u D σ H := g_app (D := { D with nx := u D }) hk h hz s q
theorem s_if (s : Sta A B H O σ Γ) (h : Tg tt Γ b) (h1 : b = true → ∀ H', Sta A B H' O σ Γ → u1 { D with nx := u D } σ H') (h2 : b = false → ∀ H', Sta A B H' O σ Γ → u2 { D with nx := u D } σ H') : tSeq (tIfS tt u1 u2) u D σ H := g_if (D := { D with nx := u D }) h s h1 h2
/-- if t: return ..; the rest -/
theorem s_ifN (s : Sta A B H O σ Γ) (h : Tg tt Γ b) (h1 : b = true → ∀ H', Sta A B H' O σ Γ → u1 { D with nx := u D } σ H') (h2 : b = false → ∀ H', Sta A B H' O σ Γ → u D σ H') : tSeq (tIfS tt u1 tNext) u D σ H := g_if (D := { D with nx := u D }) h s h1 fun hb H' s' => h2 hb H' s'
/-- return, what was promised -/
theorem s_ret {Q : VK} {H0 : Hp} {O0 : List Addr} {y : α} (s : Sta (H0, O0) B H O σ Γ) (h : Pg te Γ r x) (e : x = y) (q : ∀ v H', Le H0 H' → r.at_ (hid H' O0) v y → Q v H') (hD : D.rt = Q := by rfl) : tRet te D σ H := g_ret h s fun v H' e1 hv => by rw [hD]; exact q v H' e1 (e ▸ hv)
theorem s_start {N : List Str} {vs : List V} (hO : Hd O H) (he : EnvAt H O (L2.start N vs) Γ) (hn : owns Γ = []) : Sta (H, O) (hid H O) H O (L2.start N vs) Γ :=
  ⟨Le.refl _, hO, fun _ h => h, (fun p h => by rw [hn] at h; cases h), Le.refl _, he, hO, (fun p h => by rw [hn] at h; cases h), by rw [hn]; exact List.nodup_nil⟩
end
end MC
set_option maxHeartbeats 4000000
/-! MB26: typed readings: data (==, in), any, all, sorted; values with no list in them -/
namespace MC
open PySem PySem.Spec PyProof.Rows L2
/-! ### no list in it -/
class RpF {α : Type} (r : Rp α) : Prop where
  fl : ∀ {H : Hp} {O : List Addr} {v : V} {x : α}, Hd O H → r.at_ H v x → r.at_ (hid H O) v x
theorem hd_not {H : Hp} {O : List Addr} {p : Addr} {o : HO} (h : Hd O H) (e : H p = some o) (n : ∀ vs, o ≠ .lst vs) : p ∉ O := fun m => by
  obtain ⟨vs, z⟩ := h p m
  rw [e] at z; exact n vs (Option.some.inj z)
instance : RpF rInt := ⟨fun _ h => h⟩
instance : RpF rNat := ⟨fun _ h => h⟩
instance : RpF rBool := ⟨fun _ h => h⟩
instance : RpF rStr := ⟨fun _ h => h⟩
instance : RpF rNon := ⟨fun _ h => h⟩
instance : RpF rR4 := ⟨fun hd ⟨p, h1, h2⟩ => ⟨p, h1, hid_at h2 (hd_not hd h2 fun _ z => by cases z)⟩⟩
instance {α : Type} {r : Rp α} [RpF r] : RpF (rOpt r) := ⟨fun {H O v x} hd h => by
  cases x with
  | none => exact h
  | some y => exact ⟨h.1, RpF.fl hd h.2⟩⟩
theorem All2.fl {α : Type} {r : Rp α} [RpF r] {H : Hp} {O : List Addr} (hd : Hd O H) : ∀ {vs : List V} {xs : List α}, All2 r H vs xs → All2 r (hid H O) vs xs
  | [], [], _ => trivial
  | _ :: _, _ :: _, h => ⟨RpF.fl hd h.1, All2.fl hd h.2⟩
  | [], _ :: _, h => h.elim
  | _ :: _, [], h => h.elim
instance {α : Type} {r : Rp α} [RpF r] : RpF (rTupL r) := ⟨fun hd ⟨p, vs, h1, h2, h3⟩ => ⟨p, vs, h1, hid_at h2 (hd_not hd h2 fun _ z => by cases z), h3.fl hd⟩⟩
instance {α β : Type} {ra : Rp α} {rb : Rp β} [RpF ra] [RpF rb] : RpF (rT2 ra rb) := ⟨fun hd ⟨p, u, w, h1, h2, h3, h4⟩ => ⟨p, u, w, h1, hid_at h2 (hd_not hd h2 fun _ z => by cases z), RpF.fl hd h3, RpF.fl hd h4⟩⟩
instance {α β γ : Type} {ra : Rp α} {rb : Rp β} {rc : Rp γ} [RpF ra] [RpF rb] [RpF rc] : RpF (rT3 ra rb rc) := ⟨fun hd ⟨p, u, w, t, h1, h2, h3, h4, h5⟩ => ⟨p, u, w, t, h1, hid_at h2 (hd_not hd h2 fun _ z => by cases z), RpF.fl hd h3, RpF.fl hd h4, RpF.fl hd h5⟩⟩
instance {α β γ δ : Type} {ra : Rp α} {rb : Rp β} {rc : Rp γ} {rd : Rp δ} [RpF ra] [RpF rb] [RpF rc] [RpF rd] : RpF (rT4 ra rb rc rd) := ⟨fun hd ⟨p, u, w, t, s, h1, h2, h3, h4, h5, h6⟩ => ⟨p, u, w, t, s, h1, hid_at h2 (hd_not hd h2 fun _ z => by cases z), RpF.fl hd h3, RpF.fl hd h4, RpF.fl hd h5, RpF.fl hd h6⟩⟩
theorem Hd.le {H H' : Hp} {O : List Addr} (e : Le H H') (h : Hd O H) : Hd O H' := fun p hp => let ⟨vs, z⟩ := h p hp; ⟨vs, e.keep z⟩
/-! ### data -/
class RpD {α : Type} [DecidableEq α] (r : Rp α) where
  dt : α → PyData
  ok : α → Prop
  d : Nat
  dp : ∀ {K : PySem.W.Frag} {H : Hp} {v : V} {x : α}, r.at_ H v x → Dp K H v (dt x)
  lay : ∀ {x}, ok x → (dt x).canLay0 = true
  dep : ∀ x, (dt x).depth ≤ d
  eqv : ∀ x y, PyData.eqv (dt x) (dt y) = decide (x = y)
instance : RpD rInt where
  dt := .int
  ok := fun _ => True
  d := 0
  dp := fun h => by cases h; exact .int _
  lay := fun _ => by simp [PyData.canLay0]
  dep := fun _ => by simp [PyData.depth]
  eqv := fun x y => by
    simp only [PyData.eqv]
    first | rfl | (by_cases h : x = y <;> simp [h])
instance : RpD rBool where
  dt := .bool
  ok := fun _ => True
  d := 0
  dp := fun h => by cases h; exact .bl _
  lay := fun _ => by simp [PyData.canLay0]
  dep := fun _ => by simp [PyData.depth]
  eqv := fun x y => by
    simp only [PyData.eqv]
    cases x <;> cases y <;> first | rfl | simp
instance : RpD rStr where
  dt := .str
  ok := fun z => PyData.strOk z = true
  d := 0
  dp := fun h => by cases h; exact .str _
  lay := fun h => by simpa [PyData.canLay0] using h
  dep := fun _ => by simp [PyData.depth]
  eqv := fun x y => by
    simp only [PyData.eqv]
    by_cases h : x = y <;> simp [h]
instance : RpD rR4 where
  dt := R4.dt
  ok := R4.ok
  d := 1
  dp := fun ⟨p, h1, h2⟩ => by subst h1; exact R4.dp h2
  lay := R4.lay1
  dep := fun x => by rw [R4.dep1]; exact Nat.le_refl 1
  eqv := R4.eqv
section
variable {α β γ : Type} [DecidableEq α] [DecidableEq β] [DecidableEq γ] {ra : Rp α} {rb : Rp β} {rc : Rp γ} [RpD ra] [RpD rb] [RpD rc]
theorem dpAll {K : PySem.W.Frag} {H : Hp} : ∀ {vs : List V} {xs : List α}, All2 ra H vs xs → DpAll K H vs (xs.map (RpD.dt ra))
  | [], [], _ => .nil
  | _ :: _, _ :: _, h => .cons (RpD.dp h.1) (dpAll h.2)
  | [], _ :: _, h => h.elim
  | _ :: _, [], h => h.elim
theorem layAll : ∀ {xs : List α}, (∀ x ∈ xs, RpD.ok ra x) → PyData.canLayAll0 (xs.map (RpD.dt ra)) = true
  | [], _ => by simp [PyData.canLayAll0]
  | x :: xs, h => by
    have h1 := RpD.lay (r := ra) (h x List.mem_cons_self)
    have h2 := layAll (xs := xs) fun y hy => h y (List.mem_cons_of_mem _ hy)
    simp [PyData.canLayAll0, h1, h2]
theorem depAll : ∀ xs : List α, PyData.depthAll (xs.map (RpD.dt ra)) ≤ RpD.d ra
  | [] => by simp [PyData.depthAll]
  | x :: xs => by
    have h1 := RpD.dep (r := ra) x
    have h2 := depAll xs
    simp only [List.map_cons, PyData.depthAll]
    omega
theorem eqvAll : ∀ xs ys : List α, PyData.eqvAll (xs.map (RpD.dt ra)) (ys.map (RpD.dt ra)) = decide (xs = ys)
  | [], [] => by simp [PyData.eqvAll]
  | [], y :: ys => by simp [PyData.eqvAll]
  | x :: xs, [] => by simp [PyData.eqvAll]
  | x :: xs, y :: ys => by
    have h1 := RpD.eqv (r := ra) x y
    have h2 := eqvAll xs ys
    simp only [List.map_cons, PyData.eqvAll, h1, h2]
    by_cases q1 : x = y <;> by_cases q2 : xs = ys <;> simp [q1, q2]
instance rdList : RpD (rList ra) where
  dt := fun xs => .list (xs.map (RpD.dt ra))
  ok := fun xs => ∀ x ∈ xs, RpD.ok ra x
  d := RpD.d ra + 1
  dp := fun ⟨p, vs, h1, h2, h3⟩ => by subst h1; exact .lst (sql h2) (dpAll h3)
  lay := fun h => by simp only [PyData.canLay0]; exact layAll h
  dep := fun xs => by
    have := depAll (ra := ra) xs
    simp only [PyData.depth]; omega
  eqv := fun xs ys => by simp only [PyData.eqv]; exact eqvAll xs ys
instance rdTupL : RpD (rTupL ra) where
  dt := fun xs => .tuple (xs.map (RpD.dt ra))
  ok := fun xs => ∀ x ∈ xs, RpD.ok ra x
  d := RpD.d ra + 1
  dp := fun ⟨p, vs, h1, h2, h3⟩ => by subst h1; exact .tup (SqT.of h2) (dpAll h3)
  lay := fun h => by simp only [PyData.canLay0]; exact layAll h
  dep := fun xs => by
    have := depAll (ra := ra) xs
    simp only [PyData.depth]; omega
  eqv := fun xs ys => by simp only [PyData.eqv]; exact eqvAll xs ys
instance rdT2 : RpD (rT2 ra rb) where
  dt := fun x => .tuple [RpD.dt ra x.1, RpD.dt rb x.2]
  ok := fun x => RpD.ok ra x.1 ∧ RpD.ok rb x.2
  d := max (RpD.d ra) (RpD.d rb) + 1
  dp := fun ⟨p, u, w, h1, h2, h3, h4⟩ => by subst h1; exact .tup (SqT.of h2) (.cons (RpD.dp h3) (.cons (RpD.dp h4) .nil))
  lay := fun {x} h => by
    have h1 := RpD.lay (r := ra) h.1
    have h2 := RpD.lay (r := rb) h.2
    simp [PyData.canLay0, PyData.canLayAll0, h1, h2]
  dep := fun x => by
    have h1 := RpD.dep (r := ra) x.1
    have h2 := RpD.dep (r := rb) x.2
    simp only [PyData.depth, PyData.depthAll]; omega
  eqv := fun x y => by
    have h1 := RpD.eqv (r := ra) x.1 y.1
    have h2 := RpD.eqv (r := rb) x.2 y.2
    obtain ⟨x1, x2⟩ := x
    obtain ⟨y1, y2⟩ := y
    simp only at h1 h2
    simp only [PyData.eqv, PyData.eqvAll, h1, h2]
    by_cases q1 : x1 = y1 <;> by_cases q2 : x2 = y2 <;> simp [q1, q2]
instance rdT3 : RpD (rT3 ra rb rc) where
  dt := fun x => .tuple [RpD.dt ra x.1, RpD.dt rb x.2.1, RpD.dt rc x.2.2]
  ok := fun x => RpD.ok ra x.1 ∧ RpD.ok rb x.2.1 ∧ RpD.ok rc x.2.2
  d := max (RpD.d ra) (max (RpD.d rb) (RpD.d rc)) + 1
  dp := fun ⟨p, u, w, t, h1, h2, h3, h4, h5⟩ => by subst h1; exact .tup (SqT.of h2) (.cons (RpD.dp h3) (.cons (RpD.dp h4) (.cons (RpD.dp h5) .nil)))
  lay := fun {x} h => by
    have h1 := RpD.lay (r := ra) h.1
    have h2 := RpD.lay (r := rb) h.2.1
    have h3 := RpD.lay (r := rc) h.2.2
    simp [PyData.canLay0, PyData.canLayAll0, h1, h2, h3]
  dep := fun x => by
    have h1 := RpD.dep (r := ra) x.1
    have h2 := RpD.dep (r := rb) x.2.1
    have h3 := RpD.dep (r := rc) x.2.2
    simp only [PyData.depth, PyData.depthAll]; omega
  eqv := fun x y => by
    have h1 := RpD.eqv (r := ra) x.1 y.1
    have h2 := RpD.eqv (r := rb) x.2.1 y.2.1
    have h3 := RpD.eqv (r := rc) x.2.2 y.2.2
    obtain ⟨x1, x2, x3⟩ := x
    obtain ⟨y1, y2, y3⟩ := y
    simp only at h1 h2 h3
    simp only [PyData.eqv, PyData.eqvAll, h1, h2, h3]
    by_cases q1 : x1 = y1 <;> by_cases q2 : x2 = y2 <;> by_cases q3 : x3 = y3 <;> simp [q1, q2, q3]
theorem shaped_of {x : α} (h : RpD.ok ra x) (hd : RpD.d ra ≤ 64) : SeqAt.shaped (RpD.dt ra x) = true := by
  have h1 := RpD.lay (r := ra) h
  have h2 := RpD.dep (r := ra) x
  show ((RpD.dt ra x).canLay0 && decide ((RpD.dt ra x).depth ≤ 64)) = true
  rw [Bool.and_eq_true]
  exact ⟨h1, decide_eq_true (by omega)⟩
variable {K : PySem.W.Frag} {x y : α} {xs : List α}
theorem o_eqD (hx : RpD.ok ra x) (hy : RpD.ok ra y) (hd : RpD.d ra ≤ 64 := by decide) : Op2 (rEqU K) ra x ra y rBool (decide (x = y)) := fun A B H O σ Γ s v1 v2 Q h1 h2 q => by
  refine x_eqD (RpD.dp (ra.le unhid h1)) (RpD.dp (ra.le unhid h2)) (shaped_of hx hd) (shaped_of hy hd) ?_
  rw [RpD.eqv]; exact q _ _ (Le.refl _) rfl
theorem o_neD (hx : RpD.ok ra x) (hy : RpD.ok ra y) (hd : RpD.d ra ≤ 64 := by decide) : Op2 (rNeU K) ra x ra y rBool (!decide (x = y)) := fun A B H O σ Γ s v1 v2 Q h1 h2 q => by
  refine x_neD (RpD.dp (ra.le unhid h1)) (RpD.dp (ra.le unhid h2)) (shaped_of hx hd) (shaped_of hy hd) ?_
  rw [RpD.eqv]; exact q _ _ (Le.refl _) rfl
theorem any_dt : ∀ xs : List α, ((xs.map (RpD.dt ra)).any fun z => PyData.eqv z (RpD.dt ra x)) = decide (x ∈ xs)
  | [] => by simp
  | y :: ys => by
    rw [List.map_cons, List.any_cons, any_dt ys, RpD.eqv]
    by_cases h : y = x
    · subst h; simp
    · by_cases h' : x ∈ ys
      · simp [h']
      · simp [h, h', Ne.symm h]
/-- in, of texts and of lists -/
def rInU (K : PySem.W.Frag) : R2 := fun x y H Q => rInT x y H Q ∨ rInD K x y H Q
def rNotInU (K : PySem.W.Frag) : R2 := fun x y H Q => rNotInT x y H Q ∨ rNotInD K x y H Q
theorem op_inU {X : Cx} (hu : X.A.units + 65 < cLine) : OpR X (compareOp .In) (rInU X.K) := op_inT.or (op_inD hu)
theorem op_notInU {X : Cx} (hu : X.A.units + 65 < cLine) : OpR X (compareOp .NotIn) (rNotInU X.K) := op_notInT.or (op_notInD hu)
theorem o_inL (hx : RpD.ok ra x) (hy : ∀ y ∈ xs, RpD.ok ra y) (hd : RpD.d ra ≤ 63 := by decide) : Op2 (rInU K) ra x (rList ra) xs rBool (decide (x ∈ xs)) := fun A B H O σ Γ s v1 v2 Q h1 h2 q => by
  obtain ⟨p, vs, rfl, g, a⟩ := h2
  refine .inr ⟨_, _, RpD.dp (ra.le unhid h1), .lst (sql (unhid.keep g)) (dpAll (a.le unhid)), shaped_of hx (by omega), shaped_of (ra := rList ra) (x := xs) hy (by show RpD.d ra + 1 ≤ 64; omega), ?_⟩
  rw [any_dt]; exact q _ _ (Le.refl _) rfl
theorem o_notInL (hx : RpD.ok ra x) (hy : ∀ y ∈ xs, RpD.ok ra y) (hd : RpD.d ra ≤ 63 := by decide) : Op2 (rNotInU K) ra x (rList ra) xs rBool (!decide (x ∈ xs)) := fun A B H O σ Γ s v1 v2 Q h1 h2 q => by
  obtain ⟨p, vs, rfl, g, a⟩ := h2
  refine .inr ⟨_, _, RpD.dp (ra.le unhid h1), .lst (sql (unhid.keep g)) (dpAll (a.le unhid)), shaped_of hx (by omega), shaped_of (ra := rList ra) (x := xs) hy (by show RpD.d ra + 1 ≤ 64; omega), ?_⟩
  rw [any_dt]; exact q _ _ (Le.refl _) rfl
theorem o_inUT {z w : Str} : Op2 (rInU K) rStr z rStr w rBool (isIn z w) := fun A B H O σ Γ s v1 v2 Q h1 h2 q => by cases h1; cases h2; exact .inl (x_inT (q _ _ (Le.refl _) rfl))
theorem o_notInUT {z w : Str} : Op2 (rNotInU K) rStr z rStr w rBool (!isIn z w) := fun A B H O σ Γ s v1 v2 Q h1 h2 q => by cases h1; cases h2; exact .inl (x_notInT (q _ _ (Le.refl _) rfl))
end
/-! ### any, all, sorted of numbers -/
section
variable {K : PySem.W.Frag} {bs : List Bool} {ns : List Int}
theorem All2.bls {H : Hp} : ∀ {vs : List V} {zs : List Bool}, All2 rBool H vs zs → vs = zs.map V.bl
  | [], [], _ => rfl
  | _ :: _, _ :: _, h => by rw [show _ = V.bl _ from h.1, All2.bls h.2]; rfl
  | [], _ :: _, h => h.elim
  | _ :: _, [], h => h.elim
theorem o_any : Op1 (rAny K) (rList rBool) bs rBool (bs.any id) := fun A B H O σ Γ s v Q h q => by
  obtain ⟨p, vs, rfl, g, a⟩ := h
  rw [a.bls] at g
  exact ⟨p, bs, rfl, sql (unhid.keep g), q _ _ (Le.refl _) rfl⟩
theorem o_all : Op1 (rAll K) (rList rBool) bs rBool (bs.all id) := fun A B H O σ Γ s v Q h q => by
  obtain ⟨p, vs, rfl, g, a⟩ := h
  rw [a.bls] at g
  exact ⟨p, bs, rfl, sql (unhid.keep g), q _ _ (Le.refl _) rfl⟩
end
end MC
set_option maxHeartbeats 4000000
/-! MB27: iterating over an instance whose __iter__ hands back an iterator over its list: as iterating over that list -/
namespace MC
open PySem PySem.Spec PyProof.Rows L2

/-- a promise that knows how large the heap is at the call -/
structure FnY (P : Program) (w : World) (K : PySem.W.Frag) (mg : Str → Option Value) (base : Heap) (CX : CXT) (k : Nat) (f : Addr) (fd : FuncData) (ps : List Str) (sp : Nat → Sp) : Prop where
  len : ∀ n vs H Q E, sp n vs H Q E → vs.length = ps.length
  run : ∀ (A : Around) (outer : List Env) (s : Shared) (H : Hp) (args : Args) (us : List Value) (vs : List V) (Q : VK) (E : XK), Room k A → Env0 P w K mg base A outer s H → BindsTo s fd args (ps.zip us) → Vals vs us → sp s.heap.objs.size vs H Q E →
    codeAny (model P w) A (.call (.ref f) args) (CR CX outer P w H s Q E) s
theorem fnY_of {CX : CXT} {P : Program} {w : World} {K : PySem.W.Frag} {mg : Str → Option Value} {base : Heap} {k : Nat} {f : Addr} {name qual : Str} {params : Arguments} {body : List Stmt} {scope : Scope} {dV kV doc pm cdv ct oc : Value} {an od : Option Addr}
    {osl : Array (Option Value)} {N ps : List Str} {sp : Nat → Sp} (lk : K.lookup f = some ⟨oc, od, .func (PySem.W.fnOf name qual params body scope dV kV doc pm an cdv ct), osl⟩) (hcd : PySem.W.codeIn K cdv qual = true) (S : FnScope N ps scope)
    (len : ∀ n vs H Q E, sp n vs H Q E → vs.length = ps.length)
    (hbody : ∀ (A : Around) (outer : List Env) (s : Shared) (H : Hp) (vs : List V) (Q : VK) (E : XK), Room k (A.deeper (envOfC qual scope s.heap.objs.size f cdv)) → sp s.heap.objs.size vs H Q E →
      ∃ t, PSs (cxOf CX P w K mg base N qual scope f cdv A outer s H E) body t ∧ t { nx := fun _ H' => Q .non H', rt := Q } (start N vs) H) :
    FnY P w K mg base CX (k + 1) f (PySem.W.fnOf name qual params body scope dV kV doc pm an cdv ct) ps sp := by
  refine ⟨len, fun A outer s H args us vs Q E hr e0 hb r hsp => ?_⟩
  have keep : ∀ b o, base.get? b = some o → s.heap.get? b = some o := fun b o e => (e0.bs b o e).1
  have KX := e0.mod.kin.keeps keep
  have hloc : ∀ y ∈ ps.zip us, scope.names.lookup y.1 = some .local ∨ (scope.names.lookup y.1 = some .cell ∧ ((cellsFrom (s.heap.objs.size + 1) scope.names []).lookup y.1).isSome = true) := by
    rintro ⟨n, v⟩ hy
    exact (S.par n (List.of_mem_zip hy).1).imp id fun q => ⟨q, PySem.W.cellsFrom_some _ _ _ (.inl q)⟩
  refine codeAny_call_function hr.depth (KX _ _ lk) rfl S.co S.gen rfl (PySem.W.codeRec_of KX hcd) (hb _ _ _ _ ?_)
  refine wpAny_newFunctionEnv_cells S.kind hloc fun env he s1 x => ?_
  subst he
  refine ⟨(e0.mod.nolimit.keeps keep).keeps x.toInCall.keep, codeAny_func ?_⟩
  obtain ⟨t, ht, hq⟩ := hbody A outer s H vs Q E (hr.deeper _) hsp
  refine wpAny_mono (ht.run [] s1 _ H _ (inv_start S hr.hd e0 (len _ _ _ _ _ hsp) r x) hq) (fun fl s' hs => ?_) fun _ _ z => z
  cases fl with
  | ret u => obtain ⟨v, _, H', J, rv, q⟩ := hs; exact ⟨v, H', J.os, J.bare, J.base, J.hok, rv, q⟩
  | next => obtain ⟨_, H', J, q⟩ := hs; exact ⟨V.non, H', J.os, J.bare, J.base, J.hok, rfl, q⟩
  | brk => obtain ⟨_, _, _, q⟩ := hs; exact q.elim
  | cont => obtain ⟨_, _, _, q⟩ := hs; exact q.elim

/-- __iter__: an iterator over the list that the field x holds -/
def spIter (K : PySem.W.Frag) (C : Addr) (x : Str) : Nat → Sp := fun n vs H Q _ => ∃ p dx fs l zs, vs = [.ref p] ∧ H p = some (.ins C dx fs) ∧ fs.lookup x = some (.ref l) ∧ SqL K H l zs ∧ ∀ it, H it = none → n ≤ it → Q (.ref it) (upd H it (ItO l it 0))
structure ItG (P : Program) (w : World) (K : PySem.W.Frag) (mg : Str → Option Value) (base : Heap) (k : Nat) (C : Addr) (x : Str) : Prop where
  cl : Cls K C
  no : NoAttr K C x
  ex : ∃ f fd ps, FnY P w K mg base (L2.CX P w) k f fd ps (spIter K C x) ∧ Binds K fd ps [] ∧ Spec K C "__iter__" f
section
variable {X : Cx} {tg e : Expr} {te : TE} {k : Nat} {C : Addr} {x : Str}
/-- what is iterated over is an instance of C; its list -/
def tOwn (K : PySem.W.Frag) (C : Addr) (x : Str) (te : TE) : TE := fun σ H Q => te σ H fun v H1 => ∃ p dx fs u, v = .ref p ∧ H1 p = some (.ins C dx fs) ∧ fs.lookup x = some u ∧ Q u H1
theorem pi_own (F : ItG X.prog X.w X.K X.mg X.base k C x) (hr : Room (k + 2) X.A) (he : PE X e te) : PI X tg e (iList X.K (tOwn X.K C x te)) := by
  obtain ⟨f, fd, ps, G, hb, SI⟩ := F.ex
  refine ⟨fun pins s σ H R I h => ?_⟩
  refine thn (he.run pins s σ H _ I h) fun u s1 ⟨v, H1, I1, r1, p, dx, fs, y, ev, hp, hx, l, ey, ⟨zs, hq⟩, q⟩ => ?_
  subst ev ey
  obtain rfl : u = Value.ref p := r1
  obtain ⟨od, J⟩ := inst_of I1 hp
  obtain ⟨m0, hF⟩ := I1.fr
  have hz : spIter X.K C x s1.heap.objs.size [.ref p] H1 (fun v H2 => ∃ it, v = .ref it ∧ H1 it = none ∧ s1.heap.objs.size ≤ it ∧ H2 = upd H1 it (ItO l it 0)) XE0 := ⟨p, dx, fs, l, zs, rfl, hp, hx, hq, fun it hn hs => ⟨it, rfl, hn, hs, rfl⟩⟩
  have b := hb s1 [.ref p] I1.kIn (by
    have := G.len _ _ _ _ _ hz
    simpa using this)
  rw [List.append_nil] at b
  have e0 := I1.env0
  refine PySem.W.owit_iter hF I1.ok.mod.kin J SI.at_ SI.fn (wpAny_call (codeAny_mono (G.run X.A X.stack s1 H1 ⟨[.ref p], []⟩ [.ref p] [.ref p] _ XE0 (hr.mono (by omega)) e0 b (.cons rfl .nil) hz) fun r s2 hq2 => ?_))
  match r, hq2 with
  | .error e, hq2 => exact pass_none (X := X) (σ := σ) pins H1 s1 e s2 I1 hq2
  | .ok (.ret u), hq2 =>
    obtain ⟨v, H2, I2, rv, it, ev, hn, hs, eH⟩ := I1.after hq2
    subst ev eH
    cases rv
    have eo := itO_get I2 (l := l) (i := 0) upd_same
    have st : s2.heap.IsListIter it l 0 := ⟨_, eo, rfl, rfl⟩
    unfold PySem.W.OwitIt
    refine wpAny_specialOf (name := Str.ofString "__next__") ⟨_, eo, rfl⟩ slot_listiter_next.lookup ?_
    have hi : upd H1 it (ItO l it 0) it = some (.ext fun h => h.get? it = some (GNX.itObj l 0)) := upd_same
    refine ⟨it, [it], _, _, ItX.dropH (upd H1 it (ItO l it 0)) it, rfl, ItX.inv_drop I2 hi, turn_list l it, st, fun b hb => ?_, ?_⟩
    · have e : b = it := by simpa using hb
      rw [e]
      exact ItX.inv_fp I2 hi (Nat.le_trans I1.sz hs)
    · rw [ItX.dropH_upd hn]
      exact q
  | .ok .next, hq2 => exact hq2.elim
  | .ok .brk, hq2 => exact hq2.elim
  | .ok .cont, hq2 => exact hq2.elim
end
end MC
set_option maxHeartbeats 4000000
/-! MB28: raise C(e) from D(e2), nothing handled -/
namespace MC
open PySem PySem.Spec PyProof.Rows L2

section
variable {X : Cx} {pins : List (Addr × Obj)} {σ : L2.St} {H : Hp} {s s' : Shared} {a : Addr} {φ : Heap → Prop}
theorem inv_state (I : Inv X pins σ H s) (hh : s'.heap = s.heap) (os : s'.os = s.os) (ag : AllBare s'.gens) : Inv X pins σ H s' :=
  ⟨I.ok, os.trans I.os, ag, by rw [hh]; exact I.base, by rw [hh]; exact I.loc, by rw [hh]; exact I.cell, I.free, I.freeC, by rw [hh]; exact I.pin, by rw [hh]; exact I.hok, I.len⟩
/-- what was not there at the entry may be forgotten together with its object -/
theorem untrackN (I : Inv X pins σ H s) (ha : H a = some (.ext φ)) (n0 : X.s_0.heap.get? a = none) (hx : X.ex = []) :
    ∃ G : Heap, (∀ b o, G.get? b = some o → s.heap.get? b = some o) ∧ G.get? a = none ∧ Inv X pins σ (delH H a) { s with heap := G } := by
  have ne0 : ∀ b o, X.s_0.heap.get? b = some o → b ≠ a := fun b o e z => by
    rw [z, n0] at e
    cases e
  have nH : ∀ u, X.H_0 a = some u → (∀ xs, u ≠ .tup xs) ∧ (∀ o v, u ≠ .frz o v) ∧ ∀ ps, u ≠ .tbl ps := by
    intro u e
    refine ⟨fun xs z => ?_, fun o v z => ?_, fun ps z => ?_⟩
    · subst z
      have q := I.base.tups a xs e
      rw [ha] at q
      cases q
    · subst z
      have q := I.base.frzs a o v e
      rw [ha] at q
      cases q
    · subst z
      obtain ⟨m, q⟩ := I.base.tbls a ps e
      rw [ha] at q
      cases q
  let Y : Cx := { X with H_0 := delH X.H_0 a }
  have okY : Y.Ok := { I.ok with
    bs := fun b o e => ⟨(I.ok.bs b o e).1, by
      show delH X.H_0 a b = none
      rw [delH_ne (ne0 b o (I.ok.bs b o e).1)]
      exact (I.ok.bs b o e).2⟩
    frf := fun b hb => by
      show delH X.H_0 a b = none
      by_cases e : b = a
      · rw [e]; exact delH_same
      · rw [delH_ne e]; exact I.ok.frf b hb }
  have iv : ∀ {b : Addr} {u : HO}, delH X.H_0 a b = some u → X.H_0 b = some u := fun {b u} e => by
    by_cases hb : b = a
    · rw [hb, delH_same] at e; cases e
    · rw [delH_ne hb] at e; exact e
  have IY : Inv Y pins σ H s := ⟨okY, I.os, I.bare, ⟨fun b o e n => I.base.keep b o e (by have n' : delH X.H_0 a b = none := n; rwa [delH_ne (ne0 b o e)] at n'),
    fun b o e n => I.base.slot b o e (by have n' : delH X.H_0 a b = none := n; rwa [delH_ne (ne0 b o e)] at n'), fun b o e n => I.base.free b o e (by have n' : delH X.H_0 a b = none := n; rwa [delH_ne (ne0 b o e)] at n'),
    I.base.there, fun b xs e => I.base.tups b xs (iv e), fun b o u e => I.base.frzs b o u (iv e), fun b ps e => I.base.tbls b ps (iv e)⟩, I.loc, I.cell, I.free, I.freeC, I.pin, I.hok, I.len⟩
  obtain ⟨G, gs, ga, J⟩ := Inv.untrack (X := Y) IY ha (fr0_none delH_same) hx
  have ba : ∀ b, X.H_0 b ≠ none → (b = a → False) → delH X.H_0 a b = X.H_0 b := fun b _ h => delH_ne h
  refine ⟨G, gs, ga, ⟨I.ok, J.os, J.bare, ⟨fun b o e n => J.base.keep b o e (by show delH X.H_0 a b = none; rw [delH_ne (ne0 b o e)]; exact n),
    fun b o e n => J.base.slot b o e (by show delH X.H_0 a b = none; rw [delH_ne (ne0 b o e)]; exact n), fun b o e n => J.base.free b o e (by show delH X.H_0 a b = none; rw [delH_ne (ne0 b o e)]; exact n),
    J.base.there, fun b xs e => J.base.tups b xs ?_, fun b o u e => J.base.frzs b o u ?_, fun b ps e => J.base.tbls b ps ?_⟩, J.loc, J.cell, J.free, J.freeC, J.pin, J.hok, J.len⟩⟩
  · show delH X.H_0 a b = _
    rw [delH_ne (fun z => by rw [z] at e; exact (nH _ e).1 xs rfl)]; exact e
  · show delH X.H_0 a b = _
    rw [delH_ne (fun z => by rw [z] at e; exact (nH _ e).2.1 o u rfl)]; exact e
  · show delH X.H_0 a b = _
    rw [delH_ne (fun z => by rw [z] at e; exact (nH _ e).2.2 ps rfl)]; exact e
/-- an object that is there, and was not, is tracked -/
theorem trackN {sI : Shared} {oe : Obj} (J : Inv X pins σ H sI) (k : ∀ b o, sI.heap.get? b = some o → s'.heap.get? b = some o) (hne : sI.heap.get? a = none) (ha : s'.heap.get? a = some oe) (na : H a = none) (os : s'.os = sI.os) (ag : AllBare s'.gens) :
    Inv X pins σ (upd H a (.ext fun h => h.get? a = some oe)) s' := by
  have nb : ∀ b o, sI.heap.get? b = some o → b ≠ a := fun b o e z => by rw [z, hne] at e; cases e
  have nu : ∀ b u, H b = some u → b ≠ a := fun b u e z => by rw [z, na] at e; cases e
  have u : Un X.fs [] H (upd H a (.ext fun h => h.get? a = some oe)) sI.heap s'.heap := ⟨fun b o e _ _ _ => k b o e, fun b o e _ _ _ => ⟨o.slots, k b o e⟩, fun b o e n _ => by rw [upd_ne (nb b o e)]; exact n, fun b o e _ => ⟨o, k b o e⟩,
    fun b xs e => by rw [upd_ne (nu b _ e)]; exact e, fun b o v e => by rw [upd_ne (nu b _ e)]; exact e, fun b ps e => ⟨#[], by rw [upd_ne (nu b _ e)]; simpa using e⟩⟩
  have hok : HOk X.prog X.w (upd H a (.ext fun h => h.get? a = some oe)) s'.heap := fun b v e => by
    by_cases hb : b = a
    · subst hb
      rw [upd_same] at e
      cases e
      exact ⟨ha, ⟨_, ha⟩, fun h1 h2 q kk => kk _ q⟩
    · rw [upd_ne hb] at e
      exact (J.hok b v e).stay (fun c x _ y => k c x y) (fun c hc => by rw [upd_ne (nu c _ hc)]; exact hc) fun c xs hc => by rw [upd_ne (nu c _ hc)]; exact hc
  exact inv_state (J.un (t' := sI.toks) u hok) rfl os ag
end

/-- makes an exception whose record has its six fields -/
def PMk6 (X : Cx) (e : Expr) (t : L2.St → Hp → XK → Prop) : Prop :=
  ∀ (pins : List (Addr × Obj)) (s : Shared) (σ : L2.St) (H : Hp) (Q : XK), Inv X pins σ H s → t σ H Q → wpAny (model X.prog X.w) X.A (eval e X.env) (fun u s' => L2.MkP X pins σ Q u s' ∧ L2H.Six u s') X.xe s
/-- raise .. from .. -/
def tRseF (W : WX) (m mc : L2.St → Hp → XK → Prop) : TS := fun _ σ H => m σ H fun cls d H' => ∀ a φ, H' a = none → mc σ (upd H' a (.ext φ)) fun _ _ H2 => H2 a = some (.ext φ) ∧ W cls d σ (delH H2 a)
section
variable {X : Cx} {W : WX} {e c : Expr} {m mc : L2.St → Hp → XK → Prop} {pos : Pos}
theorem ps_rseF (hc : X.calm = true) (hx : X.ex = []) (tk : Takes X W) (he : PMk6 X e m) (hz : PMk X c mc) : PS X (.Raise (some e) (some c) pos) (tRseF W m mc) := by
  refine ⟨fun pins s σ H D I h => ?_⟩
  refine wpAny_Raise_from (wpAny_mono (he pins s σ H _ I h) (fun u s1 hu => ?_) fun _ _ x => x)
  obtain ⟨⟨a, oe, vs, sI, H', cls, d, rfl, J, k, hne, ha, hzc, hd, h1, na, os, ag, r, q⟩, h5⟩ := hu
  have hi : 4 < vs.size := h5 a oe vs rfl ha hd
  have n0 : X.s_0.heap.get? a = none := by
    cases e0 : X.s_0.heap.get? a with
    | none => rfl
    | some o =>
      obtain ⟨o', z⟩ := J.base.there a o e0 (by rw [hx]; exact List.not_mem_nil)
      rw [hne] at z
      cases z
  have b0 : X.base.get? a = none := by
    cases e0 : X.base.get? a with
    | none => rfl
    | some o =>
      rw [(J.ok.bs a o e0).1] at n0
      cases n0
  have J1 := trackN J k hne ha na os ag
  refine wpAny_mono (hz pins s1 σ _ _ J1 (q a _ na)) (fun u2 s2 hu2 => ?_) fun _ _ x => x
  obtain ⟨b, ob, vb, sJ, H2, cls2, d2, rfl, J2, k2, hne2, hb, hzc2, hd2, h12, na2, os2, ag2, r2, ha2, q2⟩ := hu2
  have eaJ : sJ.heap.get? a = some oe := (J2.hok a _ ha2).1
  have ea2 : s2.heap.get? a = some oe := k2 _ _ eaJ
  obtain ⟨m0, hF⟩ := J2.fr
  obtain ⟨ra, rb⟩ := r (model X.prog X.w) X.base J2.ok.mod.kin
  obtain ⟨ra2, rb2⟩ := r2 (model X.prog X.w) sJ.heap J2.kIn
  have R : RaiseAt (model X.prog X.w) X.base s2.heap a oe vs cls := ⟨ea2, hzc.1, hd, fun b o e => k2 _ _ (hF.keep b o e), b0, ra, rb⟩
  have RB : RaiseAt (model X.prog X.w) sJ.heap s2.heap b ob vb cls2 := ⟨hb, hzc2.1, hd2, k2, hne2, ra2, rb2⟩
  have R3 := R.set 3 (.ref b)
  have R4 := R3.set 4 (.bool true)
  have h14 : ((vs.setIfInBounds 3 (Value.ref b)).setIfInBounds 4 (Value.bool true))[1]? = some Value.none := HotX.set_other (by decide) (HotX.set_other (by decide) h1)
  refine raise_from_tree R hi (.inr ⟨b, ob, vb, cls2, rfl, sJ.heap, RB⟩) (setFlight_fresh R4.at_ R4.dat h14 (raiseNew_none' (.inl (I.ok.hd hc)) ?_))
  obtain ⟨G, gs, ga, J3⟩ := untrackN J2 ha2 n0 hx
  refine tk _ _ (XE.new J3 (fun c o z => ?_) ga R4.at_ ⟨by rw [Obj.cls_mapFields, Obj.cls_mapFields]; exact hzc.1, by rw [HandSPX.dict_mapFields, HandSPX.dict_mapFields]; exact hzc.2⟩ R4.dat h14 delH_same os2 ag2 q2)
  have nc : a ≠ c := fun y => by
    rw [← y, ga] at z
    cases z
  show ((s2.heap.update a _).update a _).get? c = some o
  rw [Heap.get?_update_other _ _ nc, Heap.get?_update_other _ _ nc]
  exact k2 _ _ (gs c o z)
end
end MC
set_option maxHeartbeats 4000000
/-! MB29: raise C(e) from D(e2): the maker of the first, the reading steps -/
namespace MC
open PySem PySem.Spec PyProof.Rows L2
section
variable {X : Cx} {W : WX} {k : Nat} {C : Addr} {x f : Str} {e : Expr} {es : List Expr} {p pos : Pos} {t : TA}
theorem pmk6_exG (F : ExG X.prog X.w X.K X.mg X.base k x C f) (hr : Room (k + 1) X.A) (hg : Gl X x) (ha : PA X (e :: es) t) (hdb : (x == ("__debug__" : Str)) = false := by decide)
    (he : starEach (e :: es) X.env = (false, eval e X.env) :: starEach es X.env := by rfl) (hpl : (backTo pos (starEach es X.env)).any (·.1) = false := by rfl) :
    PMk6 X (.Call (.Name x p) (e :: es) [] pos) (tMkO C (sp_exi C f) [] t) := by
  obtain ⟨fI, fd, ps, G, b, iC, tI⟩ := F.ex
  have T := F.oex
  intro pins s σ H Q I h
  obtain ⟨nm, q, N, bs, bm, sn, sub, ab, col, dd, k0, k1, k2, k3, k5, hC, hbm⟩ := T.cls
  refine wpAny_Call_Name_kw (ld_glob I hg F.gl ?_ hdb)
  refine PySem.W.callWith_K (h₀ := X.base) I.ok.mod.kin T.kC (thn (ha.run pos pins s σ H _ I h) fun us s1 ⟨vs, H1, I1, r1, hz, q1⟩ => ⟨I1.kIn, ?_⟩) he hpl
  show wpAny _ _ (call (.ref C) us) _ _ _
  obtain ⟨hp, g, dr, tk, os⟩ := s1
  generalize ea : hp.objs.size + 1 = a
  have hsz : hp.objs.size ≤ a := by omega
  have hn : H1 a = none := I1.hok.fresh hsz
  have hq := q1 a hn
  rw [List.append_nil] at hq
  have kk : ∀ b o, hp.get? b = some o → ((hp.push (PySem.W.kdv_tup us)).push (PySem.HandSPX.excO C hp.objs.size)).get? b = some o := fun b o e => Heap.get?_push_of_some _ (Heap.get?_push_of_some _ e)
  have hget : ((hp.push (PySem.W.kdv_tup us)).push (PySem.HandSPX.excO C hp.objs.size)).get? a = some (PySem.HandSPX.excO C hp.objs.size) := by rw [← ea]; heap_get
  have I2 : Inv X pins σ (upd H1 a (exo a C none)) ⟨(hp.push (PySem.W.kdv_tup us)).push (PySem.HandSPX.excO C hp.objs.size), g, dr, tk, os⟩ :=
    I1.laid (t' := tk) (a := a) (o := exo a C none) (h' := (hp.push (PySem.W.kdv_tup us)).push (PySem.HandSPX.excO C hp.objs.size)) kk hsz (exo_ok hget)
  have rr : Vals (V.ref a :: vs) (Value.ref a :: us) := .cons rfl r1
  have hl : (Value.ref a :: us ++ []).length = ps.length := by
    rw [List.append_nil, ← rr.length]
    exact G.len _ _ _ _ hq
  have hus : us.length ≤ sizeLine := by
    rw [← Paired.length r1, sizeLine_eq]
    omega
  have b2 := b _ (Value.ref a :: us) I2.kIn hl
  rw [List.append_nil] at b2
  subst ea
  refine wpAny_call (PySem.HandSPX.call_own PySem.F.excBase_ValueError (fun Y => PySem.HandSPX.refsVE_contains Y bm hbm) (I1.kIn _ _ hC) (PySem.W.looks_findIn I1.kIn iC) (fun self => PySem.W.bind_fn I1.kIn self tI) hus
    (codeAny_mono (G.run _ X.stack _ _ _ _ _ _ XE0 (hr.make C us []) (I2.env0.make C us []) b2 rr hq) fun r s' hq' => ?_))
  match r, hq' with
  | .error er, hq' => exact pass_none (X := X) (σ := σ) pins _ _ er s' I2 hq'
  | .ok (.ret u), hq' =>
    obtain ⟨v, H2, os2, bare2, un2, hok2, rv, ev, d, fs, ea2, ed, hd1, q2⟩ := hq'
    subst ev
    obtain ⟨h2, g2, dr2, t2, os'⟩ := s'
    obtain ⟨t0, G0, J, kG, ge, hoe, na⟩ := mk_end0 (d2 := dr2) (t2 := t2) I1 hsz kk un2 hok2 os2 bare2 ea2 ed hd1
    refine ⟨rv, ⟨_, _, _, ⟨G0, g2, dr2, t2, os'⟩, _, .ref C, some d, rfl, J, kG, ge, hoe, ⟨rfl, rfl⟩, rfl, rfl, na, rfl, bare2, raises_own T.exC T.tyC, q2⟩, fun c oe vs e1 e2 e3 => ?_⟩
    cases e1
    have e4 : h2.get? (hp.objs.size + 1) = some oe := e2
    rw [hoe] at e4
    cases e4
    cases e3
    show (4 : Nat) < 6
    decide
  | .ok .next, hq' => exact False.elim hq'
  | .ok .brk, hq' => exact False.elim hq'
  | .ok .cont, hq' => exact False.elim hq'
end
section
variable {σ : L2.St} {H : Hp} {D : Ends} {W : WX}
theorem x_rseF {m mc : L2.St → Hp → XK → Prop} (h : m σ H fun cls d H' => ∀ a φ, H' a = none → mc σ (upd H' a (.ext φ)) fun _ _ H2 => H2 a = some (.ext φ) ∧ W cls d σ (delH H2 a)) : tRseF W m mc D σ H := h
/-- raise C(i) from D(j): what goes out is C with its field; all else stays -/
theorem x_rseF1 {C C2 : Addr} {f f2 : Str} {ta tb : TA} {i j : Int} (hi : i.natAbs.log2 < 1000) (hj : j.natAbs.log2 < 1000) (h1 : ∀ K : List V → Hp → Prop, (∀ H', Le H H' → K [.int i] H') → ta σ H K) (h2 : ∀ (H1 : Hp) (K : List V → Hp → Prop), Le H H1 → (∀ H', Le H1 H' → K [.int j] H') → tb σ H1 K)
    (q : ∀ d H2, Le H H2 → H2 d = some (.xd [(f, .int i)]) → W (.ref C) (some d) σ H2) : tRseF W (tMkO C (sp_exi C f) [] ta) (tMkO C2 (sp_exi C2 f2) [] tb) D σ H := by
  refine x_rseF (x_ex (h1 _ fun H0 e0 => x_kEx hi fun d H1 e1 hd a φ na => x_ex (h2 _ _ ?_ fun H3 e3 => x_kEx hj fun d2 H4 e4 hd2 => ?_)))
  · exact (e0.trans e1).trans ⟨fun b o hb => by rw [upd_ne (ne_of_none hb na)]; exact hb, fun b hb => by
      by_cases e : b = a
      · rw [e]; exact na
      · rwa [upd_ne e] at hb⟩
  · have e34 := e3.trans e4
    have ha : H4 a = some (.ext φ) := e34.keep upd_same
    refine ⟨ha, q d _ ((e0.trans e1).trans ⟨fun b o hb => ?_, fun b hb => ?_⟩) ?_⟩
    · have n : b ≠ a := ne_of_none hb na
      rw [delH_ne n]
      exact e34.keep (by rw [upd_ne n]; exact hb)
    · by_cases e : b = a
      · rw [e]; exact na
      · rw [delH_ne e] at hb
        have z := e34.fr b hb
        rwa [upd_ne e] at z
    · have n : d ≠ a := ne_of_none hd na
      rw [delH_ne n]
      exact e34.keep (by rw [upd_ne n]; exact hd)
end
end MC
set_option maxHeartbeats 4000000
/-! MB31: x in xs inside a comprehension (K told) -/
namespace MC
open PySem PySem.Spec PyProof.Rows L2
theorem op_inDk {X : Cx} (K : PySem.W.Frag) (hK : X.K = K) {k : Nat} (hr : Room k X.A) : OpR X (compareOp .In) (rInU K) := by
  subst hK
  exact op_inU (by have := hr.un; omega)
theorem op_notInDk {X : Cx} (K : PySem.W.Frag) (hK : X.K = K) {k : Nat} (hr : Room k X.A) : OpR X (compareOp .NotIn) (rNotInU K) := by
  subst hK
  exact op_notInU (by have := hr.un; omega)
/-- iterating over an own instance: its list -/
theorem x_own {K : PySem.W.Frag} {C p dx : Addr} {x : Str} {fs : List (Str × V)} {u : V} {H : Hp} {Q : VK} (hp : H p = some (.ins C dx fs)) (hx : fs.lookup x = some u) (q : Q u H) : ∃ p' dx' fs' u', V.ref p = .ref p' ∧ H p' = some (.ins C dx' fs') ∧ fs'.lookup x = some u' ∧ Q u' H :=
  ⟨p, dx, fs, u, rfl, hp, hx, q⟩
end MC
set_option maxHeartbeats 4000000
/-! MB34: comprehensions over lists, ranges, texts: values that are told, with a test; items that are new; numbers that are drawn -/
namespace MC
open PySem PySem.Spec PyProof.Rows L2
def accP (pb : Nat → Bool) (f : Nat → V) (n : Nat) : List V := (List.range n).filterMap fun k => if pb k = true then some (f k) else none
theorem accP_succ {pb : Nat → Bool} {f : Nat → V} {n : Nat} : accP pb f (n + 1) = accP pb f n ++ (if pb n = true then [f n] else []) := by
  unfold accP
  rw [List.range_succ, List.filterMap_append]
  congr 1
  cases h : pb n <;> simp [h]
theorem accP_len {pb : Nat → Bool} {f : Nat → V} {n : Nat} : (accP pb f n).length ≤ n := by
  unfold accP
  exact Nat.le_trans (List.length_filterMap_le _ _) (by simp)
theorem accP_all {f : Nat → V} {n : Nat} : accP (fun _ => true) f n = (List.range n).map f := by
  unfold accP
  simp
theorem accP_filter {α : Type} {p : α → Bool} {g : α → V} {d : α} (xs : List α) : accP (fun i => p (xs.getD i d)) (fun i => g (xs.getD i d)) xs.length = (xs.filter p).map g := by
  have h : xs = (List.range xs.length).map fun i => xs.getD i d := by
    refine List.ext_getElem (by simp) fun i h1 h2 => ?_
    simp [List.getD_eq_getElem?_getD, h1]
  conv => rhs; rw [h]
  unfold accP
  rw [List.filter_map, List.map_map]
  induction List.range xs.length with
  | nil => rfl
  | cons k r ih =>
    by_cases hp : p (xs.getD k d) = true
    · rw [List.filterMap_cons_some (by rw [if_pos hp]), List.filter_cons_of_pos (by exact hp), List.map_cons, ih]
      rfl
    · rw [List.filterMap_cons_none (by rw [if_neg hp]), List.filter_cons_of_neg (by exact hp), ih]
theorem op_neUS {X : Cx} {k : Nat} (K : PySem.W.Frag) (hK : X.K = K) (hr : L2H.RoomH k X.A) : OpR X (compareOp .NotEq) (rNeU K) := by
  subst hK
  exact op_ne.or (op_neD (by have := hr.un; omega))
section
variable {K : PySem.W.Frag} {g : TG} {tt : TT} {te ta : TE} {ws : List Nat} {σ : L2.St} {H : Hp} {Q : VK} {J : It} {n j : Nat} {G : Hp → Prop} {y : Nat → V → Prop}
/-- [e for x in it if t]: what the turn k tests and gives is told -/
theorem x_lcP (w : Walk J n G fun i H x H' => H' = H ∧ y i x) (pb : Nat → Bool) (f : Nat → V) (hn : n ≤ 1000000) (hG : ∀ H', Le H H' → G H') (hw : ∀ x, wipe ((wipe σ ws).set j x) ws = wipe σ ws)
    (ht : ∀ i x H', i < n → y i x → Le H H' → EvT tt ((wipe σ ws).set j (some x)) H' (pb i))
    (he : ∀ i x H', i < n → y i x → pb i = true → Le H H' → ∀ Qe : VK, (∀ H2, Le H' H2 → Qe (f i) H2) → te ((wipe σ ws).set j (some x)) H' Qe)
    (q : ∀ r H1, H r = none → Le H H1 → H1 r = some (.lst (accP pb f n)) → Q (.ref r) H1) : kLc (gName j) tt te ws σ Q J H := fun D hD =>
  lc_it w (Qd := fun H => Q (.ref D) H) (fun i H' => Le H H' ∧ H' D = some (.lst (accP pb f i))) ⟨le_own (Le.refl H) hD, upd_same⟩ (fun i H' _ p => hG H' p.1) (fun i x H1 H2 hi p z => by
    obtain ⟨rfl, hy⟩ := z
    refine ⟨hw _, ht i x H2 hi hy p.1 H2 (Le.refl _) _ fun H3 e3 => ?_⟩
    have hlen := accP_len (pb := pb) (f := f) (n := i)
    cases hb : pb i
    · rw [if_neg Bool.false_ne_true]
      refine ⟨p.1.trans e3, ?_⟩
      rw [accP_succ, if_neg (by rw [hb]; exact Bool.false_ne_true), List.append_nil]
      exact e3.keep p.2
    · rw [if_pos rfl]
      refine he i x H3 hi hy hb (p.1.trans e3) _ fun H4 e4 => ⟨accP pb f i, (e3.trans e4).keep p.2, by rw [sizeLine_eq]; omega, le_own ((p.1.trans e3).trans e4) hD, ?_⟩
      rw [upd_same, accP_succ, if_pos hb]) fun H' p => q D H' hD p.1 p.2
theorem et_yes {σ : L2.St} {H : Hp} : EvT tYes σ H true := fun H1 e Q q => q H1 (Le.refl _)
/-- [e for x in it]: new items, each in its relation -/
theorem x_lcQ (w : Walk J n G fun i H x H' => H' = H ∧ y i x) (R : Nat → V → Hp → Prop) (hn : n ≤ 1000000) (hG : ∀ H', Le H H' → G H') (st : ∀ i v H1 H2, Le H1 H2 → R i v H1 → R i v H2)
    (so : ∀ i v H1 D acc acc', H1 D = some (.lst acc) → R i v H1 → R i v (upd H1 D (.lst acc'))) (hw : ∀ x, wipe ((wipe σ ws).set j x) ws = wipe σ ws)
    (he : ∀ i x H', i < n → y i x → Le H H' → ∀ Qe : VK, (∀ v H2, Le H' H2 → R i v H2 → Qe v H2) → te ((wipe σ ws).set j (some x)) H' Qe)
    (q : ∀ r H1 ys, H r = none → Le H H1 → H1 r = some (.lst ys) → ys.length = n → (∀ i v, ys[i]? = some v → R i v H1) → Q (.ref r) H1) : kLc (gName j) tYes te ws σ Q J H := fun D hD =>
  lc_it w (Qd := fun H => Q (.ref D) H) (fun i H' => Le H H' ∧ ∃ ys, H' D = some (.lst ys) ∧ ys.length = i ∧ ∀ k v, ys[k]? = some v → R k v H') ⟨le_own (Le.refl H) hD, [], upd_same, rfl, fun k v e => by simp at e⟩ (fun i H' _ p => hG H' p.1) (fun i x H1 H2 hi p z => by
    obtain ⟨rfl, hy⟩ := z
    obtain ⟨e1, ys, hD1, hl, hr⟩ := p
    refine ⟨hw _, ?_⟩
    simp only [tYes, if_true]
    refine he i x _ hi hy e1 _ fun v H3 e2 hv => ⟨ys, e2.keep hD1, by rw [sizeLine_eq]; omega, le_own (e1.trans e2) hD, ys ++ [v], upd_same, by simp [hl], fun k u hk => ?_⟩
    refine so k u H3 D ys _ (e2.keep hD1) ?_
    by_cases hlt : k < ys.length
    · rw [List.getElem?_append_left hlt] at hk
      exact st k u _ _ e2 (hr k u hk)
    · rw [List.getElem?_append_right (by omega)] at hk
      have h0 : k - ys.length = 0 := by
        cases hh : k - ys.length with
        | zero => rfl
        | succ m => rw [hh] at hk; simp at hk
      rw [h0] at hk
      cases hk
      rw [show k = i by omega]
      exact hv) fun H' p => by
    obtain ⟨e1, ys, hD1, hl, hr⟩ := p
    exact q D H' ys hD e1 hD1 hl hr
/-- [e for x in it]: numbers that are drawn -/
theorem x_lcN {s l : Addr} (P : Int → Prop) (w : Walk J n (fun _ => True) fun i H x H' => H' = H ∧ y i x) (hn : n ≤ 1000000) (hs : St H s l) (hw : ∀ x, wipe ((wipe σ ws).set j x) ws = wipe σ ws)
    (he : ∀ i x H', i < n → y i x → Lw H H' → St H' s l → ∀ Qe : VK, (∀ k H2, Lw H' H2 → St H2 s l → P k → Qe (.int k) H2) → te ((wipe σ ws).set j (some x)) H' Qe)
    (q : ∀ r H1 ns, H r = none → Lw H H1 → St H1 s l → H1 r = some (.lst ((ns : List Int).map V.int)) → ns.length = n → (∀ k ∈ ns, P k) → Q (.ref r) H1) : kLc (gName j) tYes te ws σ Q J H := fun D hD => by
  have hne := hs.ne hD
  refine lc_it w (Qd := fun H => Q (.ref D) H) (fun i H' => Lw H H' ∧ St H' s l ∧ ∃ ns : List Int, H' D = some (.lst (ns.map V.int)) ∧ ns.length = i ∧ ∀ k ∈ ns, P k) ⟨lw_own (Lw.refl H) hD, hs.put hne, [], upd_same, rfl, fun k e => by cases e⟩ (fun _ _ _ _ => trivial) (fun i x H1 H2 hi p z => ?_) fun H' p => ?_
  · obtain ⟨rfl, hy⟩ := z
    obtain ⟨e1, s1, ns, hD1, hl, hr⟩ := p
    refine ⟨hw _, ?_⟩
    simp only [tYes, if_true]
    refine he i x _ hi hy e1 s1 _ fun k H3 e2 s2 hk => ⟨ns.map V.int, e2.keep hD1 (sh_ints ns), by rw [List.length_map, sizeLine_eq]; omega, lw_own (e1.trans e2) hD, s2.put hne, ns ++ [k], by rw [upd_same, List.map_append]; rfl, by simp [hl], fun m hm => ?_⟩
    rcases List.mem_append.mp hm with hm | hm
    · exact hr m hm
    · rw [List.mem_singleton.mp hm]; exact hk
  · obtain ⟨e1, s1, ns, hD1, hl, hr⟩ := p
    exact q D H' ns hD e1 s1 hD1 hl hr
/-- over a text -/
def kIS (R : It → Hp → Prop) : VK := fun x H1 => ∃ z : Str, x = .str z ∧ R (Its z) H1
theorem x_is {R : It → Hp → Prop} (h : te σ H (kIS R)) : iStr te σ H R := h
theorem x_kIS {R : It → Hp → Prop} {z : Str} (q : R (Its z) H) : kIS R (.str z) H := ⟨z, rfl, q⟩
theorem x_kR1 {R : It → Hp → Prop} {m : Int} (hm : -1000000 ≤ m ∧ m ≤ 1000000) (q : R (Itr 0 m.toNat) H) : kR1 R [.int m] H := ⟨m, rfl, by omega, by omega, q⟩
theorem x_kIL {R : It → Hp → Prop} {p : Addr} {xs : List V} (h : H p = some (.lst xs)) (q : R (Itl K p) H) : kIL K R (.ref p) H := ⟨p, rfl, ⟨xs, sql h⟩, q⟩
/-- over an instance: over its list -/
def kOwn (C : Addr) (x : Str) (Q : VK) : VK := fun v H1 => ∃ p dx fs u, v = .ref p ∧ H1 p = some (.ins C dx fs) ∧ fs.lookup x = some u ∧ Q u H1
theorem x_tOwn {C : Addr} {x : Str} (h : te σ H (kOwn C x Q)) : tOwn K C x te σ H Q := h
theorem x_kOwn {C p dx : Addr} {x : Str} {u : V} (h : H p = some (.ins C dx [(x, u)])) (q : Q u H) : kOwn C x Q (.ref p) H := ⟨p, dx, _, u, rfl, h, lk1, q⟩
theorem walk_rng {n : Nat} : Walk (Itr 0 n) n (fun _ => True) fun i H x H' => H' = H ∧ x = V.int ((i : Nat) : Int) :=
  ⟨fun _ _ hi _ => hi, fun _ _ => Nat.le_refl _, fun i _ _ _ _ _ y => ⟨y.1, by rw [y.2, Int.zero_add]⟩⟩
end
end MC
set_option maxHeartbeats 4000000
/-! MB35: readings: classes called with plain arguments, list.index, data compared; lists that are hidden -/
namespace MC
open PySem PySem.Spec PyProof.Rows L2
section
variable {K : PySem.W.Frag} {te ta : TE} {t : TA} {σ : L2.St} {H H' : Hp} {Q : VK} {O : List Addr}
theorem x_mkRG {C : Addr} {sp : List V → Hp → VK → XK → Prop} {E : L2.St → XK} (h : t σ H fun vs H1 => sp vs H1 Q (E σ)) : tMkRG C sp E (tC (.ref C)) t σ H Q := ⟨rfl, h⟩
theorem hid_lw {H H' : Hp} {O : List Addr} (e : Lw H H') : Lw (hid H O) (hid H' O) := ⟨fun a o h s => by
  unfold hid at *
  split at h
  · cases h
  · rename_i n; rw [if_neg n]; exact e.at_ a o h s, fun a h => by
  unfold hid at *
  split at h
  · rename_i n; rw [if_pos n]
  · rename_i n; rw [if_neg n]; exact e.fr a h⟩
/-- what stands is not hidden where the list was not there -/
theorem le_hid {l : Addr} (e : Le H H') (n : H l = none) : Le H (hid H' [l]) := ⟨fun a o h => hid_at (e.at_ a o h) (by rw [List.mem_singleton]; intro z; rw [z, n] at h; cases h), fun a h => by
  unfold hid at h
  split at h
  · rename_i m; rw [List.mem_singleton.mp m]; exact n
  · exact e.fr a h⟩
theorem lw_hid {l : Addr} (e : Lw H H') (n : H l = none) : Lw H (hid H' [l]) := ⟨fun a o h s => hid_at (e.at_ a o h s) (by rw [List.mem_singleton]; intro z; rw [z, n] at h; cases h), fun a h => by
  unfold hid at h
  split at h
  · rename_i m; rw [List.mem_singleton.mp m]; exact n
  · exact e.fr a h⟩
/-- all but what stands at l -/
theorem Lx.hid {l : Addr} (e : Lx l H H') : Le (MC.hid H [l]) (MC.hid H' [l]) := ⟨fun a o h => by
  unfold MC.hid at *
  split at h
  · cases h
  · rename_i n; rw [if_neg n]; exact e.at_ a o (fun z => n (List.mem_singleton.mpr z)) h, fun a h => by
  unfold MC.hid at *
  split at h
  · rename_i n; rw [if_pos n]
  · rename_i n; rw [if_neg n]; exact e.fr a h⟩
theorem st_hid {s l : Addr} (h : St (hid H O) s l) : St H s l := h.le unhid
/-- a list of texts that is compared -/
theorem dp_strs : ∀ zs : List Str, DpAll K H (zs.map V.str) (zs.map PyData.str)
  | [] => .nil
  | z :: r => .cons (.str z) (dp_strs r)
theorem dp_ints : ∀ zs : List Int, DpAll K H (zs.map V.int) (zs.map PyData.int)
  | [] => .nil
  | z :: r => .cons (.int z) (dp_ints r)
theorem dp_bls : ∀ zs : List Bool, DpAll K H (zs.map V.bl) (zs.map PyData.bool)
  | [] => .nil
  | z :: r => .cons (.bl z) (dp_bls r)
theorem eqv_strs : ∀ zs ws : List Str, PyData.eqvAll (zs.map PyData.str) (ws.map PyData.str) = decide (zs = ws)
  | [], [] => by simp [PyData.eqvAll]
  | [], w :: ws => by simp [PyData.eqvAll]
  | z :: zs, [] => by simp [PyData.eqvAll]
  | z :: zs, w :: ws => by
    have := eqv_strs zs ws
    simp only [List.map_cons, PyData.eqvAll, PyData.eqv, this]
    by_cases q1 : z = w <;> by_cases q2 : zs = ws <;> simp [q1, q2]
theorem eqv_ints : ∀ zs ws : List Int, PyData.eqvAll (zs.map PyData.int) (ws.map PyData.int) = decide (zs = ws)
  | [], [] => by simp [PyData.eqvAll]
  | [], w :: ws => by simp [PyData.eqvAll]
  | z :: zs, [] => by simp [PyData.eqvAll]
  | z :: zs, w :: ws => by
    have := eqv_ints zs ws
    simp only [List.map_cons, PyData.eqvAll, PyData.eqv, this]
    by_cases q1 : z = w <;> by_cases q2 : zs = ws <;> simp [q1, q2]
theorem lay_strs : ∀ zs : List Str, (∀ z ∈ zs, PyData.strOk z = true) → PyData.canLayAll0 (zs.map PyData.str) = true
  | [], _ => by simp [PyData.canLayAll0]
  | z :: r, h => by
    have h1 := h z List.mem_cons_self
    have h2 := lay_strs r fun w hw => h w (List.mem_cons_of_mem _ hw)
    simp [PyData.canLayAll0, PyData.canLay0, h1, h2]
theorem lay_ints : ∀ zs : List Int, PyData.canLayAll0 (zs.map PyData.int) = true
  | [] => by simp [PyData.canLayAll0]
  | z :: r => by
    have h2 := lay_ints r
    simp [PyData.canLayAll0, PyData.canLay0, h2]
theorem lay_bls : ∀ zs : List Bool, PyData.canLayAll0 (zs.map PyData.bool) = true
  | [] => by simp [PyData.canLayAll0]
  | z :: r => by
    have h2 := lay_bls r
    simp [PyData.canLayAll0, PyData.canLay0, h2]
theorem dep_flat {α : Type} (f : α → PyData) (h : ∀ x, (f x).depth = 0) : ∀ zs : List α, PyData.depthAll (zs.map f) = 0
  | [] => by simp [PyData.depthAll]
  | z :: r => by
    have h1 := h z
    have h2 := dep_flat f h r
    simp [PyData.depthAll, h1, h2]
theorem shp_list {ds : List PyData} (h : PyData.canLayAll0 ds = true) (hd : PyData.depthAll ds ≤ 60) : SeqAt.shaped (.list ds) = true := by
  show ((PyData.list ds).canLay0 && decide ((PyData.list ds).depth ≤ 64)) = true
  rw [Bool.and_eq_true]
  refine ⟨by simpa [PyData.canLay0] using h, decide_eq_true ?_⟩
  simp only [PyData.depth]
  omega
theorem shp_strs {zs : List Str} (h : ∀ z ∈ zs, PyData.strOk z = true) : SeqAt.shaped (.list (zs.map PyData.str)) = true := shp_list (lay_strs zs h) (by rw [dep_flat _ (fun x => by simp [PyData.depth])]; decide)
theorem shp_ints {zs : List Int} : SeqAt.shaped (.list (zs.map PyData.int)) = true := shp_list (lay_ints zs) (by rw [dep_flat _ (fun x => by simp [PyData.depth])]; decide)
theorem shp_bls {zs : List Bool} : SeqAt.shaped (.list (zs.map PyData.bool)) = true := shp_list (lay_bls zs) (by rw [dep_flat _ (fun x => by simp [PyData.depth])]; decide)
theorem x_neLS {p q : Addr} {zs ws : List Str} (h1 : H p = some (.lst (zs.map V.str))) (h2 : H q = some (.lst (ws.map V.str))) (o1 : ∀ z ∈ zs, PyData.strOk z = true) (o2 : ∀ z ∈ ws, PyData.strOk z = true) (hq : Q (.bl (!decide (zs = ws))) H) : rNeU K (.ref p) (.ref q) H Q := by
  refine x_neD (.lst (sql h1) (dp_strs zs)) (.lst (sql h2) (dp_strs ws)) (shp_strs o1) (shp_strs o2) ?_
  rw [show PyData.eqv (.list (zs.map PyData.str)) (.list (ws.map PyData.str)) = decide (zs = ws) by simp only [PyData.eqv]; exact eqv_strs zs ws]
  exact hq
theorem eqv_li (zs ws : List Int) : PyData.eqv (.list (zs.map PyData.int)) (.list (ws.map PyData.int)) = decide (zs = ws) := by simp only [PyData.eqv]; exact eqv_ints zs ws
theorem x_neLI {p q : Addr} {zs ws : List Int} (h1 : H p = some (.lst (zs.map V.int))) (h2 : H q = some (.lst (ws.map V.int))) (hq : Q (.bl (!decide (zs = ws))) H) : rNeU K (.ref p) (.ref q) H Q := by
  refine x_neD (.lst (sql h1) (dp_ints zs)) (.lst (sql h2) (dp_ints ws)) shp_ints shp_ints ?_
  rw [eqv_li]
  exact hq
theorem x_eqLI {p q : Addr} {zs ws : List Int} (h1 : H p = some (.lst (zs.map V.int))) (h2 : H q = some (.lst (ws.map V.int))) (hq : Q (.bl (decide (zs = ws))) H) : rEqU K (.ref p) (.ref q) H Q := by
  refine x_eqD (.lst (sql h1) (dp_ints zs)) (.lst (sql h2) (dp_ints ws)) shp_ints shp_ints ?_
  rw [eqv_li]
  exact hq
/-- a list of fours that is compared with [] -/
theorem x_neR0 {p q : Addr} {xs : List R4} (h1 : Rs H p xs) (o : ∀ x ∈ xs, x.ok) (h2 : H q = some (.lst [])) (hq : Q (.bl (!decide (xs = []))) H) : rNeU K (.ref p) (.ref q) H Q := by
  obtain ⟨us, a1, a2⟩ := h1
  refine x_neD (.lst (sql a1) a2.dp) (.lst (sql h2) .nil) (R4.shapeds o) (shp_list (by simp [PyData.canLayAll0]) (by simp [PyData.depthAll])) ?_
  rw [show PyData.eqv (.list (xs.map R4.dt)) (.list []) = decide (xs = []) by cases xs <;> simp [PyData.eqv, PyData.eqvAll]]
  exact hq
theorem any_bls (b : Bool) : ∀ r : List Bool, ((r.map PyData.bool).any fun z => PyData.eqv z (.bool b)) = decide (b ∈ r)
  | [] => by simp
  | d :: r => by
    rw [List.map_cons, List.any_cons, any_bls b r]
    simp only [PyData.eqv]
    cases d <;> cases b <;> simp
/-- b in a list of bools -/
theorem x_notInB {p : Addr} {bs : List Bool} {b : Bool} (h : H p = some (.lst (bs.map V.bl))) (hq : Q (.bl (!decide (b ∈ bs))) H) : rNotInD K (.bl b) (.ref p) H Q := by
  refine x_notInD (.bl b) (.lst (sql h) (dp_bls bs)) (by cases b <;> rfl) shp_bls ?_
  rw [any_bls]
  exact hq
theorem R4s.drop {H : Hp} : ∀ {vs : List V} {xs : List R4} (i : Nat), R4s H vs xs → R4s H (vs.drop i) (xs.drop i)
  | [], [], i, _ => by simp [R4s]
  | _ :: _, _ :: _, 0, h => h
  | _ :: _, _ :: _, i + 1, h => R4s.drop i h.2
  | [], _ :: _, _, h => h.elim
  | _ :: _, [], _, h => h.elim
theorem R4s.take {H : Hp} : ∀ {vs : List V} {xs : List R4} (i : Nat), R4s H vs xs → R4s H (vs.take i) (xs.take i)
  | [], [], i, _ => by simp [R4s]
  | _ :: _, _ :: _, 0, h => trivial
  | _ :: _, _ :: _, i + 1, h => ⟨h.1, R4s.take i h.2⟩
  | [], _ :: _, _, h => h.elim
  | _ :: _, [], _, h => h.elim
theorem R4s.cat {H : Hp} {us : List V} {ys : List R4} (h2 : R4s H us ys) : ∀ {vs : List V} {xs : List R4}, R4s H vs xs → R4s H (vs ++ us) (xs ++ ys)
  | [], [], _ => h2
  | _ :: _, _ :: _, h => ⟨h.1, R4s.cat h2 h.2⟩
  | [], _ :: _, h => h.elim
  | _ :: _, [], h => h.elim
/-- a four in a list of fours -/
theorem x_in4 {p l : Addr} {x : R4} {vs : List V} {xs : List R4} (hx : H p = some (.tup x.vs)) (hl : H l = some (.lst vs)) (hr : R4s H vs xs) (ox : x.ok) (oxs : ∀ y ∈ xs, y.ok) (q : Q (.bl (decide (x ∈ xs))) H) : rInD K (.ref p) (.ref l) H Q := by
  refine x_inD (R4.dp hx) (.lst (sql hl) hr.dp) (R4.shaped ox) (R4.shapeds oxs) ?_
  rw [R4.any]
  exact q
theorem x_index4 {p l : Addr} {x : R4} {vs : List V} {xs : List R4} {j : Nat} (hx : H p = some (.tup x.vs)) (hl : H l = some (.lst vs)) (hr : R4s H vs xs) (ox : x.ok) (oxs : ∀ y ∈ xs, y.ok) (hj : xs[j]? = some x) (hb : ∀ (i : Nat) (y : R4), i < j → xs[i]? = some y → y ≠ x) (q : Q (.int (j : Nat)) H) : rIndexD K (.ref l) [.ref p] H Q := by
  refine ⟨l, .ref p, x.dt, xs.map R4.dt, j, x.dt, rfl, rfl, .lst (sql hl) hr.dp, R4.dp hx, R4.shapeds oxs, R4.shaped ox, by rw [List.getElem?_map, hj]; rfl, by rw [R4.eqv]; simp, fun m z hm hz => ?_, q⟩
  rw [List.getElem?_map] at hz
  obtain ⟨y, hy, rfl⟩ := Option.map_eq_some_iff.mp hz
  rw [R4.eqv]
  exact decide_eq_false (hb m y hm hy)
end
end MC
set_option maxHeartbeats 4000000
/-! MB37: x is not None -/
namespace MC
open PySem PySem.Spec PyProof.Rows L2
def rNoN : R2 := fun x y H Q => y = .non ∧ Q (.bl (!decide (x = .non))) H
theorem op_isNotN {X : Cx} : OpR X (compareOp .IsNot) rNoN := op_notN
theorem x_notN {x : V} {H : Hp} {Q : VK} (q : Q (.bl (!decide (x = .non))) H) : rNoN x .non H Q := ⟨rfl, q⟩
end MC
set_option maxHeartbeats 4000000
/-! MB38: typed readings, further: tuple targets, ranges as lists, min, if-expressions -/
namespace MC
open PySem PySem.Spec PyProof.Rows L2
def rMin2 : List V → Hp → VK → Prop := fun xs H Q => ∃ i j, xs = [.int i, .int j] ∧ Q (.int (if j < i then j else i)) H
theorem call_minU2 {X : Cx} (hc : X.calm = true) : CallR X (.builtin "min") rMin2 := call_min2 hc
theorem x_min2 {H : Hp} {Q : VK} {i j : Int} (q : Q (.int (if j < i then j else i)) H) : rMin2 [.int i, .int j] H Q := ⟨i, j, rfl, q⟩
section
variable {α β γ δ : Type} {Γ : Gm} {ra : Rp α} {rb : Rp β} {rc : Rp γ} {x : α} {y : β} {te ta tb tc : TE} {tt : TT} {b : Bool} {i j lo hi : Int} {K : PySem.W.Frag}
theorem o_min : OpB rMin2 rInt i rInt j rInt (if j < i then j else i) := fun A B H O σ Γ s v1 v2 Q h1 h2 q => by cases h1; cases h2; exact x_min2 (q _ _ (Le.refl _) rfl)
theorem all2_rng {H : Hp} (lo : Int) (n : Nat) : All2 rInt H ((List.range n).map fun (k : Nat) => V.int (lo + (k : Int))) (rngL lo n) := by
  have h := All2.ofMap (r := rInt) (H := H) V.int (fun _ => rfl) (rngL lo n)
  have e : (rngL lo n).map V.int = (List.range n).map fun (k : Nat) => V.int (lo + (k : Int)) := by
    unfold rngL
    rw [List.map_map]
    rfl
  rwa [e] at h
/-- list(range(a, b)) -/
theorem p_rngL2 (ha : Pg ta Γ rInt lo) (hb : Pg tb Γ rInt hi) (hz : -1000000 < lo ∧ lo < 1000000 ∧ -1000000 < hi ∧ hi < 1000000) : Pg (tCB rListR (tCons (tCB rRng2 (tCons ta (tCons tb tNil))) tNil)) Γ (rList rInt) (rngL lo (hi - lo).toNat) := fun A B H O σ s Q q =>
  ha A B H O σ s _ fun v H1 e1 h1 => hb A B H1 O σ (s.go e1) _ fun v2 H2 e2 h2 => by
    cases h1; cases h2
    refine x_rng2 (Q := fun v H3 => rListR [v] H3 Q) fun p H3 n3 e3 h3 => x_listR h3 hz fun l H4 n4 e4 h4 => ?_
    exact q _ _ (((e1.trans e2).trans e3).trans e4) ⟨l, _, rfl, hid_at h4 ((((s.go e1).go e2).go e3).fresh n4), all2_rng lo _⟩
/-- a if t else b -/
theorem p_ifExp {u w : α} (h : Tg tt Γ b) (ha : b = true → Pg ta Γ ra u) (hb : b = false → Pg tb Γ ra w) : Pg (tIf tt ta tb) Γ ra (if b = true then u else w) := fun A B H O σ s Q q => h A B H O σ s _ fun H1 e1 => by
  cases b with
  | true => rw [if_pos rfl]; exact ha rfl A B H1 O σ (s.go e1) Q fun v H2 e2 hv => q v H2 (e1.trans e2) (by rw [if_pos rfl]; exact hv)
  | false => rw [if_neg Bool.false_ne_true]; exact hb rfl A B H1 O σ (s.go e1) Q fun v H2 e2 hv => q v H2 (e1.trans e2) (by rw [if_neg Bool.false_ne_true]; exact hv)
end
section
variable {A : Hp × List Addr} {B H : Hp} {O : List Addr} {σ : L2.St} {Γ : Gm} {α β γ δ : Type} {r : Rp α} {rb : Rp β} {rc : Rp γ} {rd : Rp δ} {x : α} {y : β} {z : γ} {w : δ} {D : Ends} {te : TE} {u : TS} {K : PySem.W.Frag} {i j k l : Nat}
/-- x, y = .. -/
theorem s_un2 (s : Sta A B H O σ Γ) (h : Pg te Γ (rT2 r rb) (x, y)) (q : ∀ σ' H', Sta A B H' O σ' ((Γ.set i (some (.pure r x))).set j (some (.pure rb y))) → u D σ' H') : tSeq (tAsg te (gTup K 2 (gCons (gName i) (gCons (gName j) gNil)))) u D σ H := by
  refine h A B H O σ s _ fun v H1 e1 hv => ?_
  obtain ⟨p, u1, u2, rfl, hp, h1, h2⟩ := hv
  refine x_g2 (unhid.keep hp) ?_
  exact q _ _ (((s.go e1).set h1).set h2)
theorem s_un3 (s : Sta A B H O σ Γ) (h : Pg te Γ (rT3 r rb rc) (x, y, z)) (q : ∀ σ' H', Sta A B H' O σ' (((Γ.set i (some (.pure r x))).set j (some (.pure rb y))).set k (some (.pure rc z))) → u D σ' H') : tSeq (tAsg te (gTup K 3 (gCons (gName i) (gCons (gName j) (gCons (gName k) gNil))))) u D σ H := by
  refine h A B H O σ s _ fun v H1 e1 hv => ?_
  obtain ⟨p, u1, u2, u3, rfl, hp, h1, h2, h3⟩ := hv
  refine x_g3 (unhid.keep hp) ?_
  exact q _ _ ((((s.go e1).set h1).set h2).set h3)
end
/-! what an old promise gives, typed: it needs nothing but what stands beside the hidden lists -/
theorem rp_un {α : Type} {r : Rp α} {H : Hp} {O : List Addr} {v : V} {x : α} (h : r.at_ (hid H O) v x) : r.at_ H v x := r.le unhid h
end MC
set_option maxHeartbeats 4000000
/-! MB39: list(o), o of a class with __len__ whose __iter__ hands back its list's iterator -/
namespace PySem
open Sem (wp)
section
variable {prog : Program} {w : World} {A : Around} {E : Value → Shared → Prop} {s : Shared}
/-- the last turn of an iterator over a list: the iterator's object is there behind it -/
theorem mc_list_end {it l : Addr} {i : Nat} {items} {Q : Option Value → Shared → Prop} (hh : A.handled = none)
    (hit : s.heap.IsListIter it l i) (hl : s.heap.IsList l items) (hx : items[i]? = none)
    (hQ : ∀ h', Heap.ExtBut it s.heap h' → (∃ o, h'.get? it = some o) → Q none { s with heap := h' }) : wpAny (model prog w) A (pyNext (.ref it)) Q E s := by
  obtain ⟨o, ho, hc, hd⟩ := id hit
  obtain ⟨ol, hol, _, nl, hdl⟩ := hl
  unfold pyNext
  refine wpAny_bind (wpAny_attempt (wpAny_callSpecial?_slot (name := Str.ofString "__next__") hit.typeIs slot_listiter_next
    (wpAny_call_entry slot_listiter_next hit.typeIs entry_listiter_next ?_ (args_listiter_next _))))
  show wpAny _ _ (field (.ref it) 0 >>= _) _ _ s
  refine wpAny_bind (wpAny_field ho hd (x := .ref l) rfl ?_)
  show wpAny _ _ (if (Value.ref l == Value.none) = true then _ else _) _ _ s
  rw [if_neg (show ¬ ((Value.ref l == Value.none) = true) from Bool.false_ne_true)]
  show wpAny _ _ (field (.ref it) 1 >>= _) _ _ s
  refine wpAny_bind (wpAny_field ho hd (x := .int i 0) rfl ?_)
  show wpAny _ _ (seqItems? (.ref l) >>= _) _ _ s
  refine wpAny_bind (wpAny_seqItems hol hdl ?_)
  simp only [Int.toNat_natCast, hx]
  refine wpAny_bind (wpAny_rule (wpAny_bind (wpAny_setField ho hd (by simp) ?_)))
  show wpAny _ _ (newExc (.type "StopIteration") [] >>= _) _ _ _
  refine wpAny_bind ?_
  simp only [newExc, newTuple]
  refine wpAny_bind (wpAny_newObj_type ?_ (by size_fits))
  refine wpAny_bind (m := firstArgMember _ _) (wpAny_of_eq (a := Value.none) (by first | rfl | (simp only [firstArgMember]; rfl)) ?_)
  refine wpAny_newObj_type ?_ (by size_fits)
  simp only [raiseNew]
  refine wpAny_bind (wpAny_handled ?_)
  rw [show A.in1.handled = none from hh]
  refine wpAny_bind (wpAny_pure (wpAny_throw ?_))
  refine wpAny_bind (wpAny_isInstance (T := "StopIteration") (b := true) ⟨_, Heap.get?_push_size _ rfl, rfl⟩ isSubtype_stop ?_)
  exact wpAny_pure (hQ _ (((Heap.SameBut.update ..).extBut.push _).push _) ⟨_, Heap.get?_push_of_some _ (Heap.get?_push_of_some _ (Heap.get?_update_self _ ho (Obj.isFreed_of_fields (Obj.data_mapFields hd _))))⟩)
end
end PySem
namespace MC
open PySem PySem.Spec PyProof.Rows L2
def lstIt (it l : Addr) (i : Nat) : HO := .ext fun h => h.IsListIter it l i
section
variable {X : Cx} {pins : List (Addr × Obj)} {σ : L2.St} {A1 : Around}
/-- the list at q is filled off the list's iterator at it -/
theorem fill_loopL {q it l : Addr} {zs : List V} {Rs : Result → Shared → Prop} {H0 : Hp} (hh : A1.in1.handled = none) (hz : zs.length ≤ sizeLine) (hne : q ≠ it) (hlq : l ≠ q) (hli : l ≠ it) (hl : H0 l = some (.lst zs))
    (hdone : ∀ H s, Inv X pins σ H s → (∀ b, b ≠ q → b ≠ it → H b = H0 b) → H q = some (.lst zs) → Rs (.ok (.ret .none)) s) :
    ∀ (m i : Nat) (H : Hp) (s : Shared), zs.length - i = m → i ≤ zs.length → Inv X pins σ H s → (∀ b, b ≠ q → b ≠ it → H b = H0 b) → H q = some (.lst (zs.take i)) → (∃ φ, H it = some (.ext φ) ∧ ∀ h, φ h → h.IsListIter it l i) →
      codeAny (model X.prog X.w) A1 (.builtin "list.extend.loop" ⟨[.ref q, .ref it, .none], []⟩) Rs s := by
  intro m
  induction m with
  | zero =>
    intro i H s hm hi I ho hq ⟨φ, hit, hφ⟩
    have e : i = zs.length := by omega
    subst e
    have ht := hφ _ (I.hok it _ hit).1
    have hl' : H l = some (.lst zs) := (ho l hlq hli).trans hl
    obtain ⟨its, rv, pl, hz'⟩ := I.list (sql hl')
    refine codeAny_builtin PySem.F.entry_extend_loop ?_
    rw [Around.under_plainId PySem.F.plain_extend_loop _]
    show wpAny _ A1.in1 (pyNext (.ref it) >>= _) _ _ s
    refine wpAny_bind (mc_list_end hh ht pl.isList (by rw [List.getElem?_toArray]; exact rv.none_of (List.getElem?_eq_none (Nat.le_refl _))) fun h' he hx => ?_)
    have I1 : Inv X pins σ (upd H it (.ext fun _ => True)) { s with heap := h' } := I.write (t' := s.toks) (x := it) (e := it) (by rw [hit]; exact True.intro) (.inl rfl) (fun b u hb e => he b u hb e) hx ⟨True.intro, hx, fun _ _ _ _ => True.intro⟩
    refine wpAny_pure (hdone _ _ I1 (fun b h1 h2 => by rw [upd_ne h2]; exact ho b h1 h2) ?_)
    rw [upd_ne hne, hq, List.take_of_length_le (Nat.le_refl _)]
  | succ m ih =>
    intro i H s hm hi I ho hq ⟨φ, hit, hφ⟩
    have hlt : i < zs.length := by omega
    have ht := hφ _ (I.hok it _ hit).1
    have hl' : H l = some (.lst zs) := (ho l hlq hli).trans hl
    obtain ⟨its, rv, pl, hz'⟩ := I.list (sql hl')
    obtain ⟨wv, hw, rw'⟩ := rv.get (List.getElem?_eq_getElem hlt)
    refine codeAny_builtin PySem.F.entry_extend_loop ?_
    rw [Around.under_plainId PySem.F.plain_extend_loop _]
    show wpAny _ A1.in1 (pyNext (.ref it) >>= _) _ _ s
    refine wpAny_bind (wpAny_pyNext_list_item ht pl.isList (x := wv) (by rw [List.getElem?_toArray]; exact hw) fun h' hit' sb => ?_)
    have hx : ∃ o, h'.get? it = some o := by obtain ⟨o, e, _⟩ := hit'; exact ⟨o, e⟩
    have I1 : Inv X pins σ (upd H it (lstIt it l (i + 1))) { s with heap := h' } := I.write (t' := s.toks) (x := it) (e := it) (by rw [hit]; exact True.intro) (.inl rfl) (fun b u hb e => (sb.2 b hb).trans e) hx ⟨hit', hx, fun h1 h2 q k => let ⟨o, e, r⟩ := (q : h1.IsListIter it l (i + 1)); ⟨o, k _ e, r⟩⟩
    show wpAny _ A1.in1 (updateSeq q (·.push wv) >>= _) _ _ _
    have hq1 : upd H it (lstIt it l (i + 1)) q = some (.lst (zs.take i)) := by rw [upd_ne hne]; exact hq
    obtain ⟨hz1, its1, k, r2, hl2, e⟩ := I1.lstM hq1
    have hlen : its1.length = i := by rw [← hl2, List.length_take]; omega
    refine wpAny_bind (wpAny_updateSeq e rfl (wpAny_pure ⟨plainId_quiet PySem.F.plain_extend_loop _, ?_⟩) (by rw [List.size_toArray]; omega) (by show (its1.toArray.push _).size ≤ sizeLine + 1; rw [Array.size_push, List.size_toArray]; omega))
    have et : zs.take (i + 1) = zs.take i ++ [zs[i]] := by
      rw [List.take_add_one, List.getElem?_eq_getElem hlt]; rfl
    refine ih (i + 1) _ _ (by omega) hlt (I1.lset (its' := its1 ++ [wv]) (t' := s.toks) (ys := zs.take (i + 1)) hq1 e (by simp) (by rw [et]; exact r2.append (.cons rw' .nil)) (by rw [List.length_take]; omega)) (fun b h1 h2 => ?_) upd_same ⟨_, by rw [upd_ne (Ne.symm hne)]; exact upd_same, fun h z => z⟩
    rw [upd_ne h1, upd_ne h2]; exact ho b h1 h2

/-- list(o): a new list of what stands in the list that the field x holds -/
def rListY (C : Addr) (x : Str) (spL : Sp) : List V → Hp → VK → Prop := fun xs H Q => ∃ a dx fs l zs, xs = [.ref a] ∧ H a = some (.ins C dx fs) ∧ fs.lookup x = some (.ref l) ∧ H l = some (.lst zs) ∧ zs.length ≤ sizeLine ∧
  (∀ H1, Le H H1 → spL [.ref a] H1 (fun v H2 => ∃ n : Int, v = .int n ∧ (0 ≤ n ∧ n ≤ sizeLine) ∧ Le H1 H2) XE0) ∧ ∀ q H3, H q = none → Le H H3 → H3 q = some (.lst zs) → Q (.ref q) H3
variable {C fl : Addr} {x : Str} {fdL : FuncData} {psL : List Str} {spL : Sp} {k kl : Nat}
theorem call_listY (F : ItG X.prog X.w X.K X.mg X.base k C x)
    (FL : FnOk X.prog X.w X.K X.mg X.base (L2.CX X.prog X.w) kl fl fdL psL spL) (bL : Binds X.K fdL psL []) (SL : Spec X.K C "__len__" fl) (hc : X.calm = true) (hr : Room (k + 3) X.A) (hrL : Room (kl + 3) X.A) : CallR X (.type "list") (rListY C x spL) := by
  obtain ⟨fi, fdI, psI, FI, bI, SI⟩ := F.ex
  intro pins s σ H xs us Q I rv h
  obtain ⟨a, dx, fs, l, zs, rfl, ha, hlk, hlH, hzl, hsl, hQ⟩ := h
  obtain ⟨u, rfl, ru⟩ := rv.one
  cases ru
  refine callType_codes (Q₁ := fun obj s₁ => obj = .ref s.heap.objs.size ∧ s₁ = { s with heap := s.heap.push { cls := .type "list", data := .seq #[] } }) PySem.F.called_list (PySem.F.typeCall_list_1 _) PySem.F.entry_list_init
    (code_list_new _ ⟨rfl, rfl⟩) fun obj s₁ h₁ => ?_
  obtain ⟨rfl, rfl⟩ := h₁
  have hS : (s.heap.push { cls := .type "list", data := .seq #[] }).get? s.heap.objs.size = some { cls := .type "list", data := .seq #[] } := Heap.get?_push_size _ rfl
  refine ⟨⟨_, hS, rfl⟩, PySem.F.args_list_init_2 _ _, ?_⟩
  have fr : H s.heap.objs.size = none := I.hok.fresh (Nat.le_refl _)
  generalize hqd : s.heap.objs.size = q at *
  have I1 : Inv X pins σ (upd H q (.lst [])) { s with heap := s.heap.push { cls := .type "list", data := .seq #[] } } := by rw [← hqd]; exact I.lnew (its := []) (t' := s.toks) .nil (Nat.zero_le _)
  show wpAny _ _ (do let old ← Builtin.List.listItems (.ref q); Builtin.List.listUpdate (.ref q) (fun _ => #[]); letGo old.toList.reverse; Builtin.List.listExtendWith (.ref q) (.ref a) .none) _ _ _
  refine wpAny_bind ?_
  unfold Builtin.List.listItems
  refine wpAny_bind (wpAny_seqItems hS rfl (wpAny_pure ?_))
  show wpAny _ _ (updateSeq q (fun _ => #[]) >>= fun _ => letGo (#[] : Array Value).toList.reverse >>= fun _ => Builtin.List.listExtendWith (.ref q) (.ref a) .none) _ _ _
  refine wpAny_bind (wpAny_updateSeq hS rfl ?_)
  have I2 := I1.lset (f := fun _ => #[]) (its := []) (its' := []) (ys := []) (t' := s.toks) upd_same hS rfl .nil (Nat.zero_le _)
  rw [upd_upd] at I2
  refine wpAny_bind (wpAny_letGo ?_)
  have hqa : q ≠ a := Ne.symm (ne_of_none ha fr)
  have hlq : l ≠ q := ne_of_none hlH fr
  have ha2 : upd H q (.lst []) a = some (.ins C dx fs) := by rw [upd_ne (Ne.symm hqa)]; exact ha
  have hl2 : upd H q (.lst []) l = some (.lst zs) := by rw [upd_ne hlq]; exact hlH
  obtain ⟨od, J⟩ := inst_of I2 ha2
  obtain ⟨m0, hF⟩ := I2.fr
  unfold Builtin.List.listExtendWith
  refine wpAny_bind (J.type.here ?_)
  have h1 : Builtin.List.listSameRef (.ref q) (.ref a) = false := by simp [Builtin.List.listSameRef, hqa]
  have h2 : (Value.ref C == Value.type "list") = false := rfl
  have h3 : (Value.ref C == Value.type "tuple") = false := rfl
  simp only [h1, h2, h3, Bool.or_false, Bool.false_eq_true, if_false]
  have hz : ∀ n, spIter X.K C x n [.ref a] (upd H q (.lst [])) (fun v H2 => ∃ it, v = .ref it ∧ upd H q (.lst []) it = none ∧ H2 = upd (upd H q (.lst [])) it (ItO l it 0)) XE0 := fun _ => ⟨a, dx, fs, l, zs, rfl, ha2, hlk, sql hl2, fun it hn _ => ⟨it, rfl, hn, rfl⟩⟩
  have e := I2.env0
  have e0 : Env0 X.prog X.w X.K X.mg X.base X.A.in1.in1 X.stack _ (upd H q (.lst [])) := ⟨e.frames, e.mod, e.bs, e.bsz, e.funs, e.frf, e.hok, e.bare⟩
  have b := bI _ [.ref a] I2.kIn (by
    have := FI.len _ _ _ _ _ (hz 0)
    simpa using this)
  rw [List.append_nil] at b
  refine wpAny_bind (PySem.W.owit_iter hF I2.ok.mod.kin J SI.at_ SI.fn (wpAny_call (codeAny_mono (FI.run X.A.in1.in1 X.stack _ (upd H q (.lst [])) ⟨[.ref a], []⟩ [.ref a] [.ref a] _ XE0 (hr.in1.in1.mono (by omega)) e0 b (.cons rfl .nil) (hz _)) fun r s3 hq3 => ?_)))
  match r, hq3 with
  | .error e, hq3 => exact pass_none (X := X) (σ := σ) pins _ _ e s3 I2 hq3
  | .ok .next, hq3 => exact hq3.elim
  | .ok .brk, hq3 => exact hq3.elim
  | .ok .cont, hq3 => exact hq3.elim
  | .ok (.ret u), hq3 =>
  obtain ⟨v, H1, I3, rx, it, ev, hn, eH⟩ := I2.after hq3
  subst ev eH
  cases rx
  have hqi : it ≠ q := fun z => by rw [z, upd_same] at hn; cases hn
  have hn0 : H it = none := by rw [upd_ne hqi] at hn; exact hn
  have hli : l ≠ it := fun z => by rw [← z, hlH] at hn0; cases hn0
  have e3 : Le H (upd (upd H q (.lst [])) it (ItO l it 0)) := (Le.new fr).trans (Le.new hn)
  have hit : upd (upd H q (.lst [])) it (ItO l it 0) it = some (ItO l it 0) := upd_same
  have ht : s3.heap.IsListIter it l 0 := ⟨_, itO_get I3 hit, rfl, rfl⟩
  have hsL := hsl _ e3
  have ha3 : upd (upd H q (.lst [])) it (ItO l it 0) a = some (.ins C dx fs) := e3.keep ha
  have hq1 : upd (upd H q (.lst [])) it (ItO l it 0) q = some (.lst []) := by rw [upd_ne (Ne.symm hqi)]; exact upd_same
  have hl1 : upd (upd H q (.lst [])) it (ItO l it 0) l = some (.lst zs) := e3.keep hlH
  generalize upd (upd H q (.lst [])) it (ItO l it 0) = H1 at *
  unfold PySem.W.OwitIt
  refine wpAny_specialOf ht.typeIs slot_listiter_next.lookup ?_
  refine wpAny_bind (wpAny_holding ?_)
  obtain ⟨od3, J3⟩ := inst_of I3 ha3
  obtain ⟨m3, hF3⟩ := I3.fr
  have hint : wpAny (model X.prog X.w) X.A.in1.in1 (Builtin.List.listLengthHint (.ref a)) (fun r s4 => ∃ H2, Inv X pins σ H2 s4 ∧ Le H1 H2) X.xe s3 := by
    unfold Builtin.List.listLengthHint
    refine wpAny_bind (wpAny_bind (J3.type.here ((PySem.W.looks_findIn I3.kIn SL.at_).here ?_)))
    refine PySem.W.KFB.if_not rfl ?_
    refine PySem.W.KFB.if_so rfl ?_
    refine wpAny_bind (wpAny_rule ?_)
    refine wpAny_bind (wpAny_attempt (PySem.W.len_K hF3 I3.ok.mod.kin J3 SL.at_ SL.fn (thn (run_at0 (vs := [.ref a]) FL hrL.in1.in1.in1 rfl bL I3 (.cons rfl .nil) hsL) fun v s4 hv => ?_)))
    obtain ⟨x, H2, I4, rx, n, ex, hn, e4⟩ := hv
    subst ex
    obtain ⟨t4, rfl⟩ := rx
    refine ⟨⟨hn.1, by have := hn.2; rw [sizeLine_eq] at this; omega⟩, ?_⟩
    refine wpAny_bind (wpAny_pure ?_)
    have ht4 : Builtin.List.listTooLong n.toNat = false := by
      unfold Builtin.List.listTooLong
      exact decide_eq_false (by have := hn.2; omega)
    show wpAny _ _ (if Builtin.List.listTooLong n.toNat = true then _ else pure (n != 0)) _ _ _
    rw [if_neg (by rw [ht4]; decide)]
    exact wpAny_pure ⟨H2, I4.tok _, e4⟩
  refine thn hint fun r s4 ⟨H2, I4, e4⟩ => ?_
  have hq2 := e4.keep hq1
  have hit2 := e4.keep hit
  have hl2' := e4.keep hl1
  have go : ∀ s5, Inv X pins σ H2 s5 → wpAny (model X.prog X.w) X.A.in1.in1 (again (.builtin "list.extend.loop" ⟨[.ref q, .ref it, .none], []⟩) : Sem Fin) (fun fin s' => match fin with | .done f => wants (fun r s₂ => r = Value.none ∧ EP X pins σ Q (.ref q) s₂) X.xe (.ok f) s' | .again c' => c'.quiet = true ∧ codeAny (model X.prog X.w) X.A.in1 c' (wants (fun r s₂ => r = Value.none ∧ EP X pins σ Q (.ref q) s₂) X.xe) s')
      (fun e s' => wants (fun r s₂ => r = Value.none ∧ EP X pins σ Q (.ref q) s₂) X.xe (.error e) s') s5 := fun s5 I5 =>
    wpAny_pure ⟨plainId_quiet PySem.F.plain_extend_loop _, fill_loopL (A1 := X.A.in1) (H0 := H2) (l := l) (zs := zs) (I.ok.hd hc) hzl (Ne.symm hqi) hlq hli hl2' (fun H3 s' I' ho hl => ⟨rfl, .ref q, H3, I', rfl, hQ q H3 fr ⟨fun b o hb => by
        rw [ho b (ne_of_none hb fr) (ne_of_none hb hn0)]
        exact (e3.trans e4).at_ b o hb, fun b hb => by
        by_cases z1 : b = q
        · rw [z1]; exact fr
        · by_cases z2 : b = it
          · rw [z2]; exact hn0
          · rw [ho b z1 z2] at hb
            exact (e3.trans e4).fr b hb⟩ hl⟩) zs.length 0 H2 s5 (by omega) (Nat.zero_le _) I5 (fun _ _ _ => rfl) (by simpa using hq2) ⟨_, hit2, fun h z => ⟨_, z, rfl, rfl⟩⟩⟩
  refine wpAny_ite_split (fun _ => ?_) (fun _ => go s4 I4)
  refine wpAny_bind (wpAny_rule ?_)
  refine wpAny_bind ?_
  show wpAny _ _ (updateSeq q (·.push .none) >>= fun _ => updateSeq q (·.pop)) _ _ _
  obtain ⟨z4, its4, k4, r4, hl4, e4'⟩ := I4.lstM hq2
  cases r4
  refine wpAny_bind (wpAny_updateSeq e4' rfl ?_)
  have I5 := I4.lset (f := (·.push Value.none)) (its' := [Value.none]) (ys := [.non]) (t' := s4.toks) hq2 e4' (by simp) (.cons rfl .nil) (by rw [List.length_singleton, sizeLine_eq]; decide)
  obtain ⟨z5, its5, k5, r5, hl5, e5⟩ := I5.lstM upd_same
  obtain ⟨u5, rfl, ru5⟩ := r5.one
  refine wpAny_updateSeq e5 rfl ?_ (by show 1 ≤ sizeLine; rw [sizeLine_eq]; decide) (by show 0 ≤ sizeLine + 1; exact Nat.zero_le _)
  have I6 := I5.lset (f := (·.pop)) (its := [u5]) (its' := []) (ys := []) (t' := s4.toks) upd_same e5 (by rfl) .nil (Nat.zero_le _)
  rw [upd_upd] at I6
  have hH : upd H2 q (.lst []) = H2 := by
    funext b
    by_cases hb : b = q
    · rw [hb, upd_same, hq2]
    · rw [upd_ne hb]
  rw [hH] at I6
  exact go _ I6
end
section
variable {K : PySem.W.Frag} {X : Cx} {C : Addr} {x : Str} {spL : Sp} {k : Nat}
/-- by the bundles -/
theorem call_listYG {kl : Nat} (F : ItG X.prog X.w X.K X.mg X.base k C x) (O : OpG X.prog X.w X.K X.mg X.base kl C "__len__" spL) (hc : X.calm = true) (hr : Room (k + 3) X.A) (hrL : Room (kl + 3) X.A) : CallR X (.type "list") (rListY C x spL) := by
  obtain ⟨f, fd, ps, G, b, S, _⟩ := O.ex
  exact call_listY F G b S hc hr hrL
theorem x_listY {H : Hp} {Q : VK} {a dx l : Addr} {fs : List (Str × V)} {zs : List V} (ha : H a = some (.ins C dx fs)) (hk : fs.lookup x = some (.ref l)) (hl : H l = some (.lst zs)) (hz : zs.length ≤ 1000000)
    (hs : ∀ H1, Le H H1 → spL [.ref a] H1 (fun v H2 => ∃ n : Int, v = .int n ∧ (0 ≤ n ∧ n ≤ sizeLine) ∧ Le H1 H2) XE0) (q : ∀ p H1, H p = none → Le H H1 → H1 p = some (.lst zs) → Q (.ref p) H1) : rListY C x spL [.ref a] H Q :=
  ⟨a, dx, fs, l, zs, rfl, ha, hk, hl, by rw [sizeLine_eq]; omega, hs, q⟩
end
/-! list(f(..)) of a generator def -/
structure GfG (P : Program) (w : World) (K : PySem.W.Frag) (mg : Str → Option Value) (base : Heap) (k : Nat) (x : Str) (sp : SpG) : Prop where
  ex : ∃ f fd ps, GFn P w K mg base k f fd ps sp ∧ mg x = some (.ref f) ∧ PySem.W.keepIn K (.ref f) = true ∧ Binds K fd ps []
section
variable {X : Cx} {k : Nat} {x : Str} {sp : SpG} {e : Expr} {es : List Expr} {t : TA} {p pos : Pos}
theorem pgen_fG (F : GfG X.prog X.w X.K X.mg X.base k x sp) (hr : Room k X.A) (hg : Gl X x) (ha : PA X (e :: es) t) (hdb : (x == ("__debug__" : Str)) = false := by decide)
    (he : starEach (e :: es) X.env = (false, eval e X.env) :: starEach es X.env := by rfl) (hpl : (backTo pos (starEach es X.env)).any (·.1) = false := by rfl) :
    PGen X k (.Call (.Name x p) (e :: es) [] pos) (tCallG sp [] XE0 t) XE0 := by
  obtain ⟨f, fd, ps, G, hm, hk, hb⟩ := F.ex
  exact pgen_call G hr hg hm hk hb .nil ha hdb he hpl
theorem x_gf {σ : L2.St} {H : Hp} {cont : List V → Hp → Prop} (h : t σ H fun vs H1 => sp vs H1 cont XE0) : tCallG sp [] XE0 t σ H cont := by
  have e : (fun (vs : List V) (H1 : Hp) => sp (vs ++ []) H1 cont XE0) = fun vs H1 => sp vs H1 cont XE0 := by funext vs H1; rw [List.append_nil]
  show t σ H (fun vs H1 => sp (vs ++ []) H1 cont XE0)
  rw [e]; exact h
end
/-- a number at a module's top -/
theorem pe_globI {X : Cx} {x : Str} {n : Int} {pos : Pos} (hg : Gl X x) (hm : ∃ t, X.mg x = some (.int n t)) (hd : (x == ("__debug__" : Str)) = false := by decide) : PE X (.Name x pos) (tC (.int n)) := by
  obtain ⟨t, h⟩ := hm
  exact pe_glob hg h ⟨t, rfl⟩ hd
end MC
set_option maxHeartbeats 4000000
/-! MB40: isinstance of the caught exception within its suite; types as values, typed -/
namespace MC
open PySem PySem.Spec PyProof.Rows L2
def rIsQ (K : PySem.W.Frag) (a : Addr) (cls : Value) (d : Option Addr) : List V → Hp → VK → Prop := fun xs H Q => ∃ D, cls = .ref D ∧ ExcT K D ∧ rIsP K D a d xs H Q
theorem call_isQk {X : Cx} (K : PySem.W.Frag) (hK : X.K = K) {a : Addr} {cls : Value} {d : Option Addr} {oe : Obj} (hp : (a, oe) ∈ X.pn) (hz : Zc cls d oe) (hf : ∃ vs, oe.data = .fields vs) : CallR X (.builtin "isinstance") (rIsQ K a cls d) := by
  subst hK
  intro pins s σ H xs us Q I r h
  obtain ⟨D, rfl, C, h⟩ := h
  exact call_isP C hp hz hf pins s σ H xs us Q I r h
theorem x_isq {K : PySem.W.Frag} {a D : Addr} {d : Option Addr} {cv : Value} {y : V} {b : Bool} {H : Hp} {Q : VK} (C : ExcT K D) (hcv : ∀ u, RelV y u → u = cv) (hd : ∀ dd, d = some dd → ∃ fs, H dd = some (.xd fs)) (hk : PySem.W.kitOne K (.ref D) cv = some b) (q : Q (.bl b) H) : rIsQ K a (.ref D) d [.ref a, y] H Q := ⟨D, rfl, C, x_isp hcv hd hk q⟩
/-! typed -/
def rTy (n : String) : Rp Unit := ⟨fun _ v _ => v = .ty n, fun _ h => h⟩
section
variable {K : PySem.W.Frag} {Γ : Gm} {n : String} {z : Str} {i : Int} {b c : Bool}
theorem p_ty : Pg (tC (.ty n)) Γ (rTy n) () := fun A B H O σ s Q q => q _ H (Le.refl _) rfl
theorem o_isiS (hk : PySem.W.kitOne K (.type "str") (.type n) = some c) : OpB (rIsi K) rStr z (rTy n) () rBool c := fun A B H O σ Γ s v1 v2 Q h1 h2 q => by
  cases h1; cases h2; exact x_isS hk (q _ _ (Le.refl _) rfl)
theorem o_isiI (hk : PySem.W.kitOne K (.type "int") (.type n) = some c) : OpB (rIsi K) rInt i (rTy n) () rBool c := fun A B H O σ Γ s v1 v2 Q h1 h2 q => by
  cases h1; cases h2; exact x_isI hk (q _ _ (Le.refl _) rfl)
theorem o_isiBl (hk : PySem.W.kitOne K (.type "bool") (.type n) = some c) : OpB (rIsi K) rBool b (rTy n) () rBool c := fun A B H O σ Γ s v1 v2 Q h1 h2 q => by
  cases h1; cases h2; exact x_isB hk (q _ _ (Le.refl _) rfl)
end
/-! lists and what is drawn -/
theorem sh_long {xs : List V} (h : 4 ≤ xs.length) : stSh (.lst xs) = false := by
  match xs, h with
  | _ :: _ :: _ :: _ :: _, _ => unfold stSh; split <;> first | rfl | (rename_i e; cases e)
theorem atI_m1 {α : Type} {l : List α} {v : α} (h : l[l.length - 1]? = some v) : atI l (-1) = some v := by
  have hl : 0 < l.length := by
    cases l with
    | nil => simp at h
    | cons _ _ => simp
  unfold atI ixN
  rw [if_neg (by decide), if_pos (by omega)]
  show l[((-1 : Int) + (l.length : Int)).toNat]? = _
  rw [show ((-1 : Int) + (l.length : Int)).toNat = l.length - 1 by omega]
  exact h
end MC
set_option maxHeartbeats 4000000
/-! K7A: k07's text, facts, answers, promises (began as K3A, K4A) -/
namespace K7
open PySem PySem.Spec PyProof.Rows L2 MC

def top (i : Nat) : Stmt := PySem.Challenge.pw_manyclerks_k07_overlaps_of_all_texts.main.body.getD i (.Pass ⟨0, 0, 0, 0⟩)
abbrev FnP (K : PySem.W.Frag) (x q : Str) (st : Stmt) (f : Addr) (fd : FuncData) : Prop := FunD K x q (defArgs st) (defBody st) (defScope st) [] [] f fd
abbrev s__wall : Stmt := top 0
abbrev N__wall : List PySem.Str := ["k"]
abbrev s_BadSign___init__ : Stmt := inClass (top 3) 0
abbrev N_BadSign___init__ : List PySem.Str := ["self", "at"]
abbrev s_BadRule___init__ : Stmt := inClass (top 4) 0
abbrev N_BadRule___init__ : List PySem.Str := ["self", "part"]
abbrev s_BadLine___init__ : Stmt := inClass (top 5) 0
abbrev N_BadLine___init__ : List PySem.Str := ["self", "line"]
abbrev s_BadText___init__ : Stmt := inClass (top 6) 0
abbrev N_BadText___init__ : List PySem.Str := ["self", "size"]
abbrev s_NoRule___init__ : Stmt := inClass (top 8) 0
abbrev N_NoRule___init__ : List PySem.Str := ["self", "number"]
abbrev s_SameRule___init__ : Stmt := inClass (top 9) 0
abbrev N_SameRule___init__ : List PySem.Str := ["self", "number"]
abbrev s_NoPlace___init__ : Stmt := inClass (top 10) 0
abbrev N_NoPlace___init__ : List PySem.Str := ["self", "at"]
abbrev s_Mismatch___init__ : Stmt := inClass (top 11) 0
abbrev N_Mismatch___init__ : List PySem.Str := ["self", "at"]
abbrev s_BadRun___init__ : Stmt := inClass (top 12) 0
abbrev N_BadRun___init__ : List PySem.Str := ["self", "index"]
abbrev s__places : Stmt := top 17
abbrev N__places : List PySem.Str := ["rule", "at", "stop", "beside"]
theorem sc__places : FnScope ["rule", "at", "stop", "beside"] ["rule", "at"] (defScope s__places) := ⟨rfl, rfl, rfl, by decide +kernel, rfl, by decide +kernel, by decide +kernel⟩
abbrev s__places_in : Stmt := top 18
abbrev N__places_in : List PySem.Str := ["text", "rule", "at", "beside", "taken", "many", "place"]
theorem sc__places_in : FnScope ["text", "rule", "at", "beside", "taken", "many", "place"] ["text", "rule", "at"] (defScope s__places_in) := ⟨rfl, rfl, rfl, by decide +kernel, rfl, by decide +kernel, by decide +kernel⟩
abbrev s__meet : Stmt := top 19
abbrev N__meet : List PySem.Str := ["one", "other", "place"]
theorem sc__meet : FnScope ["one", "other", "place"] ["one", "other"] (defScope s__meet) := ⟨rfl, rfl, rfl, by decide +kernel, rfl, by decide +kernel, by decide +kernel⟩
abbrev s__kind : Stmt := top 20
abbrev N__kind : List PySem.Str := ["first", "second", "forward", "backward"]
theorem sc__kind : FnScope ["first", "second", "forward", "backward"] ["first", "second"] (defScope s__kind) := ⟨rfl, rfl, rfl, by decide +kernel, rfl, by decide +kernel, by decide +kernel⟩
abbrev s_disturbance : Stmt := top 21
abbrev N_disturbance : List PySem.Str := ["book", "text", "first", "second", "places", "index", "number", "at"]
theorem sc_disturbance : FnScope ["book", "text", "first", "second", "places", "index", "number", "at"] ["book", "text", "first", "second"] (defScope s_disturbance) := ⟨rfl, rfl, rfl, by decide +kernel, rfl, by decide +kernel, by decide +kernel⟩
abbrev s__needed : Stmt := top 22
abbrev N__needed : List PySem.Str := ["rule", "at", "place", "index"]
theorem sc__needed : FnScope ["rule", "at", "place", "index"] ["rule", "at", "place"] (defScope s__needed) := ⟨rfl, rfl, rfl, by decide +kernel, rfl, by decide +kernel, by decide +kernel⟩
abbrev s__overlap : Stmt := top 23
abbrev N__overlap : List PySem.Str := ["one", "other", "shift", "kind", "start", "stop", "signs", "place", "mine", "theirs"]
theorem sc__overlap : FnScope ["one", "other", "shift", "kind", "start", "stop", "signs", "place", "mine", "theirs"] ["one", "other", "shift"] (defScope s__overlap) := ⟨rfl, rfl, rfl, by decide +kernel, rfl, by decide +kernel, by decide +kernel⟩
abbrev s_overlaps : Stmt := top 24
abbrev N_overlaps : List PySem.Str := ["book", "rules", "first", "second", "least", "shift", "found"]
theorem sc_overlaps : GScope ["book", "rules", "first", "second", "least", "shift", "found"] ["book"] (defScope s_overlaps) := ⟨rfl, rfl, rfl, by decide +kernel, rfl, by decide +kernel, by decide +kernel⟩
abbrev s_is_sign : Stmt := top 26
abbrev N_is_sign : List PySem.Str := ["word"]
theorem sc_is_sign : FnScope ["word"] ["word"] (defScope s_is_sign) := ⟨rfl, rfl, rfl, by decide +kernel, rfl, by decide +kernel, by decide +kernel⟩
abbrev s__check_signs : Stmt := top 27
abbrev N__check_signs : List PySem.Str := ["signs", "at", "sign"]
theorem sc__check_signs : FnScope ["signs", "at", "sign"] ["signs"] (defScope s__check_signs) := ⟨rfl, rfl, rfl, by decide +kernel, rfl, by decide +kernel, by decide +kernel⟩
abbrev s_Text___init__ : Stmt := inClass (top 29) 1
abbrev N_Text___init__ : List PySem.Str := ["self", "signs", "closed"]
theorem sc_Text___init__ : FnScope ["self", "signs", "closed"] ["self", "signs", "closed"] (defScope s_Text___init__) := ⟨rfl, rfl, rfl, by decide +kernel, rfl, by decide +kernel, by decide +kernel⟩
abbrev s_Text___len__ : Stmt := inClass (top 29) 5
abbrev N_Text___len__ : List PySem.Str := ["self"]
theorem sc_Text___len__ : FnScope ["self"] ["self"] (defScope s_Text___len__) := ⟨rfl, rfl, rfl, by decide +kernel, rfl, by decide +kernel, by decide +kernel⟩
abbrev s__check_part : Stmt := top 31
abbrev N__check_part : List PySem.Str := ["part", "signs", "least", "most"]
theorem sc__check_part : FnScope ["part", "signs", "least", "most"] ["part", "signs", "least", "most"] (defScope s__check_part) := ⟨rfl, rfl, rfl, by decide +kernel, rfl, by decide +kernel, by decide +kernel⟩
abbrev s__split_line : Stmt := top 32
abbrev N__split_line : List PySem.Str := ["line", "begin", "middle", "stop"]
theorem sc__split_line : FnScope ["line", "begin", "middle", "stop"] ["line"] (defScope s__split_line) := ⟨rfl, rfl, rfl, by decide +kernel, rfl, by decide +kernel, by decide +kernel⟩
abbrev s__read_rule : Stmt := top 33
abbrev N__read_rule : List PySem.Str := ["line", "number", "parts", "old", "new", "left", "right", "e"]
theorem sc__read_rule : FnScope ["line", "number", "parts", "old", "new", "left", "right", "e"] ["line", "number"] (defScope s__read_rule) := ⟨rfl, rfl, rfl, by decide +kernel, rfl, by decide +kernel, by decide +kernel⟩
abbrev s_Rule___init__ : Stmt := inClass (top 34) 0
abbrev N_Rule___init__ : List PySem.Str := ["self", "old", "new", "left", "right"]
theorem sc_Rule___init__ : FnScope ["self", "old", "new", "left", "right"] ["self", "old", "new", "left", "right"] (defScope s_Rule___init__) := ⟨rfl, rfl, rfl, by decide +kernel, rfl, by decide +kernel, by decide +kernel⟩
abbrev s_Rule_pattern : Stmt := inClass (top 34) 2
abbrev N_Rule_pattern : List PySem.Str := ["self"]
theorem sc_Rule_pattern : FnScope ["self"] ["self"] (defScope s_Rule_pattern) := ⟨rfl, rfl, rfl, by decide +kernel, rfl, by decide +kernel, by decide +kernel⟩
abbrev s_Rule___eq__ : Stmt := inClass (top 34) 5
abbrev N_Rule___eq__ : List PySem.Str := ["self", "other"]
theorem sc_Rule___eq__ : FnScope ["self", "other"] ["self", "other"] (defScope s_Rule___eq__) := ⟨rfl, rfl, rfl, by decide +kernel, rfl, by decide +kernel, by decide +kernel⟩
abbrev s_Rule___str__ : Stmt := inClass (top 34) 6
abbrev N_Rule___str__ : List PySem.Str := ["self"]
theorem sc_Rule___str__ : FnScope ["self"] ["self"] (defScope s_Rule___str__) := ⟨rfl, rfl, rfl, by decide +kernel, rfl, by decide +kernel, by decide +kernel⟩
abbrev s_Rule_fits : Stmt := inClass (top 34) 8
abbrev N_Rule_fits : List PySem.Str := ["self", "text", "at", "size", "pattern", "begin"]
theorem sc_Rule_fits : FnScope ["self", "text", "at", "size", "pattern", "begin"] ["self", "text", "at"] (defScope s_Rule_fits) := ⟨rfl, rfl, rfl, by decide +kernel, rfl, by decide +kernel, by decide +kernel⟩
abbrev s_Book___init__ : Stmt := inClass (top 36) 1
abbrev N_Book___init__ : List PySem.Str := ["self", "rules", "rule"]
theorem sc_Book___init__ : FnScope ["self", "rules", "rule"] ["self", "rules"] (defScope s_Book___init__) := ⟨rfl, rfl, rfl, by decide +kernel, rfl, by decide +kernel, by decide +kernel⟩
abbrev s_Book_read : Stmt := inClass (top 36) 2
abbrev N_Book_read : List PySem.Str := ["cls", "written", "rules", "number", "line"]
theorem sc_Book_read : FnScope ["cls", "written", "rules", "number", "line"] ["cls", "written"] (defScope s_Book_read) := ⟨rfl, rfl, rfl, by decide +kernel, rfl, by decide +kernel, by decide +kernel⟩
abbrev s_Book___len__ : Stmt := inClass (top 36) 3
abbrev N_Book___len__ : List PySem.Str := ["self"]
theorem sc_Book___len__ : FnScope ["self"] ["self"] (defScope s_Book___len__) := ⟨rfl, rfl, rfl, by decide +kernel, rfl, by decide +kernel, by decide +kernel⟩
abbrev s_Book___iter__ : Stmt := inClass (top 36) 4
abbrev N_Book___iter__ : List PySem.Str := ["self"]
theorem sc_Book___iter__ : FnScope ["self"] ["self"] (defScope s_Book___iter__) := ⟨rfl, rfl, rfl, by decide +kernel, rfl, by decide +kernel, by decide +kernel⟩
abbrev s_Book__check_number : Stmt := inClass (top 36) 5
abbrev N_Book__check_number : List PySem.Str := ["self", "number"]
theorem sc_Book__check_number : FnScope ["self", "number"] ["self", "number"] (defScope s_Book__check_number) := ⟨rfl, rfl, rfl, by decide +kernel, rfl, by decide +kernel, by decide +kernel⟩
abbrev s_Book___getitem__ : Stmt := inClass (top 36) 6
abbrev N_Book___getitem__ : List PySem.Str := ["self", "number"]
theorem sc_Book___getitem__ : FnScope ["self", "number"] ["self", "number"] (defScope s_Book___getitem__) := ⟨rfl, rfl, rfl, by decide +kernel, rfl, by decide +kernel, by decide +kernel⟩
abbrev s_Book_add : Stmt := inClass (top 36) 9
abbrev N_Book_add : List PySem.Str := ["self", "rule", "number", "known"]
theorem sc_Book_add : FnScope ["self", "rule", "number", "known"] ["self", "rule"] (defScope s_Book_add) := ⟨rfl, rfl, rfl, by decide +kernel, rfl, by decide +kernel, by decide +kernel⟩
abbrev s_Book_drop : Stmt := inClass (top 36) 10
abbrev N_Book_drop : List PySem.Str := ["self", "number"]
theorem sc_Book_drop : FnScope ["self", "number"] ["self", "number"] (defScope s_Book_drop) := ⟨rfl, rfl, rfl, by decide +kernel, rfl, by decide +kernel, by decide +kernel⟩
abbrev s_Book_written : Stmt := inClass (top 36) 14
abbrev N_Book_written : List PySem.Str := ["self", "rule"]
theorem sc_Book_written : FnScope ["self", "rule"] ["self"] (defScope s_Book_written) := ⟨rfl, rfl, rfl, by decide +kernel, rfl, by decide +kernel, by decide +kernel⟩
abbrev s__law_next : Stmt := top 38
abbrev N__law_next : List PySem.Str := ["_law_state", "_law_many", "_law_digit"]
theorem sc__law_next : FnScope ["_law_state", "_law_many", "_law_digit"] ["_law_state", "_law_many"] (defScope s__law_next) := ⟨rfl, rfl, rfl, by decide +kernel, rfl, by decide +kernel, by decide +kernel⟩
abbrev s__law_whole : Stmt := top 39
abbrev N__law_whole : List PySem.Str := ["_law_told"]
theorem sc__law_whole : FnScope ["_law_told"] ["_law_told"] (defScope s__law_whole) := ⟨rfl, rfl, rfl, by decide +kernel, rfl, by decide +kernel, by decide +kernel⟩
abbrev s__law_letters_of : Stmt := top 40
abbrev N__law_letters_of : List PySem.Str := ["_law_state", "_law_base", "_law_many", "_law_at", "_law_step", "_law_k"]
theorem sc__law_letters_of : FnScope ["_law_state", "_law_base", "_law_many", "_law_at", "_law_step", "_law_k"] ["_law_state"] (defScope s__law_letters_of) := ⟨rfl, rfl, rfl, by decide +kernel, rfl, by decide +kernel, by decide +kernel⟩
abbrev s__law_word_of : Stmt := top 41
abbrev N__law_word_of : List PySem.Str := ["_law_state", "_law_signs", "_law_size", "_law_shift", "_law_many", "_law_word", "_law_k", "_law_at"]
theorem sc__law_word_of : FnScope ["_law_state", "_law_signs", "_law_size", "_law_shift", "_law_many", "_law_word", "_law_k", "_law_at"] ["_law_state", "_law_signs", "_law_size", "_law_shift"] (defScope s__law_word_of) := ⟨rfl, rfl, rfl, by decide +kernel, rfl, by decide +kernel, by decide +kernel⟩
abbrev s__law_rule_of : Stmt := top 42
abbrev N__law_rule_of : List PySem.Str := ["_law_state", "_law_signs", "_law_k", "_law_size", "_law_left", "_law_old", "_law_new"]
theorem sc__law_rule_of : FnScope ["_law_state", "_law_signs", "_law_k", "_law_size", "_law_left", "_law_old", "_law_new"] ["_law_state", "_law_signs", "_law_k"] (defScope s__law_rule_of) := ⟨rfl, rfl, rfl, by decide +kernel, rfl, by decide +kernel, by decide +kernel⟩
abbrev s__law_rules_of : Stmt := top 43
abbrev N__law_rules_of : List PySem.Str := ["_law_state", "_law_signs", "_law_rules", "_law_k", "_law_rule"]
theorem sc__law_rules_of : FnScope ["_law_state", "_law_signs", "_law_rules", "_law_k", "_law_rule"] ["_law_state", "_law_signs"] (defScope s__law_rules_of) := ⟨rfl, rfl, rfl, by decide +kernel, rfl, by decide +kernel, by decide +kernel⟩
abbrev s__law_text_of : Stmt := top 44
abbrev N__law_text_of : List PySem.Str := ["_law_state", "_law_signs", "_law_rules", "_law_many", "_law_text", "_law_k", "_law_rule"]
theorem sc__law_text_of : FnScope ["_law_state", "_law_signs", "_law_rules", "_law_many", "_law_text", "_law_k", "_law_rule"] ["_law_state", "_law_signs", "_law_rules", "_law_many"] (defScope s__law_text_of) := ⟨rfl, rfl, rfl, by decide +kernel, rfl, by decide +kernel, by decide +kernel⟩
abbrev s__law_form_of : Stmt := top 45
abbrev N__law_form_of : List PySem.Str := ["_law_rule"]
theorem sc__law_form_of : FnScope ["_law_rule"] ["_law_rule"] (defScope s__law_form_of) := ⟨rfl, rfl, rfl, by decide +kernel, rfl, by decide +kernel, by decide +kernel⟩
abbrev s__law_book_of : Stmt := top 46
abbrev N__law_book_of : List PySem.Str := ["_law_rules", "_law_rule"]
theorem sc__law_book_of : FnScope ["_law_rules", "_law_rule"] ["_law_rules"] (defScope s__law_book_of) := ⟨rfl, rfl, rfl, by decide +kernel, rfl, by decide +kernel, by decide +kernel⟩
abbrev s__law_fits : Stmt := top 47
abbrev N__law_fits : List PySem.Str := ["_law_rule", "_law_shown", "_law_closed", "_law_at", "_law_many", "_law_pattern", "_law_begin", "_law_row", "_law_k"]
theorem sc__law_fits : FnScope ["_law_rule", "_law_shown", "_law_closed", "_law_at", "_law_many", "_law_pattern", "_law_begin", "_law_row", "_law_k"] ["_law_rule", "_law_shown", "_law_closed", "_law_at"] (defScope s__law_fits) := ⟨rfl, rfl, rfl, by decide +kernel, rfl, by decide +kernel, by decide +kernel⟩
abbrev s__law_steps_of : Stmt := top 48
abbrev N__law_steps_of : List PySem.Str := ["_law_rules", "_law_shown", "_law_closed", "_law_steps", "_law_at", "_law_number"]
theorem sc__law_steps_of : FnScope ["_law_rules", "_law_shown", "_law_closed", "_law_steps", "_law_at", "_law_number"] ["_law_rules", "_law_shown", "_law_closed"] (defScope s__law_steps_of) := ⟨rfl, rfl, rfl, by decide +kernel, rfl, by decide +kernel, by decide +kernel⟩
abbrev s__law_is_book : Stmt := top 49
abbrev N__law_is_book : List PySem.Str := ["_law_book", "_law_rules", "_law_lines", "_law_rule"]
theorem sc__law_is_book : FnScope ["_law_book", "_law_rules", "_law_lines", "_law_rule"] ["_law_book", "_law_rules"] (defScope s__law_is_book) := ⟨rfl, rfl, rfl, by decide +kernel, rfl, by decide +kernel, by decide +kernel⟩
abbrev s__law_places : Stmt := top 50
abbrev N__law_places : List PySem.Str := ["_law_rule", "_law_many", "_law_at", "_law_begin", "_law_size", "_law_row", "_law_takes", "_law_k", "_law_place"]
theorem sc__law_places : FnScope ["_law_rule", "_law_many", "_law_at", "_law_begin", "_law_size", "_law_row", "_law_takes", "_law_k", "_law_place"] ["_law_rule", "_law_many", "_law_at"] (defScope s__law_places) := ⟨rfl, rfl, rfl, by decide +kernel, rfl, by decide +kernel, by decide +kernel⟩
abbrev s__law_meet : Stmt := top 51
abbrev N__law_meet : List PySem.Str := ["_law_one", "_law_two", "_law_place"]
theorem sc__law_meet : FnScope ["_law_one", "_law_two", "_law_place"] ["_law_one", "_law_two"] (defScope s__law_meet) := ⟨rfl, rfl, rfl, by decide +kernel, rfl, by decide +kernel, by decide +kernel⟩
abbrev s__law_kind_of : Stmt := top 52
abbrev N__law_kind_of : List PySem.Str := ["_law_one", "_law_two"]
theorem sc__law_kind_of : FnScope ["_law_one", "_law_two"] ["_law_one", "_law_two"] (defScope s__law_kind_of) := ⟨rfl, rfl, rfl, by decide +kernel, rfl, by decide +kernel, by decide +kernel⟩
abbrev s__law_refused : Stmt := top 53
abbrev N__law_refused : List PySem.Str := ["_law_book", "_law_text", "_law_one", "_law_two", "_law_due", "_law_told", "e", "_law_pure", "_law_based"]
theorem sc__law_refused : FnScope ["_law_book", "_law_text", "_law_one", "_law_two", "_law_due", "_law_told", "e", "_law_pure", "_law_based"] ["_law_book", "_law_text", "_law_one", "_law_two", "_law_due"] (defScope s__law_refused) := ⟨rfl, rfl, rfl, by decide +kernel, rfl, by decide +kernel, by decide +kernel⟩
abbrev s__law_due_of : Stmt := top 54
abbrev N__law_due_of : List PySem.Str := ["_law_rules", "_law_shown", "_law_one", "_law_two", "_law_first", "_law_second"]
theorem sc__law_due_of : FnScope ["_law_rules", "_law_shown", "_law_one", "_law_two", "_law_first", "_law_second"] ["_law_rules", "_law_shown", "_law_one", "_law_two"] (defScope s__law_due_of) := ⟨rfl, rfl, rfl, by decide +kernel, rfl, by decide +kernel, by decide +kernel⟩
abbrev s__law_tells : Stmt := top 55
abbrev N__law_tells : List PySem.Str := ["_law_book", "_law_text", "_law_one", "_law_two", "_law_due", "_law_told"]
theorem sc__law_tells : FnScope ["_law_book", "_law_text", "_law_one", "_law_two", "_law_due", "_law_told"] ["_law_book", "_law_text", "_law_one", "_law_two", "_law_due"] (defScope s__law_tells) := ⟨rfl, rfl, rfl, by decide +kernel, rfl, by decide +kernel, by decide +kernel⟩
abbrev s__law_shifts : Stmt := top 56
abbrev N__law_shifts : List PySem.Str := ["_law_rows", "_law_one", "_law_two", "_law_kind", "_law_found", "_law_row"]
theorem sc__law_shifts : FnScope ["_law_rows", "_law_one", "_law_two", "_law_kind", "_law_found", "_law_row"] ["_law_rows", "_law_one", "_law_two", "_law_kind"] (defScope s__law_shifts) := ⟨rfl, rfl, rfl, by decide +kernel, rfl, by decide +kernel, by decide +kernel⟩
abbrev s__law_strangers : Stmt := top 57
abbrev N__law_strangers : List PySem.Str := ["_law_state", "_law_rules", "_law_shown", "_law_closed", "_law_many", "_law_pairs", "_law_number", "_law_at", "_law_one", "_law_two"]
theorem sc__law_strangers : FnScope ["_law_state", "_law_rules", "_law_shown", "_law_closed", "_law_many", "_law_pairs", "_law_number", "_law_at", "_law_one", "_law_two"] ["_law_state", "_law_rules", "_law_shown", "_law_closed"] (defScope s__law_strangers) := ⟨rfl, rfl, rfl, by decide +kernel, rfl, by decide +kernel, by decide +kernel⟩
abbrev s_law : Stmt := top 58
abbrev N_law : List PySem.Str := ["_law_script", "_law_state", "_law_kind", "_law_closed", "_law_signs", "_law_rules", "_law_many", "_law_shown", "_law_book", "_law_text", "_law_steps", "_law_rows", "_law_one", "_law_odd", "_law_rest", "_law_moved", "_law_at", "_law_two", "_law_due", "_law_step"]
theorem sc_law : FnScope ["_law_script", "_law_state", "_law_kind", "_law_closed", "_law_signs", "_law_rules", "_law_many", "_law_shown", "_law_book", "_law_text", "_law_steps", "_law_rows", "_law_one", "_law_odd", "_law_rest", "_law_moved", "_law_at", "_law_two", "_law_due", "_law_step"] ["_law_script"] (defScope s_law) := ⟨rfl, rfl, rfl, by decide +kernel, rfl, by decide +kernel, by decide +kernel⟩

/-! ### what the top has left -/
structure Ad where
  cClerkError : Addr
  cBadRun : Addr
  cNoRule : Addr
  cMismatch : Addr
  cText : Addr
  cRule : Addr
  cBook : Addr
inductive ExK where
  | run | none | place
  deriving DecidableEq
def Ad.x (a : Ad) : ExK → Addr
  | .run => a.cBadRun
  | .none => a.cNoRule
  | .place => a.cMismatch
def ExK.fld : ExK → Str
  | .run => "index"
  | .none => "number"
  | .place => "at"
structure Txt (K : PySem.W.Frag) (mg : Str → Option Value) (a : Ad) : Prop where
  f_len : mg "len" = none
  f_abs : mg "abs" = none
  f_int : mg "int" = none
  f_list : mg "list" = none
  f_str : mg "str" = none
  f_bool : mg "bool" = none
  f_tuple : mg "tuple" = none
  f_isinstance : mg "isinstance" = none
  f_iter : mg "iter" = none
  f_max : mg "max" = none
  f_min : mg "min" = none
  f_any : mg "any" = none
  f_range : mg "range" = none
  f_enumerate : mg "enumerate" = none
  f_ValueError : mg "ValueError" = none
  g_ClerkError : mg "ClerkError" = some (.ref a.cClerkError)
  g_BadRun : mg "BadRun" = some (.ref a.cBadRun)
  g_NoRule : mg "NoRule" = some (.ref a.cNoRule)
  g_Mismatch : mg "Mismatch" = some (.ref a.cMismatch)
  g_Text : mg "Text" = some (.ref a.cText)
  g_Rule : mg "Rule" = some (.ref a.cRule)
  g_Book : mg "Book" = some (.ref a.cBook)
  g__FARTHEST : ∃ t, mg "_FARTHEST" = some (.int 4 t)
  fS : FldOk K a.cText "signs"
  fC : FldOk K a.cText "closed"
  fO : FldOk K a.cRule "old"
  fN : FldOk K a.cRule "new"
  fL : FldOk K a.cRule "left"
  fR : FldOk K a.cRule "right"
  fB : FldOk K a.cBook "_rules"
  cvT : CvOk K a.cText "MOST" (.int 120)
  cvB : CvOk K a.cBook "MOST" (.int 8)
  insT : InsOk K a.cText
  insR : InsOk K a.cRule
  insB : InsOk K a.cBook
  kBB : PySem.W.kitOne K (.ref a.cBook) (.ref a.cBook) = some true
  kRR : PySem.W.kitOne K (.ref a.cRule) (.ref a.cRule) = some true
  nfR : PySem.W.notFirst K a.cRule (.ref a.cRule) = true
  exm : ∀ i j, PySem.W.exmOne K (.ref (a.x i)) (.ref (a.x j)) = some (decide (i = j))
  kit : ∀ i j, PySem.W.kitOne K (.ref (a.x i)) (.ref (a.x j)) = some (decide (i = j))
  kitE : ∀ i, PySem.W.kitOne K (.ref (a.x i)) (.ref a.cClerkError) = some true
  kitV : ∀ i, PySem.W.kitOne K (.ref (a.x i)) (.type "ValueError") = some true
  exT : ∀ i, ExcT K (a.x i)
  xf : ∀ i, XfC K (a.x i)
  nf : ∀ i, PySem.W.findIn K (.ref (a.x i)) i.fld = some .none

/-! ### texts, rules, books, answers -/
def TextAt (a : Ad) (H : Hp) (p : Addr) (z : Str) (c : Bool) : Prop := ∃ dx, H p = some (.ins a.cText dx [("signs", .str z), ("closed", .bl c)])
def RuleAt (a : Ad) (H : Hp) (p : Addr) (x : R4) : Prop := ∃ dx, H p = some (.ins a.cRule dx [("old", .str x.o), ("new", .str x.n), ("left", .str x.l), ("right", .str x.r)])
/-- the items of a list are rules -/
def RulesAt (a : Ad) (H : Hp) : List V → List R4 → Prop
  | [], [] => True
  | v :: vs, x :: xs => (∃ p, v = .ref p ∧ RuleAt a H p x) ∧ RulesAt a H vs xs
  | _, _ => False
def BookAt (a : Ad) (H : Hp) (p : Addr) (xs : List R4) : Prop := ∃ dx l vs, H p = some (.ins a.cBook dx [("_rules", .ref l)]) ∧ H l = some (.lst vs) ∧ RulesAt a H vs xs
theorem Le.trans' {H H1 H2 : Hp} (b : Le H1 H2) (a : Le H H1) : Le H H2 := a.trans b
theorem Lw.trans' {H H1 H2 : Hp} (b : Lw H1 H2) (a : Lw H H1) : Lw H H2 := a.trans b
theorem TextAt.lw {a : Ad} {H H' : Hp} {p : Addr} {z : Str} {c : Bool} (e : Lw H H') (h : TextAt a H p z c) : TextAt a H' p z c := by
  obtain ⟨dx, h⟩ := h
  exact ⟨dx, e.keep h rfl⟩
theorem TextAt.le {a : Ad} {H H' : Hp} {p : Addr} {z : Str} {c : Bool} (e : Le H H') (h : TextAt a H p z c) : TextAt a H' p z c := h.lw e.w
theorem RuleAt.lw {a : Ad} {H H' : Hp} {p : Addr} {x : R4} (e : Lw H H') (h : RuleAt a H p x) : RuleAt a H' p x := by
  obtain ⟨dx, h⟩ := h
  exact ⟨dx, e.keep h rfl⟩
theorem RuleAt.le {a : Ad} {H H' : Hp} {p : Addr} {x : R4} (e : Le H H') (h : RuleAt a H p x) : RuleAt a H' p x := h.lw e.w
theorem RulesAt.lw {a : Ad} {H H' : Hp} (e : Lw H H') : ∀ {vs : List V} {xs : List R4}, RulesAt a H vs xs → RulesAt a H' vs xs
  | [], [], _ => trivial
  | _ :: _, _ :: _, h => by
    obtain ⟨⟨p, q, hp⟩, h2⟩ := h
    exact ⟨⟨p, q, hp.lw e⟩, RulesAt.lw e h2⟩
  | [], _ :: _, h => h.elim
  | _ :: _, [], h => h.elim
theorem RulesAt.le {a : Ad} {H H' : Hp} (e : Le H H') {vs : List V} {xs : List R4} (h : RulesAt a H vs xs) : RulesAt a H' vs xs := h.lw e.w
theorem RulesAt.len {a : Ad} {H : Hp} : ∀ {vs : List V} {xs : List R4}, RulesAt a H vs xs → vs.length = xs.length
  | [], [], _ => rfl
  | _ :: _, _ :: _, h => by simp [RulesAt.len h.2]
  | [], _ :: _, h => h.elim
  | _ :: _, [], h => h.elim
theorem RulesAt.get {a : Ad} {H : Hp} : ∀ {vs : List V} {xs : List R4} {i : Nat} {x : R4}, RulesAt a H vs xs → xs[i]? = some x → ∃ p, vs[i]? = some (.ref p) ∧ RuleAt a H p x
  | [], [], i, _, _, e => by simp at e
  | v :: vs, y :: ys, 0, x, h, e => by
    have : y = x := by simpa using e
    subst this
    obtain ⟨p, rfl, hp⟩ := h.1
    exact ⟨p, rfl, hp⟩
  | v :: vs, y :: ys, i + 1, x, h, e => RulesAt.get (i := i) h.2 (by simpa using e)
  | [], _ :: _, _, _, h, _ => h.elim
  | _ :: _, [], _, _, h, _ => h.elim
theorem RulesAt.app {a : Ad} {H : Hp} {p : Addr} {x : R4} (hp : RuleAt a H p x) : ∀ {vs : List V} {xs : List R4}, RulesAt a H vs xs → RulesAt a H (vs ++ [.ref p]) (xs ++ [x])
  | [], [], _ => ⟨⟨p, rfl, hp⟩, trivial⟩
  | _ :: _, _ :: _, h => ⟨h.1, RulesAt.app hp h.2⟩
  | [], _ :: _, h => h.elim
  | _ :: _, [], h => h.elim
/-- a list of rules is no drawing list -/
theorem RulesAt.sh {a : Ad} {H : Hp} : ∀ {vs : List V} {xs : List R4}, RulesAt a H vs xs → stSh (.lst vs) = false
  | [], [], _ => rfl
  | [_], [_], h => by obtain ⟨⟨p, rfl, _⟩, _⟩ := h; rfl
  | _ :: _ :: _, _ :: _ :: _, h => by obtain ⟨⟨p, rfl, _⟩, ⟨q, rfl, _⟩, _⟩ := h; rfl
  | [], _ :: _, h => h.elim
  | _ :: _, [], h => h.elim
  | [_], _ :: _ :: _, h => h.2.elim
  | _ :: _ :: _, [_], h => h.2.elim
theorem BookAt.lw {a : Ad} {H H' : Hp} {p : Addr} {xs : List R4} (e : Lw H H') (h : BookAt a H p xs) : BookAt a H' p xs := by
  obtain ⟨dx, l, vs, h1, h2, h3⟩ := h
  exact ⟨dx, l, vs, e.keep h1 rfl, e.keep h2 h3.sh, h3.lw e⟩
theorem BookAt.le {a : Ad} {H H' : Hp} {p : Addr} {xs : List R4} (e : Le H H') (h : BookAt a H p xs) : BookAt a H' p xs := h.lw e.w
/-- cls, d: an exception of the kind k that tells i -/
def ExcIs (a : Ad) (k : ExK) (i : Int) (cls : Value) (d : Option Addr) (H : Hp) : Prop := cls = .ref (a.x k) ∧ ∃ dd, d = some dd ∧ H dd = some (.xd [(k.fld, .int i)])
def sgOk (c : Nat) : Bool := decide (97 ≤ c) && decide (c ≤ 122)
def bad (z : Str) : Option Nat := z.cps.toList.findIdx? fun c => !sgOk c
def isSg (z : Str) : Bool := (z.length == 1) && sgOk (z.cps.getD 0 0)
/-- a rule that may be -/
structure Fine (x : R4) : Prop where
  l : bad x.l = none ∧ x.l.length ≤ 2
  o : bad x.o = none ∧ 1 ≤ x.o.length ∧ x.o.length ≤ 3
  n : bad x.n = none ∧ 1 ≤ x.n.length ∧ x.n.length ≤ 3
  r : bad x.r = none ∧ x.r.length ≤ 2
def Good (z : Str) (c : Bool) : Prop := bad z = none ∧ z.length ≤ 120 ∧ (c = true → z ≠ "")
def pat (x : R4) : Str := x.l ++ x.o ++ x.r
def form (x : R4) : Str := x.l ++ "(" ++ x.o ++ ">" ++ x.n ++ ")" ++ x.r
def fits (x : R4) (z : Str) (c : Bool) (i : Int) : Bool :=
  if ¬(0 ≤ i ∧ i < z.length) ∨ (pat x).length > z.length then false
  else if c = true then decide (cutS (repS z 2) (some ((i - x.l.length).fmod z.length)) (some ((i - x.l.length).fmod z.length + (pat x).length)) = pat x)
  else decide (i - x.l.length ≥ 0) && decide (cutS z (some (i - x.l.length)) (some (i - x.l.length + (pat x).length)) = pat x)
def steps (xs : List R4) (z : Str) (c : Bool) : List (Nat × Nat) := (List.range z.length).flatMap fun (i : Nat) => ((List.range xs.length).filter fun (k : Nat) => fits (xs.getD k ⟨"", "", "", ""⟩) z c ((i : Nat) : Int)).map fun (k : Nat) => (k, i)

/-! ### places, disturbances, overlaps -/
def besideL (x : R4) (i : Int) : List Int := rngL (i - x.l.length) x.l.length ++ rngL (i + x.o.length) x.r.length
def takenL (x : R4) (i : Int) : List Int := rngL i x.o.length
def pls (x : R4) (i : Int) : List Int × List Int := (besideL x i, takenL x i)
def plsIn (n : Nat) (x : R4) (i : Int) : List Int × List Int := ((besideL x i).map fun k => k.fmod (n : Int), (takenL x i).map fun k => k.fmod (n : Int))
def meetL (p q : List Int) : Bool := (p.map fun k => decide (k ∈ q)).any id
def kindOf (p q : List Int × List Int) : Option Str :=
  if meetL p.2 q.2 = true then some "clash"
  else if (meetL p.1 q.2 && meetL q.1 p.2) = true then some "mutual"
  else if meetL p.1 q.2 = true then some "first"
  else if meetL q.1 p.2 = true then some "second" else none
def needed (x : R4) (i p : Int) : Option Str := if (decide (0 ≤ p - i + x.l.length) && decide (p - i + x.l.length < (pat x).length)) = true then some ⟨#[(pat x).cps.getD (p - i + x.l.length).toNat 0]⟩ else none
def loOf (x y : R4) (s : Int) : Int := if s - y.l.length < -(x.l.length : Int) then s - y.l.length else -(x.l.length : Int)
def hiOf (x y : R4) (s : Int) : Int := if s + y.o.length + y.r.length > (x.o.length : Int) + x.r.length then s + y.o.length + y.r.length else (x.o.length : Int) + x.r.length
/-- one sign more of the two laid upon one another -/
def layOne (z : Str) : Option Str → Option Str → Option Str
  | none, some t => some (z ++ t)
  | some m, none => some (z ++ m)
  | some m, some t => if t = m then some (z ++ m) else none
  | none, none => none
def layTo (x y : R4) (s : Int) : Nat → Option Str
  | 0 => some ""
  | k + 1 => (layTo x y s k).bind fun z => layOne z (needed x 0 (loOf x y s + k)) (needed y s (loOf x y s + k))
def overlapOf (x y : R4) (s : Int) : Option (Str × Str × Int) := (kindOf (pls x 0) (pls y s)).bind fun k => (layTo x y s (hiOf x y s - loOf x y s).toNat).map fun z => (k, z, -loOf x y s)
def leastOf (i j : Nat) : Int := if i = j then 1 else -4
abbrev Row := Int × Int × Int × Str × Str × Int
def rowOf (i j : Nat) (s : Int) (o : Option (Str × Str × Int)) : List Row := match o with
  | none => []
  | some (k, z, b) => [((i : Int), (j : Int), s, k, z, b)]
def r0 : R4 := ⟨"", "", "", ""⟩
def rowsAt (xs : List R4) (i j m : Nat) : List Row := (List.range m).flatMap fun (k : Nat) => rowOf i j (leastOf i j + k) (overlapOf (xs.getD i r0) (xs.getD j r0) (leastOf i j + k))
def rowsIn (xs : List R4) (i m : Nat) : List Row := (List.range m).flatMap fun (j : Nat) => rowsAt xs i (i + j) (5 - leastOf i (i + j)).toNat
def rowsTo (xs : List R4) (m : Nat) : List Row := (List.range m).flatMap fun (i : Nat) => rowsIn xs i (xs.length - i)
def rows (xs : List R4) : List Row := rowsTo xs xs.length
/-- is it a step? -/
def isStep (xs : List R4) (z : Str) (c : Bool) (u : Int × Int) : Bool := decide (0 ≤ u.1 ∧ u.1 < xs.length) && fits (xs.getD u.1.toNat r0) z c u.2

/-! ### promises: the program -/
abbrev Sm (z : Str) : Prop := z.length ≤ 1000
abbrev SmI (i : Int) : Prop := i.natAbs.log2 < 1000
abbrev SpK := List V → List V → Hp → VK → XK → Prop
def sp_is_sign (a : Ad) : Sp := fun vs H Q E => ∃ z, vs = [.str z] ∧ Sm z ∧ ∀ H', Le H H' → Q (.bl (isSg z)) H'
def sp__check_signs (a : Ad) : Sp := fun vs H Q E => ∃ z, vs = [.str z] ∧ Sm z ∧ bad z = none ∧ ∀ H', Le H H' → Q .non H'
def sp_Text___init__ (a : Ad) : Sp := fun vs H Q E => ∃ p z c dx, vs = [.ref p, .str z, .bl c] ∧ Good z c ∧ H p = some (.ins a.cText dx []) ∧
  ∀ H1, Le H H1 → Q .non (upd H1 p (.ins a.cText dx [("signs", .str z), ("closed", .bl c)]))
def spCt_Text_1_closed (a : Ad) : SpK := fun vs zs H Q E => ∃ z c, (vs = [.str z] ∧ zs = [.bl c]) ∧ Good z c ∧ ∀ p H', Le H H' → TextAt a H' p z c → Q (.ref p) H'
def sp_Text___len__ (a : Ad) : Sp := fun vs H Q E => ∃ p z c, vs = [.ref p] ∧ Sm z ∧ TextAt a H p z c ∧ ∀ H', Le H H' → Q (.int (z.length : Nat)) H'
def sp__check_part (a : Ad) : Sp := fun vs H Q E => ∃ (y z : Str) (i j : Nat), vs = [.str y, .str z, .int i, .int j] ∧ Sm z ∧ bad z = none ∧ i ≤ z.length ∧ z.length ≤ j ∧ ∀ H', Le H H' → Q .non H'
def sp__split_line (a : Ad) : Sp := fun vs H Q E => ∃ x, vs = [.str (form x)] ∧ Fine x ∧ ∀ p H', Le H H' → H' p = some (.tup [.str x.o, .str x.n, .str x.l, .str x.r]) → Q (.ref p) H'
def sp__read_rule (a : Ad) : Sp := fun vs H Q E => ∃ x i, vs = [.str (form x), .int i] ∧ Fine x ∧ ∀ p H', Le H H' → RuleAt a H' p x → Q (.ref p) H'
def sp_Rule___init__ (a : Ad) : Sp := fun vs H Q E => ∃ p x dx, vs = [.ref p, .str x.o, .str x.n, .str x.l, .str x.r] ∧ Fine x ∧ H p = some (.ins a.cRule dx []) ∧
  ∀ H1, Le H H1 → Q .non (upd H1 p (.ins a.cRule dx [("old", .str x.o), ("new", .str x.n), ("left", .str x.l), ("right", .str x.r)]))
def spCt_Rule_4 (a : Ad) : SpK := fun vs zs H Q E => ∃ x : R4, (vs = [.str x.o, .str x.n, .str x.l, .str x.r] ∧ zs = []) ∧ Fine x ∧ ∀ p H', Le H H' → RuleAt a H' p x → Q (.ref p) H'
def sp_Rule_pattern (a : Ad) : Sp := fun vs H Q E => ∃ p x, vs = [.ref p] ∧ Fine x ∧ RuleAt a H p x ∧ ∀ H', Le H H' → Q (.str (pat x)) H'
def sp_Rule___eq__ (a : Ad) : Sp := fun vs H Q E => ∃ p q x y, vs = [.ref p, .ref q] ∧ RuleAt a H p x ∧ RuleAt a H q y ∧ ∀ H', Le H H' → Q (.bl (decide (x = y))) H'
def sp_Rule___str__ (a : Ad) : Sp := fun vs H Q E => ∃ p x, vs = [.ref p] ∧ Fine x ∧ RuleAt a H p x ∧ ∀ H', Le H H' → Q (.str (form x)) H'
def sp_Rule_fits (a : Ad) : Sp := fun vs H Q E => ∃ p q x z c i, vs = [.ref p, .ref q, .int i] ∧ Fine x ∧ Good z c ∧ RuleAt a H p x ∧ TextAt a H q z c ∧ ∀ H', Le H H' → Q (.bl (fits x z c i)) H'
def LeX (p : Addr) (H H' : Hp) : Prop := (∀ b o, b ≠ p → H b = some o → H' b = some o) ∧ ∀ b, H' b = none → H b = none
def sp_Book___init__ (a : Ad) : Sp := fun vs H Q E => ∃ p t us xs dx, vs = [.ref p, .ref t] ∧ H p = some (.ins a.cBook dx []) ∧ H t = some (.tup us) ∧ RulesAt a H us xs ∧ xs.Nodup ∧ xs.length ≤ 8 ∧ ∀ H', LeX p H H' → BookAt a H' p xs → Q .non H'
def spR_Book (a : Ad) : List V → Hp → VK → XK → Prop := fun vs H Q E => ∃ xs, RulesAt a H vs xs ∧ xs.Nodup ∧ xs.length ≤ 8 ∧ ∀ p H', Le H H' → BookAt a H' p xs → Q (.ref p) H'
def lines (xs : List R4) : Str := Txt.join "\n" (xs.map form)
def sp_Book_read (a : Ad) : Sp := fun vs H Q E => ∃ xs, vs = [.ref a.cBook, .str (lines xs)] ∧ (∀ x ∈ xs, Fine x) ∧ xs.Nodup ∧ 1 ≤ xs.length ∧ xs.length ≤ 8 ∧ ∀ p H', Le H H' → BookAt a H' p xs → Q (.ref p) H'
def sp_Book___len__ (a : Ad) : Sp := fun vs H Q E => ∃ p xs, vs = [.ref p] ∧ xs.length ≤ 8 ∧ BookAt a H p xs ∧ ∀ H', Le H H' → Q (.int (xs.length : Nat)) H'
def sp_Book__check_number (a : Ad) : Sp := fun vs H Q E => ∃ p xs i, vs = [.ref p, .int i] ∧ (0 ≤ i ∧ i < (xs.length : Nat)) ∧ xs.length ≤ 8 ∧ BookAt a H p xs ∧ ∀ H', Le H H' → Q .non H'
def sp_Book___getitem__ (a : Ad) : Sp := fun vs H Q E => ∃ p xs i, vs = [.ref p, .int i] ∧ (0 ≤ i ∧ i < (xs.length : Nat)) ∧ xs.length ≤ 8 ∧ BookAt a H p xs ∧ ∀ q H', Le H H' → RuleAt a H' q (xs.getD i.toNat r0) → Q (.ref q) H'
/-- a book with its list -/
def BkL (a : Ad) (H : Hp) (p l : Addr) (us : List V) (xs : List R4) : Prop := ∃ dx, H p = some (.ins a.cBook dx [("_rules", .ref l)]) ∧ H l = some (.lst us) ∧ RulesAt a H us xs
def sp_Book_add (a : Ad) : Sp := fun vs H Q E => ∃ p q l us xs x dx, vs = [.ref p, .ref q] ∧ H p = some (.ins a.cBook dx [("_rules", .ref l)]) ∧ H l = some (.lst us) ∧ RulesAt a H us xs ∧ RuleAt a H q x ∧ x ∉ xs ∧ xs.length < 8 ∧
  ∀ H1, Le H H1 → Q .non (upd H1 l (.lst (us ++ [.ref q])))
def sp_Book_drop (a : Ad) : Sp := fun vs H Q E => ∃ p l us xs i, vs = [.ref p, .int i] ∧ (0 ≤ i ∧ i < (xs.length : Nat)) ∧ xs.length ≤ 8 ∧ BkL a H p l us xs ∧
  ∀ H1 u, Le H H1 → us[i.toNat]? = some u → Q u (upd H1 l (.lst (us.eraseIdx i.toNat)))
def sp_Book_written (a : Ad) : Sp := fun vs H Q E => ∃ p xs, vs = [.ref p] ∧ (∀ x ∈ xs, Fine x) ∧ xs.length ≤ 8 ∧ BookAt a H p xs ∧ ∀ H', Le H H' → Q (.str (lines xs)) H'
/-! typed -/
def rRule (a : Ad) : Rp R4 := ⟨fun H v x => ∃ p, v = .ref p ∧ RuleAt a H p x ∧ Fine x, fun e ⟨p, h1, h2, h3⟩ => ⟨p, h1, h2.le e, h3⟩⟩
def rText (a : Ad) : Rp (Str × Bool) := ⟨fun H v x => ∃ p, v = .ref p ∧ TextAt a H p x.1 x.2 ∧ Good x.1 x.2, fun e ⟨p, h1, h2, h3⟩ => ⟨p, h1, h2.le e, h3⟩⟩
abbrev rPl : Rp (List Int × List Int) := rT2 (rList rInt) (rList rInt)
abbrev SmP (i : Int) : Prop := -1000 ≤ i ∧ i ≤ 1000
abbrev SmQ (i : Int) : Prop := -100 ≤ i ∧ i ≤ 100
abbrev sp__places (a : Ad) : Sp := spP2 (rRule a) rInt rPl (fun _ i => SmP i) pls
abbrev sp__places_in (a : Ad) : Sp := spP3 (rText a) (rRule a) rInt rPl (fun t _ i => 0 < t.1.length ∧ SmP i) fun t x i => plsIn t.1.length x i
abbrev sp__meet (a : Ad) : Sp := spP2 (rList rInt) (rList rInt) rBool (fun p q => p.length ≤ 100 ∧ q.length ≤ 100) meetL
abbrev SmL (p : List Int × List Int) : Prop := p.1.length ≤ 100 ∧ p.2.length ≤ 100
abbrev sp__kind (a : Ad) : Sp := spP2 rPl rPl (rOpt rStr) (fun p q => SmL p ∧ SmL q) kindOf
abbrev sp__needed (a : Ad) : Sp := spP3 (rRule a) rInt rInt (rOpt rStr) (fun _ i p => SmP i ∧ SmP p) needed
abbrev sp__overlap (a : Ad) : Sp := spP3 (rRule a) (rRule a) rInt (rOpt (rT3 rStr rStr rInt)) (fun _ _ s => SmQ s) overlapOf
/-- what is told of two pairs -/
def aDist (xs : List R4) (z : Str) (c : Bool) (u v : Int × Int) : Option Str := kindOf (plsIn z.length (xs.getD u.1.toNat r0) u.2) (plsIn z.length (xs.getD v.1.toNat r0) v.2)
def PrAt (H : Hp) (p : Addr) (u : Int × Int) : Prop := H p = some (.tup [.int u.1, .int u.2])
def sp_disturbance (a : Ad) : Sp := fun vs H Q E => ∃ p q r s xs z c u v, vs = [.ref p, .ref q, .ref r, .ref s] ∧ (∀ x ∈ xs, Fine x) ∧ xs.length ≤ 8 ∧ Good z c ∧ BookAt a H p xs ∧ TextAt a H q z c ∧ PrAt H r u ∧ PrAt H s v ∧ (SmP u.1 ∧ SmP u.2) ∧ (SmP v.1 ∧ SmP v.2) ∧
  (isStep xs z c u = true → isStep xs z c v = true → ∀ w H', Le H H' → (rOpt rStr).at_ H' w (aDist xs z c u v) → Q w H') ∧
  (isStep xs z c u = false → ∀ cls d H', Le H H' → ExcIs a .run 0 cls d H' → E cls d H') ∧ (isStep xs z c u = true → isStep xs z c v = false → ∀ cls d H', Le H H' → ExcIs a .run 1 cls d H' → E cls d H')
def RowAt (H : Hp) (v : V) (x : Row) : Prop := ∃ p, v = .ref p ∧ H p = some (.tup [.int x.1, .int x.2.1, .int x.2.2.1, .str x.2.2.2.1, .str x.2.2.2.2.1, .int x.2.2.2.2.2])
def RowsAt (H : Hp) : List V → List Row → Prop
  | [], [] => True
  | v :: vs, x :: xs => RowAt H v x ∧ RowsAt H vs xs
  | _, _ => False
def sp_overlaps (a : Ad) : SpG := fun vs H cont E => ∃ p xs, vs = [.ref p] ∧ (∀ x ∈ xs, Fine x) ∧ xs.length ≤ 8 ∧ BookAt a H p xs ∧ ∀ ys H', Le H H' → RowsAt H' ys (rows xs) → cont ys H'
end K7
set_option maxHeartbeats 0
/-! K7R: the head: what is looked at, the runs -/
namespace K7
open PySem PySem.Spec PyProof.Rows L2 MC
abbrev d_NoRule___init__ : Df := ⟨fun K => He.ma K (He.ga K "NoRule") "__init__", "__init__", "NoRule.__init__", s_NoRule___init__, [], (some "NoRule"), []⟩
abbrev d_Mismatch___init__ : Df := ⟨fun K => He.ma K (He.ga K "Mismatch") "__init__", "__init__", "Mismatch.__init__", s_Mismatch___init__, [], (some "Mismatch"), []⟩
abbrev d_BadRun___init__ : Df := ⟨fun K => He.ma K (He.ga K "BadRun") "__init__", "__init__", "BadRun.__init__", s_BadRun___init__, [], (some "BadRun"), []⟩
abbrev d__places : Df := ⟨fun K => He.ga K "_places", "_places", "_places", s__places, [], none, []⟩
abbrev d__places_in : Df := ⟨fun K => He.ga K "_places_in", "_places_in", "_places_in", s__places_in, [], none, []⟩
abbrev d__meet : Df := ⟨fun K => He.ga K "_meet", "_meet", "_meet", s__meet, [], none, []⟩
abbrev d__kind : Df := ⟨fun K => He.ga K "_kind", "_kind", "_kind", s__kind, [], none, []⟩
abbrev d_disturbance : Df := ⟨fun K => He.ga K "disturbance", "disturbance", "disturbance", s_disturbance, [], none, []⟩
abbrev d__needed : Df := ⟨fun K => He.ga K "_needed", "_needed", "_needed", s__needed, [], none, []⟩
abbrev d__overlap : Df := ⟨fun K => He.ga K "_overlap", "_overlap", "_overlap", s__overlap, [], none, []⟩
abbrev d_overlaps : Df := ⟨fun K => He.ga K "overlaps", "overlaps", "overlaps", s_overlaps, [], none, []⟩
abbrev d_is_sign : Df := ⟨fun K => He.ga K "is_sign", "is_sign", "is_sign", s_is_sign, [], none, []⟩
abbrev d__check_signs : Df := ⟨fun K => He.ga K "_check_signs", "_check_signs", "_check_signs", s__check_signs, [], none, []⟩
abbrev d_Text___init__ : Df := ⟨fun K => He.ma K (He.ga K "Text") "__init__", "__init__", "Text.__init__", s_Text___init__, [("closed", .bl false)], none, []⟩
abbrev d_Text___len__ : Df := ⟨fun K => He.ma K (He.ga K "Text") "__len__", "__len__", "Text.__len__", s_Text___len__, [], none, []⟩
abbrev d__check_part : Df := ⟨fun K => He.ga K "_check_part", "_check_part", "_check_part", s__check_part, [], none, []⟩
abbrev d__split_line : Df := ⟨fun K => He.ga K "_split_line", "_split_line", "_split_line", s__split_line, [], none, []⟩
abbrev d__read_rule : Df := ⟨fun K => He.ga K "_read_rule", "_read_rule", "_read_rule", s__read_rule, [], none, []⟩
abbrev d_Rule___init__ : Df := ⟨fun K => He.ma K (He.ga K "Rule") "__init__", "__init__", "Rule.__init__", s_Rule___init__, [], none, [.str "", .str ""]⟩
abbrev d_Rule_pattern : Df := ⟨fun K => prA K (He.ga K "Rule") "pattern", "pattern", "Rule.pattern", s_Rule_pattern, [], none, []⟩
abbrev d_Rule___eq__ : Df := ⟨fun K => He.ma K (He.ga K "Rule") "__eq__", "__eq__", "Rule.__eq__", s_Rule___eq__, [], none, []⟩
abbrev d_Rule___str__ : Df := ⟨fun K => He.ma K (He.ga K "Rule") "__str__", "__str__", "Rule.__str__", s_Rule___str__, [], none, []⟩
abbrev d_Rule_fits : Df := ⟨fun K => He.ma K (He.ga K "Rule") "fits", "fits", "Rule.fits", s_Rule_fits, [], none, []⟩
abbrev d_Book___init__ : Df := ⟨fun K => He.ma K (He.ga K "Book") "__init__", "__init__", "Book.__init__", s_Book___init__, [], none, []⟩
abbrev d_Book_read : Df := ⟨fun K => cmA K (He.ga K "Book") "read", "read", "Book.read", s_Book_read, [], none, []⟩
abbrev d_Book___len__ : Df := ⟨fun K => He.ma K (He.ga K "Book") "__len__", "__len__", "Book.__len__", s_Book___len__, [], none, []⟩
abbrev d_Book___iter__ : Df := ⟨fun K => He.ma K (He.ga K "Book") "__iter__", "__iter__", "Book.__iter__", s_Book___iter__, [], none, []⟩
abbrev d_Book__check_number : Df := ⟨fun K => He.ma K (He.ga K "Book") "_check_number", "_check_number", "Book._check_number", s_Book__check_number, [], none, []⟩
abbrev d_Book___getitem__ : Df := ⟨fun K => He.ma K (He.ga K "Book") "__getitem__", "__getitem__", "Book.__getitem__", s_Book___getitem__, [], none, []⟩
abbrev d_Book_add : Df := ⟨fun K => He.ma K (He.ga K "Book") "add", "add", "Book.add", s_Book_add, [], none, []⟩
abbrev d_Book_drop : Df := ⟨fun K => He.ma K (He.ga K "Book") "drop", "drop", "Book.drop", s_Book_drop, [], none, []⟩
abbrev d_Book_written : Df := ⟨fun K => He.ma K (He.ga K "Book") "written", "written", "Book.written", s_Book_written, [], none, []⟩
abbrev d__law_next : Df := ⟨fun K => He.ga K "_law_next", "_law_next", "_law_next", s__law_next, [], none, []⟩
abbrev d__law_whole : Df := ⟨fun K => He.ga K "_law_whole", "_law_whole", "_law_whole", s__law_whole, [], none, []⟩
abbrev d__law_letters_of : Df := ⟨fun K => He.ga K "_law_letters_of", "_law_letters_of", "_law_letters_of", s__law_letters_of, [], none, []⟩
abbrev d__law_word_of : Df := ⟨fun K => He.ga K "_law_word_of", "_law_word_of", "_law_word_of", s__law_word_of, [], none, []⟩
abbrev d__law_rule_of : Df := ⟨fun K => He.ga K "_law_rule_of", "_law_rule_of", "_law_rule_of", s__law_rule_of, [], none, []⟩
abbrev d__law_rules_of : Df := ⟨fun K => He.ga K "_law_rules_of", "_law_rules_of", "_law_rules_of", s__law_rules_of, [], none, []⟩
abbrev d__law_text_of : Df := ⟨fun K => He.ga K "_law_text_of", "_law_text_of", "_law_text_of", s__law_text_of, [], none, []⟩
abbrev d__law_form_of : Df := ⟨fun K => He.ga K "_law_form_of", "_law_form_of", "_law_form_of", s__law_form_of, [], none, []⟩
abbrev d__law_book_of : Df := ⟨fun K => He.ga K "_law_book_of", "_law_book_of", "_law_book_of", s__law_book_of, [], none, []⟩
abbrev d__law_fits : Df := ⟨fun K => He.ga K "_law_fits", "_law_fits", "_law_fits", s__law_fits, [], none, []⟩
abbrev d__law_steps_of : Df := ⟨fun K => He.ga K "_law_steps_of", "_law_steps_of", "_law_steps_of", s__law_steps_of, [], none, []⟩
abbrev d__law_is_book : Df := ⟨fun K => He.ga K "_law_is_book", "_law_is_book", "_law_is_book", s__law_is_book, [], none, []⟩
abbrev d__law_places : Df := ⟨fun K => He.ga K "_law_places", "_law_places", "_law_places", s__law_places, [], none, []⟩
abbrev d__law_meet : Df := ⟨fun K => He.ga K "_law_meet", "_law_meet", "_law_meet", s__law_meet, [], none, []⟩
abbrev d__law_kind_of : Df := ⟨fun K => He.ga K "_law_kind_of", "_law_kind_of", "_law_kind_of", s__law_kind_of, [], none, []⟩
abbrev d__law_refused : Df := ⟨fun K => He.ga K "_law_refused", "_law_refused", "_law_refused", s__law_refused, [], none, []⟩
abbrev d__law_due_of : Df := ⟨fun K => He.ga K "_law_due_of", "_law_due_of", "_law_due_of", s__law_due_of, [], none, []⟩
abbrev d__law_tells : Df := ⟨fun K => He.ga K "_law_tells", "_law_tells", "_law_tells", s__law_tells, [], none, []⟩
abbrev d__law_shifts : Df := ⟨fun K => He.ga K "_law_shifts", "_law_shifts", "_law_shifts", s__law_shifts, [], none, []⟩
abbrev d__law_strangers : Df := ⟨fun K => He.ga K "_law_strangers", "_law_strangers", "_law_strangers", s__law_strangers, [], none, []⟩
abbrev d_law : Df := ⟨fun K => He.ga K "law", "law", "law", s_law, [], none, []⟩
def dsL0 : List Df := [d_NoRule___init__, d_Mismatch___init__, d_BadRun___init__, d__places, d__places_in, d__meet, d__kind, d_disturbance, d__needed, d__overlap, d_overlaps, d_is_sign, d__check_signs, d_Text___init__, d_Text___len__, d__check_part, d__split_line, d__read_rule, d_Rule___init__, d_Rule_pattern, d_Rule___eq__, d_Rule___str__, d_Rule_fits]
def dsL1 : List Df := [d_Book___init__, d_Book_read, d_Book___len__, d_Book___iter__, d_Book__check_number, d_Book___getitem__, d_Book_add, d_Book_drop, d_Book_written, d__law_next, d__law_whole, d__law_letters_of, d__law_word_of, d__law_rule_of, d__law_rules_of, d__law_text_of, d__law_form_of, d__law_book_of, d__law_fits, d__law_steps_of, d__law_is_book, d__law_places, d__law_meet]
def dsL2 : List Df := [d__law_kind_of, d__law_refused, d__law_due_of, d__law_tells, d__law_shifts, d__law_strangers, d_law]
def dsL : List Df := dsL0 ++ (dsL1 ++ (dsL2))
def faL : List He.Fa := ([.free "ValueError", .free "abs", .free "any", .free "bool", .free "enumerate", .free "int", .free "isinstance", .free "iter", .free "len", .free "list", .free "max", .free "min", .free "range", .free "str", .free "super", .free "tuple"] : List He.Fa) ++ ([.glo "ClerkError", .glo "BadRun", .glo "NoRule", .glo "Mismatch", .glo "Text", .glo "Rule", .glo "Book", .glo "_places", .glo "_places_in", .glo "_meet", .glo "_kind", .glo "disturbance", .glo "_needed", .glo "_overlap", .glo "overlaps", .glo "is_sign"] : List He.Fa) ++ ([.glo "_check_signs", .glo "_check_part", .glo "_split_line", .glo "_read_rule", .glo "_law_next", .glo "_law_whole", .glo "_law_letters_of", .glo "_law_word_of", .glo "_law_rule_of", .glo "_law_rules_of", .glo "_law_text_of", .glo "_law_form_of", .glo "_law_book_of", .glo "_law_fits", .glo "_law_steps_of", .glo "_law_is_book"] : List He.Fa) ++ ([.glo "_law_places", .glo "_law_meet", .glo "_law_kind_of", .glo "_law_refused", .glo "_law_due_of", .glo "_law_tells", .glo "_law_shifts", .glo "_law_strangers", .glo "law", .cls "Text", .cls "Rule", .cls "Book", .noat "Text" "signs", .noat "Text" "closed", .noat "Rule" "old", .noat "Rule" "new"] : List He.Fa) ++ ([.noat "Rule" "left", .noat "Rule" "right", .noat "Book" "_rules", .meth "Book" "_check_number", .meth "Book" "add", .meth "Book" "drop", .meth "Book" "written", .meth "Rule" "fits", .mkr "Text", .mkr "Rule", .mkr "Book", .int "_FARTHEST" 4] : List He.Fa)
def A (K : Fr) : Ad := ⟨He.ga K "ClerkError", He.ga K "BadRun", He.ga K "NoRule", He.ga K "Mismatch", He.ga K "Text", He.ga K "Rule", He.ga K "Book"⟩
def exL (K : Fr) : List Bool := ([decide (PySem.W.kitOne K (.ref (A K).cBook) (.ref (A K).cBook) = some true), decide (PySem.W.kitOne K (.ref (A K).cRule) (.ref (A K).cRule) = some true), PySem.W.notFirst K (A K).cRule (.ref (A K).cRule), insB K (A K).cText, insB K (A K).cRule, insB K (A K).cBook, creadB K (A K).cText, creadB K (A K).cRule, creadB K (A K).cBook, cvIntB K (A K).cText "MOST" 120] : List Bool) ++ ([cvIntB K (A K).cBook "MOST" 8, specB K (A K).cText "__len__", specB K (A K).cBook "__getitem__", specB K (A K).cBook "__len__", propB K (A K).cRule "pattern", specB K (A K).cBook "__iter__", specB K (A K).cRule "__eq__", specB K (A K).cRule "__str__", cmetB K (A K).cBook "read", supCB K (A K).cBadRun] : List Bool) ++ ([specB K (A K).cBadRun "__init__", supCB K (A K).cMismatch, specB K (A K).cMismatch "__init__", supCB K (A K).cNoRule, specB K (A K).cNoRule "__init__"] : List Bool)
def kL : List ExK := [.run, .none, .place]
def tabB (K : Fr) : Bool := kL.all fun i => kL.all fun j => decide (PySem.W.exmOne K (.ref ((A K).x i)) (.ref ((A K).x j)) = some (decide (i = j))) && decide (PySem.W.kitOne K (.ref ((A K).x i)) (.ref ((A K).x j)) = some (decide (i = j)))
def oneB (K : Fr) : Bool := kL.all fun i => decide (PySem.W.kitOne K (.ref ((A K).x i)) (.ref (A K).cClerkError) = some true) && (decide (PySem.W.kitOne K (.ref ((A K).x i)) (.type "ValueError") = some true) && (excTB K ((A K).x i) && (xfB K ((A K).x i) && decide (PySem.W.findIn K (.ref ((A K).x i)) i.fld = some none))))
def exK (K : Fr) : Bool := (exL K).all id && (tabB K && oneB K)
abbrev R : PySem.W.OpenRow := PySem.W.OpenLaw.row PySem.Challenge.rw_manyclerks_k07_overlaps_of_all_texts
abbrev fileS : PySem.Str := PySem.Challenge.pw_manyclerks_k07_overlaps_of_all_texts.main.file
abbrev hk : PySem.W.Hook := hookT2 fileS faL dsL exK
def ob (s : PySem.W.SharedT) : Al2 := obsT2 fileS faL dsL exK (HandSHeadRun.getT s)
theorem ob_eq (s : PySem.W.SharedT) : ob s = hk.obs s.abs := obsT2_eq (HandSHeadRun.getT_eq s)
def loose : List PySem.Str := (["_wall", "__name__", "ClerkError", "BadSign", "BadRule", "BadLine", "BadText", "BookFull", "NoRule", "SameRule", "NoPlace", "Mismatch", "BadRun", "ClosedText", "OpenText", "_FARTHEST", "_places", "_places_in", "_meet", "_kind"] : List PySem.Str) ++ (["disturbance", "_needed", "_overlap", "overlaps", "is_sign", "_check_signs", "Text", "_check_part", "_split_line", "_read_rule", "Rule", "Book", "_law_next", "_law_whole", "_law_letters_of", "_law_word_of", "_law_rule_of", "_law_rules_of", "_law_text_of", "_law_form_of"] : List PySem.Str) ++ (["_law_book_of", "_law_fits", "_law_steps_of", "_law_is_book", "_law_places", "_law_meet", "_law_kind_of", "_law_refused", "_law_due_of", "_law_tells", "_law_shifts", "_law_strangers"] : List PySem.Str)

open HandSHeadRun PySem.W
theorem t2 (w : World) (os : OsState) : (endF (stepQ (denQ tabQ) R.prog w) 20000 R.prog w os).map (fun s => looksF R.prog (boot_heap w.params) s.abs) = some true := by kernel_rfl
theorem t3 (w : World) (os : OsState) : (endF (stepQ (denQ tabQ) R.prog w) 20000 R.prog w os).map (fun s => seenQ (view R.prog [58]) loose (importedModules R.prog.main.body) (fun s => xlAt (view R.prog [58]) [] s && recOk R.toRowW.records s) s.abs) = some (openGood (view R.prog [58]) loose) := by kernel_rfl
theorem t4 (w : World) (os : OsState) : (endF (stepQ (denQ tabQ) R.prog w) 20000 R.prog w os).map (fun s => (ob s).1) = some true := by kernel_rfl
theorem t5_0 (w : World) (os : OsState) : (endF (stepQ (denQ tabQ) R.prog w) 20000 R.prog w os).map (fun s => dsL0.map fun d => fnV2 (frT2 (HandSHeadRun.getT s)) (d.adr (frT2 (HandSHeadRun.getT s)))) = some (dsL0.map Df.val) := by kernel_rfl
theorem t5_1 (w : World) (os : OsState) : (endF (stepQ (denQ tabQ) R.prog w) 20000 R.prog w os).map (fun s => dsL1.map fun d => fnV2 (frT2 (HandSHeadRun.getT s)) (d.adr (frT2 (HandSHeadRun.getT s)))) = some (dsL1.map Df.val) := by kernel_rfl
theorem t5_2 (w : World) (os : OsState) : (endF (stepQ (denQ tabQ) R.prog w) 20000 R.prog w os).map (fun s => dsL2.map fun d => fnV2 (frT2 (HandSHeadRun.getT s)) (d.adr (frT2 (HandSHeadRun.getT s)))) = some (dsL2.map Df.val) := by kernel_rfl
end K7
set_option maxHeartbeats 4000000
/-! K7M: k07: plain mathematics, readings -/
namespace K7
open PySem PySem.Spec PyProof.Rows L2 MC
theorem lkS {v w : V} : List.lookup ("signs" : Str) [("signs", v), ("closed", w)] = some v := by
  have e : (("signs" : Str) == "signs") = true := beq_self_eq_true _
  simp only [List.lookup, e]
theorem lkC {v w : V} : List.lookup ("closed" : Str) [("signs", v), ("closed", w)] = some w := by
  have e : (("closed" : Str) == "closed") = true := beq_self_eq_true _
  have e2 : (("closed" : Str) == "signs") = false := by decide +kernel
  simp only [List.lookup, e, e2]
theorem one_of_len {z : Str} (h : z.length = 1) : z = ⟨#[z.cps.getD 0 0]⟩ := by
  obtain ⟨c⟩ := z
  have h : c.size = 1 := h
  obtain ⟨l⟩ := c
  match l, h with
  | [x], _ => rfl
theorem isSg_eq (z : Str) : isSg z = (decide (((z.length : Nat) : Int) = 1) && (!decide (z.cps.toList < ("a" : Str).cps.toList) && !decide (("z" : Str).cps.toList < z.cps.toList))) := by
  by_cases h : z.length = 1
  · have e := one_of_len h
    generalize hc : z.cps.getD 0 0 = c at e
    subst e
    have h1 : ("a" : Str).cps.toList = [97] := by decide +kernel
    have h2 : ("z" : Str).cps.toList = [122] := by decide +kernel
    have h3 : (#[c] : Array Nat).getD 0 0 = c := rfl
    show ((#[c].size == 1) && sgOk ((#[c] : Array Nat).getD 0 0)) = _
    rw [h3, h1, h2]
    show (true && sgOk c) = (true && (!decide ([c] < [97]) && !decide ([122] < [c])))
    unfold sgOk
    have e1 : ([c] < [97]) ↔ c < 97 := by
      constructor
      · intro h
        cases h with
        | rel h => exact h
        | cons h => cases h
      · exact fun h => List.Lex.rel h
    have e2 : ([122] < [c]) ↔ 122 < c := by
      constructor
      · intro h
        cases h with
        | rel h => exact h
        | cons h => cases h
      · exact fun h => List.Lex.rel h
    have e3 : decide ([c] < [97]) = decide (c < 97) := decide_eq_decide.mpr e1
    have e4 : decide ([122] < [c]) = decide (122 < c) := decide_eq_decide.mpr e2
    rw [e3, e4]
    by_cases a1 : c < 97 <;> by_cases a2 : 122 < c <;> simp [a1, a2] <;> omega
  · have e1 : (z.length == 1) = false := by simpa using h
    have e2 : decide (((z.length : Nat) : Int) = 1) = false := decide_eq_false (by omega)
    unfold isSg
    rw [e1, e2]; rfl
theorem bad_none {z : Str} : bad z = none ↔ ∀ j, j < z.cps.size → sgOk (z.cps.getD j 0) = true := by
  unfold bad
  rw [List.findIdx?_eq_none_iff]
  constructor
  · intro h j hj
    have := h (z.cps.getD j 0) (by
      rw [Array.getD_eq_getD_getElem?, Array.getElem?_eq_getElem hj, Option.getD_some]
      exact Array.getElem_mem_toList hj)
    simpa using this
  · intro h x hx
    obtain ⟨j, hj, rfl⟩ := List.getElem_of_mem hx
    have hj' : j < z.cps.size := by simpa using hj
    have := h j hj'
    rw [Array.getD_eq_getD_getElem?, Array.getElem?_eq_getElem hj', Option.getD_some] at this
    simpa using this
theorem bad_some {z : Str} {i : Nat} (hi : i < z.cps.size) (h1 : sgOk (z.cps.getD i 0) = false) (h2 : ∀ j, j < i → sgOk (z.cps.getD j 0) = true) : bad z = some i := by
  unfold bad
  rw [List.findIdx?_eq_some_iff_getElem]
  refine ⟨by simpa using hi, ?_, fun j hj => ?_⟩
  · rw [Array.getD_eq_getD_getElem?, Array.getElem?_eq_getElem hi, Option.getD_some] at h1
    simpa using h1
  · have hj' : j < z.cps.size := by omega
    have := h2 j hj
    rw [Array.getD_eq_getD_getElem?, Array.getElem?_eq_getElem hj', Option.getD_some] at this
    simpa using this
theorem isSg_one (c : Nat) : isSg ⟨#[c]⟩ = sgOk c := by unfold isSg; rfl
theorem log_small {i : Int} (h : i.natAbs < 2 ^ 100) : i.natAbs.log2 < 1000 := by
  by_cases h0 : i.natAbs = 0
  · rw [h0]; decide
  · exact Nat.lt_trans ((Nat.log2_lt h0).mpr h) (by decide)
theorem str_ext {z w : Str} (h : z.cps.toList = w.cps.toList) : z = w := by
  obtain ⟨a⟩ := z
  obtain ⟨b⟩ := w
  have h : a.toList = b.toList := h
  rw [show a = b from by cases a; cases b; simpa using h]
theorem app_l (z w : Str) : (z ++ w).cps.toList = z.cps.toList ++ w.cps.toList := by
  show (z.cps ++ w.cps).toList = _
  simp
theorem len_l (z : Str) : z.cps.toList.length = z.length := by simp [Str.length]
theorem slen_app (z w : Str) : (z ++ w).length = z.length + w.length := by
  rw [← len_l, app_l, List.length_append, len_l, len_l]
theorem cut_l (z : Str) (lo hi : Option Int) : (cutS z lo hi).cps.toList = (z.cps.toList.drop (HT.sIx z.length 0 lo)).take (HT.sIx z.length z.length hi - HT.sIx z.length 0 lo) := by
  unfold cutS
  simp
theorem bad_l {z : Str} : bad z = none ↔ ∀ c ∈ z.cps.toList, sgOk c = true := by
  unfold bad
  rw [List.findIdx?_eq_none_iff]
  simp
theorem bad_app {z w : Str} (h1 : bad z = none) (h2 : bad w = none) : bad (z ++ w) = none := by
  rw [bad_l] at *
  intro c hc
  rw [app_l] at hc
  rcases List.mem_append.mp hc with hc | hc
  · exact h1 c hc
  · exact h2 c hc
theorem bad_cut {z : Str} {lo hi : Option Int} (h1 : bad z = none) : bad (cutS z lo hi) = none := by
  rw [bad_l] at *
  intro c hc
  rw [cut_l] at hc
  exact h1 c (List.mem_of_mem_drop (List.mem_of_mem_take hc))
theorem sIx_some (n d e : Nat) (k : Int) : HT.sIx n d (some k) = HT.sIx n e (some k) := rfl
theorem empty_iff {z : Str} : z = "" ↔ z.length = 0 := by
  constructor
  · intro h; rw [h]; rfl
  · intro h
    apply str_ext
    have e : z.cps.toList = [] := List.eq_nil_of_length_eq_zero (by rw [len_l]; exact h)
    rw [e]; rfl
theorem Good.cut {z : Str} {c : Bool} {lo hi : Option Int} (h : Good z c) : Good (cutS z lo hi) false :=
  ⟨bad_cut h.1, Nat.le_trans (cutS_length z lo hi) h.2.1, fun e => nomatch e⟩
theorem atI_get {z : Str} {i : Int} (h : 0 ≤ i ∧ i < z.length) : atI z.cps.toList i = some (z.cps.getD i.toNat 0) := by
  unfold atI ixN
  rw [if_pos h.1, len_l, if_pos h.2]
  show z.cps.toList[i.toNat]? = _
  have hi : i.toNat < z.cps.size := by have := h.2; show _ < z.length; omega
  rw [Array.getElem?_toList, Array.getElem?_eq_getElem hi, Array.getD_eq_getD_getElem?, Array.getElem?_eq_getElem hi]
  rfl
theorem atI_last {z : Str} (h : 0 < z.length) : atI z.cps.toList (-1) = some (z.cps.getD (z.length - 1) 0) := by
  unfold atI ixN
  rw [if_neg (by decide), len_l, if_pos (by omega)]
  show z.cps.toList[((-1 : Int) + (z.length : Int)).toNat]? = _
  have e : ((-1 : Int) + (z.length : Int)).toNat = z.length - 1 := by omega
  rw [e]
  have hi : z.length - 1 < z.cps.size := by show _ < z.length; omega
  rw [Array.getElem?_toList, Array.getElem?_eq_getElem hi, Array.getD_eq_getD_getElem?, Array.getElem?_eq_getElem hi]
  rfl
theorem one_eq {c d : Nat} : decide ((⟨#[c]⟩ : Str) = ⟨#[d]⟩) = decide (c = d) := decide_eq_decide.mpr ⟨fun h => by cases h; rfl, fun h => by rw [h]⟩
theorem all128 {z : Str} (h : bad z = none) : z.cps.all (· < 128) = true := by
  rw [Array.all_eq_true]
  intro i hi
  have h1 : sgOk (z.cps[i]) = true := bad_l.mp h _ (Array.getElem_mem_toList hi)
  unfold sgOk at h1
  simp at h1 ⊢
  omega
theorem elen : Str.empty.length = 0 := by decide +kernel
theorem len1a : (Str.ofString "(").length = 1 := by decide +kernel
theorem len1b : (Str.ofString ">").length = 1 := by decide +kernel
theorem len1c : (Str.ofString ")").length = 1 := by decide +kernel
theorem eapp (z : Str) : Str.empty ++ z = z := str_ext (by rw [app_l]; rfl)
theorem cut_len (z : Str) (lo hi : Option Int) : (cutS z lo hi).length ≤ z.length := by
  rw [← len_l, cut_l, List.length_take, List.length_drop, len_l]
  omega
theorem rep2 (z : Str) : repS z 2 = z ++ z := by
  refine str_ext ?_
  rw [app_l]
  unfold repS
  rw [if_neg (by decide)]
  simp
theorem lkF {v w x y : V} : List.lookup ("fits" : Str) [(("old" : Str), v), ("new", w), ("left", x), ("right", y)] = none := by
  have e : (("fits" : Str) == "old") = false := by decide +kernel
  have e2 : (("fits" : Str) == "new") = false := by decide +kernel
  have e3 : (("fits" : Str) == "left") = false := by decide +kernel
  have e4 : (("fits" : Str) == "right") = false := by decide +kernel
  simp only [List.lookup, e, e2, e3, e4]
theorem put1 {v : V} : putF ("signs" : Str) v [] = ([(("signs" : Str), v)] : List (Str × V)) := rfl
theorem put2 {v w : V} : putF ("closed" : Str) w ([(("signs" : Str), v)] : List (Str × V)) = ([(("signs" : Str), v), (("closed" : Str), w)] : List (Str × V)) := by
  have h : ¬ (("signs" : Str) = ("closed" : Str)) := by decide +kernel
  show (if ("signs" : Str) = ("closed" : Str) then (("signs" : Str), w) :: ([] : List (Str × V)) else (("signs" : Str), v) :: putF ("closed" : Str) w []) = _
  rw [if_neg h]
  rfl
/-! ### readings -/
def kCO (C : Addr) (sp : Sp) (E : L2.St → XK) (t : TA) (σ : L2.St) (Q : VK) : VK := fun y H1 => ∃ a, y = V.ref a ∧ t σ H1 fun vs H2 => (∃ dx fs, H2 a = some (.ins C dx fs)) ∧ sp (V.ref a :: vs) H2 Q (E σ)
theorem x_callO {C : Addr} {sp : Sp} {E : L2.St → XK} {tf : TE} {t : TA} {σ : L2.St} {H : Hp} {Q : VK} (h : tf σ H (kCO C sp E t σ Q)) : tCallOG C sp E tf t σ H Q := h
theorem x_kCO {C r : Addr} {sp : Sp} {E : L2.St → XK} {t : TA} {σ : L2.St} {H : Hp} {Q : VK} (q : t σ H fun vs H2 => (∃ dx fs, H2 r = some (.ins C dx fs)) ∧ sp (V.ref r :: vs) H2 Q (E σ)) : kCO C sp E t σ Q (.ref r) H := ⟨r, rfl, q⟩
def kPr (C : Addr) (sp : Sp) (Q : VK) : VK := fun y H1 => ∃ a dx fs, y = V.ref a ∧ H1 a = some (.ins C dx fs) ∧ sp [.ref a] H1 Q XE0
theorem x_prop {C : Addr} {sp : Sp} {ta : TE} {σ : L2.St} {H : Hp} {Q : VK} (h : ta σ H (kPr C sp Q)) : tPropG C sp ta σ H Q := h
theorem x_kPr {C a dx : Addr} {fs : List (Str × V)} {sp : Sp} {H : Hp} {Q : VK} (h : H a = some (.ins C dx fs)) (q : sp [.ref a] H Q XE0) : kPr C sp Q (.ref a) H := ⟨a, dx, fs, rfl, h, q⟩
theorem pat_len {x : R4} (fx : Fine x) : (pat x).length ≤ 7 := by
  have f1 := fx.l.2
  have f2 := fx.o.2.2
  have f3 := fx.r.2
  unfold pat
  simp only [slen_app]
  omega
theorem lkO {v w x y : V} : List.lookup ("old" : Str) [("old", v), ("new", w), ("left", x), ("right", y)] = some v := by
  have e : (("old" : Str) == "old") = true := beq_self_eq_true _
  simp only [List.lookup, e]
theorem lkN {v w x y : V} : List.lookup ("new" : Str) [("old", v), ("new", w), ("left", x), ("right", y)] = some w := by
  have e : (("new" : Str) == "new") = true := beq_self_eq_true _
  have e2 : (("new" : Str) == "old") = false := by decide +kernel
  simp only [List.lookup, e, e2]
theorem lkL {v w x y : V} : List.lookup ("left" : Str) [("old", v), ("new", w), ("left", x), ("right", y)] = some x := by
  have e : (("left" : Str) == "left") = true := beq_self_eq_true _
  have e2 : (("left" : Str) == "old") = false := by decide +kernel
  have e3 : (("left" : Str) == "new") = false := by decide +kernel
  simp only [List.lookup, e, e2, e3]
theorem lkR {v w x y : V} : List.lookup ("right" : Str) [("old", v), ("new", w), ("left", x), ("right", y)] = some y := by
  have e : (("right" : Str) == "right") = true := beq_self_eq_true _
  have e2 : (("right" : Str) == "old") = false := by decide +kernel
  have e3 : (("right" : Str) == "new") = false := by decide +kernel
  have e4 : (("right" : Str) == "left") = false := by decide +kernel
  simp only [List.lookup, e, e2, e3, e4]
theorem lkB {v : V} : List.lookup ("_rules" : Str) [("_rules", v)] = some v := by
  have e : (("_rules" : Str) == "_rules") = true := beq_self_eq_true _
  simp only [List.lookup, e]
section
variable {K : PySem.W.Frag} {mg : Str → Option Value} {a : Ad} {H : Hp} {p l dx : Addr} {z : Str} {c : Bool} {x : R4} {Q : VK}
theorem x_fS (T : Txt K mg a) (h : TextAt a H p z c) (q : Q (.str z) H) : kFld K "signs" Q (.ref p) H := by
  obtain ⟨dx, h⟩ := h
  exact x_kFld h T.fS lkS q
theorem x_fC (T : Txt K mg a) (h : TextAt a H p z c) (q : Q (.bl c) H) : kFld K "closed" Q (.ref p) H := by
  obtain ⟨dx, h⟩ := h
  exact x_kFld h T.fC lkC q
theorem x_fO (T : Txt K mg a) (h : RuleAt a H p x) (q : Q (.str x.o) H) : kFld K "old" Q (.ref p) H := by
  obtain ⟨dx, h⟩ := h
  exact x_kFld h T.fO lkO q
theorem x_fN (T : Txt K mg a) (h : RuleAt a H p x) (q : Q (.str x.n) H) : kFld K "new" Q (.ref p) H := by
  obtain ⟨dx, h⟩ := h
  exact x_kFld h T.fN lkN q
theorem x_fL (T : Txt K mg a) (h : RuleAt a H p x) (q : Q (.str x.l) H) : kFld K "left" Q (.ref p) H := by
  obtain ⟨dx, h⟩ := h
  exact x_kFld h T.fL lkL q
theorem x_fR (T : Txt K mg a) (h : RuleAt a H p x) (q : Q (.str x.r) H) : kFld K "right" Q (.ref p) H := by
  obtain ⟨dx, h⟩ := h
  exact x_kFld h T.fR lkR q
theorem x_fB (T : Txt K mg a) (h : H p = some (.ins a.cBook dx [("_rules", .ref l)])) (q : Q (.ref l) H) : kFld K "_rules" Q (.ref p) H := x_kFld h T.fB lkB q
theorem x_kCVT (T : Txt K mg a) (q : Q (.int 120) H) : kCV K "MOST" Q (.ref a.cText) H := x_kCV T.cvT q
theorem x_kCVB (T : Txt K mg a) (q : Q (.int 8) H) : kCV K "MOST" Q (.ref a.cBook) H := x_kCV T.cvB q
theorem x_isRule (T : Txt K mg a) (h : RuleAt a H p x) (q : Q (.bl true) H) : rIsi K [.ref p, .ref a.cRule] H Q := by
  obtain ⟨dx, h⟩ := h
  exact x_isi (.own _) (.base (T.insR h)) T.kRR q
end
end K7
set_option maxHeartbeats 4000000
/-! K7B: k07: signs, Text, Rule (from K4B, K3B) -/
namespace K7
open PySem PySem.Spec PyProof.Rows L2 MC
local macro_rules | `(tactic| walk_at "hp") => `(tactic| first | assumption | (apply Le.keep; assumption; walk_at "hp") | (apply TextAt.le; assumption; walk_at "hp") | (apply Lw.keep; assumption; walk_at "hp"; first | rfl | exact sh_str _ | exact sh_ints _ | exact sh_sgns _) | (apply TextAt.lw; assumption; walk_at "hp"))
local macro_rules | `(tactic| walk_at "le") => `(tactic| first | exact Le.refl _ | assumption | (apply Le.trans'; assumption; walk_at "le"))
local macro_rules | `(tactic| walk_at "lw") => `(tactic| first | exact Lw.refl _ | assumption | exact Le.w (by assumption) | (apply Lw.trans'; (first | assumption | exact Le.w (by assumption)); walk_at "lw"))
local macro_rules | `(tactic| walk_at "sz") => `(tactic| first | omega | (simp only [slen_app]; omega) | (simp only [List.length_append, List.length_cons, List.length_nil, List.length_map, List.length_range]; omega) | omega | (simp; omega) | decide)
local macro_rules | `(tactic| walk_at "x") => `(tactic| first
  | with_reducible refine x_seq ?_ | with_reducible refine x_asg ?_ | with_reducible refine x_ret ?_ | with_reducible refine x_drop ?_
  | ((with_reducible apply x_var); exact rfl) | with_reducible refine x_c ?_ | with_reducible refine x_op ?_ | with_reducible refine x_opS ?_ | with_reducible refine x_un ?_ | with_reducible refine x_neg ?_
  | with_reducible refine x_test ?_ | with_reducible refine x_tB ?_ | with_reducible refine x_kB ?_
  | with_reducible refine x_nil ?_ | with_reducible refine x_cons ?_ | with_reducible refine x_tup ?_ | with_reducible refine x_lst ?_
  | ((with_reducible refine x_kTup ?_ ?_); (walk_at "sz"); (intro _ _ _ _ _)) | ((with_reducible refine x_kLst ?_ ?_); (walk_at "sz"); (intro _ _ _ _ _))
  | with_reducible refine x_fld ?_ | ((with_reducible apply x_fS); assumption; (walk_at "hp")) | ((with_reducible apply x_fC); assumption; (walk_at "hp"))
  | with_reducible refine x_cb ?_ | with_reducible refine x_call ?_ | with_reducible refine x_callE ?_ | with_reducible refine x_bm ?_ | with_reducible refine x_cv ?_
  | with_reducible refine x_meth ?_ | with_reducible refine x_cm ?_ | with_reducible refine x_kCM ?_ | with_reducible refine x_mk ?_ | with_reducible refine x_kMk ?_
  | with_reducible refine x_np ?_ | with_reducible refine x_part ?_ | with_reducible refine x_kPart ?_ | with_reducible refine x_sl ?_ | with_reducible refine x_rev ?_
  | with_reducible refine x_addI ?_ | ((with_reducible refine x_addS ?_ ?_); (walk_at "sz")) | with_reducible refine x_I0 ?_
  | with_reducible refine x_eqS ?_ | with_reducible refine x_eqI ?_ | with_reducible refine x_eqB ?_ | with_reducible refine x_neS ?_ | with_reducible refine x_neI ?_ | with_reducible refine x_neB ?_
  | with_reducible refine x_eqFS ?_ | with_reducible refine x_eqFI ?_
  | with_reducible refine x_ltI ?_ | with_reducible refine x_ltS ?_ | with_reducible refine x_leI ?_ | with_reducible refine x_leS ?_ | with_reducible refine x_inT ?_ | with_reducible refine x_notInT ?_
  | ((with_reducible refine x_slS ?_ ?_); (walk_at "sz")) | ((with_reducible refine x_kRev ?_ ?_); (walk_at "sz"))
  | ((with_reducible refine x_lenS ?_ ?_); (walk_at "sz")) | ((with_reducible apply x_lenT); (walk_at "hp"))
  | ((with_reducible apply x_ixT); (walk_at "hp"); exact rfl)
  | with_reducible refine x_abs ?_ | with_reducible refine x_int ?_ | with_reducible refine x_strS ?_
  | ((with_reducible apply x_isB); (first | exact kit_ty (r := true) (by decide +kernel) | exact kit_ty (r := false) (by decide +kernel))) | ((with_reducible apply x_isI); (first | exact kit_ty (r := true) (by decide +kernel) | exact kit_ty (r := false) (by decide +kernel))) | ((with_reducible apply x_isS); (first | exact kit_ty (r := true) (by decide +kernel) | exact kit_ty (r := false) (by decide +kernel)))
  | ((with_reducible apply x_isT); (walk_at "hp"); (first | exact kit_ty (r := true) (by decide +kernel) | exact kit_ty (r := false) (by decide +kernel)))
  | ((with_reducible apply x_isText); assumption; (walk_at "hp")) | ((with_reducible apply x_isTextS); assumption) | ((with_reducible apply x_isTextI); assumption) | ((with_reducible apply x_isTextN); assumption) | ((with_reducible apply x_kCVT); assumption)
  | ((with_reducible apply x_addL); (walk_at "hp"); (walk_at "hp"); (walk_at "sz"); (intro _ _ _ _ _)) | ((with_reducible apply x_tyL); (walk_at "hp")) | with_reducible refine x_tyS ?_
  | with_reducible refine x_joined ?_ | with_reducible refine x_js ?_ | with_reducible refine x_js0 ?_ | ((with_reducible refine x_kJs ?_ ?_); (walk_at "sz")) | with_reducible refine x_fmt ?_ | ((with_reducible refine x_fmtS ?_ ?_); (walk_at "sz")) | ((with_reducible refine x_fmtI ?_ ?_); omega)
  | with_reducible refine x_rse ?_ | with_reducible refine x_ex ?_ | with_reducible refine x_ex0 ?_ | with_reducible refine x_xf ?_
  | with_reducible refine x_for ?_ | with_reducible refine x_r1 ?_ | with_reducible refine x_r2 ?_ | with_reducible refine x_il ?_ | with_reducible refine x_en ?_ | with_reducible refine x_lc ?_ | with_reducible refine x_next ?_ | dsimp only)
local macro_rules | `(tactic| walk_at "xs") => `(tactic| repeat walk_at "x")
local macro_rules | `(tactic| walk_at "ev0") => `(tactic| (refine ev_run ?_; intro _ _ _ q; walk_at "xs"; refine q _ ?_; walk_at "le"))
local macro_rules | `(tactic| walk_at "ch") => `(tactic| (intro _ _ _ q; walk_at "xs"; refine q _ ?_; walk_at "le"))
local macro_rules | `(tactic| walk_at "ev") => `(tactic| first
  | (focus ((with_reducible refine ev_andV ?_ (fun _ => ?_)); (all_goals walk_at "ev"))) | (focus ((with_reducible refine ev_orV ?_ (fun _ => ?_)); (all_goals walk_at "ev")))
  | ((with_reducible refine ev_notV ?_); walk_at "ev")
  | (focus ((with_reducible apply ev_chain); (focus walk_at "ch"); (focus walk_at "ch"); (focus walk_at "ch"); (focus (intro _ _ _ q; walk_at "x"; exact q)); (focus (intro _ _ _ q; walk_at "x"; exact q))))
  | walk_at "ev0" | skip)
local macro_rules | `(tactic| walk_at "et") => `(tactic| first
  | (focus ((with_reducible refine et_and ?_ (fun _ => ?_)); (all_goals walk_at "et"))) | (focus ((with_reducible refine et_or ?_ (fun _ => ?_)); (all_goals walk_at "et")))
  | ((with_reducible refine et_not ?_); walk_at "et") | ((with_reducible refine et_B ?_); walk_at "ev") | ((with_reducible refine et_T ?_); walk_at "ev"))
local macro_rules | `(tactic| walk_at "hp") => `(tactic| first | assumption | (apply RuleAt.le; assumption; walk_at "hp") | (apply RulesAt.le; assumption; walk_at "hp") | (apply BookAt.le; assumption; walk_at "hp") | (apply RuleAt.lw; assumption; walk_at "hp") | (apply BookAt.lw; assumption; walk_at "hp") | (apply R4s.le; assumption; walk_at "hp") | (apply R4s.lw; assumption; walk_at "hp"))
local macro_rules | `(tactic| walk_at "x") => `(tactic| first
  | ((with_reducible apply x_fO); assumption; (walk_at "hp")) | ((with_reducible apply x_fN); assumption; (walk_at "hp")) | ((with_reducible apply x_fL); assumption; (walk_at "hp")) | ((with_reducible apply x_fR); assumption; (walk_at "hp")) | ((with_reducible apply x_fB); assumption; (walk_at "hp"))
  | ((with_reducible apply x_isRule); assumption; (walk_at "hp")) | ((with_reducible apply x_kCVB); assumption)
  | with_reducible refine x_callO ?_ | with_reducible refine x_kCO ?_ | with_reducible refine x_prop ?_ | with_reducible refine x_max ?_ | with_reducible refine x_intB ?_ | with_reducible refine x_findS ?_ | with_reducible refine x_countS ?_ | with_reducible refine x_isN ?_)
local macro_rules | `(tactic| walk_at "sz") => `(tactic| (simp only [slen_app, elen, len1a, len1b, len1c]; omega))
theorem ok_is_sign {P : Program} {w : World} {K : PySem.W.Frag} {mg : Str → Option Value} {base : Heap} {a : Ad} {f : Addr} {fd : FuncData} (F : FnP K "is_sign" "is_sign" s_is_sign f fd) (T : Txt K mg a)  :
    FnOk P w K mg base (L2.CX P w) 1 f fd ["word"] (sp_is_sign a) := by
  refine F.ok sc_is_sign (fun vs H Q E h => by obtain ⟨z, rfl, hz, q⟩ := h; rfl) (fun cdv A outer s H vs Q E hr h => ?_)
  refine ⟨_, (pss_one (ps_ret (pe_and (pe_cmpR (op_eqU hr) (pe_callB call_lenU (by rfl) T.f_len (by decide +kernel) (pa_cons (pv 0) pa_nil)) pe_int (nomark _)) (pe_one (pe_chain op_leU op_leU pe_str (pv 0) pe_str))))), ?_⟩
  obtain ⟨z, rfl, hz, q⟩ := h
  walk_at "xs"
  refine x_andV (b := isSg z) (ev_is ?_ (isSg_eq z).symm) q
  walk_at "ev"

theorem ok__check_signs {P : Program} {w : World} {K : PySem.W.Frag} {mg : Str → Option Value} {base : Heap} {a : Ad} {f : Addr} {fd : FuncData} (F : FnP K "_check_signs" "_check_signs" s__check_signs f fd) (T : Txt K mg a) (G_is_sign : FnG P w K mg base 1 "is_sign" (sp_is_sign a)) :
    FnOk P w K mg base (L2.CX P w) 2 f fd ["signs"] (sp__check_signs a) := by
  refine F.ok sc__check_signs (fun vs H Q E h => by obtain ⟨z, rfl, hz, hb, q⟩ := h; rfl) (fun cdv A outer s H vs Q E hr h => ?_)
  refine ⟨_, (pss_one (ps_for (by first | exact po | exact PassesOwn.never | exact passes_of rfl) rfl (pi_enumS (by rfl) T.f_enumerate (pa_cons (pv 0) pa_nil)) (pg_tup rfl (pgs_cons (pg_name (i := 1) sc__check_signs.nd rfl (Or.inl rfl)) (pgs_cons (pg_name (i := 2) sc__check_signs.nd rfl (Or.inl rfl)) pgs_nil))) (pss_one (ps_if (pt_not (pt_val (pe_callG G_is_sign (hr.mono (by decide)) passN rfl (pa_cons (pv 2) pa_nil)))) (pss_one ps_never) pss_nil)))), ?_⟩
  obtain ⟨z, rfl, hz, hb, q⟩ := h
  walk_at "xs"
  refine x_forE (fun i σ' H' => (∃ v1 v2, σ' = [some (V.str z), v1, v2]) ∧ Le H H') ⟨⟨_, _, rfl⟩, Le.refl H⟩ ?_ ?_
  · rintro i t σ' H1 H2 hi ⟨⟨v1, v2, rfl⟩, e1⟩ e2 hT
    refine ⟨t, _, rfl, sqt hT, rfl, ?_⟩
    refine ⟨_, _, rfl, ?_⟩
    refine ⟨_, _, rfl, ?_⟩
    refine ⟨rfl, ?_⟩
    refine x_no (et_is (b := !sgOk (z.cps.getD i 0)) (et_not (et_B (ev_run fun H3 e3 Q3 q3 => ?_))) (by rw [bad_none.mp hb i hi]; rfl)) (fun H3 e3 => ?_)
    · walk_at "xs"
      refine ⟨_, rfl, ?_, fun H4 e4 => ?_⟩
      · show #[z.cps.getD i 0].size ≤ 1000
        simp
      · rw [isSg_one]; exact q3 H4 e4
    · walk_at "xs"
      exact ⟨⟨_, _, rfl⟩, (e1.trans e2).trans e3⟩
  · rintro σ' H1 ⟨⟨v1, v2, rfl⟩, e1⟩
    exact q _ e1

theorem ok_Text___len__ {P : Program} {w : World} {K : PySem.W.Frag} {mg : Str → Option Value} {base : Heap} {a : Ad} {f : Addr} {fd : FuncData} (F : FnP K "__len__" "Text.__len__" s_Text___len__ f fd) (T : Txt K mg a)  :
    FnOk P w K mg base (L2.CX P w) 1 f fd ["self"] (sp_Text___len__ a) := by
  refine F.ok sc_Text___len__ (fun vs H Q E h => by obtain ⟨p, z, c, rfl, hz, h, q⟩ := h; rfl) (fun cdv A outer s H vs Q E hr h => ?_)
  refine ⟨_, (pss_one (ps_ret (pe_callB call_lenU (by rfl) T.f_len (by decide +kernel) (pa_cons (pe_fld (pv 0) rfl) pa_nil)))), ?_⟩
  obtain ⟨p, z, c, rfl, hz, h, q⟩ := h
  have hz2 : z.length ≤ 1000 := hz
  walk_at "xs"
  exact q _ (Le.refl _)

theorem ok__check_part {P : Program} {w : World} {K : PySem.W.Frag} {mg : Str → Option Value} {base : Heap} {a : Ad} {f : Addr} {fd : FuncData} (F : FnP K "_check_part" "_check_part" s__check_part f fd) (T : Txt K mg a) (G__check_signs : FnG P w K mg base 2 "_check_signs" (sp__check_signs a)) :
    FnOk P w K mg base (L2.CX P w) 3 f fd ["part", "signs", "least", "most"] (sp__check_part a) := by
  refine F.ok sc__check_part (fun vs H Q E h => by obtain ⟨y, z, i, j, rfl, hz, hb, h1, h2, q⟩ := h; rfl) (fun cdv A outer s H vs Q E hr h => ?_)
  refine ⟨_, (pss_cons (ps_expr (pe_callG G__check_signs (hr.mono (by decide)) passN rfl (pa_cons (pv 1) pa_nil)))
    (pss_one (ps_if (pt_not (pt_chain op_leU op_leU (pv 2) (pe_callB call_lenU (by rfl) T.f_len (by decide +kernel) (pa_cons (pv 1) pa_nil)) (pv 3))) (pss_one ps_never) pss_nil))), ?_⟩
  obtain ⟨y, z, i, j, rfl, hz, hb, h1, h2, q⟩ := h
  have hz2 : z.length ≤ 1000 := hz
  walk_at "xs"
  refine ⟨z, rfl, hz, hb, fun H1 e1 => ?_⟩
  walk_at "xs"
  refine x_no ?_ (fun H2 e2 => ?_)
  · refine et_is (b := !(decide ((i : Int) ≤ ((z.length : Nat) : Int)) && decide (((z.length : Nat) : Int) ≤ (j : Int)))) ?_ ?_
    · walk_at "et"
    · rw [decide_eq_true (by omega : (i : Int) ≤ ((z.length : Nat) : Int)), decide_eq_true (by omega : ((z.length : Nat) : Int) ≤ (j : Int))]; rfl
  · walk_at "xs"
    exact q _ (e1.trans e2)

theorem ok_Rule_pattern {P : Program} {w : World} {K : PySem.W.Frag} {mg : Str → Option Value} {base : Heap} {a : Ad} {f : Addr} {fd : FuncData} (F : FnP K "pattern" "Rule.pattern" s_Rule_pattern f fd) (T : Txt K mg a)  :
    FnOk P w K mg base (L2.CX P w) 1 f fd ["self"] (sp_Rule_pattern a) := by
  refine F.ok sc_Rule_pattern (fun vs H Q E h => by obtain ⟨p, x, rfl, fx, h, q⟩ := h; rfl) (fun cdv A outer s H vs Q E hr h => ?_)
  refine ⟨_, (pss_one (ps_ret (pe_joinedU (.cons (pe_fmt (pe_fld (pv 0) rfl)) (.cons (pe_fmt (pe_fld (pv 0) rfl)) (.cons (pe_fmt (pe_fld (pv 0) rfl)) .nil)))))), ?_⟩
  obtain ⟨p, x, rfl, fx, h, q⟩ := h
  have h1 := fx.l.2
  have h2 := fx.o.2.2
  have h3 := fx.r.2
  walk_at "xs"
  rw [eapp]
  exact q _ (Le.refl _)

theorem ok_Rule___eq__ {P : Program} {w : World} {K : PySem.W.Frag} {mg : Str → Option Value} {base : Heap} {a : Ad} {f : Addr} {fd : FuncData} (F : FnP K "__eq__" "Rule.__eq__" s_Rule___eq__ f fd) (T : Txt K mg a)  :
    FnOk P w K mg base (L2.CX P w) 1 f fd ["self", "other"] (sp_Rule___eq__ a) := by
  refine F.ok sc_Rule___eq__ (fun vs H Q E h => by obtain ⟨p, q, x, y, rfl, h1, h2, hq⟩ := h; rfl) (fun cdv A outer s H vs Q E hr h => ?_)
  refine ⟨_, (pss_one (ps_ret (pe_and (pe_callB call_isi (by rfl) T.f_isinstance (by decide +kernel) (pa_cons (pv 1) (pa_cons (pe_glob (v := .ref a.cRule) rfl T.g_Rule rfl) pa_nil))) (pe_and (pe_cmpR (op_eqU hr) (pe_fld (pv 0) rfl) (pe_fld (pv 1) rfl) (nomark _)) (pe_and (pe_cmpR (op_eqU hr) (pe_fld (pv 0) rfl) (pe_fld (pv 1) rfl) (nomark _)) (pe_and (pe_cmpR (op_eqU hr) (pe_fld (pv 0) rfl) (pe_fld (pv 1) rfl) (nomark _)) (pe_one (pe_cmpR (op_eqU hr) (pe_fld (pv 0) rfl) (pe_fld (pv 1) rfl) (nomark _))))))))), ?_⟩
  obtain ⟨p, q, x, y, rfl, h1, h2, hq⟩ := h
  walk_at "xs"
  refine x_andV (b := decide (x = y)) (ev_is (b := (true && (decide (x.o = y.o) && (decide (x.n = y.n) && (decide (x.l = y.l) && decide (x.r = y.r)))))) ?_ ?_) hq
  · walk_at "ev"
  · obtain ⟨a1, a2, a3, a4⟩ := x
    obtain ⟨b1, b2, b3, b4⟩ := y
    rw [Bool.true_and]
    by_cases q1 : a1 = b1 <;> by_cases q2 : a2 = b2 <;> by_cases q3 : a3 = b3 <;> by_cases q4 : a4 = b4 <;> simp [q1, q2, q3, q4]

theorem ok_Rule___str__ {P : Program} {w : World} {K : PySem.W.Frag} {mg : Str → Option Value} {base : Heap} {a : Ad} {f : Addr} {fd : FuncData} (F : FnP K "__str__" "Rule.__str__" s_Rule___str__ f fd) (T : Txt K mg a)  :
    FnOk P w K mg base (L2.CX P w) 1 f fd ["self"] (sp_Rule___str__ a) := by
  refine F.ok sc_Rule___str__ (fun vs H Q E h => by obtain ⟨p, x, rfl, fx, h, q⟩ := h; rfl) (fun cdv A outer s H vs Q E hr h => ?_)
  refine ⟨_, (pss_one (ps_ret (pe_joinedU (.cons (pe_fmt (pe_fld (pv 0) rfl)) (.cons pe_str (.cons (pe_fmt (pe_fld (pv 0) rfl)) (.cons pe_str (.cons (pe_fmt (pe_fld (pv 0) rfl)) (.cons pe_str (.cons (pe_fmt (pe_fld (pv 0) rfl)) .nil)))))))))), ?_⟩
  obtain ⟨p, x, rfl, fx, h, q⟩ := h
  have h1 := fx.l.2
  have h2 := fx.o.2.2
  have h3 := fx.r.2
  have h4 := fx.n.2.2
  walk_at "xs"
  rw [eapp]
  exact q _ (Le.refl _)

theorem ok_Rule_fits {P : Program} {w : World} {K : PySem.W.Frag} {mg : Str → Option Value} {base : Heap} {a : Ad} {f : Addr} {fd : FuncData} (F : FnP K "fits" "Rule.fits" s_Rule_fits f fd) (T : Txt K mg a) (P_Rule_pattern : PrG P w K mg base 1 a.cRule "pattern" (sp_Rule_pattern a)) (O_Text___len__ : OpG P w K mg base 1 a.cText "__len__" (sp_Text___len__ a)) :
    FnOk P w K mg base (L2.CX P w) 3 f fd ["self", "text", "at"] (sp_Rule_fits a) := by
  refine F.ok sc_Rule_fits (fun vs H Q E h => by obtain ⟨p, q, x, z, c, i, rfl, fx, gz, h1, h2, hq⟩ := h; rfl) (fun cdv A outer s H vs Q E hr h => ?_)
  refine ⟨_, (pss_cons (ps_set (i := 3) sc_Rule_fits.nd rfl (Or.inl rfl) (pe_callB (call_lenG O_Text___len__ (hr.mono (by decide))) (by rfl) T.f_len (by decide +kernel) (pa_cons (pv 1) pa_nil)))
    (pss_cons (ps_set (i := 4) sc_Rule_fits.nd rfl (Or.inl rfl) (pe_propG P_Rule_pattern (hr.mono (by decide)) (pv 0)))
    (pss_cons (ps_if (PW.pt (pw_or (pt_not (pt_chain op_leU op_ltU pe_int (pv 2) (pv 3))) (pw_or1 (pt_cmpR op_gt (pe_callB call_lenU (by rfl) T.f_len (by decide +kernel) (pa_cons (pv 4) pa_nil)) (pv 3) (nomark _))))) (pss_one (ps_ret pe_bl)) pss_nil)
    (pss_cons (ps_set (i := 5) sc_Rule_fits.nd rfl (Or.inl rfl) (pe_op op_sub (pv 2) (pe_callB call_lenU (by rfl) T.f_len (by decide +kernel) (pa_cons (pe_fld (pv 0) rfl) pa_nil))))
    (pss_cons (ps_if (pt_val (pe_fld (pv 1) rfl)) (pss_cons (ps_set (i := 5) sc_Rule_fits.nd rfl (Or.inl rfl) (pe_op op_modN (pv 5) (pv 3)))
    (pss_one (ps_ret (pe_cmpR (op_eqU hr) (pe_slice sl_U (pe_op op_mulU (pe_fld (pv 1) rfl) pe_int) (po_some (pv 5)) (po_some (pe_op op_addU (pv 5) (pe_callB call_lenU (by rfl) T.f_len (by decide +kernel) (pa_cons (pv 4) pa_nil))))) (pv 4) (nomark _))))) pss_nil)
    (pss_one (ps_ret (pe_and (pe_cmpR op_ge (pv 5) pe_int (nomark _)) (pe_one (pe_cmpR (op_eqU hr) (pe_slice sl_U (pe_fld (pv 1) rfl) (po_some (pv 5)) (po_some (pe_op op_addU (pv 5) (pe_callB call_lenU (by rfl) T.f_len (by decide +kernel) (pa_cons (pv 4) pa_nil))))) (pv 4) (nomark _))))))))))), ?_⟩
  obtain ⟨p, q, x, z, c, i, rfl, fx, gz, h1, h2, hq⟩ := h
  have f1 := fx.l.2
  have f2 := fx.o.2.2
  have f3 := fx.r.2
  have hz2 : z.length ≤ 120 := gz.2.1
  have hpl := pat_len fx
  walk_at "xs"
  obtain ⟨dq, hq2⟩ := id h2
  obtain ⟨dp, hp2⟩ := id h1
  refine x_lenO hq2 ⟨q, z, c, rfl, by omega, h2, fun H1 e1 => ⟨_, rfl, by omega, ?_⟩⟩
  walk_at "xs"
  refine x_kPr (e1.keep hp2) ⟨p, x, rfl, fx, h1.le e1, fun H2 e2 => ?_⟩
  walk_at "xs"
  refine x_if (b := (!(decide ((0 : Int) ≤ i) && decide (i < ((z.length : Nat) : Int)))) || decide (((z.length : Nat) : Int) < (((pat x).length : Nat) : Int))) ?_ (fun hb H3 e3 => ?_) (fun hb H3 e3 => ?_)
  · walk_at "et"
  · walk_at "xs"
    have : fits x z c i = false := by
      unfold fits
      rw [if_pos]
      simp only [Bool.or_eq_true, Bool.not_eq_true', Bool.and_eq_false_iff, decide_eq_false_iff_not, decide_eq_true_eq] at hb
      omega
    rw [← this]
    exact hq _ ((e1.trans e2).trans e3)
  · simp only [Bool.or_eq_false_iff, Bool.not_eq_false', Bool.and_eq_true, decide_eq_false_iff_not, decide_eq_true_eq] at hb
    walk_at "xs"
    have hn : ¬(¬(0 ≤ i ∧ i < (z.length : Int)) ∨ (pat x).length > z.length) := by omega
    refine x_if (b := c) (by walk_at "et") (fun hc H4 e4 => ?_) (fun hc H4 e4 => ?_)
    · walk_at "xs"
      refine ⟨_, _, rfl, rfl, by omega, ?_⟩
      walk_at "xs"
      refine x_mulS (by decide) (by decide) (by omega) ?_
      walk_at "xs"
      have hr2 : (repS z 2).length ≤ 1000 := by rw [rep2, slen_app]; omega
      refine x_slS (by omega) ?_
      walk_at "xs"
      have : fits x z c i = decide (cutS (repS z 2) (some ((i - x.l.length).fmod z.length)) (some ((i - x.l.length).fmod z.length + (pat x).length)) = pat x) := by
        unfold fits
        rw [if_neg hn, if_pos hc]
      rw [this] at hq
      exact hq _ (((e1.trans e2).trans e3).trans e4)
    · walk_at "xs"
      have : fits x z c i = (decide (i - x.l.length ≥ 0) && decide (cutS z (some (i - x.l.length)) (some (i - x.l.length + (pat x).length)) = pat x)) := by
        unfold fits
        rw [if_neg hn, hc]; rfl
      rw [this] at hq
      refine x_andV ?_ (fun H5 e5 => hq _ ((((e1.trans e2).trans e3).trans e4).trans e5))
      walk_at "ev"

theorem ok_Text___init__ {P : Program} {w : World} {K : PySem.W.Frag} {mg : Str → Option Value} {base : Heap} {a : Ad} {f : Addr} {fd : FuncData} (F : FunD K "__init__" "Text.__init__" (defArgs s_Text___init__) (defBody s_Text___init__) (defScope s_Text___init__) [] [("closed", .bl false)] f fd) (T : Txt K mg a) (G__check_signs : FnG P w K mg base 2 "_check_signs" (sp__check_signs a)) :
    FnOk P w K mg base (L2.CX P w) 3 f fd ["self", "signs", "closed"] (sp_Text___init__ a) := by
  refine F.ok sc_Text___init__ (fun vs H Q E h => by obtain ⟨p, z, c, dx, rfl, g, hp, q⟩ := h; rfl) (fun cdv A outer s H vs Q E hr h => ?_)
  refine ⟨_, (pss_cons (ps_expr (pe_callG G__check_signs (hr.mono (by decide)) passN rfl (pa_cons (pv 1) pa_nil)))
    (pss_cons (ps_if (PW.pt (pw_or (pt_cmpR op_gt (pe_callB call_lenU (by rfl) T.f_len (by decide +kernel) (pa_cons (pv 1) pa_nil)) (ClX.pe_cval (pe_glob (v := .ref a.cText) rfl T.g_Text rfl)) (nomark _)) (pw_or1 (PW.pt (pw_and (pt_val (pv 2)) (pw_and1 (pt_cmpR (op_eqU hr) (pv 1) pe_str (nomark _)))))))) (pss_one ps_never) pss_nil)
    (pss_cons (ps_fld (pv 0) (pv 1) rfl)
    (pss_one (ps_fld (pv 0) (pv 2) rfl))))), ?_⟩
  obtain ⟨p, z, c, dx, rfl, g, hp, q⟩ := h
  have hz2 : z.length ≤ 120 := g.2.1
  walk_at "xs"
  refine ⟨z, rfl, by show z.length ≤ 1000; omega, g.1, fun H1 e1 => ?_⟩
  walk_at "xs"
  refine x_no (et_is (b := decide ((120 : Int) < z.length) || (c && decide (z = ""))) (by walk_at "et") ?_) (fun H2 e2 => ?_)
  · rw [decide_eq_false (by omega), Bool.false_or]
    cases hc : c
    · rfl
    · rw [Bool.true_and]; exact decide_eq_false (g.2.2 hc)
  · walk_at "xs"
    refine ⟨_, rfl, _, rfl, p, a.cText, dx, [], rfl, (e1.trans e2).keep hp, T.fS.1, T.fS.2, by show 0 < 1000; decide, ?_⟩
    refine ⟨_, rfl, _, rfl, p, a.cText, dx, _, rfl, upd_same, T.fC.1, T.fC.2, by show 1 < 1000; decide, ?_⟩
    rw [upd_upd]
    have := q H2 (e1.trans e2)
    rw [put1, put2]
    exact this
end K7
set_option maxHeartbeats 4000000
/-! K7C: k07: a book: numbers, items, what is dropped -/
namespace K7
open PySem PySem.Spec PyProof.Rows L2 MC
theorem atI_nat {α : Type} {l : List α} {i : Int} {v : α} (h : 0 ≤ i ∧ i < l.length) (e : l[i.toNat]? = some v) : atI l i = some v := by
  unfold atI ixN
  rw [if_pos h.1, if_pos h.2]
  exact e
theorem RulesAt.at {a : Ad} {H : Hp} : ∀ {vs : List V} {xs : List R4} {i : Nat} {v : V}, RulesAt a H vs xs → vs[i]? = some v → ∃ p x, xs[i]? = some x ∧ v = .ref p ∧ RuleAt a H p x
  | [], [], i, _, _, e => by simp at e
  | u :: vs, y :: ys, 0, v, h, e => by
    have : u = v := by simpa using e
    subst this
    obtain ⟨p, rfl, hp⟩ := h.1
    exact ⟨p, y, rfl, rfl, hp⟩
  | u :: vs, y :: ys, i + 1, v, h, e => by
    obtain ⟨p, x, h1, h2, h3⟩ := RulesAt.at (i := i) h.2 (by simpa using e)
    exact ⟨p, x, by simpa using h1, h2, h3⟩
  | [], _ :: _, _, _, h, _ => h.elim
  | _ :: _, [], _, _, h, _ => h.elim
theorem BkL.at_ {a : Ad} {H : Hp} {p l : Addr} {us : List V} {xs : List R4} (h : BkL a H p l us xs) : BookAt a H p xs := by
  obtain ⟨dx, h1, h2, h3⟩ := h
  exact ⟨dx, l, us, h1, h2, h3⟩
theorem lkM {m : Str} {v : V} (h : (m == ("_rules" : Str)) = false) : List.lookup m [(("_rules" : Str), v)] = none := by simp only [List.lookup, h]
theorem sIx_at {i : Int} {n : Nat} (h : 0 ≤ i ∧ i < n) : seqIndex? i n = some i.toNat := by
  unfold seqIndex?
  simp only [show ¬ i < 0 by omega, if_false, decide_eq_true h.1, decide_eq_true h.2, Bool.and_self, if_true]
local macro_rules | `(tactic| walk_at "hp") => `(tactic| first | assumption | (apply Le.keep; assumption; walk_at "hp") | (apply TextAt.le; assumption; walk_at "hp") | (apply Lw.keep; assumption; walk_at "hp"; first | rfl | exact sh_str _ | exact sh_ints _ | exact sh_sgns _) | (apply TextAt.lw; assumption; walk_at "hp"))
local macro_rules | `(tactic| walk_at "le") => `(tactic| first | exact Le.refl _ | assumption | (apply Le.trans'; assumption; walk_at "le"))
local macro_rules | `(tactic| walk_at "lw") => `(tactic| first | exact Lw.refl _ | assumption | exact Le.w (by assumption) | (apply Lw.trans'; (first | assumption | exact Le.w (by assumption)); walk_at "lw"))
local macro_rules | `(tactic| walk_at "sz") => `(tactic| first | omega | (simp only [slen_app]; omega) | (simp only [List.length_append, List.length_cons, List.length_nil, List.length_map, List.length_range]; omega) | omega | (simp; omega) | decide)
local macro_rules | `(tactic| walk_at "x") => `(tactic| first
  | with_reducible refine x_seq ?_ | with_reducible refine x_asg ?_ | with_reducible refine x_ret ?_ | with_reducible refine x_drop ?_
  | ((with_reducible apply x_var); exact rfl) | with_reducible refine x_c ?_ | with_reducible refine x_op ?_ | with_reducible refine x_opS ?_ | with_reducible refine x_un ?_ | with_reducible refine x_neg ?_
  | with_reducible refine x_test ?_ | with_reducible refine x_tB ?_ | with_reducible refine x_kB ?_
  | with_reducible refine x_nil ?_ | with_reducible refine x_cons ?_ | with_reducible refine x_tup ?_ | with_reducible refine x_lst ?_
  | ((with_reducible refine x_kTup ?_ ?_); (walk_at "sz"); (intro _ _ _ _ _)) | ((with_reducible refine x_kLst ?_ ?_); (walk_at "sz"); (intro _ _ _ _ _))
  | with_reducible refine x_fld ?_ | ((with_reducible apply x_fS); assumption; (walk_at "hp")) | ((with_reducible apply x_fC); assumption; (walk_at "hp"))
  | with_reducible refine x_cb ?_ | with_reducible refine x_call ?_ | with_reducible refine x_callE ?_ | with_reducible refine x_bm ?_ | with_reducible refine x_cv ?_
  | with_reducible refine x_meth ?_ | with_reducible refine x_cm ?_ | with_reducible refine x_kCM ?_ | with_reducible refine x_mk ?_ | with_reducible refine x_kMk ?_
  | with_reducible refine x_np ?_ | with_reducible refine x_part ?_ | with_reducible refine x_kPart ?_ | with_reducible refine x_sl ?_ | with_reducible refine x_rev ?_
  | with_reducible refine x_addI ?_ | ((with_reducible refine x_addS ?_ ?_); (walk_at "sz")) | with_reducible refine x_I0 ?_
  | with_reducible refine x_eqS ?_ | with_reducible refine x_eqI ?_ | with_reducible refine x_eqB ?_ | with_reducible refine x_neS ?_ | with_reducible refine x_neI ?_ | with_reducible refine x_neB ?_
  | with_reducible refine x_eqFS ?_ | with_reducible refine x_eqFI ?_
  | with_reducible refine x_ltI ?_ | with_reducible refine x_ltS ?_ | with_reducible refine x_leI ?_ | with_reducible refine x_leS ?_ | with_reducible refine x_inT ?_ | with_reducible refine x_notInT ?_
  | ((with_reducible refine x_slS ?_ ?_); (walk_at "sz")) | ((with_reducible refine x_kRev ?_ ?_); (walk_at "sz"))
  | ((with_reducible refine x_lenS ?_ ?_); (walk_at "sz")) | ((with_reducible apply x_lenT); (walk_at "hp"))
  | ((with_reducible apply x_ixT); (walk_at "hp"); exact rfl)
  | with_reducible refine x_abs ?_ | with_reducible refine x_int ?_ | with_reducible refine x_strS ?_
  | ((with_reducible apply x_isB); (first | exact kit_ty (r := true) (by decide +kernel) | exact kit_ty (r := false) (by decide +kernel))) | ((with_reducible apply x_isI); (first | exact kit_ty (r := true) (by decide +kernel) | exact kit_ty (r := false) (by decide +kernel))) | ((with_reducible apply x_isS); (first | exact kit_ty (r := true) (by decide +kernel) | exact kit_ty (r := false) (by decide +kernel)))
  | ((with_reducible apply x_isT); (walk_at "hp"); (first | exact kit_ty (r := true) (by decide +kernel) | exact kit_ty (r := false) (by decide +kernel)))
  | ((with_reducible apply x_isText); assumption; (walk_at "hp")) | ((with_reducible apply x_isTextS); assumption) | ((with_reducible apply x_isTextI); assumption) | ((with_reducible apply x_isTextN); assumption) | ((with_reducible apply x_kCVT); assumption)
  | ((with_reducible apply x_addL); (walk_at "hp"); (walk_at "hp"); (walk_at "sz"); (intro _ _ _ _ _)) | ((with_reducible apply x_tyL); (walk_at "hp")) | with_reducible refine x_tyS ?_
  | with_reducible refine x_joined ?_ | with_reducible refine x_js ?_ | with_reducible refine x_js0 ?_ | ((with_reducible refine x_kJs ?_ ?_); (walk_at "sz")) | with_reducible refine x_fmt ?_ | ((with_reducible refine x_fmtS ?_ ?_); (walk_at "sz")) | ((with_reducible refine x_fmtI ?_ ?_); omega)
  | with_reducible refine x_rse ?_ | with_reducible refine x_ex ?_ | with_reducible refine x_ex0 ?_ | with_reducible refine x_xf ?_
  | with_reducible refine x_for ?_ | with_reducible refine x_r1 ?_ | with_reducible refine x_r2 ?_ | with_reducible refine x_il ?_ | with_reducible refine x_en ?_ | with_reducible refine x_lc ?_ | with_reducible refine x_next ?_ | dsimp only)
local macro_rules | `(tactic| walk_at "xs") => `(tactic| repeat walk_at "x")
local macro_rules | `(tactic| walk_at "ev0") => `(tactic| (refine ev_run ?_; intro _ _ _ q; walk_at "xs"; refine q _ ?_; walk_at "le"))
local macro_rules | `(tactic| walk_at "ch") => `(tactic| (intro _ _ _ q; walk_at "xs"; refine q _ ?_; walk_at "le"))
local macro_rules | `(tactic| walk_at "ev") => `(tactic| first
  | (focus ((with_reducible refine ev_andV ?_ (fun _ => ?_)); (all_goals walk_at "ev"))) | (focus ((with_reducible refine ev_orV ?_ (fun _ => ?_)); (all_goals walk_at "ev")))
  | ((with_reducible refine ev_notV ?_); walk_at "ev")
  | (focus ((with_reducible apply ev_chain); (focus walk_at "ch"); (focus walk_at "ch"); (focus walk_at "ch"); (focus (intro _ _ _ q; walk_at "x"; exact q)); (focus (intro _ _ _ q; walk_at "x"; exact q))))
  | walk_at "ev0" | skip)
local macro_rules | `(tactic| walk_at "et") => `(tactic| first
  | (focus ((with_reducible refine et_and ?_ (fun _ => ?_)); (all_goals walk_at "et"))) | (focus ((with_reducible refine et_or ?_ (fun _ => ?_)); (all_goals walk_at "et")))
  | ((with_reducible refine et_not ?_); walk_at "et") | ((with_reducible refine et_B ?_); walk_at "ev") | ((with_reducible refine et_T ?_); walk_at "ev"))
local macro_rules | `(tactic| walk_at "hp") => `(tactic| first | assumption | (apply RuleAt.le; assumption; walk_at "hp") | (apply RulesAt.le; assumption; walk_at "hp") | (apply BookAt.le; assumption; walk_at "hp") | (apply RuleAt.lw; assumption; walk_at "hp") | (apply BookAt.lw; assumption; walk_at "hp") | (apply R4s.le; assumption; walk_at "hp") | (apply R4s.lw; assumption; walk_at "hp"))
local macro_rules | `(tactic| walk_at "x") => `(tactic| first
  | ((with_reducible apply x_fO); assumption; (walk_at "hp")) | ((with_reducible apply x_fN); assumption; (walk_at "hp")) | ((with_reducible apply x_fL); assumption; (walk_at "hp")) | ((with_reducible apply x_fR); assumption; (walk_at "hp")) | ((with_reducible apply x_fB); assumption; (walk_at "hp"))
  | ((with_reducible apply x_isRule); assumption; (walk_at "hp")) | ((with_reducible apply x_kCVB); assumption)
  | with_reducible refine x_callO ?_ | with_reducible refine x_kCO ?_ | with_reducible refine x_prop ?_ | with_reducible refine x_max ?_ | with_reducible refine x_intB ?_ | with_reducible refine x_findS ?_ | with_reducible refine x_countS ?_ | with_reducible refine x_isN ?_)
local macro_rules | `(tactic| walk_at "sz") => `(tactic| (simp only [slen_app, elen, len1a, len1b, len1c]; omega))
local macro_rules | `(tactic| walk_at "x") => `(tactic| first
  | with_reducible refine x_sfld ?_ | with_reducible refine x_enL ?_ | with_reducible refine x_enN ?_ | with_reducible refine x_it ?_ | with_reducible refine x_asgT ?_ | ((with_reducible apply x_g2); (walk_at "hp")) | ((with_reducible apply x_g3); (walk_at "hp")) | ((with_reducible apply x_g4); (walk_at "hp"))
  | ((with_reducible apply x_lenL2); (walk_at "hp")) | with_reducible refine x_gseq ?_ | with_reducible refine x_g0 ?_ | with_reducible refine x_gfor ?_ | with_reducible refine x_gps ?_)
local macro_rules | `(tactic| walk_at "x") => `(tactic| first | ((with_reducible refine x_splitS ?_ ?_ ?_); (decide +kernel); (walk_at "sz"); (intro _ _ _ _ _)) | with_reducible refine x_methK ?_ | with_reducible refine x_mkSt ?_ | with_reducible refine x_kMkSt ?_ | ((with_reducible apply x_kStL); (walk_at "hp")))
theorem ok_Book___len__ {P : Program} {w : World} {K : PySem.W.Frag} {mg : Str → Option Value} {base : Heap} {a : Ad} {f : Addr} {fd : FuncData} (F : FnP K "__len__" "Book.__len__" s_Book___len__ f fd) (T : Txt K mg a)  :
    FnOk P w K mg base (L2.CX P w) 1 f fd ["self"] (sp_Book___len__ a) := by
  refine F.ok sc_Book___len__ (fun vs H Q E h => by obtain ⟨p, xs, rfl, hn, h, q⟩ := h; rfl) (fun cdv A outer s H vs Q E hr h => ?_)
  refine ⟨_, (pss_one (ps_ret (pe_callB call_lenU (by rfl) T.f_len (by decide +kernel) (pa_cons (pe_fld (pv 0) rfl) pa_nil)))), ?_⟩
  obtain ⟨p, xs, rfl, hn, h, q⟩ := h
  obtain ⟨dx, l, vs, h1, h2, h3⟩ := id h
  have hl := h3.len
  walk_at "xs"
  rw [hl]
  exact q _ (Le.refl _)

theorem ok_Book__check_number {P : Program} {w : World} {K : PySem.W.Frag} {mg : Str → Option Value} {base : Heap} {a : Ad} {f : Addr} {fd : FuncData} (F : FnP K "_check_number" "Book._check_number" s_Book__check_number f fd) (T : Txt K mg a)  :
    FnOk P w K mg base (L2.CX P w) 1 f fd ["self", "number"] (sp_Book__check_number a) := by
  refine F.ok sc_Book__check_number (fun vs H Q E h => by obtain ⟨p, xs, i, rfl, hi, hn, h, q⟩ := h; rfl) (fun cdv A outer s H vs Q E hr h => ?_)
  refine ⟨_, (pss_one (ps_if (pt_not (pt_chain op_leU op_ltU pe_int (pv 1) (pe_callB call_lenU (by rfl) T.f_len (by decide +kernel) (pa_cons (pe_fld (pv 0) rfl) pa_nil)))) (pss_one ps_never) pss_nil)), ?_⟩
  obtain ⟨p, xs, i, rfl, hi, hn, h, q⟩ := h
  obtain ⟨dx, l, vs, h1, h2, h3⟩ := id h
  have hl := h3.len
  walk_at "xs"
  refine x_no (et_is (b := !(decide ((0 : Int) ≤ i) && decide (i < ((vs.length : Nat) : Int)))) (et_not (et_T ?_)) (by rw [decide_eq_true (by omega), decide_eq_true (by omega)]; rfl)) fun H2 e2 => ?_
  · apply ev_chain
    · walk_at "ch"
    · walk_at "ch"
    · intro H1 e1 Q1 q1
      walk_at "xs"
      exact q1 _ (Le.refl _)
    · intro _ _ _ q; walk_at "x"; exact q
    · intro _ _ _ q; walk_at "x"; exact q
  · walk_at "xs"
    exact q _ e2

theorem ok_Book___getitem__ {P : Program} {w : World} {K : PySem.W.Frag} {mg : Str → Option Value} {base : Heap} {a : Ad} {f : Addr} {fd : FuncData} (F : FnP K "__getitem__" "Book.__getitem__" s_Book___getitem__ f fd) (T : Txt K mg a) (M_Book__check_number : MeG P w K mg base 1 a.cBook "_check_number" (sp_Book__check_number a)) :
    FnOk P w K mg base (L2.CX P w) 2 f fd ["self", "number"] (sp_Book___getitem__ a) := by
  refine F.ok sc_Book___getitem__ (fun vs H Q E h => by obtain ⟨p, xs, i, rfl, hi, hn, h, hm⟩ := h; rfl) (fun cdv A outer s H vs Q E hr h => ?_)
  refine ⟨_, (pss_cons (ps_expr (pe_methG M_Book__check_number (hr.mono (by decide)) passN (pv 0) (pa_cons (pv 1) pa_nil)))
    (pss_one (ps_ret (pe_ix ix_seq (pe_fld (pv 0) rfl) (pv 1) (fun _ _ => rfl))))), ?_⟩
  obtain ⟨p, xs, i, rfl, hi, hn, h, hm⟩ := h
  obtain ⟨dx, l, vs, h1, h2, h3⟩ := id h
  have hl := h3.len
  walk_at "xs"
  refine x_kMeth h1 (lkM (by decide +kernel)) ?_
  walk_at "xs"
  refine ⟨p, xs, i, rfl, hi, hn, h, fun H1 e1 => ?_⟩
  walk_at "xs"
  have hx2 : xs[i.toNat]? = some (xs.getD i.toNat r0) := by rw [List.getD_eq_getElem?_getD, List.getElem?_eq_getElem (by omega)]; rfl
  obtain ⟨r, hr, hr2⟩ := h3.get hx2
  exact x_ixL (sql (e1.keep h2)) (atI_nat ⟨hi.1, by omega⟩ hr) (hm r H1 e1 (hr2.le e1))

theorem ok_Book_drop {P : Program} {w : World} {K : PySem.W.Frag} {mg : Str → Option Value} {base : Heap} {a : Ad} {f : Addr} {fd : FuncData} (F : FnP K "drop" "Book.drop" s_Book_drop f fd) (T : Txt K mg a) (M_Book__check_number : MeG P w K mg base 1 a.cBook "_check_number" (sp_Book__check_number a)) :
    FnOk P w K mg base (L2.CX P w) 2 f fd ["self", "number"] (sp_Book_drop a) := by
  refine F.ok sc_Book_drop (fun vs H Q E h => by obtain ⟨p, l, us, xs, i, rfl, hi, hn, hk, hok⟩ := h; rfl) (fun cdv A outer s H vs Q E hr h => ?_)
  refine ⟨_, (pss_cons (ps_expr (pe_methG M_Book__check_number (hr.mono (by decide)) passN (pv 0) (pa_cons (pv 1) pa_nil)))
    (pss_one (ps_ret (pe_bm PySem.F.plainAttrs_list PySem.F.slot_list_pop PySem.F.type_list_pop mt_popAt (pe_fld (pv 0) rfl) (pa_cons (pv 1) pa_nil))))), ?_⟩
  obtain ⟨p, l, us, xs, i, rfl, hi, hn, hk, hok⟩ := h
  obtain ⟨dx, hp, hl, hr⟩ := id hk
  have hlen := hr.len
  walk_at "xs"
  refine x_kMeth hp (lkM (by decide +kernel)) ?_
  walk_at "xs"
  refine ⟨p, xs, i, rfl, hi, hn, hk.at_, fun H1 e1 => ?_⟩
  obtain ⟨u, hu⟩ : ∃ u, us[i.toNat]? = some u := ⟨_, List.getElem?_eq_getElem (by omega)⟩
  walk_at "xs"
  exact ⟨l, us, i, i.toNat, u, rfl, rfl, e1.keep hl, by omega, by omega, sIx_at ⟨hi.1, by omega⟩, hu, hok H1 u e1 hu⟩

end K7
set_option maxHeartbeats 4000000
/-! K7D: k07: Text, Rule made -/
namespace K7
open PySem PySem.Spec PyProof.Rows L2 MC
local macro_rules | `(tactic| walk_at "hp") => `(tactic| first | assumption | (apply Le.keep; assumption; walk_at "hp") | (apply TextAt.le; assumption; walk_at "hp") | (apply Lw.keep; assumption; walk_at "hp"; first | rfl | exact sh_str _ | exact sh_ints _ | exact sh_sgns _) | (apply TextAt.lw; assumption; walk_at "hp"))
local macro_rules | `(tactic| walk_at "le") => `(tactic| first | exact Le.refl _ | assumption | (apply Le.trans'; assumption; walk_at "le"))
local macro_rules | `(tactic| walk_at "lw") => `(tactic| first | exact Lw.refl _ | assumption | exact Le.w (by assumption) | (apply Lw.trans'; (first | assumption | exact Le.w (by assumption)); walk_at "lw"))
local macro_rules | `(tactic| walk_at "sz") => `(tactic| first | omega | (simp only [slen_app]; omega) | (simp only [List.length_append, List.length_cons, List.length_nil, List.length_map, List.length_range]; omega) | omega | (simp; omega) | decide)
local macro_rules | `(tactic| walk_at "x") => `(tactic| first
  | with_reducible refine x_seq ?_ | with_reducible refine x_asg ?_ | with_reducible refine x_ret ?_ | with_reducible refine x_drop ?_
  | ((with_reducible apply x_var); exact rfl) | with_reducible refine x_c ?_ | with_reducible refine x_op ?_ | with_reducible refine x_opS ?_ | with_reducible refine x_un ?_ | with_reducible refine x_neg ?_
  | with_reducible refine x_test ?_ | with_reducible refine x_tB ?_ | with_reducible refine x_kB ?_
  | with_reducible refine x_nil ?_ | with_reducible refine x_cons ?_ | with_reducible refine x_tup ?_ | with_reducible refine x_lst ?_
  | ((with_reducible refine x_kTup ?_ ?_); (walk_at "sz"); (intro _ _ _ _ _)) | ((with_reducible refine x_kLst ?_ ?_); (walk_at "sz"); (intro _ _ _ _ _))
  | with_reducible refine x_fld ?_ | ((with_reducible apply x_fS); assumption; (walk_at "hp")) | ((with_reducible apply x_fC); assumption; (walk_at "hp"))
  | with_reducible refine x_cb ?_ | with_reducible refine x_call ?_ | with_reducible refine x_callE ?_ | with_reducible refine x_bm ?_ | with_reducible refine x_cv ?_
  | with_reducible refine x_meth ?_ | with_reducible refine x_cm ?_ | with_reducible refine x_kCM ?_ | with_reducible refine x_mk ?_ | with_reducible refine x_kMk ?_
  | with_reducible refine x_np ?_ | with_reducible refine x_part ?_ | with_reducible refine x_kPart ?_ | with_reducible refine x_sl ?_ | with_reducible refine x_rev ?_
  | with_reducible refine x_addI ?_ | ((with_reducible refine x_addS ?_ ?_); (walk_at "sz")) | with_reducible refine x_I0 ?_
  | with_reducible refine x_eqS ?_ | with_reducible refine x_eqI ?_ | with_reducible refine x_eqB ?_ | with_reducible refine x_neS ?_ | with_reducible refine x_neI ?_ | with_reducible refine x_neB ?_
  | with_reducible refine x_eqFS ?_ | with_reducible refine x_eqFI ?_
  | with_reducible refine x_ltI ?_ | with_reducible refine x_ltS ?_ | with_reducible refine x_leI ?_ | with_reducible refine x_leS ?_ | with_reducible refine x_inT ?_ | with_reducible refine x_notInT ?_
  | ((with_reducible refine x_slS ?_ ?_); (walk_at "sz")) | ((with_reducible refine x_kRev ?_ ?_); (walk_at "sz"))
  | ((with_reducible refine x_lenS ?_ ?_); (walk_at "sz")) | ((with_reducible apply x_lenT); (walk_at "hp"))
  | ((with_reducible apply x_ixT); (walk_at "hp"); exact rfl)
  | with_reducible refine x_abs ?_ | with_reducible refine x_int ?_ | with_reducible refine x_strS ?_
  | ((with_reducible apply x_isB); (first | exact kit_ty (r := true) (by decide +kernel) | exact kit_ty (r := false) (by decide +kernel))) | ((with_reducible apply x_isI); (first | exact kit_ty (r := true) (by decide +kernel) | exact kit_ty (r := false) (by decide +kernel))) | ((with_reducible apply x_isS); (first | exact kit_ty (r := true) (by decide +kernel) | exact kit_ty (r := false) (by decide +kernel)))
  | ((with_reducible apply x_isT); (walk_at "hp"); (first | exact kit_ty (r := true) (by decide +kernel) | exact kit_ty (r := false) (by decide +kernel)))
  | ((with_reducible apply x_isText); assumption; (walk_at "hp")) | ((with_reducible apply x_isTextS); assumption) | ((with_reducible apply x_isTextI); assumption) | ((with_reducible apply x_isTextN); assumption) | ((with_reducible apply x_kCVT); assumption)
  | ((with_reducible apply x_addL); (walk_at "hp"); (walk_at "hp"); (walk_at "sz"); (intro _ _ _ _ _)) | ((with_reducible apply x_tyL); (walk_at "hp")) | with_reducible refine x_tyS ?_
  | with_reducible refine x_joined ?_ | with_reducible refine x_js ?_ | with_reducible refine x_js0 ?_ | ((with_reducible refine x_kJs ?_ ?_); (walk_at "sz")) | with_reducible refine x_fmt ?_ | ((with_reducible refine x_fmtS ?_ ?_); (walk_at "sz")) | ((with_reducible refine x_fmtI ?_ ?_); omega)
  | with_reducible refine x_rse ?_ | with_reducible refine x_ex ?_ | with_reducible refine x_ex0 ?_ | with_reducible refine x_xf ?_
  | with_reducible refine x_for ?_ | with_reducible refine x_r1 ?_ | with_reducible refine x_r2 ?_ | with_reducible refine x_il ?_ | with_reducible refine x_en ?_ | with_reducible refine x_lc ?_ | with_reducible refine x_next ?_ | dsimp only)
local macro_rules | `(tactic| walk_at "xs") => `(tactic| repeat walk_at "x")
local macro_rules | `(tactic| walk_at "ev0") => `(tactic| (refine ev_run ?_; intro _ _ _ q; walk_at "xs"; refine q _ ?_; walk_at "le"))
local macro_rules | `(tactic| walk_at "ch") => `(tactic| (intro _ _ _ q; walk_at "xs"; refine q _ ?_; walk_at "le"))
local macro_rules | `(tactic| walk_at "ev") => `(tactic| first
  | (focus ((with_reducible refine ev_andV ?_ (fun _ => ?_)); (all_goals walk_at "ev"))) | (focus ((with_reducible refine ev_orV ?_ (fun _ => ?_)); (all_goals walk_at "ev")))
  | ((with_reducible refine ev_notV ?_); walk_at "ev")
  | (focus ((with_reducible apply ev_chain); (focus walk_at "ch"); (focus walk_at "ch"); (focus walk_at "ch"); (focus (intro _ _ _ q; walk_at "x"; exact q)); (focus (intro _ _ _ q; walk_at "x"; exact q))))
  | walk_at "ev0" | skip)
local macro_rules | `(tactic| walk_at "et") => `(tactic| first
  | (focus ((with_reducible refine et_and ?_ (fun _ => ?_)); (all_goals walk_at "et"))) | (focus ((with_reducible refine et_or ?_ (fun _ => ?_)); (all_goals walk_at "et")))
  | ((with_reducible refine et_not ?_); walk_at "et") | ((with_reducible refine et_B ?_); walk_at "ev") | ((with_reducible refine et_T ?_); walk_at "ev"))
local macro_rules | `(tactic| walk_at "hp") => `(tactic| first | assumption | (apply RuleAt.le; assumption; walk_at "hp") | (apply RulesAt.le; assumption; walk_at "hp") | (apply BookAt.le; assumption; walk_at "hp") | (apply RuleAt.lw; assumption; walk_at "hp") | (apply BookAt.lw; assumption; walk_at "hp") | (apply R4s.le; assumption; walk_at "hp") | (apply R4s.lw; assumption; walk_at "hp"))
local macro_rules | `(tactic| walk_at "x") => `(tactic| first
  | ((with_reducible apply x_fO); assumption; (walk_at "hp")) | ((with_reducible apply x_fN); assumption; (walk_at "hp")) | ((with_reducible apply x_fL); assumption; (walk_at "hp")) | ((with_reducible apply x_fR); assumption; (walk_at "hp")) | ((with_reducible apply x_fB); assumption; (walk_at "hp"))
  | ((with_reducible apply x_isRule); assumption; (walk_at "hp")) | ((with_reducible apply x_kCVB); assumption)
  | with_reducible refine x_callO ?_ | with_reducible refine x_kCO ?_ | with_reducible refine x_prop ?_ | with_reducible refine x_max ?_ | with_reducible refine x_intB ?_ | with_reducible refine x_findS ?_ | with_reducible refine x_countS ?_ | with_reducible refine x_isN ?_)
local macro_rules | `(tactic| walk_at "sz") => `(tactic| (simp only [slen_app, elen, len1a, len1b, len1c]; omega))
local macro_rules | `(tactic| walk_at "x") => `(tactic| first
  | with_reducible refine x_sfld ?_ | with_reducible refine x_enL ?_ | with_reducible refine x_enN ?_ | with_reducible refine x_it ?_ | with_reducible refine x_asgT ?_ | ((with_reducible apply x_g2); (walk_at "hp")) | ((with_reducible apply x_g3); (walk_at "hp")) | ((with_reducible apply x_g4); (walk_at "hp"))
  | ((with_reducible apply x_lenL2); (walk_at "hp")) | with_reducible refine x_gseq ?_ | with_reducible refine x_g0 ?_ | with_reducible refine x_gfor ?_ | with_reducible refine x_gps ?_)
local macro_rules | `(tactic| walk_at "x") => `(tactic| first | ((with_reducible refine x_splitS ?_ ?_ ?_); (decide +kernel); (walk_at "sz"); (intro _ _ _ _ _)) | with_reducible refine x_methK ?_ | with_reducible refine x_mkSt ?_ | with_reducible refine x_kMkSt ?_ | ((with_reducible apply x_kStL); (walk_at "hp")))
theorem le_made {H H' : Hp} {x dx : Addr} {C : Addr} (hx : H x = none) (hd : H dx = none) (e : Le (upd (upd H dx (.own x)) x (.ins C dx [])) H') : Le H H' := by
  have h1 : Le H (upd H dx (.own x)) := Le.new hd
  by_cases q : x = dx
  · refine Le.trans ?_ e
    rw [q, upd_upd]
    exact Le.new hd
  · exact (h1.trans (Le.new (by rw [upd_ne q]; exact hx))).trans e
theorem le_set {H H1 : Hp} {x dx : Addr} {C : Addr} {o : HO} (hx : H x = none) (hd : H dx = none) (e : Le (upd (upd H dx (.own x)) x (.ins C dx [])) H1) : Le H (upd H1 x o) := le_own (le_made hx hd e) hx
theorem put4 {v w x y : V} : putF ("right" : Str) y (putF ("left" : Str) x (putF ("new" : Str) w (putF ("old" : Str) v []))) = ([(("old" : Str), v), (("new" : Str), w), (("left" : Str), x), (("right" : Str), y)] : List (Str × V)) := by
  have h1 : ¬ (("old" : Str) = ("new" : Str)) := by decide +kernel
  have h2 : ¬ (("old" : Str) = ("left" : Str)) := by decide +kernel
  have h3 : ¬ (("old" : Str) = ("right" : Str)) := by decide +kernel
  have h4 : ¬ (("new" : Str) = ("left" : Str)) := by decide +kernel
  have h5 : ¬ (("new" : Str) = ("right" : Str)) := by decide +kernel
  have h6 : ¬ (("left" : Str) = ("right" : Str)) := by decide +kernel
  simp only [putF, if_neg h1, if_neg h2, if_neg h3, if_neg h4, if_neg h5, if_neg h6]
theorem ok_Rule___init__ {P : Program} {w : World} {K : PySem.W.Frag} {mg : Str → Option Value} {base : Heap} {a : Ad} {f : Addr} {fd : FuncData} (F : FunD K "__init__" "Rule.__init__" (defArgs s_Rule___init__) (defBody s_Rule___init__) (defScope s_Rule___init__) [.str "", .str ""] [] f fd) (T : Txt K mg a) (G__check_part : FnG P w K mg base 3 "_check_part" (sp__check_part a)) :
    FnOk P w K mg base (L2.CX P w) 4 f fd ["self", "old", "new", "left", "right"] (sp_Rule___init__ a) := by
  refine F.ok sc_Rule___init__ (fun vs H Q E h => by obtain ⟨p, x, dx, rfl, fx, hp, q⟩ := h; rfl) (fun cdv A outer s H vs Q E hr h => ?_)
  refine ⟨_, (pss_cons (ps_expr (pe_callG G__check_part (hr.mono (by decide)) passN rfl (pa_cons pe_str (pa_cons (pv 1) (pa_cons pe_int (pa_cons pe_int pa_nil))))))
    (pss_cons (ps_expr (pe_callG G__check_part (hr.mono (by decide)) passN rfl (pa_cons pe_str (pa_cons (pv 2) (pa_cons pe_int (pa_cons pe_int pa_nil))))))
    (pss_cons (ps_expr (pe_callG G__check_part (hr.mono (by decide)) passN rfl (pa_cons pe_str (pa_cons (pv 3) (pa_cons pe_int (pa_cons pe_int pa_nil))))))
    (pss_cons (ps_expr (pe_callG G__check_part (hr.mono (by decide)) passN rfl (pa_cons pe_str (pa_cons (pv 4) (pa_cons pe_int (pa_cons pe_int pa_nil))))))
    (pss_cons (ps_fld (pv 0) (pv 1) rfl)
    (pss_cons (ps_fld (pv 0) (pv 2) rfl)
    (pss_cons (ps_fld (pv 0) (pv 3) rfl)
    (pss_one (ps_fld (pv 0) (pv 4) rfl))))))))), ?_⟩
  obtain ⟨p, x, dx, rfl, fx, hp, q⟩ := h
  have f1 := fx.l.2
  have f2 := fx.o.2
  have f3 := fx.r.2
  have f4 := fx.n.2
  walk_at "xs"
  refine ⟨_, x.o, 1, 3, rfl, by show _ ≤ 1000; omega, fx.o.1, by omega, by omega, fun H1 e1 => ?_⟩
  walk_at "xs"
  refine ⟨_, x.n, 1, 3, rfl, by show _ ≤ 1000; omega, fx.n.1, by omega, by omega, fun H2 e2 => ?_⟩
  walk_at "xs"
  refine ⟨_, x.l, 0, 2, rfl, by show _ ≤ 1000; omega, fx.l.1, by omega, by omega, fun H3 e3 => ?_⟩
  walk_at "xs"
  refine ⟨_, x.r, 0, 2, rfl, by show _ ≤ 1000; omega, fx.r.1, by omega, by omega, fun H4 e4 => ?_⟩
  walk_at "xs"
  have e := ((e1.trans e2).trans e3).trans e4
  refine x_kSF (e.keep hp) T.fO (by show 0 < 1000; decide) ?_
  walk_at "xs"
  refine x_kSF upd_same T.fN (by show 1 < 1000; decide) ?_
  walk_at "xs"
  refine x_kSF upd_same T.fL (by show 2 < 1000; decide) ?_
  walk_at "xs"
  refine x_kSF upd_same T.fR (by show 3 < 1000; decide) ?_
  rw [upd_upd, upd_upd, upd_upd, put4]
  exact q H4 e
section
variable {P : Program} {w : World} {K : PySem.W.Frag} {mg : Str → Option Value} {base : Heap} {a : Ad} {f : Addr} {fd : FuncData}
abbrev FI (K : PySem.W.Frag) (f : Addr) (fd : FuncData) : Prop := FunD K "__init__" "Text.__init__" (defArgs s_Text___init__) (defBody s_Text___init__) (defScope s_Text___init__) [] [("closed", .bl false)] f fd
theorem ct_Text_1_closed {k : Nat} (F : FI K f fd) (G : FnOk P w K mg base (L2.CX P w) k f fd ["self", "signs", "closed"] (sp_Text___init__ a)) (M : Mk K a.cText f) : CtG P w K mg base k a.cText 1 ["closed"] (spCt_Text_1_closed a) := by
  obtain ⟨mv, kb⟩ := F.kbinds0 (ps := ["self", "signs", "closed"]) 2 ["closed"] [] (fun us mv ws => us ++ mv ++ ws) (by simp) (fun q h => by cases h) (fun r1 r2 r3 => (r1.append r2).append r3)
    (fun D doc pm an cdv ct us mv ws hu hmv hw => match us, mv, ws, hu, hmv, hw with | [_, _], [], [_], _, _, _ => rfl)
  refine ⟨⟨f, fd, _, _, _, _, M, G, kb, ?_⟩⟩
  rintro vs zs H Q E ⟨z, c, ⟨rfl, rfl⟩, g, hm⟩
  exact ⟨rfl, rfl, fun x dx hx hd hne => ⟨x, z, c, dx, rfl, g, upd_same, fun H1 e => ⟨rfl, hm _ _ (le_set hx hd e) ⟨dx, upd_same⟩⟩⟩⟩
theorem ct_Rule_4 (F : FunD K "__init__" "Rule.__init__" (defArgs s_Rule___init__) (defBody s_Rule___init__) (defScope s_Rule___init__) [.str "", .str ""] [] f fd) {k : Nat} (G : FnOk P w K mg base (L2.CX P w) k f fd ["self", "old", "new", "left", "right"] (sp_Rule___init__ a)) (M : Mk K a.cRule f) : CtG P w K mg base k a.cRule 4 [] (spCt_Rule_4 a) := by
  obtain ⟨its, kb⟩ := F.kbindsD (ps := ["self", "old", "new", "left", "right"]) 5 [] (fun us _ _ => us) (by simp) (fun r1 _ _ => r1)
    (fun Ta kV doc pm an cdv ct us its ws hu hi hw => match us, its, ws, hu, hi, hw with | [_, _, _, _, _], [_, _], [], _, _, _ => ⟨_, rfl, rfl⟩)
  refine ⟨⟨f, fd, _, _, _, _, M, G, kb, ?_⟩⟩
  rintro vs zs H Q E ⟨x, ⟨rfl, rfl⟩, fx, hq⟩
  exact ⟨rfl, rfl, fun y dx hx hd hne => ⟨y, x, dx, rfl, fx, upd_same, fun H1 e => ⟨rfl, hq _ _ (le_set hx hd e) ⟨dx, upd_same⟩⟩⟩⟩
end
end K7
set_option maxHeartbeats 4000000
/-! K7F: k07: a rule from its line -/
namespace K7
open PySem PySem.Spec PyProof.Rows L2 MC
local macro_rules | `(tactic| walk_at "hp") => `(tactic| first | assumption | (apply Le.keep; assumption; walk_at "hp") | (apply TextAt.le; assumption; walk_at "hp") | (apply Lw.keep; assumption; walk_at "hp"; first | rfl | exact sh_str _ | exact sh_ints _ | exact sh_sgns _) | (apply TextAt.lw; assumption; walk_at "hp"))
local macro_rules | `(tactic| walk_at "le") => `(tactic| first | exact Le.refl _ | assumption | (apply Le.trans'; assumption; walk_at "le"))
local macro_rules | `(tactic| walk_at "lw") => `(tactic| first | exact Lw.refl _ | assumption | exact Le.w (by assumption) | (apply Lw.trans'; (first | assumption | exact Le.w (by assumption)); walk_at "lw"))
local macro_rules | `(tactic| walk_at "sz") => `(tactic| first | omega | (simp only [slen_app]; omega) | (simp only [List.length_append, List.length_cons, List.length_nil, List.length_map, List.length_range]; omega) | omega | (simp; omega) | decide)
local macro_rules | `(tactic| walk_at "x") => `(tactic| first
  | with_reducible refine x_seq ?_ | with_reducible refine x_asg ?_ | with_reducible refine x_ret ?_ | with_reducible refine x_drop ?_
  | ((with_reducible apply x_var); exact rfl) | with_reducible refine x_c ?_ | with_reducible refine x_op ?_ | with_reducible refine x_opS ?_ | with_reducible refine x_un ?_ | with_reducible refine x_neg ?_
  | with_reducible refine x_test ?_ | with_reducible refine x_tB ?_ | with_reducible refine x_kB ?_
  | with_reducible refine x_nil ?_ | with_reducible refine x_cons ?_ | with_reducible refine x_tup ?_ | with_reducible refine x_lst ?_
  | ((with_reducible refine x_kTup ?_ ?_); (walk_at "sz"); (intro _ _ _ _ _)) | ((with_reducible refine x_kLst ?_ ?_); (walk_at "sz"); (intro _ _ _ _ _))
  | with_reducible refine x_fld ?_ | ((with_reducible apply x_fS); assumption; (walk_at "hp")) | ((with_reducible apply x_fC); assumption; (walk_at "hp"))
  | with_reducible refine x_cb ?_ | with_reducible refine x_call ?_ | with_reducible refine x_callE ?_ | with_reducible refine x_bm ?_ | with_reducible refine x_cv ?_
  | with_reducible refine x_meth ?_ | with_reducible refine x_cm ?_ | with_reducible refine x_kCM ?_ | with_reducible refine x_mk ?_ | with_reducible refine x_kMk ?_
  | with_reducible refine x_np ?_ | with_reducible refine x_part ?_ | with_reducible refine x_kPart ?_ | with_reducible refine x_sl ?_ | with_reducible refine x_rev ?_
  | with_reducible refine x_addI ?_ | ((with_reducible refine x_addS ?_ ?_); (walk_at "sz")) | with_reducible refine x_I0 ?_
  | with_reducible refine x_eqS ?_ | with_reducible refine x_eqI ?_ | with_reducible refine x_eqB ?_ | with_reducible refine x_neS ?_ | with_reducible refine x_neI ?_ | with_reducible refine x_neB ?_
  | with_reducible refine x_eqFS ?_ | with_reducible refine x_eqFI ?_
  | with_reducible refine x_ltI ?_ | with_reducible refine x_ltS ?_ | with_reducible refine x_leI ?_ | with_reducible refine x_leS ?_ | with_reducible refine x_inT ?_ | with_reducible refine x_notInT ?_
  | ((with_reducible refine x_slS ?_ ?_); (walk_at "sz")) | ((with_reducible refine x_kRev ?_ ?_); (walk_at "sz"))
  | ((with_reducible refine x_lenS ?_ ?_); (walk_at "sz")) | ((with_reducible apply x_lenT); (walk_at "hp"))
  | ((with_reducible apply x_ixT); (walk_at "hp"); exact rfl)
  | with_reducible refine x_abs ?_ | with_reducible refine x_int ?_ | with_reducible refine x_strS ?_
  | ((with_reducible apply x_isB); (first | exact kit_ty (r := true) (by decide +kernel) | exact kit_ty (r := false) (by decide +kernel))) | ((with_reducible apply x_isI); (first | exact kit_ty (r := true) (by decide +kernel) | exact kit_ty (r := false) (by decide +kernel))) | ((with_reducible apply x_isS); (first | exact kit_ty (r := true) (by decide +kernel) | exact kit_ty (r := false) (by decide +kernel)))
  | ((with_reducible apply x_isT); (walk_at "hp"); (first | exact kit_ty (r := true) (by decide +kernel) | exact kit_ty (r := false) (by decide +kernel)))
  | ((with_reducible apply x_isText); assumption; (walk_at "hp")) | ((with_reducible apply x_isTextS); assumption) | ((with_reducible apply x_isTextI); assumption) | ((with_reducible apply x_isTextN); assumption) | ((with_reducible apply x_kCVT); assumption)
  | ((with_reducible apply x_addL); (walk_at "hp"); (walk_at "hp"); (walk_at "sz"); (intro _ _ _ _ _)) | ((with_reducible apply x_tyL); (walk_at "hp")) | with_reducible refine x_tyS ?_
  | with_reducible refine x_joined ?_ | with_reducible refine x_js ?_ | with_reducible refine x_js0 ?_ | ((with_reducible refine x_kJs ?_ ?_); (walk_at "sz")) | with_reducible refine x_fmt ?_ | ((with_reducible refine x_fmtS ?_ ?_); (walk_at "sz")) | ((with_reducible refine x_fmtI ?_ ?_); omega)
  | with_reducible refine x_rse ?_ | with_reducible refine x_ex ?_ | with_reducible refine x_ex0 ?_ | with_reducible refine x_xf ?_
  | with_reducible refine x_for ?_ | with_reducible refine x_r1 ?_ | with_reducible refine x_r2 ?_ | with_reducible refine x_il ?_ | with_reducible refine x_en ?_ | with_reducible refine x_lc ?_ | with_reducible refine x_next ?_ | dsimp only)
local macro_rules | `(tactic| walk_at "xs") => `(tactic| repeat walk_at "x")
local macro_rules | `(tactic| walk_at "ev0") => `(tactic| (refine ev_run ?_; intro _ _ _ q; walk_at "xs"; refine q _ ?_; walk_at "le"))
local macro_rules | `(tactic| walk_at "ch") => `(tactic| (intro _ _ _ q; walk_at "xs"; refine q _ ?_; walk_at "le"))
local macro_rules | `(tactic| walk_at "ev") => `(tactic| first
  | (focus ((with_reducible refine ev_andV ?_ (fun _ => ?_)); (all_goals walk_at "ev"))) | (focus ((with_reducible refine ev_orV ?_ (fun _ => ?_)); (all_goals walk_at "ev")))
  | ((with_reducible refine ev_notV ?_); walk_at "ev")
  | (focus ((with_reducible apply ev_chain); (focus walk_at "ch"); (focus walk_at "ch"); (focus walk_at "ch"); (focus (intro _ _ _ q; walk_at "x"; exact q)); (focus (intro _ _ _ q; walk_at "x"; exact q))))
  | walk_at "ev0" | skip)
local macro_rules | `(tactic| walk_at "et") => `(tactic| first
  | (focus ((with_reducible refine et_and ?_ (fun _ => ?_)); (all_goals walk_at "et"))) | (focus ((with_reducible refine et_or ?_ (fun _ => ?_)); (all_goals walk_at "et")))
  | ((with_reducible refine et_not ?_); walk_at "et") | ((with_reducible refine et_B ?_); walk_at "ev") | ((with_reducible refine et_T ?_); walk_at "ev"))
local macro_rules | `(tactic| walk_at "hp") => `(tactic| first | assumption | (apply RuleAt.le; assumption; walk_at "hp") | (apply RulesAt.le; assumption; walk_at "hp") | (apply BookAt.le; assumption; walk_at "hp") | (apply RuleAt.lw; assumption; walk_at "hp") | (apply BookAt.lw; assumption; walk_at "hp") | (apply R4s.le; assumption; walk_at "hp") | (apply R4s.lw; assumption; walk_at "hp"))
local macro_rules | `(tactic| walk_at "x") => `(tactic| first
  | ((with_reducible apply x_fO); assumption; (walk_at "hp")) | ((with_reducible apply x_fN); assumption; (walk_at "hp")) | ((with_reducible apply x_fL); assumption; (walk_at "hp")) | ((with_reducible apply x_fR); assumption; (walk_at "hp")) | ((with_reducible apply x_fB); assumption; (walk_at "hp"))
  | ((with_reducible apply x_isRule); assumption; (walk_at "hp")) | ((with_reducible apply x_kCVB); assumption)
  | with_reducible refine x_callO ?_ | with_reducible refine x_kCO ?_ | with_reducible refine x_prop ?_ | with_reducible refine x_max ?_ | with_reducible refine x_intB ?_ | with_reducible refine x_findS ?_ | with_reducible refine x_countS ?_ | with_reducible refine x_isN ?_)
local macro_rules | `(tactic| walk_at "sz") => `(tactic| (simp only [slen_app, elen, len1a, len1b, len1c]; omega))
theorem ok__read_rule {P : Program} {w : World} {K : PySem.W.Frag} {mg : Str → Option Value} {base : Heap} {a : Ad} {f : Addr} {fd : FuncData} (F : FnP K "_read_rule" "_read_rule" s__read_rule f fd) (T : Txt K mg a) (Ct_Rule_4 : CtG P w K mg base 4 a.cRule 4 [] (spCt_Rule_4 a)) (G__split_line : FnG P w K mg base 1 "_split_line" (sp__split_line a)) :
    FnOk P w K mg base (L2.CX P w) 6 f fd ["line", "number"] (sp__read_rule a) := by
  refine F.ok sc__read_rule (fun vs H Q E h => by obtain ⟨x, i, rfl, fx, q⟩ := h; rfl) (fun cdv A outer s H vs Q E hr h => ?_)
  refine ⟨_, (pss_cons (ps_set (i := 2) sc__read_rule.nd rfl (Or.inl rfl) (pe_callG G__split_line (hr.mono (by decide)) passN rfl (pa_cons (pv 0) pa_nil)))
    (pss_cons (ps_if (pt_cmpR op_isNone (pv 2) pe_non (nomark _)) (pss_one ps_never) pss_nil)
    (pss_cons (ps_asg (pv 2) (pg_tup rfl (pgs_cons (pg_name (i := 3) sc__read_rule.nd rfl (Or.inl rfl)) (pgs_cons (pg_name (i := 4) sc__read_rule.nd rfl (Or.inl rfl)) (pgs_cons (pg_name (i := 5) sc__read_rule.nd rfl (Or.inl rfl)) (pgs_cons (pg_name (i := 6) sc__read_rule.nd rfl (Or.inl rfl)) pgs_nil))))))
    (pss_one (ps_try_thru0 (pss_one (ps_ret (pe_mkG Ct_Rule_4 (hr.mono (by decide)) passN (pe_glob (v := .ref a.cRule) rfl T.g_Rule rfl) (pa_cons (pv 3) (pa_cons (pv 4) (pa_cons (pv 5) (pa_cons (pv 6) pa_nil)))) pk_nil)))))))), ?_⟩
  obtain ⟨x, i, rfl, fx, q⟩ := h
  walk_at "xs"
  refine ⟨x, rfl, fx, fun p H1 e1 hp => ?_⟩
  walk_at "xs"
  refine x_no (et_is (b := decide (V.ref p = V.non)) ?_ (by simp)) (fun H2 e2 => ?_)
  · walk_at "et"
  · walk_at "xs"
    refine ⟨_, rfl, p, _, rfl, sqt (e2.keep hp), rfl, ?_⟩
    refine ⟨_, _, rfl, ?_⟩
    refine ⟨_, _, rfl, ?_⟩
    refine ⟨_, _, rfl, ?_⟩
    refine ⟨_, _, rfl, ?_⟩
    refine ⟨rfl, ?_⟩
    walk_at "xs"
    exact ⟨x, ⟨rfl, rfl⟩, fx, fun r H3 e3 hr => q r H3 ((e1.trans e2).trans e3) hr⟩
end K7
set_option maxHeartbeats 4000000
/-! K7G: k07: a book is filled, written, iterated over -/
namespace K7
open PySem PySem.Spec PyProof.Rows L2 MC
local macro_rules | `(tactic| walk_at "hp") => `(tactic| first | assumption | (apply Le.keep; assumption; walk_at "hp") | (apply TextAt.le; assumption; walk_at "hp") | (apply Lw.keep; assumption; walk_at "hp"; first | rfl | exact sh_str _ | exact sh_ints _ | exact sh_sgns _) | (apply TextAt.lw; assumption; walk_at "hp"))
local macro_rules | `(tactic| walk_at "le") => `(tactic| first | exact Le.refl _ | assumption | (apply Le.trans'; assumption; walk_at "le"))
local macro_rules | `(tactic| walk_at "lw") => `(tactic| first | exact Lw.refl _ | assumption | exact Le.w (by assumption) | (apply Lw.trans'; (first | assumption | exact Le.w (by assumption)); walk_at "lw"))
local macro_rules | `(tactic| walk_at "sz") => `(tactic| first | omega | (simp only [slen_app]; omega) | (simp only [List.length_append, List.length_cons, List.length_nil, List.length_map, List.length_range]; omega) | omega | (simp; omega) | decide)
local macro_rules | `(tactic| walk_at "x") => `(tactic| first
  | with_reducible refine x_seq ?_ | with_reducible refine x_asg ?_ | with_reducible refine x_ret ?_ | with_reducible refine x_drop ?_
  | ((with_reducible apply x_var); exact rfl) | with_reducible refine x_c ?_ | with_reducible refine x_op ?_ | with_reducible refine x_opS ?_ | with_reducible refine x_un ?_ | with_reducible refine x_neg ?_
  | with_reducible refine x_test ?_ | with_reducible refine x_tB ?_ | with_reducible refine x_kB ?_
  | with_reducible refine x_nil ?_ | with_reducible refine x_cons ?_ | with_reducible refine x_tup ?_ | with_reducible refine x_lst ?_
  | ((with_reducible refine x_kTup ?_ ?_); (walk_at "sz"); (intro _ _ _ _ _)) | ((with_reducible refine x_kLst ?_ ?_); (walk_at "sz"); (intro _ _ _ _ _))
  | with_reducible refine x_fld ?_ | ((with_reducible apply x_fS); assumption; (walk_at "hp")) | ((with_reducible apply x_fC); assumption; (walk_at "hp"))
  | with_reducible refine x_cb ?_ | with_reducible refine x_call ?_ | with_reducible refine x_callE ?_ | with_reducible refine x_bm ?_ | with_reducible refine x_cv ?_
  | with_reducible refine x_meth ?_ | with_reducible refine x_cm ?_ | with_reducible refine x_kCM ?_ | with_reducible refine x_mk ?_ | with_reducible refine x_kMk ?_
  | with_reducible refine x_np ?_ | with_reducible refine x_part ?_ | with_reducible refine x_kPart ?_ | with_reducible refine x_sl ?_ | with_reducible refine x_rev ?_
  | with_reducible refine x_addI ?_ | ((with_reducible refine x_addS ?_ ?_); (walk_at "sz")) | with_reducible refine x_I0 ?_
  | with_reducible refine x_eqS ?_ | with_reducible refine x_eqI ?_ | with_reducible refine x_eqB ?_ | with_reducible refine x_neS ?_ | with_reducible refine x_neI ?_ | with_reducible refine x_neB ?_
  | with_reducible refine x_eqFS ?_ | with_reducible refine x_eqFI ?_
  | with_reducible refine x_ltI ?_ | with_reducible refine x_ltS ?_ | with_reducible refine x_leI ?_ | with_reducible refine x_leS ?_ | with_reducible refine x_inT ?_ | with_reducible refine x_notInT ?_
  | ((with_reducible refine x_slS ?_ ?_); (walk_at "sz")) | ((with_reducible refine x_kRev ?_ ?_); (walk_at "sz"))
  | ((with_reducible refine x_lenS ?_ ?_); (walk_at "sz")) | ((with_reducible apply x_lenT); (walk_at "hp"))
  | ((with_reducible apply x_ixT); (walk_at "hp"); exact rfl)
  | with_reducible refine x_abs ?_ | with_reducible refine x_int ?_ | with_reducible refine x_strS ?_
  | ((with_reducible apply x_isB); (first | exact kit_ty (r := true) (by decide +kernel) | exact kit_ty (r := false) (by decide +kernel))) | ((with_reducible apply x_isI); (first | exact kit_ty (r := true) (by decide +kernel) | exact kit_ty (r := false) (by decide +kernel))) | ((with_reducible apply x_isS); (first | exact kit_ty (r := true) (by decide +kernel) | exact kit_ty (r := false) (by decide +kernel)))
  | ((with_reducible apply x_isT); (walk_at "hp"); (first | exact kit_ty (r := true) (by decide +kernel) | exact kit_ty (r := false) (by decide +kernel)))
  | ((with_reducible apply x_isText); assumption; (walk_at "hp")) | ((with_reducible apply x_isTextS); assumption) | ((with_reducible apply x_isTextI); assumption) | ((with_reducible apply x_isTextN); assumption) | ((with_reducible apply x_kCVT); assumption)
  | ((with_reducible apply x_addL); (walk_at "hp"); (walk_at "hp"); (walk_at "sz"); (intro _ _ _ _ _)) | ((with_reducible apply x_tyL); (walk_at "hp")) | with_reducible refine x_tyS ?_
  | with_reducible refine x_joined ?_ | with_reducible refine x_js ?_ | with_reducible refine x_js0 ?_ | ((with_reducible refine x_kJs ?_ ?_); (walk_at "sz")) | with_reducible refine x_fmt ?_ | ((with_reducible refine x_fmtS ?_ ?_); (walk_at "sz")) | ((with_reducible refine x_fmtI ?_ ?_); omega)
  | with_reducible refine x_rse ?_ | with_reducible refine x_ex ?_ | with_reducible refine x_ex0 ?_ | with_reducible refine x_xf ?_
  | with_reducible refine x_for ?_ | with_reducible refine x_r1 ?_ | with_reducible refine x_r2 ?_ | with_reducible refine x_il ?_ | with_reducible refine x_en ?_ | with_reducible refine x_lc ?_ | with_reducible refine x_next ?_ | dsimp only)
local macro_rules | `(tactic| walk_at "xs") => `(tactic| repeat walk_at "x")
local macro_rules | `(tactic| walk_at "ev0") => `(tactic| (refine ev_run ?_; intro _ _ _ q; walk_at "xs"; refine q _ ?_; walk_at "le"))
local macro_rules | `(tactic| walk_at "ch") => `(tactic| (intro _ _ _ q; walk_at "xs"; refine q _ ?_; walk_at "le"))
local macro_rules | `(tactic| walk_at "ev") => `(tactic| first
  | (focus ((with_reducible refine ev_andV ?_ (fun _ => ?_)); (all_goals walk_at "ev"))) | (focus ((with_reducible refine ev_orV ?_ (fun _ => ?_)); (all_goals walk_at "ev")))
  | ((with_reducible refine ev_notV ?_); walk_at "ev")
  | (focus ((with_reducible apply ev_chain); (focus walk_at "ch"); (focus walk_at "ch"); (focus walk_at "ch"); (focus (intro _ _ _ q; walk_at "x"; exact q)); (focus (intro _ _ _ q; walk_at "x"; exact q))))
  | walk_at "ev0" | skip)
local macro_rules | `(tactic| walk_at "et") => `(tactic| first
  | (focus ((with_reducible refine et_and ?_ (fun _ => ?_)); (all_goals walk_at "et"))) | (focus ((with_reducible refine et_or ?_ (fun _ => ?_)); (all_goals walk_at "et")))
  | ((with_reducible refine et_not ?_); walk_at "et") | ((with_reducible refine et_B ?_); walk_at "ev") | ((with_reducible refine et_T ?_); walk_at "ev"))
local macro_rules | `(tactic| walk_at "hp") => `(tactic| first | assumption | (apply RuleAt.le; assumption; walk_at "hp") | (apply RulesAt.le; assumption; walk_at "hp") | (apply BookAt.le; assumption; walk_at "hp") | (apply RuleAt.lw; assumption; walk_at "hp") | (apply BookAt.lw; assumption; walk_at "hp") | (apply R4s.le; assumption; walk_at "hp") | (apply R4s.lw; assumption; walk_at "hp"))
local macro_rules | `(tactic| walk_at "x") => `(tactic| first
  | ((with_reducible apply x_fO); assumption; (walk_at "hp")) | ((with_reducible apply x_fN); assumption; (walk_at "hp")) | ((with_reducible apply x_fL); assumption; (walk_at "hp")) | ((with_reducible apply x_fR); assumption; (walk_at "hp")) | ((with_reducible apply x_fB); assumption; (walk_at "hp"))
  | ((with_reducible apply x_isRule); assumption; (walk_at "hp")) | ((with_reducible apply x_kCVB); assumption)
  | with_reducible refine x_callO ?_ | with_reducible refine x_kCO ?_ | with_reducible refine x_prop ?_ | with_reducible refine x_max ?_ | with_reducible refine x_intB ?_ | with_reducible refine x_findS ?_ | with_reducible refine x_countS ?_ | with_reducible refine x_isN ?_)
local macro_rules | `(tactic| walk_at "sz") => `(tactic| (simp only [slen_app, elen, len1a, len1b, len1c]; omega))
local macro_rules | `(tactic| walk_at "x") => `(tactic| first
  | with_reducible refine x_sfld ?_ | with_reducible refine x_enL ?_ | with_reducible refine x_enN ?_ | with_reducible refine x_it ?_ | with_reducible refine x_asgT ?_ | ((with_reducible apply x_g2); (walk_at "hp")) | ((with_reducible apply x_g3); (walk_at "hp")) | ((with_reducible apply x_g4); (walk_at "hp"))
  | ((with_reducible apply x_lenL2); (walk_at "hp")) | with_reducible refine x_gseq ?_ | with_reducible refine x_g0 ?_ | with_reducible refine x_gfor ?_ | with_reducible refine x_gps ?_)
local macro_rules | `(tactic| walk_at "x") => `(tactic| first | ((with_reducible refine x_splitS ?_ ?_ ?_); (decide +kernel); (walk_at "sz"); (intro _ _ _ _ _)) | with_reducible refine x_methK ?_ | with_reducible refine x_mkSt ?_ | with_reducible refine x_kMkSt ?_ | ((with_reducible apply x_kStL); (walk_at "hp")))
theorem RulesAt.lx {a : Ad} {H H' : Hp} {p : Addr} (e : Lx p H H') (hp : ∀ y, ¬ RuleAt a H p y) : ∀ {vs : List V} {xs : List R4}, RulesAt a H vs xs → RulesAt a H' vs xs
  | [], [], _ => trivial
  | _ :: _, _ :: _, h => by
    obtain ⟨⟨r, q, dx, hr⟩, h2⟩ := h
    refine ⟨⟨r, q, dx, e.at_ r _ (fun z => ?_) hr⟩, RulesAt.lx e hp h2⟩
    rw [z] at hr
    exact hp _ ⟨dx, hr⟩
  | [], _ :: _, h => h.elim
  | _ :: _, [], h => h.elim
theorem RulesAt.take {a : Ad} {H : Hp} : ∀ {vs : List V} {xs : List R4} (i : Nat), RulesAt a H vs xs → RulesAt a H (vs.take i) (xs.take i)
  | [], [], i, _ => by simp [RulesAt]
  | v :: vs, x :: xs, 0, h => by simp [RulesAt]
  | v :: vs, x :: xs, i + 1, h => by
    rw [List.take_succ_cons, List.take_succ_cons]
    exact ⟨h.1, RulesAt.take i h.2⟩
  | [], _ :: _, _, h => h.elim
  | _ :: _, [], _, h => h.elim
theorem take_put {α : Type} {l : List α} {i : Nat} {x : α} (h : l[i]? = some x) : l.take (i + 1) = l.take i ++ [x] := by
  rw [List.take_add_one, h]; rfl
theorem ok_Book_add {P : Program} {w : World} {K : PySem.W.Frag} {mg : Str → Option Value} {base : Heap} {a : Ad} {f : Addr} {fd : FuncData} (F : FnP K "add" "Book.add" s_Book_add f fd) (T : Txt K mg a) (O_Rule___eq__ : OpG P w K mg base 1 a.cRule "__eq__" (sp_Rule___eq__ a)) :
    FnOk P w K mg base (L2.CX P w) 2 f fd ["self", "rule"] (sp_Book_add a) := by
  refine F.ok sc_Book_add (fun vs H Q E h => by obtain ⟨p, q, l, us, xs, x, dx, rfl, hp, hl, hr, hq, hx, hn, hk⟩ := h; rfl) (fun cdv A outer s H vs Q E hr h => ?_)
  refine ⟨_, (pss_cons (ps_if (pt_cmpR op_ge (pe_callB call_lenU (by rfl) T.f_len (by decide +kernel) (pa_cons (pe_fld (pv 0) rfl) pa_nil)) (ClX.pe_cval (pe_glob (v := .ref a.cBook) rfl T.g_Book rfl)) (nomark _)) (pss_one ps_never) pss_nil)
    (pss_cons (ps_for (by first | exact po | exact PassesOwn.never | exact passes_of rfl) rfl (pi_enum (by rfl) T.f_enumerate (pa_cons (pe_fld (pv 0) rfl) pa_nil)) (pg_tup rfl (pgs_cons (pg_name (i := 2) sc_Book_add.nd rfl (Or.inl rfl)) (pgs_cons (pg_name (i := 3) sc_Book_add.nd rfl (Or.inl rfl)) pgs_nil))) (pss_one (ps_if (pt_cmpR (op_eqG O_Rule___eq__ (hr.mono (by decide))) (pv 3) (pv 1) (nomark _)) (pss_one ps_never) pss_nil)))
    (pss_one (ps_expr (pe_bm PySem.F.plainAttrs_list PySem.F.slot_list_append PySem.F.type_list_append mt_append (pe_fld (pv 0) rfl) (pa_cons (pv 1) pa_nil)))))), ?_⟩
  obtain ⟨p, q, l, us, xs, x, dx, rfl, hp, hl, hr, hq, hx, hn, hk⟩ := h
  have hlen := hr.len
  walk_at "xs"
  refine x_no (et_is (b := decide ((us.length : Int) ≥ 8)) (by walk_at "et") (decide_eq_false (by omega))) fun H1 e1 => ?_
  walk_at "xs"
  refine x_forEn (sql (e1.keep hl)) (fun i σ' H' => (∃ v1 v2, σ' = [some (V.ref p), some (V.ref q), v1, v2]) ∧ Le H1 H') ⟨⟨_, _, rfl⟩, Le.refl _⟩ (fun i σ' H' _ h => sql (h.2.keep (e1.keep hl))) ?_ ?_
  · rintro i v t σ' H2 H3 hv ⟨⟨v1, v2, rfl⟩, e2⟩ e3 hT
    refine x_g2 hT ?_
    obtain ⟨r, y, hy, rfl, hry⟩ := hr.at hv
    have hne : y ≠ x := fun z => hx (z ▸ List.mem_of_getElem? hy)
    refine x_no (et_is (b := decide (y = x)) (et_T (ev_run fun H4 e4 Q4 q4 => ?_)) (decide_eq_false hne)) fun H4 e4 => ?_
    · walk_at "xs"
      obtain ⟨dr, hr4⟩ : RuleAt a H4 r y := ((hry.le e1).le e2 |>.le e3).le e4
      have hq4 : RuleAt a H4 q x := ((hq.le e1).le e2 |>.le e3).le e4
      obtain ⟨dq, hq5⟩ := id hq4
      refine x_eqO hr4 (T.insR hq5) T.nfR ⟨r, q, y, x, rfl, ⟨dr, hr4⟩, hq4, fun H5 e5 => ⟨_, rfl, q4 _ e5⟩⟩
    · walk_at "xs"
      exact ⟨⟨_, _, rfl⟩, (e2.trans e3).trans e4⟩
  · rintro σ' H2 ⟨⟨v1, v2, rfl⟩, e2⟩
    have e := e1.trans e2
    walk_at "xs"
    refine x_app (e.keep hl) (by omega) ?_
    exact hk H2 e

theorem ok_Book___init__ {P : Program} {w : World} {K : PySem.W.Frag} {mg : Str → Option Value} {base : Heap} {a : Ad} {f : Addr} {fd : FuncData} (F : FnP K "__init__" "Book.__init__" s_Book___init__ f fd) (T : Txt K mg a) (M_Book_add : MeG P w K mg base 2 a.cBook "add" (sp_Book_add a)) :
    FnR P w K mg base (L2.CX P w) 3 f (fun vs H Q E => ∃ ws rest, vs = ws ++ rest ∧ ws.length = 1 ∧ rest.length ≤ sizeLine ∧ ∀ p, H p = none → sp_Book___init__ a (ws ++ [V.ref p]) (upd H p (.tup rest)) Q E) := by
  obtain ⟨oc, od, dV, kV, doc, pm, an, cdv, ct, osl, rfl, lk, hcd, hD, _⟩ := F.ex
  obtain ⟨_, rfl⟩ | ⟨e, _⟩ := hD
  rotate_left
  · exact absurd rfl e
  refine StX.fn_star (ps := ["self"]) (pv := "rules") lk hcd sc_Book___init__ StX.cxUp (fun us rest hl => match us, hl, rest with | [_], _, [] => rfl | [_], _, _ :: _ => rfl) (fun A outer s H vs Q E hr h => ?_)
  refine ⟨_, (pss_cons (ps_fld (pv 0) (pe_lst pa_nil) rfl)
    (pss_one (ps_for (by first | exact po | exact PassesOwn.never | exact passes_of rfl) rfl (pi_tup (pv 1)) (pg_name (i := 2) sc_Book___init__.nd rfl (Or.inl rfl)) (pss_one (ps_expr (pe_methG M_Book_add (hr.mono (by decide)) passN (pv 0) (pa_cons (pv 2) pa_nil))))))), ?_⟩
  obtain ⟨p, t, us, xs, dx, rfl, hp, ht, hr, hd, hn, hq⟩ := h
  have hlen := hr.len
  walk_at "xs"
  rename_i l H1 n1 e1 h1
  refine x_kSF (e1.keep hp) T.fB (by show 0 < 1000; decide) ?_
  have hpl : l ≠ p := fun z => by rw [z, hp] at n1; cases n1
  have htp : t ≠ p := fun z => by rw [z, hp] at ht; cases ht
  have hnr : ∀ y, ¬ RuleAt a H p y := fun y ⟨d, z⟩ => by
    rw [hp] at z
    injection z with z
    injection z with z1 z2 z3
    cases z3
  walk_at "xs"
  refine x_forT (xs := us) (by rw [upd_ne htp]; exact e1.keep ht) (fun i σ' H' => (∃ v, σ' = [some (V.ref p), some (V.ref t), v]) ∧ Lx p H H' ∧ H' p = some (.ins a.cBook dx [("_rules", .ref l)]) ∧ H' l = some (.lst (us.take i))) ?_ ?_ ?_ ?_
  · refine ⟨⟨_, rfl⟩, ?_, ?_, ?_⟩
    · exact (Lx.of e1).put (e1.keep hp)
    · rw [upd_same]; rfl
    · rw [upd_ne hpl, h1]; rfl
  · rintro i σ' H' _ ⟨_, h2, _, _⟩
    exact h2.at_ t _ htp ht
  · rintro i x σ' H2 hx ⟨⟨v, rfl⟩, e2, h3, h4⟩
    walk_at "xs"
    refine x_kMeth h3 (by have e : (("add" : Str) == "_rules") = false := by decide +kernel
                          simp only [List.lookup, e]) ?_
    walk_at "xs"
    obtain ⟨r, y, hy, rfl, hry⟩ := hr.at hx
    have hr2 : RulesAt a H2 us xs := hr.lx e2 hnr
    obtain ⟨r', hr', hry2⟩ := hr2.get hy
    rw [hx] at hr'; cases hr'
    have hin := (List.getElem?_eq_some_iff.mp hx).1
    refine ⟨p, r, l, us.take i, xs.take i, y, dx, rfl, h3, h4, hr2.take i, hry2, ?_, ?_, fun H3 e3 => ?_⟩
    · intro hm
      obtain ⟨j, hj, hjy⟩ := List.getElem_of_mem hm
      have hj2 : j < i := by rw [List.length_take] at hj; omega
      have hj3 : xs[j]? = some y := by
        rw [List.getElem_take] at hjy
        rw [← hjy]; exact List.getElem?_eq_getElem _
      have : j = i := (List.getElem?_inj (List.getElem?_eq_some_iff.mp hj3).1 hd).mp (by rw [hj3, hy])
      omega
    · rw [List.length_take]; omega
    · refine ⟨⟨_, rfl⟩, ((e2.trans (Lx.of e3)).own n1 ⟨_, e3.keep h4⟩), ?_, ?_⟩
      · rw [upd_ne (Ne.symm hpl)]; exact e3.keep h3
      · rw [upd_same, take_put hx]
  · rintro σ' H2 ⟨⟨v, rfl⟩, e2, h3, h4⟩
    refine hq H2 ⟨e2.at_, e2.fr⟩ ⟨dx, l, us, h3, by rw [h4, List.take_length], hr.lx e2 hnr⟩
section
variable {P : Program} {w : World} {K : PySem.W.Frag} {mg : Str → Option Value} {base : Heap} {a : Ad} {f : Addr}
theorem r_Book {k : Nat} (G : FnR P w K mg base (L2.CX P w) k f (fun vs H Q E => ∃ ws rest, vs = ws ++ rest ∧ ws.length = 1 ∧ rest.length ≤ sizeLine ∧ ∀ p, H p = none → sp_Book___init__ a (ws ++ [V.ref p]) (upd H p (.tup rest)) Q E)) (M : Mk K a.cBook f) : CtR P w K mg base k a.cBook (spR_Book a) := by
  refine ⟨f, _, M, G, ?_⟩
  rintro vs H Q E ⟨xs, hr, hd, hn, hq⟩ x dx hx hdx hne
  have hlen := hr.len
  refine ⟨[.ref x], vs, rfl, rfl, by rw [sizeLine_eq]; omega, fun t ht => ?_⟩
  have e0 : Le H (upd (upd H dx (.own x)) x (.ins a.cBook dx [])) := le_made hx hdx (Le.refl _)
  have hxt : x ≠ t := fun z => by rw [← z, upd_same] at ht; cases ht
  refine ⟨x, t, vs, xs, dx, rfl, by rw [upd_ne hxt, upd_same], upd_same, (hr.le e0).le (Le.new ht), hd, hn, fun H' e hb => ⟨rfl, hq x H' ?_ hb⟩⟩
  have e1 := e0.trans (Le.new ht (o := .tup vs))
  refine ⟨fun b o hb => e.1 b o (ne_of_none hb hx) (e1.at_ b o hb), fun b hb => e1.fr b (e.2 b hb)⟩
end
theorem it_Book {P : Program} {w : World} {K : PySem.W.Frag} {mg : Str → Option Value} {base : Heap} {a : Ad} {f : Addr} {fd : FuncData} (F : FnP K "__iter__" "Book.__iter__" s_Book___iter__ f fd) (T : Txt K mg a) :
    FnY P w K mg base (L2.CX P w) 1 f fd ["self"] (spIter K a.cBook "_rules") := by
  obtain ⟨oc, od, dV, kV, doc, pm, an, cdv, ct, osl, rfl, lk, hcd, hD, _⟩ := F.ex
  refine fnY_of lk hcd sc_Book___iter__ (fun n vs H Q E h => by obtain ⟨p, dx, fs, l, zs, rfl, _⟩ := h; rfl) (fun A outer s H vs Q E hr h => ?_)
  refine ⟨_, pss_one (ps_ret (pe_callB ItX.call_iterN (by rfl) T.f_iter (by decide +kernel) (pa_cons (pe_fld (pv 0) rfl) pa_nil))), ?_⟩
  obtain ⟨p, dx, fs, l, zs, rfl, hp, hx, hq, q⟩ := h
  walk_at "xs"
  first
  | exact ⟨p, a.cBook, dx, fs, _, rfl, hp, T.fB.1, T.fB.2, hx, l, zs, rfl, hq, fun it h1 h2 => q it h1 h2⟩
  | exact ⟨l, zs, rfl, hq, fun it h1 h2 => q it h1 h2⟩
theorem ok_Book_written {P : Program} {w : World} {K : PySem.W.Frag} {mg : Str → Option Value} {base : Heap} {a : Ad} {f : Addr} {fd : FuncData} (F : FnP K "written" "Book.written" s_Book_written f fd) (T : Txt K mg a) (O_Rule___str__ : OpG P w K mg base 1 a.cRule "__str__" (sp_Rule___str__ a)) :
    FnOk P w K mg base (L2.CX P w) 4 f fd ["self"] (sp_Book_written a) := by
  refine F.ok sc_Book_written (fun vs H Q E h => by obtain ⟨p, xs, rfl, fx, hn, h, q⟩ := h; rfl) (fun cdv A outer s H vs Q E hr h => ?_)
  refine ⟨_, (pss_one (ps_ret (pe_bm PySem.F.plainAttrs_str PySem.F.slot_str_join PySem.F.type_str_join mt_joinU pe_str (pa_cons (pe_lc (own := [("rule", 1)]) (g := gName 1) (tt := tYes) rfl sc_Book_written.nd (pi_list (pe_fld (pv 0) rfl)) (blkOk_by (N := ["self", "rule"]) (sc := defScope s_Book_written) (by decide +kernel)) (fun _ _ _ _ _ => pg_name (i := 1) sc_Book_written.nd rfl (Or.inl rfl)) (fun _ _ _ _ _ => pts_nil) (fun _ _ _ _ _ => (pe_callTy (call_strG O_Rule___str__ (hr.mono (by decide))) (by rfl) T.f_str (by decide +kernel) (pa_cons (pv 1) pa_nil)))) pa_nil)))), ?_⟩
  obtain ⟨p, xs, rfl, fx, hn, h, q⟩ := h
  obtain ⟨dx, l, vs, h1, h2, h3⟩ := id h
  have hlen := h3.len
  walk_at "xs"
  have l1 : ("\n" : Str).length = 1 := by decide +kernel
  have c1 : (Str.ofString "(").length = 1 := by decide +kernel
  have c2 : (Str.ofString ">").length = 1 := by decide +kernel
  have c3 : (Str.ofString ")").length = 1 := by decide +kernel
  refine x_lcLS (fun i => form (xs.getD i ⟨"", "", "", ""⟩)) h2 (by omega) (fun _ => rfl) (fun i v H' hv e Qe qe => ?_) fun r H1 hr e1 hr1 => ?_
  · obtain ⟨r, y, hy, rfl, hry⟩ := h3.at hv
    obtain ⟨dr, hr4⟩ : RuleAt a H' r y := hry.le e
    walk_at "xs"
    refine x_strO hr4 ⟨r, y, rfl, fx y (List.mem_of_getElem? hy), ⟨dr, hr4⟩, fun H5 e5 => ⟨_, rfl, ?_⟩⟩
    have hg : xs.getD i ⟨"", "", "", ""⟩ = y := by rw [List.getD_eq_getElem?_getD, hy]; rfl
    rw [hg] at qe
    exact qe _ e5
  · have hf : (List.range vs.length).map (fun i => form (xs.getD i ⟨"", "", "", ""⟩)) = xs.map form := by
      refine List.ext_getElem? fun i => ?_
      by_cases hi : i < xs.length
      · rw [List.getElem?_map, List.getElem?_map, List.getElem?_eq_getElem hi, List.getElem?_range (by omega)]
        simp [List.getD_eq_getElem?_getD, hi]
      · rw [List.getElem?_eq_none (by simp; omega), List.getElem?_eq_none (by simp; omega)]
    rw [hf] at hr1
    have hs : ((xs.map form).map (·.length)).sum ≤ 13 * xs.length := by
      clear hr1 hf h h3 hn hlen q
      induction xs with
      | nil => simp
      | cons x r ih =>
        have := ih fun y hy => fx y (List.mem_cons_of_mem _ hy)
        have fx1 := fx x List.mem_cons_self
        have f1 := fx1.l.2
        have f2 := fx1.o.2.2
        have f3 := fx1.r.2
        have f4 := fx1.n.2.2
        have : (form x).length ≤ 13 := by
          unfold form
          simp only [slen_app]
          omega
        simp only [List.map_cons, List.sum_cons, List.length_cons]
        omega
    refine x_join hr1 ?_ (q _ e1)
    rw [List.length_map, l1]
    omega
end K7
set_option maxHeartbeats 4000000
/-! K7H: k07: a book is read -/
namespace K7
open PySem PySem.Spec PyProof.Rows L2 MC
local macro_rules | `(tactic| walk_at "hp") => `(tactic| first | assumption | (apply Le.keep; assumption; walk_at "hp") | (apply TextAt.le; assumption; walk_at "hp") | (apply Lw.keep; assumption; walk_at "hp"; first | rfl | exact sh_str _ | exact sh_ints _ | exact sh_sgns _) | (apply TextAt.lw; assumption; walk_at "hp"))
local macro_rules | `(tactic| walk_at "le") => `(tactic| first | exact Le.refl _ | assumption | (apply Le.trans'; assumption; walk_at "le"))
local macro_rules | `(tactic| walk_at "lw") => `(tactic| first | exact Lw.refl _ | assumption | exact Le.w (by assumption) | (apply Lw.trans'; (first | assumption | exact Le.w (by assumption)); walk_at "lw"))
local macro_rules | `(tactic| walk_at "sz") => `(tactic| first | omega | (simp only [slen_app]; omega) | (simp only [List.length_append, List.length_cons, List.length_nil, List.length_map, List.length_range]; omega) | omega | (simp; omega) | decide)
local macro_rules | `(tactic| walk_at "x") => `(tactic| first
  | with_reducible refine x_seq ?_ | with_reducible refine x_asg ?_ | with_reducible refine x_ret ?_ | with_reducible refine x_drop ?_
  | ((with_reducible apply x_var); exact rfl) | with_reducible refine x_c ?_ | with_reducible refine x_op ?_ | with_reducible refine x_opS ?_ | with_reducible refine x_un ?_ | with_reducible refine x_neg ?_
  | with_reducible refine x_test ?_ | with_reducible refine x_tB ?_ | with_reducible refine x_kB ?_
  | with_reducible refine x_nil ?_ | with_reducible refine x_cons ?_ | with_reducible refine x_tup ?_ | with_reducible refine x_lst ?_
  | ((with_reducible refine x_kTup ?_ ?_); (walk_at "sz"); (intro _ _ _ _ _)) | ((with_reducible refine x_kLst ?_ ?_); (walk_at "sz"); (intro _ _ _ _ _))
  | with_reducible refine x_fld ?_ | ((with_reducible apply x_fS); assumption; (walk_at "hp")) | ((with_reducible apply x_fC); assumption; (walk_at "hp"))
  | with_reducible refine x_cb ?_ | with_reducible refine x_call ?_ | with_reducible refine x_callE ?_ | with_reducible refine x_bm ?_ | with_reducible refine x_cv ?_
  | with_reducible refine x_meth ?_ | with_reducible refine x_cm ?_ | with_reducible refine x_kCM ?_ | with_reducible refine x_mk ?_ | with_reducible refine x_kMk ?_
  | with_reducible refine x_np ?_ | with_reducible refine x_part ?_ | with_reducible refine x_kPart ?_ | with_reducible refine x_sl ?_ | with_reducible refine x_rev ?_
  | with_reducible refine x_addI ?_ | ((with_reducible refine x_addS ?_ ?_); (walk_at "sz")) | with_reducible refine x_I0 ?_
  | with_reducible refine x_eqS ?_ | with_reducible refine x_eqI ?_ | with_reducible refine x_eqB ?_ | with_reducible refine x_neS ?_ | with_reducible refine x_neI ?_ | with_reducible refine x_neB ?_
  | with_reducible refine x_eqFS ?_ | with_reducible refine x_eqFI ?_
  | with_reducible refine x_ltI ?_ | with_reducible refine x_ltS ?_ | with_reducible refine x_leI ?_ | with_reducible refine x_leS ?_ | with_reducible refine x_inT ?_ | with_reducible refine x_notInT ?_
  | ((with_reducible refine x_slS ?_ ?_); (walk_at "sz")) | ((with_reducible refine x_kRev ?_ ?_); (walk_at "sz"))
  | ((with_reducible refine x_lenS ?_ ?_); (walk_at "sz")) | ((with_reducible apply x_lenT); (walk_at "hp"))
  | ((with_reducible apply x_ixT); (walk_at "hp"); exact rfl)
  | with_reducible refine x_abs ?_ | with_reducible refine x_int ?_ | with_reducible refine x_strS ?_
  | ((with_reducible apply x_isB); (first | exact kit_ty (r := true) (by decide +kernel) | exact kit_ty (r := false) (by decide +kernel))) | ((with_reducible apply x_isI); (first | exact kit_ty (r := true) (by decide +kernel) | exact kit_ty (r := false) (by decide +kernel))) | ((with_reducible apply x_isS); (first | exact kit_ty (r := true) (by decide +kernel) | exact kit_ty (r := false) (by decide +kernel)))
  | ((with_reducible apply x_isT); (walk_at "hp"); (first | exact kit_ty (r := true) (by decide +kernel) | exact kit_ty (r := false) (by decide +kernel)))
  | ((with_reducible apply x_isText); assumption; (walk_at "hp")) | ((with_reducible apply x_isTextS); assumption) | ((with_reducible apply x_isTextI); assumption) | ((with_reducible apply x_isTextN); assumption) | ((with_reducible apply x_kCVT); assumption)
  | ((with_reducible apply x_addL); (walk_at "hp"); (walk_at "hp"); (walk_at "sz"); (intro _ _ _ _ _)) | ((with_reducible apply x_tyL); (walk_at "hp")) | with_reducible refine x_tyS ?_
  | with_reducible refine x_joined ?_ | with_reducible refine x_js ?_ | with_reducible refine x_js0 ?_ | ((with_reducible refine x_kJs ?_ ?_); (walk_at "sz")) | with_reducible refine x_fmt ?_ | ((with_reducible refine x_fmtS ?_ ?_); (walk_at "sz")) | ((with_reducible refine x_fmtI ?_ ?_); omega)
  | with_reducible refine x_rse ?_ | with_reducible refine x_ex ?_ | with_reducible refine x_ex0 ?_ | with_reducible refine x_xf ?_
  | with_reducible refine x_for ?_ | with_reducible refine x_r1 ?_ | with_reducible refine x_r2 ?_ | with_reducible refine x_il ?_ | with_reducible refine x_en ?_ | with_reducible refine x_lc ?_ | with_reducible refine x_next ?_ | dsimp only)
local macro_rules | `(tactic| walk_at "xs") => `(tactic| repeat walk_at "x")
local macro_rules | `(tactic| walk_at "ev0") => `(tactic| (refine ev_run ?_; intro _ _ _ q; walk_at "xs"; refine q _ ?_; walk_at "le"))
local macro_rules | `(tactic| walk_at "ch") => `(tactic| (intro _ _ _ q; walk_at "xs"; refine q _ ?_; walk_at "le"))
local macro_rules | `(tactic| walk_at "ev") => `(tactic| first
  | (focus ((with_reducible refine ev_andV ?_ (fun _ => ?_)); (all_goals walk_at "ev"))) | (focus ((with_reducible refine ev_orV ?_ (fun _ => ?_)); (all_goals walk_at "ev")))
  | ((with_reducible refine ev_notV ?_); walk_at "ev")
  | (focus ((with_reducible apply ev_chain); (focus walk_at "ch"); (focus walk_at "ch"); (focus walk_at "ch"); (focus (intro _ _ _ q; walk_at "x"; exact q)); (focus (intro _ _ _ q; walk_at "x"; exact q))))
  | walk_at "ev0" | skip)
local macro_rules | `(tactic| walk_at "et") => `(tactic| first
  | (focus ((with_reducible refine et_and ?_ (fun _ => ?_)); (all_goals walk_at "et"))) | (focus ((with_reducible refine et_or ?_ (fun _ => ?_)); (all_goals walk_at "et")))
  | ((with_reducible refine et_not ?_); walk_at "et") | ((with_reducible refine et_B ?_); walk_at "ev") | ((with_reducible refine et_T ?_); walk_at "ev"))
local macro_rules | `(tactic| walk_at "hp") => `(tactic| first | assumption | (apply RuleAt.le; assumption; walk_at "hp") | (apply RulesAt.le; assumption; walk_at "hp") | (apply BookAt.le; assumption; walk_at "hp") | (apply RuleAt.lw; assumption; walk_at "hp") | (apply BookAt.lw; assumption; walk_at "hp") | (apply R4s.le; assumption; walk_at "hp") | (apply R4s.lw; assumption; walk_at "hp"))
local macro_rules | `(tactic| walk_at "x") => `(tactic| first
  | ((with_reducible apply x_fO); assumption; (walk_at "hp")) | ((with_reducible apply x_fN); assumption; (walk_at "hp")) | ((with_reducible apply x_fL); assumption; (walk_at "hp")) | ((with_reducible apply x_fR); assumption; (walk_at "hp")) | ((with_reducible apply x_fB); assumption; (walk_at "hp"))
  | ((with_reducible apply x_isRule); assumption; (walk_at "hp")) | ((with_reducible apply x_kCVB); assumption)
  | with_reducible refine x_callO ?_ | with_reducible refine x_kCO ?_ | with_reducible refine x_prop ?_ | with_reducible refine x_max ?_ | with_reducible refine x_intB ?_ | with_reducible refine x_findS ?_ | with_reducible refine x_countS ?_ | with_reducible refine x_isN ?_)
local macro_rules | `(tactic| walk_at "sz") => `(tactic| (simp only [slen_app, elen, len1a, len1b, len1c]; omega))
local macro_rules | `(tactic| walk_at "x") => `(tactic| first
  | with_reducible refine x_sfld ?_ | with_reducible refine x_enL ?_ | with_reducible refine x_enN ?_ | with_reducible refine x_it ?_ | with_reducible refine x_asgT ?_ | ((with_reducible apply x_g2); (walk_at "hp")) | ((with_reducible apply x_g3); (walk_at "hp")) | ((with_reducible apply x_g4); (walk_at "hp"))
  | ((with_reducible apply x_lenL2); (walk_at "hp")) | with_reducible refine x_gseq ?_ | with_reducible refine x_g0 ?_ | with_reducible refine x_gfor ?_ | with_reducible refine x_gps ?_)
local macro_rules | `(tactic| walk_at "x") => `(tactic| first | ((with_reducible refine x_splitS ?_ ?_ ?_); (decide +kernel); (walk_at "sz"); (intro _ _ _ _ _)) | with_reducible refine x_methK ?_ | with_reducible refine x_mkSt ?_ | with_reducible refine x_kMkSt ?_ | ((with_reducible apply x_kStL); (walk_at "hp")))
theorem form_l (x : R4) : (form x).cps.toList = x.l.cps.toList ++ 40 :: (x.o.cps.toList ++ 62 :: (x.n.cps.toList ++ 41 :: x.r.cps.toList)) := by
  have e1 : ("(" : Str).cps.toList = [40] := by decide +kernel
  have e2 : (">" : Str).cps.toList = [62] := by decide +kernel
  have e3 : (")" : Str).cps.toList = [41] := by decide +kernel
  unfold form
  simp only [app_l, e1, e2, e3]
  simp
theorem notin {z : Str} {c : Nat} (h : bad z = none) (hc : sgOk c = false) : c ∉ z.cps.toList := fun z => by
  rw [bad_l.mp h c z] at hc; cases hc
theorem cnt0 {z : Str} {c : Nat} (h : bad z = none) (hc : sgOk c = false) : z.cps.toList.count c = 0 := List.count_eq_zero.mpr (notin h hc)
theorem s40 : ("(" : Str) = ⟨#[40]⟩ := by decide +kernel
theorem s62 : (">" : Str) = ⟨#[62]⟩ := by decide +kernel
theorem s41 : (")" : Str) = ⟨#[41]⟩ := by decide +kernel
theorem s10 : ("\n" : Str) = ⟨#[10]⟩ := by decide +kernel
theorem form_len (x : R4) : (form x).length = x.l.length + x.o.length + x.n.length + x.r.length + 3 := by
  rw [← len_l, form_l]
  simp only [List.length_append, List.length_cons, len_l]
  omega
theorem form_cnt {x : R4} (f : Fine x) : Txt.count (form x) "(" = 1 ∧ Txt.count (form x) ">" = 1 ∧ Txt.count (form x) ")" = 1 := by
  have h1 : ∀ c, sgOk c = false → (form x).cps.toList.count c = (if 40 = c then 1 else 0) + (if 62 = c then 1 else 0) + (if 41 = c then 1 else 0) := fun c hc => by
    rw [form_l]
    simp only [List.count_append, List.count_cons, cnt0 f.l.1 hc, cnt0 f.o.1 hc, cnt0 f.n.1 hc, cnt0 f.r.1 hc, beq_iff_eq]
    omega
  rw [s40, s62, s41, count_one, count_one, count_one, h1 40 rfl, h1 62 rfl, h1 41 rfl]
  exact ⟨rfl, rfl, rfl⟩
theorem form_find {x : R4} (f : Fine x) : Txt.find (form x) "(" = (x.l.length : Nat) ∧ Txt.find (form x) ">" = ((x.l.length + 1 + x.o.length : Nat) : Int) ∧ Txt.find (form x) ")" = ((x.l.length + 1 + x.o.length + 1 + x.n.length : Nat) : Int) := by
  rw [s40, s62, s41]
  refine ⟨?_, ?_, ?_⟩
  · rw [find_one (form_l x) (notin f.l.1 rfl), len_l]
  · rw [find_one (x := form x) (u := x.l.cps.toList ++ 40 :: x.o.cps.toList) (v := x.n.cps.toList ++ 41 :: x.r.cps.toList) (by rw [form_l]; simp) ?_]
    · simp only [List.length_append, List.length_cons, len_l]
      omega
    · intro h
      rcases List.mem_append.mp h with h | h
      · exact notin f.l.1 rfl h
      · rcases List.mem_cons.mp h with h | h
        · cases h
        · exact notin f.o.1 rfl h
  · rw [find_one (x := form x) (u := x.l.cps.toList ++ 40 :: (x.o.cps.toList ++ 62 :: x.n.cps.toList)) (v := x.r.cps.toList) (by rw [form_l]; simp) ?_]
    · simp only [List.length_append, List.length_cons, len_l]
      omega
    · intro h
      rcases List.mem_append.mp h with h | h
      · exact notin f.l.1 rfl h
      · rcases List.mem_cons.mp h with h | h
        · cases h
        · rcases List.mem_append.mp h with h | h
          · exact notin f.o.1 rfl h
          · rcases List.mem_cons.mp h with h | h
            · cases h
            · exact notin f.n.1 rfl h
theorem ok__split_line {P : Program} {w : World} {K : PySem.W.Frag} {mg : Str → Option Value} {base : Heap} {a : Ad} {f : Addr} {fd : FuncData} (F : FnP K "_split_line" "_split_line" s__split_line f fd) (T : Txt K mg a)  :
    FnOk P w K mg base (L2.CX P w) 1 f fd ["line"] (sp__split_line a) := by
  refine F.ok sc__split_line (fun vs H Q E h => by obtain ⟨x, rfl, fx, q⟩ := h; rfl) (fun cdv A outer s H vs Q E hr h => ?_)
  refine ⟨_, (pss_cons (ps_if (PW.pt (pw_or (pt_cmpR (op_neU hr) (pe_bm PySem.F.plainAttrs_str PySem.F.slot_str_count PySem.F.type_str_count mt_countS (pv 0) (pa_cons pe_str pa_nil)) pe_int (nomark _)) (pw_or (pt_cmpR (op_neU hr) (pe_bm PySem.F.plainAttrs_str PySem.F.slot_str_count PySem.F.type_str_count mt_countS (pv 0) (pa_cons pe_str pa_nil)) pe_int (nomark _)) (pw_or1 (pt_cmpR (op_neU hr) (pe_bm PySem.F.plainAttrs_str PySem.F.slot_str_count PySem.F.type_str_count mt_countS (pv 0) (pa_cons pe_str pa_nil)) pe_int (nomark _)))))) (pss_one ps_never) pss_nil)
    (pss_cons (ps_set (i := 1) sc__split_line.nd rfl (Or.inl rfl) (pe_bm PySem.F.plainAttrs_str PySem.F.slot_str_find PySem.F.type_str_find mt_findS (pv 0) (pa_cons pe_str pa_nil)))
    (pss_cons (ps_set (i := 2) sc__split_line.nd rfl (Or.inl rfl) (pe_bm PySem.F.plainAttrs_str PySem.F.slot_str_find PySem.F.type_str_find mt_findS (pv 0) (pa_cons pe_str pa_nil)))
    (pss_cons (ps_set (i := 3) sc__split_line.nd rfl (Or.inl rfl) (pe_bm PySem.F.plainAttrs_str PySem.F.slot_str_find PySem.F.type_str_find mt_findS (pv 0) (pa_cons pe_str pa_nil)))
    (pss_cons (ps_if (pt_not (pt_chain op_ltU op_ltU (pv 1) (pv 2) (pv 3))) (pss_one ps_never) pss_nil)
    (pss_one (ps_ret (pe_tup (pa_cons (pe_slice sl_U (pv 0) (po_some (pe_op op_addU (pv 1) pe_int)) (po_some (pv 2))) (pa_cons (pe_slice sl_U (pv 0) (po_some (pe_op op_addU (pv 2) pe_int)) (po_some (pv 3))) (pa_cons (pe_slice sl_U (pv 0) po_none (po_some (pv 1))) (pa_cons (pe_slice sl_U (pv 0) (po_some (pe_op op_addU (pv 3) pe_int)) po_none) pa_nil)))))))))))), ?_⟩
  obtain ⟨x, rfl, fx, q⟩ := h
  have f1 := fx.l.2
  have f2 := fx.o.2.2
  have f3 := fx.r.2
  have f4 := fx.n.2.2
  have hz := form_len x
  obtain ⟨c1, c2, c3⟩ := form_cnt fx
  obtain ⟨d1, d2, d3⟩ := form_find fx
  walk_at "xs"
  refine x_no (et_is (b := !decide (Txt.count (form x) "(" = 1) || (!decide (Txt.count (form x) ">" = 1) || !decide (Txt.count (form x) ")" = 1))) (by walk_at "et") (by rw [c1, c2, c3]; rfl)) fun H1 e1 => ?_
  walk_at "xs"
  refine x_no (et_is (b := !(decide (Txt.find (form x) "(" < Txt.find (form x) ">") && decide (Txt.find (form x) ">" < Txt.find (form x) ")"))) (by walk_at "et") (by rw [d1, d2, d3, decide_eq_true (by omega), decide_eq_true (by omega)]; rfl)) fun H2 e2 => ?_
  walk_at "xs"
  rename_i p H3 n3 e3 h3
  refine q p H3 ((e1.trans e2).trans e3) ?_
  rw [h3]
  have g1 : cutS (form x) (some (Txt.find (form x) "(" + 1)) (some (Txt.find (form x) ">")) = x.o := by
    rw [d1, d2]
    refine cut_mid (u := x.l.cps.toList ++ [40]) (w := 62 :: (x.n.cps.toList ++ 41 :: x.r.cps.toList)) (by rw [form_l]; simp) ?_ ?_ <;> simp only [List.length_append, List.length_cons, List.length_nil, len_l] <;> omega
  have g2 : cutS (form x) (some (Txt.find (form x) ">" + 1)) (some (Txt.find (form x) ")")) = x.n := by
    rw [d2, d3]
    refine cut_mid (u := x.l.cps.toList ++ 40 :: (x.o.cps.toList ++ [62])) (w := 41 :: x.r.cps.toList) (by rw [form_l]; simp) ?_ ?_ <;> simp only [List.length_append, List.length_cons, List.length_nil, len_l] <;> omega
  have g3 : cutS (form x) none (some (Txt.find (form x) "(")) = x.l := by
    rw [d1]
    exact cut_to (form_l x) rfl
  have g4 : cutS (form x) (some (Txt.find (form x) ")" + 1)) none = x.r := by
    rw [d3]
    refine cut_from (u := x.l.cps.toList ++ 40 :: (x.o.cps.toList ++ 62 :: (x.n.cps.toList ++ [41]))) (by rw [form_l]; simp) ?_
    simp only [List.length_append, List.length_cons, List.length_nil, len_l]; omega
  rw [g1, g2, g3, g4]
theorem lines_split {xs : List R4} (h : xs ≠ []) (f : ∀ x ∈ xs, Fine x) : Txt.split (lines xs) "\n" = xs.map form := by
  unfold lines
  rw [s10]
  refine split_join (by simpa using h) fun y hy => ?_
  obtain ⟨x, hx, rfl⟩ := List.mem_map.mp hy
  have fx := f x hx
  rw [form_l]
  simp only [List.mem_append, List.mem_cons, not_or]
  exact ⟨notin fx.l.1 rfl, by decide, notin fx.o.1 rfl, by decide, notin fx.n.1 rfl, by decide, notin fx.r.1 rfl⟩
theorem lines_len : ∀ {xs : List R4}, (∀ x ∈ xs, Fine x) → (lines xs).length ≤ 14 * xs.length := by
  intro xs f
  have e : lines xs = Str.join "\n" (xs.map form) := StrLaws.glued_eq_join _ _
  rw [e, s10, ← len_l, join_glue]
  have : ∀ {xs : List R4}, (∀ x ∈ xs, Fine x) → (glueL 10 ((xs.map form).map (·.cps.toList))).length ≤ 14 * xs.length := by
    intro xs
    induction xs with
    | nil => intro _; simp [glueL]
    | cons x r ih =>
      intro f
      have fx := f x List.mem_cons_self
      have f1 := fx.l.2
      have f2 := fx.o.2.2
      have f3 := fx.r.2
      have f4 := fx.n.2.2
      have hz := form_len x
      have ih := ih fun y hy => f y (List.mem_cons_of_mem _ hy)
      cases r with
      | nil =>
        simp only [List.map_cons, List.map_nil, glueL, len_l, List.length_cons, List.length_nil]
        omega
      | cons y r =>
        simp only [List.map_cons, glueL, List.length_append, List.length_cons, len_l] at ih ⊢
        omega
  exact this f
theorem lines_ne {xs : List R4} (h : xs ≠ []) : lines xs ≠ "" := by
  intro z
  have e : lines xs = Str.join "\n" (xs.map form) := StrLaws.glued_eq_join _ _
  rw [e, s10, empty_iff, ← len_l, join_glue] at z
  match xs, h with
  | [x], _ =>
    simp only [List.map_cons, List.map_nil, glueL, len_l] at z
    rw [form_len] at z
    omega
  | x :: y :: r, _ =>
    simp only [List.map_cons, glueL, List.length_append, List.length_cons] at z
    omega
theorem ok_Book_read {P : Program} {w : World} {K : PySem.W.Frag} {mg : Str → Option Value} {base : Heap} {a : Ad} {f : Addr} {fd : FuncData} (F : FnP K "read" "Book.read" s_Book_read f fd) (T : Txt K mg a) (R_Book : CtR P w K mg base 3 a.cBook (spR_Book a)) (G__read_rule : FnG P w K mg base 6 "_read_rule" (sp__read_rule a)) :
    FnOk P w K mg base (L2.CX P w) 7 f fd ["cls", "written"] (sp_Book_read a) := by
  refine F.ok sc_Book_read (fun vs H Q E h => by obtain ⟨xs, rfl, fx, hd, hn1, hn8, hq⟩ := h; rfl) (fun cdv A outer s H vs Q E hr h => ?_)
  refine ⟨_, (pss_cons (ps_set (i := 2) sc_Book_read.nd rfl (Or.inl rfl) (pe_lst pa_nil))
    (pss_cons (ps_if (pt_cmpR (op_neU hr) (pv 1) pe_str (nomark _)) (pss_one (ps_for (by first | exact po | exact PassesOwn.never | exact passes_of rfl) rfl (pi_enumN (by rfl) T.f_enumerate (pa_cons (pe_bm PySem.F.plainAttrs_str PySem.F.slot_str_split PySem.F.type_str_split mt_splitS (pv 1) (pa_cons pe_str pa_nil)) pa_nil) (pk_cons pe_int pk_nil)) (pg_tup rfl (pgs_cons (pg_name (i := 3) sc_Book_read.nd rfl (Or.inl rfl)) (pgs_cons (pg_name (i := 4) sc_Book_read.nd rfl (Or.inl rfl)) pgs_nil))) (pss_one (ps_expr (pe_bm PySem.F.plainAttrs_list PySem.F.slot_list_append PySem.F.type_list_append mt_append (pv 2) (pa_cons (pe_callG G__read_rule (hr.mono (by decide)) passN rfl (pa_cons (pv 4) (pa_cons (pv 3) pa_nil))) pa_nil)))))) pss_nil)
    (pss_one (ps_ret (pe_mkSt R_Book (hr.mono (by decide)) passN (pv 0) (pv 2)))))), ?_⟩
  obtain ⟨xs, rfl, fx, hd, hn1, hn8, hq⟩ := h
  have hne : xs ≠ [] := fun z => by rw [z] at hn1; simp at hn1
  have hll := lines_len fx
  walk_at "xs"
  rename_i l H1 n1 e1 hl1
  refine x_yes (et_is (b := !decide (lines xs = "")) (by walk_at "et") (by simp [lines_ne hne])) fun H2 e2 => ?_
  walk_at "xs"
  rename_i sp H3 n3 e3 h3
  rw [lines_split hne fx] at h3
  have hsl : sp ≠ l := fun z => by rw [z, e2.keep hl1] at n3; cases n3
  have hl3 := e3.keep (e2.keep hl1)
  refine x_forEnN (xs := (xs.map form).map V.str) (sql h3) (by omega) (fun i σ' H' => (∃ v1 v2, σ' = [some (V.ref a.cBook), some (V.str (lines xs)), some (V.ref l), v1, v2]) ∧ Le H H' ∧ H' sp = some (.lst ((xs.map form).map V.str)) ∧ ∃ us, H' l = some (.lst us) ∧ RulesAt a H' us (xs.take i)) ⟨⟨_, _, rfl⟩, (e1.trans e2).trans e3, h3, [], hl3, trivial⟩ (fun i σ' H' _ h => sql h.2.2.1) ?_ ?_
  · rintro i v t σ' H4 H5 hv ⟨⟨v1, v2, rfl⟩, e4, h4, us, hl4, hr4⟩ e5 hT
    refine x_g2 hT ?_
    rw [List.getElem?_map, List.getElem?_map] at hv
    cases hx : xs[i]? with
    | none => rw [hx] at hv; cases hv
    | some x =>
      rw [hx] at hv
      cases hv
      have hlen := hr4.len
      have hil := (List.getElem?_eq_some_iff.mp hx).1
      have hl5 := e5.keep hl4
      walk_at "xs"
      refine ⟨x, _, rfl, fx x (List.mem_of_getElem? hx), fun r H6 e6 hr6 => ?_⟩
      have hl6 := e6.keep hl5
      walk_at "xs"
      refine x_app hl6 (by rw [hlen, List.length_take]; omega) ?_
      have hnr : ∀ y, ¬ RuleAt a H6 l y := fun y ⟨d, z⟩ => by rw [hl6] at z; cases z
      have ex : Lx l H6 (upd H6 l (.lst (us ++ [.ref r]))) := (Lx.refl _).put hl6
      refine ⟨⟨_, _, rfl⟩, le_own ((e4.trans e5).trans e6) n1, ?_, us ++ [.ref r], upd_same, ?_⟩
      · rw [upd_ne hsl]
        exact e6.keep (e5.keep h4)
      · rw [take_put hx]
        exact RulesAt.lx ex hnr (RulesAt.app hr6 ((hr4.le e5).le e6))
  · rintro σ' H4 ⟨⟨v1, v2, rfl⟩, e4, h4, us, hl4, hr4⟩
    walk_at "xs"
    rw [List.length_map, List.length_map, List.take_length] at hr4
    exact ⟨xs, hr4, hd, hn8, fun p H5 e5 hb => hq p H5 (e4.trans e5) hb⟩
end K7
set_option maxHeartbeats 4000000
/-! K7I: k07: places, meetings, kinds, overlaps of two rules: the program's -/
namespace K7
open PySem PySem.Spec PyProof.Rows L2 MC
local macro_rules | `(tactic| walk_at "hp") => `(tactic| first | assumption | (apply Le.keep; assumption; walk_at "hp") | (apply TextAt.le; assumption; walk_at "hp") | (apply Lw.keep; assumption; walk_at "hp"; first | rfl | exact sh_str _ | exact sh_ints _ | exact sh_sgns _) | (apply TextAt.lw; assumption; walk_at "hp"))
local macro_rules | `(tactic| walk_at "le") => `(tactic| first | exact Le.refl _ | assumption | (apply Le.trans'; assumption; walk_at "le"))
local macro_rules | `(tactic| walk_at "lw") => `(tactic| first | exact Lw.refl _ | assumption | exact Le.w (by assumption) | (apply Lw.trans'; (first | assumption | exact Le.w (by assumption)); walk_at "lw"))
local macro_rules | `(tactic| walk_at "sz") => `(tactic| first | omega | (simp only [slen_app]; omega) | (simp only [List.length_append, List.length_cons, List.length_nil, List.length_map, List.length_range]; omega) | omega | (simp; omega) | decide)
local macro_rules | `(tactic| walk_at "x") => `(tactic| first
  | with_reducible refine x_seq ?_ | with_reducible refine x_asg ?_ | with_reducible refine x_ret ?_ | with_reducible refine x_drop ?_
  | ((with_reducible apply x_var); exact rfl) | with_reducible refine x_c ?_ | with_reducible refine x_op ?_ | with_reducible refine x_opS ?_ | with_reducible refine x_un ?_ | with_reducible refine x_neg ?_
  | with_reducible refine x_test ?_ | with_reducible refine x_tB ?_ | with_reducible refine x_kB ?_
  | with_reducible refine x_nil ?_ | with_reducible refine x_cons ?_ | with_reducible refine x_tup ?_ | with_reducible refine x_lst ?_
  | ((with_reducible refine x_kTup ?_ ?_); (walk_at "sz"); (intro _ _ _ _ _)) | ((with_reducible refine x_kLst ?_ ?_); (walk_at "sz"); (intro _ _ _ _ _))
  | with_reducible refine x_fld ?_ | ((with_reducible apply x_fS); assumption; (walk_at "hp")) | ((with_reducible apply x_fC); assumption; (walk_at "hp"))
  | with_reducible refine x_cb ?_ | with_reducible refine x_call ?_ | with_reducible refine x_callE ?_ | with_reducible refine x_bm ?_ | with_reducible refine x_cv ?_
  | with_reducible refine x_meth ?_ | with_reducible refine x_cm ?_ | with_reducible refine x_kCM ?_ | with_reducible refine x_mk ?_ | with_reducible refine x_kMk ?_
  | with_reducible refine x_np ?_ | with_reducible refine x_part ?_ | with_reducible refine x_kPart ?_ | with_reducible refine x_sl ?_ | with_reducible refine x_rev ?_
  | with_reducible refine x_addI ?_ | ((with_reducible refine x_addS ?_ ?_); (walk_at "sz")) | with_reducible refine x_I0 ?_
  | with_reducible refine x_eqS ?_ | with_reducible refine x_eqI ?_ | with_reducible refine x_eqB ?_ | with_reducible refine x_neS ?_ | with_reducible refine x_neI ?_ | with_reducible refine x_neB ?_
  | with_reducible refine x_eqFS ?_ | with_reducible refine x_eqFI ?_
  | with_reducible refine x_ltI ?_ | with_reducible refine x_ltS ?_ | with_reducible refine x_leI ?_ | with_reducible refine x_leS ?_ | with_reducible refine x_inT ?_ | with_reducible refine x_notInT ?_
  | ((with_reducible refine x_slS ?_ ?_); (walk_at "sz")) | ((with_reducible refine x_kRev ?_ ?_); (walk_at "sz"))
  | ((with_reducible refine x_lenS ?_ ?_); (walk_at "sz")) | ((with_reducible apply x_lenT); (walk_at "hp"))
  | ((with_reducible apply x_ixT); (walk_at "hp"); exact rfl)
  | with_reducible refine x_abs ?_ | with_reducible refine x_int ?_ | with_reducible refine x_strS ?_
  | ((with_reducible apply x_isB); (first | exact kit_ty (r := true) (by decide +kernel) | exact kit_ty (r := false) (by decide +kernel))) | ((with_reducible apply x_isI); (first | exact kit_ty (r := true) (by decide +kernel) | exact kit_ty (r := false) (by decide +kernel))) | ((with_reducible apply x_isS); (first | exact kit_ty (r := true) (by decide +kernel) | exact kit_ty (r := false) (by decide +kernel)))
  | ((with_reducible apply x_isT); (walk_at "hp"); (first | exact kit_ty (r := true) (by decide +kernel) | exact kit_ty (r := false) (by decide +kernel)))
  | ((with_reducible apply x_isText); assumption; (walk_at "hp")) | ((with_reducible apply x_isTextS); assumption) | ((with_reducible apply x_isTextI); assumption) | ((with_reducible apply x_isTextN); assumption) | ((with_reducible apply x_kCVT); assumption)
  | ((with_reducible apply x_addL); (walk_at "hp"); (walk_at "hp"); (walk_at "sz"); (intro _ _ _ _ _)) | ((with_reducible apply x_tyL); (walk_at "hp")) | with_reducible refine x_tyS ?_
  | with_reducible refine x_joined ?_ | with_reducible refine x_js ?_ | with_reducible refine x_js0 ?_ | ((with_reducible refine x_kJs ?_ ?_); (walk_at "sz")) | with_reducible refine x_fmt ?_ | ((with_reducible refine x_fmtS ?_ ?_); (walk_at "sz")) | ((with_reducible refine x_fmtI ?_ ?_); omega)
  | with_reducible refine x_rse ?_ | with_reducible refine x_ex ?_ | with_reducible refine x_ex0 ?_ | with_reducible refine x_xf ?_
  | with_reducible refine x_for ?_ | with_reducible refine x_r1 ?_ | with_reducible refine x_r2 ?_ | with_reducible refine x_il ?_ | with_reducible refine x_en ?_ | with_reducible refine x_lc ?_ | with_reducible refine x_next ?_ | dsimp only)
local macro_rules | `(tactic| walk_at "xs") => `(tactic| repeat walk_at "x")
local macro_rules | `(tactic| walk_at "ev0") => `(tactic| (refine ev_run ?_; intro _ _ _ q; walk_at "xs"; refine q _ ?_; walk_at "le"))
local macro_rules | `(tactic| walk_at "ch") => `(tactic| (intro _ _ _ q; walk_at "xs"; refine q _ ?_; walk_at "le"))
local macro_rules | `(tactic| walk_at "ev") => `(tactic| first
  | (focus ((with_reducible refine ev_andV ?_ (fun _ => ?_)); (all_goals walk_at "ev"))) | (focus ((with_reducible refine ev_orV ?_ (fun _ => ?_)); (all_goals walk_at "ev")))
  | ((with_reducible refine ev_notV ?_); walk_at "ev")
  | (focus ((with_reducible apply ev_chain); (focus walk_at "ch"); (focus walk_at "ch"); (focus walk_at "ch"); (focus (intro _ _ _ q; walk_at "x"; exact q)); (focus (intro _ _ _ q; walk_at "x"; exact q))))
  | walk_at "ev0" | skip)
local macro_rules | `(tactic| walk_at "et") => `(tactic| first
  | (focus ((with_reducible refine et_and ?_ (fun _ => ?_)); (all_goals walk_at "et"))) | (focus ((with_reducible refine et_or ?_ (fun _ => ?_)); (all_goals walk_at "et")))
  | ((with_reducible refine et_not ?_); walk_at "et") | ((with_reducible refine et_B ?_); walk_at "ev") | ((with_reducible refine et_T ?_); walk_at "ev"))
local macro_rules | `(tactic| walk_at "hp") => `(tactic| first | assumption | (apply RuleAt.le; assumption; walk_at "hp") | (apply RulesAt.le; assumption; walk_at "hp") | (apply BookAt.le; assumption; walk_at "hp") | (apply RuleAt.lw; assumption; walk_at "hp") | (apply BookAt.lw; assumption; walk_at "hp") | (apply R4s.le; assumption; walk_at "hp") | (apply R4s.lw; assumption; walk_at "hp"))
local macro_rules | `(tactic| walk_at "x") => `(tactic| first
  | ((with_reducible apply x_fO); assumption; (walk_at "hp")) | ((with_reducible apply x_fN); assumption; (walk_at "hp")) | ((with_reducible apply x_fL); assumption; (walk_at "hp")) | ((with_reducible apply x_fR); assumption; (walk_at "hp")) | ((with_reducible apply x_fB); assumption; (walk_at "hp"))
  | ((with_reducible apply x_isRule); assumption; (walk_at "hp")) | ((with_reducible apply x_kCVB); assumption)
  | with_reducible refine x_callO ?_ | with_reducible refine x_kCO ?_ | with_reducible refine x_prop ?_ | with_reducible refine x_max ?_ | with_reducible refine x_intB ?_ | with_reducible refine x_findS ?_ | with_reducible refine x_countS ?_ | with_reducible refine x_isN ?_)
local macro_rules | `(tactic| walk_at "sz") => `(tactic| (simp only [slen_app, elen, len1a, len1b, len1c]; omega))
local macro_rules | `(tactic| walk_at "x") => `(tactic| first
  | with_reducible refine x_sfld ?_ | with_reducible refine x_enL ?_ | with_reducible refine x_enN ?_ | with_reducible refine x_it ?_ | with_reducible refine x_asgT ?_ | ((with_reducible apply x_g2); (walk_at "hp")) | ((with_reducible apply x_g3); (walk_at "hp")) | ((with_reducible apply x_g4); (walk_at "hp"))
  | ((with_reducible apply x_lenL2); (walk_at "hp")) | with_reducible refine x_gseq ?_ | with_reducible refine x_g0 ?_ | with_reducible refine x_gfor ?_ | with_reducible refine x_gps ?_)
local macro_rules | `(tactic| walk_at "x") => `(tactic| first | ((with_reducible refine x_splitS ?_ ?_ ?_); (decide +kernel); (walk_at "sz"); (intro _ _ _ _ _)) | with_reducible refine x_methK ?_ | with_reducible refine x_mkSt ?_ | with_reducible refine x_kMkSt ?_ | ((with_reducible apply x_kStL); (walk_at "hp")))
local macro_rules | `(tactic| walk_at "gz") => `(tactic| first | assumption | omega | exact ⟨Int.fmod_nonneg_of_pos _ (by omega), Int.fmod_lt_of_pos _ (by omega)⟩ | (walk_at "sz"))
local macro_rules | `(tactic| walk_at "o") => `(tactic| first
  | with_reducible exact o_addI | ((with_reducible refine o_addS ?_); (walk_at "gz")) | ((with_reducible refine o_addL ?_); (walk_at "gz")) | with_reducible exact o_sub | with_reducible exact o_gt | with_reducible exact o_ge
  | with_reducible exact o_ltI | with_reducible exact o_leI | with_reducible exact o_ltS | with_reducible exact o_eqI | with_reducible exact o_eqS | with_reducible exact o_eqB | with_reducible exact o_neI | with_reducible exact o_neS | with_reducible exact o_neB
  | with_reducible exact o_isN | with_reducible exact o_isV | with_reducible exact o_inT | with_reducible exact o_notInT | with_reducible exact c_lt | with_reducible exact c_le
  | with_reducible exact o_20 | with_reducible exact o_21 | with_reducible exact o_30 | with_reducible exact o_31 | with_reducible exact o_32 | with_reducible exact o_40 | with_reducible exact o_41 | with_reducible exact o_42 | with_reducible exact o_43
  | with_reducible exact o_R0 | with_reducible exact o_R1 | with_reducible exact o_R2 | with_reducible exact o_R3
  | ((with_reducible refine o_ixL ?_); (walk_at "gz")) | ((with_reducible refine o_ixTL ?_); (walk_at "gz")) | ((with_reducible refine o_ixS ?_ ?_); (walk_at "gz"); (walk_at "gz"))
  | ((with_reducible refine o_mulI ?_); (walk_at "gz")) | ((with_reducible refine o_mulS ?_ ?_ ?_); (walk_at "gz"); (walk_at "gz"); (walk_at "gz"))
  | ((with_reducible refine o_mod ?_); (walk_at "gz")) | ((with_reducible refine o_fdiv ?_); (walk_at "gc")) | ((with_reducible refine o_pow ?_); (walk_at "gc"))
  | ((with_reducible refine o_lenS ?_); (walk_at "gz")) | with_reducible exact o_lenL | with_reducible exact o_lenT | with_reducible exact o_int | with_reducible exact o_intB | with_reducible exact o_abs | with_reducible exact o_strS | with_reducible exact o_listL | with_reducible exact o_max
  | ((with_reducible refine o_slS ?_); (walk_at "gz")) | with_reducible exact o_slL)
local macro_rules | `(tactic| walk_at "gc") => `(tactic| first | assumption | decide | exact ⟨by omega, by omega⟩ | exact ⟨by decide, by decide, by decide⟩)
local macro_rules | `(tactic| walk_at "g") => `(tactic| first
  | ((with_reducible apply p_var); exact rfl)
  | with_reducible exact p_int | with_reducible exact p_str | with_reducible exact p_bl | with_reducible exact p_unit | with_reducible exact p_non
  | ((with_reducible apply q_op); (focus walk_at "g"); (focus walk_at "g"); (walk_at "o"))
  | ((with_reducible apply p_lenO); exact rfl)
  | ((with_reducible apply q_cb1); (focus walk_at "g"); (walk_at "o"))
  | ((with_reducible apply q_cb2); (focus walk_at "g"); (focus walk_at "g"); (walk_at "o"))
  | ((with_reducible apply q_ch); (focus walk_at "g"); (focus walk_at "g"); (focus walk_at "g"); (focus walk_at "o"); (walk_at "o"))
  | ((with_reducible apply q_sl); (focus walk_at "g"); (focus walk_at "g"); (focus walk_at "g"); (walk_at "o"))
  | with_reducible exact o_none | ((with_reducible apply o_some); (walk_at "g"))
  | ((with_reducible apply p_not); (walk_at "g")) | ((with_reducible apply p_and); (focus walk_at "g"); (intro _; walk_at "g")) | ((with_reducible apply p_or); (focus walk_at "g"); (intro _; walk_at "g"))
  | ((with_reducible apply p_neg); (walk_at "g")) | ((with_reducible apply p_rev); (focus walk_at "g"); (walk_at "gz"))
  | ((with_reducible apply t_B); (walk_at "g")) | ((with_reducible apply t_T); (walk_at "g")) | ((with_reducible apply t_not); (walk_at "g"))
  | ((with_reducible apply t_and); (focus walk_at "g"); (intro _; walk_at "g")) | ((with_reducible apply t_or); (focus walk_at "g"); (intro _; walk_at "g"))
  | ((with_reducible apply p_tR); (focus walk_at "g"); (focus walk_at "g"); (focus walk_at "g"); (walk_at "g"))
  | ((with_reducible apply p_t2); (focus walk_at "g"); (walk_at "g")) | ((with_reducible apply p_t3); (focus walk_at "g"); (focus walk_at "g"); (walk_at "g"))
  | ((with_reducible apply p_t4); (focus walk_at "g"); (focus walk_at "g"); (focus walk_at "g"); (walk_at "g"))
  | ((with_reducible apply p_lst); (focus walk_at "g"); (walk_at "gz")) | with_reducible exact a_nil | ((with_reducible apply a_cons); (focus walk_at "g"); (walk_at "g"))
  | ((with_reducible apply p_join); (focus walk_at "g"); (focus walk_at "g"); (walk_at "gz"))
  | ((with_reducible apply n_lcL); (focus walk_at "g"); (focus walk_at "gz"); (intro _ _; walk_at "g"))
  | ((with_reducible apply n_lcR); (focus walk_at "g"); (focus walk_at "gz"); (intro _ h; have h := mem_rng h; walk_at "g"))
  | ((with_reducible apply p_call1); (focus walk_at "g"); (walk_at "pre")) | ((with_reducible apply p_call2); (focus walk_at "g"); (focus walk_at "g"); (walk_at "pre"))
  | ((with_reducible apply p_call3); (focus walk_at "g"); (focus walk_at "g"); (focus walk_at "g"); (walk_at "pre"))
  | ((with_reducible apply p_call4); (focus walk_at "g"); (focus walk_at "g"); (focus walk_at "g"); (focus walk_at "g"); (walk_at "pre"))
  | ((with_reducible apply p_call5); (focus walk_at "g"); (focus walk_at "g"); (focus walk_at "g"); (focus walk_at "g"); (focus walk_at "g"); (walk_at "pre")))
local macro_rules | `(tactic| walk_at "pre") => `(tactic| first | trivial | assumption | (refine ⟨?_, ?_⟩ <;> first | assumption | omega | trivial) | omega)
section
variable {K : PySem.W.Frag} {mg : Str → Option Value} {a : Ad} {Γ : Gm} {ta : TE} {x : R4} {t : Str × Bool}
theorem fl_o (T : Txt K mg a) : FldRp K (rRule a) a.cRule "old" rStr (fun x => x.o) := ⟨T.fO, fun H v x ⟨p, e, ⟨dx, h⟩, _⟩ => ⟨p, dx, _, _, e, h, lkO, rfl⟩⟩
theorem fl_l (T : Txt K mg a) : FldRp K (rRule a) a.cRule "left" rStr (fun x => x.l) := ⟨T.fL, fun H v x ⟨p, e, ⟨dx, h⟩, _⟩ => ⟨p, dx, _, _, e, h, lkL, rfl⟩⟩
theorem fl_r (T : Txt K mg a) : FldRp K (rRule a) a.cRule "right" rStr (fun x => x.r) := ⟨T.fR, fun H v x ⟨p, e, ⟨dx, h⟩, _⟩ => ⟨p, dx, _, _, e, h, lkR, rfl⟩⟩
theorem g_pat (h : Pg ta Γ (rRule a) x) : Pg (tPropG a.cRule (sp_Rule_pattern a) ta) Γ rStr (pat x) := fun A B H O σ s Q q => h A B H O σ s _ fun v H1 e1 ⟨p, ev, ⟨dx, hp⟩, f⟩ => by
  subst ev
  exact ⟨p, dx, _, rfl, unhid.keep hp, p, x, rfl, f, ⟨dx, unhid.keep hp⟩, fun H2 e2 => q _ _ (e1.trans e2) rfl⟩
theorem g_lenT (h : Pg ta Γ (rText a) t) : Pg (tCB (rLenO a.cText (sp_Text___len__ a)) (tCons ta tNil)) Γ rInt (t.1.length : Nat) := fun A B H O σ s Q q => h A B H O σ s _ fun v H1 e1 ⟨p, ev, ⟨dx, hp⟩, g⟩ => by
  subst ev
  have hz := g.2.1
  exact x_lenO (unhid.keep hp) ⟨p, t.1, t.2, rfl, by show _ ≤ 1000; omega, ⟨dx, unhid.keep hp⟩, fun H2 e2 => ⟨_, rfl, by omega, q _ _ (e1.trans e2) rfl⟩⟩
theorem p_get {α : Type} {ra : Rp α} {y : α} (h : Pg ta Γ (rOpt ra) (some y)) : Pg ta Γ ra y := fun A B H O σ s Q q => h A B H O σ s Q fun v H1 e1 hv => q v H1 e1 hv.2
end
local macro_rules | `(tactic| walk_at "gz") => `(tactic| (simp only [rngL_len, List.length_append, List.length_map, List.length_cons, List.length_nil]; omega))
local macro_rules | `(tactic| walk_at "g") => `(tactic| first
  | ((with_reducible apply p_fld); (first | (with_reducible apply fl_o) | (with_reducible apply fl_l) | (with_reducible apply fl_r)); (assumption); (walk_at "g"))
  | ((with_reducible apply p_rngL2); (focus walk_at "g"); (focus walk_at "g"); (walk_at "gz"))
  | ((with_reducible apply g_pat); (walk_at "g")) | ((with_reducible apply g_lenT); (walk_at "g")))
theorem besideL_len (x : R4) (i : Int) : (besideL x i).length = x.l.length + x.r.length := by simp [besideL, rngL_len]
theorem takenL_len (x : R4) (i : Int) : (takenL x i).length = x.o.length := by simp [takenL, rngL_len]
theorem mem_rngL {lo p : Int} {n : Nat} : p ∈ rngL lo n ↔ lo ≤ p ∧ p < lo + n := by
  unfold rngL
  simp only [List.mem_map, List.mem_range]
  constructor
  · rintro ⟨k, hk, rfl⟩; omega
  · intro h; exact ⟨(p - lo).toNat, by omega, by omega⟩
theorem mem_bes {x : R4} {i p : Int} : p ∈ besideL x i ↔ (i - x.l.length ≤ p ∧ p < i) ∨ (i + x.o.length ≤ p ∧ p < i + x.o.length + x.r.length) := by
  unfold besideL
  rw [List.mem_append, mem_rngL, mem_rngL]; omega
theorem mem_tak {x : R4} {i p : Int} : p ∈ takenL x i ↔ i ≤ p ∧ p < i + x.o.length := mem_rngL
theorem meet_iff {p q : List Int} : meetL p q = true ↔ ∃ k ∈ p, k ∈ q := by
  unfold meetL
  simp
/-- two that disturb one another have a common place -/
theorem kind_common {x y : R4} {i j : Int} (h : kindOf (pls x i) (pls y j) ≠ none) : ∃ p, (i - x.l.length ≤ p ∧ p < i + x.o.length + x.r.length) ∧ (j - y.l.length ≤ p ∧ p < j + y.o.length + y.r.length) := by
  have hm : meetL (takenL x i) (takenL y j) = true ∨ meetL (besideL x i) (takenL y j) = true ∨ meetL (besideL y j) (takenL x i) = true := by
    refine Classical.byContradiction fun hn => h ?_
    have h1 : meetL (pls x i).2 (pls y j).2 = false := by cases e : meetL (takenL x i) (takenL y j) with | false => exact e | true => exact absurd (.inl e) hn
    have h2 : meetL (pls x i).1 (pls y j).2 = false := by cases e : meetL (besideL x i) (takenL y j) with | false => exact e | true => exact absurd (.inr (.inl e)) hn
    have h3 : meetL (pls y j).1 (pls x i).2 = false := by cases e : meetL (besideL y j) (takenL x i) with | false => exact e | true => exact absurd (.inr (.inr e)) hn
    unfold kindOf
    rw [h1, h2, h3]; rfl
  rcases hm with hm | hm | hm
  · obtain ⟨k, h1, h2⟩ := meet_iff.mp hm
    rw [mem_tak] at h1 h2
    exact ⟨k, by omega, by omega⟩
  · obtain ⟨k, h1, h2⟩ := meet_iff.mp hm
    rw [mem_bes] at h1
    rw [mem_tak] at h2
    exact ⟨k, by omega, by omega⟩
  · obtain ⟨k, h1, h2⟩ := meet_iff.mp hm
    rw [mem_bes] at h1
    rw [mem_tak] at h2
    exact ⟨k, by omega, by omega⟩
theorem pat_sum (x : R4) : (pat x).length = x.l.length + x.o.length + x.r.length := by unfold pat; simp only [slen_app]
theorem needed_none {x : R4} {i p : Int} (h : needed x i p = none) : ¬ (i - x.l.length ≤ p ∧ p < i + x.o.length + x.r.length) := by
  intro hp
  unfold needed at h
  rw [if_pos] at h
  · cases h
  · have := pat_sum x
    rw [Bool.and_eq_true]
    exact ⟨decide_eq_true (by omega), decide_eq_true (by omega)⟩
theorem needed_len {x : R4} {i p : Int} {z : Str} (h : needed x i p = some z) : z.length = 1 := by
  unfold needed at h
  split at h
  · cases h; rfl
  · cases h
/-- no gap -/
theorem no_gap {x y : R4} {s p : Int} (h : kindOf (pls x 0) (pls y s) ≠ none) (h1 : loOf x y s ≤ p) (h2 : p < hiOf x y s) (n1 : needed x 0 p = none) (n2 : needed y s p = none) : False := by
  obtain ⟨k, g1, g2⟩ := kind_common h
  have g3 := needed_none n1
  have g4 := needed_none n2
  unfold loOf at h1
  unfold hiOf at h2
  split at h1 <;> split at h2 <;> omega
theorem layTo_len {x y : R4} {s : Int} : ∀ {k : Nat} {z : Str}, layTo x y s k = some z → z.length = k := by
  intro k
  induction k with
  | zero => intro z h; cases h; rfl
  | succ k ih =>
    intro z h
    unfold layTo at h
    cases hz : layTo x y s k with
    | none => rw [hz] at h; cases h
    | some w =>
      rw [hz] at h
      have hw := ih hz
      simp only [Option.bind_some] at h
      unfold layOne at h
      split at h
      · rename_i _ t e1 e2
        cases h
        rw [slen_app, needed_len e2]; omega
      · rename_i _ t e1 e2
        cases h
        rw [slen_app, needed_len e1]; omega
      · rename_i _ t u e1 e2
        split at h
        · cases h
          rw [slen_app, needed_len e1]; omega
        · cases h
      · cases h
theorem layTo_stop {x y : R4} {s : Int} {k : Nat} (h : layTo x y s k = none) : ∀ {m : Nat}, k ≤ m → layTo x y s m = none := by
  intro m hm
  induction hm with
  | refl => exact h
  | step _ ih => unfold layTo; rw [ih]; rfl
theorem ok__places {P : Program} {w : World} {K : PySem.W.Frag} {mg : Str → Option Value} {base : Heap} {a : Ad} {f : Addr} {fd : FuncData} (F : FnP K "_places" "_places" s__places f fd) (T : Txt K mg a)  :
    FnOk P w K mg base (L2.CX P w) 1 f fd ["rule", "at"] (sp__places a) := by
  refine F.ok sc__places (fun vs H Q E h => by obtain ⟨O, v0, v1, x, i, rfl, hO, h0, h1, hi, q⟩ := h; rfl) (fun cdv A outer s H vs Q E hr h => ?_)
  refine ⟨_, (pss_cons (ps_set (i := 2) sc__places.nd rfl (Or.inl rfl) (pe_op op_addU (pv 1) (pe_callB call_lenU (by rfl) T.f_len (by decide +kernel) (pa_cons (pe_fld (pv 0) rfl) pa_nil))))
    (pss_cons (ps_set (i := 3) sc__places.nd rfl (Or.inl rfl) (pe_op op_addU (pe_callTy (call_listR rfl) (by rfl) T.f_list (by decide +kernel) (pa_cons (pe_callTy call_rng2 (by rfl) T.f_range (by decide +kernel) (pa_cons (pe_op op_sub (pv 1) (pe_callB call_lenU (by rfl) T.f_len (by decide +kernel) (pa_cons (pe_fld (pv 0) rfl) pa_nil))) (pa_cons (pv 1) pa_nil))) pa_nil)) (pe_callTy (call_listR rfl) (by rfl) T.f_list (by decide +kernel) (pa_cons (pe_callTy call_rng2 (by rfl) T.f_range (by decide +kernel) (pa_cons (pv 2) (pa_cons (pe_op op_addU (pv 2) (pe_callB call_lenU (by rfl) T.f_len (by decide +kernel) (pa_cons (pe_fld (pv 0) rfl) pa_nil))) pa_nil))) pa_nil))))
    (pss_one (ps_ret (pe_tup (pa_cons (pv 3) (pa_cons (pe_callTy (call_listR rfl) (by rfl) T.f_list (by decide +kernel) (pa_cons (pe_callTy call_rng2 (by rfl) T.f_range (by decide +kernel) (pa_cons (pv 1) (pa_cons (pv 2) pa_nil))) pa_nil)) pa_nil))))))), ?_⟩
  obtain ⟨O, v0, v1, x, i, rfl, hO, h0, h1, hi, q⟩ := h
  obtain ⟨_, _, _, fx⟩ := id h0
  have f1 := fx.l.2
  have f2 := fx.o.2
  have f3 := fx.r.2
  have hi2 : -1000 ≤ i ∧ i ≤ 1000 := hi
  have s0 := s_start (N := N__places) (vs := [v0, v1]) (Γ := [some (.pure (rRule a) x), some (.pure rInt i), none, none]) hO ⟨h0, h1, trivial, trivial, trivial⟩ rfl
  refine s_set s0 (by walk_at "g") fun σ1 H1 s1 => ?_
  refine s_set s1 (by walk_at "g") fun σ2 H2 s2 => ?_
  apply s_ret s2 (q := q)
  · walk_at "g"
  · unfold pls besideL takenL
    rw [show (i - (i - ((x.l.length : Nat) : Int))).toNat = x.l.length by omega, show (i + ((x.o.length : Nat) : Int) + ((x.r.length : Nat) : Int) - (i + ((x.o.length : Nat) : Int))).toNat = x.r.length by omega, show (i + ((x.o.length : Nat) : Int) - i).toNat = x.o.length by omega]

theorem ok__places_in {P : Program} {w : World} {K : PySem.W.Frag} {mg : Str → Option Value} {base : Heap} {a : Ad} {f : Addr} {fd : FuncData} (F : FnP K "_places_in" "_places_in" s__places_in f fd) (T : Txt K mg a) (O_Text___len__ : OpG P w K mg base 1 a.cText "__len__" (sp_Text___len__ a)) (G__places : FnG P w K mg base 1 "_places" (sp__places a)) :
    FnOk P w K mg base (L2.CX P w) 3 f fd ["text", "rule", "at"] (sp__places_in a) := by
  refine F.ok sc__places_in (fun vs H Q E h => by obtain ⟨O, v0, v1, v2, t, x, i, rfl, hO, h0, h1, h2, hni, q⟩ := h; rfl) (fun cdv A outer s H vs Q E hr h => ?_)
  refine ⟨_, (pss_cons (ps_asg (pe_callG G__places (hr.mono (by decide)) passN rfl (pa_cons (pv 1) (pa_cons (pv 2) pa_nil))) (pg_tup rfl (pgs_cons (pg_name (i := 3) sc__places_in.nd rfl (Or.inl rfl)) (pgs_cons (pg_name (i := 4) sc__places_in.nd rfl (Or.inl rfl)) pgs_nil))))
    (pss_cons (ps_set (i := 5) sc__places_in.nd rfl (Or.inr rfl) (pe_callB (call_lenG O_Text___len__ (hr.mono (by decide))) (by rfl) T.f_len (by decide +kernel) (pa_cons (pv 0) pa_nil)))
    (pss_one (ps_ret (pe_tup (pa_cons (pe_lc (own := [("place", 6)]) (g := gName 6) (tt := tYes) rfl sc__places_in.nd (pi_list (pv 3)) (blkOk_by (N := ["text", "rule", "at", "beside", "taken", "many", "place"]) (sc := defScope s__places_in) (by decide +kernel)) (fun _ _ _ _ _ => pg_name (i := 6) sc__places_in.nd rfl (Or.inl rfl)) (fun _ _ _ _ _ => pts_nil) (fun _ _ _ _ _ => (pe_op op_modN (pv 6) (pv 5)))) (pa_cons (pe_lc (own := [("place", 6)]) (g := gName 6) (tt := tYes) rfl sc__places_in.nd (pi_list (pv 4)) (blkOk_by (N := ["text", "rule", "at", "beside", "taken", "many", "place"]) (sc := defScope s__places_in) (by decide +kernel)) (fun _ _ _ _ _ => pg_name (i := 6) sc__places_in.nd rfl (Or.inl rfl)) (fun _ _ _ _ _ => pts_nil) (fun _ _ _ _ _ => (pe_op op_modN (pv 6) (pv 5)))) pa_nil))))))), ?_⟩
  obtain ⟨O, v0, v1, v2, t, x, i, rfl, hO, h0, h1, h2, hni, q⟩ := h
  obtain ⟨hn, hi⟩ := hni
  obtain ⟨_, _, _, fx⟩ := id h1
  have f1 := fx.l.2
  have f2 := fx.o.2
  have f3 := fx.r.2
  have hb := besideL_len x i
  have ht := takenL_len x i
  have s0 := s_start (N := N__places_in) (vs := [v0, v1, v2]) (Γ := [some (.pure (rText a) t), some (.pure (rRule a) x), some (.pure rInt i), none, none, none, none]) hO ⟨h0, h1, h2, trivial, trivial, trivial, trivial, trivial⟩ rfl
  refine s_un2 (x := besideL x i) (y := takenL x i) s0 (p_call2 (f := pls) (p_var rfl) (p_var rfl) hi) fun σ1 H1 s1 => ?_
  refine s_set s1 (by walk_at "g") fun σ2 H2 s2 => ?_
  apply s_ret s2 (q := q)
  · walk_at "g"
  · rfl

theorem ok__meet {P : Program} {w : World} {K : PySem.W.Frag} {mg : Str → Option Value} {base : Heap} {a : Ad} {f : Addr} {fd : FuncData} (F : FnP K "_meet" "_meet" s__meet f fd) (T : Txt K mg a)  :
    FnOk P w K mg base (L2.CX P w) 1 f fd ["one", "other"] (sp__meet a) := by
  refine F.ok sc__meet (fun vs H Q E h => by obtain ⟨O, v0, v1, p, r, rfl, hO, h0, h1, hpr, q⟩ := h; rfl) (fun cdv A outer s H vs Q E hr h => ?_)
  refine ⟨_, (pss_one (ps_ret (pe_callB (cr_any rfl) (by rfl) T.f_any (by decide +kernel) (pa_cons (pe_lc (own := [("place", 2)]) (g := gName 2) (tt := tYes) rfl sc__meet.nd (pi_list (pv 0)) (blkOk_by (N := ["one", "other", "place"]) (sc := defScope s__meet) (by decide +kernel)) (fun _ _ _ _ _ => pg_name (i := 2) sc__meet.nd rfl (Or.inl rfl)) (fun _ _ _ _ _ => pts_nil) (fun _ _ _ _ _ => (pe_cmpR (op_inDk K rfl hr) (pv 2) (pv 1) (by rfl)))) pa_nil)))), ?_⟩
  obtain ⟨O, v0, v1, p, r, rfl, hO, h0, h1, hpr, q⟩ := h
  obtain ⟨hp, hq⟩ := hpr
  have s0 := s_start (N := N__meet) (vs := [v0, v1]) (Γ := [some (.pure (rList rInt) p), some (.pure (rList rInt) r), none]) hO ⟨h0, h1, trivial, trivial⟩ rfl
  apply s_ret s0 (q := q)
  · refine q_cb1 (n_lcL (p_var rfl) (by omega) fun x _ => q_op (p_var rfl) (p_var rfl) (o_inL trivial fun _ _ => trivial)) o_any
  · rfl

theorem ok__kind {P : Program} {w : World} {K : PySem.W.Frag} {mg : Str → Option Value} {base : Heap} {a : Ad} {f : Addr} {fd : FuncData} (F : FnP K "_kind" "_kind" s__kind f fd) (T : Txt K mg a) (G__meet : FnG P w K mg base 1 "_meet" (sp__meet a)) :
    FnOk P w K mg base (L2.CX P w) 2 f fd ["first", "second"] (sp__kind a) := by
  refine F.ok sc__kind (fun vs H Q E h => by obtain ⟨O, v0, v1, p, r, rfl, hO, h0, h1, hpr, q⟩ := h; rfl) (fun cdv A outer s H vs Q E hr h => ?_)
  refine ⟨_, (pss_cons (ps_if (pt_val (pe_callG G__meet (hr.mono (by decide)) passN rfl (pa_cons (pe_ix ix_seq (pv 0) pe_int (fun _ _ => rfl)) (pa_cons (pe_ix ix_seq (pv 1) pe_int (fun _ _ => rfl)) pa_nil)))) (pss_one (ps_ret pe_str)) pss_nil)
    (pss_cons (ps_set (i := 2) sc__kind.nd rfl (Or.inl rfl) (pe_callG G__meet (hr.mono (by decide)) passN rfl (pa_cons (pe_ix ix_seq (pv 0) pe_int (fun _ _ => rfl)) (pa_cons (pe_ix ix_seq (pv 1) pe_int (fun _ _ => rfl)) pa_nil))))
    (pss_cons (ps_set (i := 3) sc__kind.nd rfl (Or.inl rfl) (pe_callG G__meet (hr.mono (by decide)) passN rfl (pa_cons (pe_ix ix_seq (pv 1) pe_int (fun _ _ => rfl)) (pa_cons (pe_ix ix_seq (pv 0) pe_int (fun _ _ => rfl)) pa_nil))))
    (pss_cons (ps_if (PW.pt (pw_and (pt_val (pv 2)) (pw_and1 (pt_val (pv 3))))) (pss_one (ps_ret pe_str)) pss_nil)
    (pss_cons (ps_if (pt_val (pv 2)) (pss_one (ps_ret pe_str)) pss_nil)
    (pss_cons (ps_if (pt_val (pv 3)) (pss_one (ps_ret pe_str)) pss_nil)
    (pss_one (ps_ret pe_non)))))))), ?_⟩
  obtain ⟨O, v0, v1, p, r, rfl, hO, h0, h1, hpr, q⟩ := h
  obtain ⟨⟨hp1, hp2⟩, ⟨hr1, hr2⟩⟩ := hpr
  have s0 := s_start (N := N__kind) (vs := [v0, v1]) (Γ := [some (.pure rPl p), some (.pure rPl r), none, none]) hO ⟨h0, h1, trivial, trivial, trivial⟩ rfl
  apply s_ifN s0 (b := meetL p.2 r.2)
  · walk_at "g"
  · intro hb H1 s1
    exact s_ret s1 (p_some p_str) (by unfold kindOf; rw [if_pos hb]) q
  intro hb H1 s1
  refine s_set (x := meetL p.1 r.2) s1 (by walk_at "g") fun σ2 H2 s2 => ?_
  refine s_set (x := meetL r.1 p.2) s2 (by walk_at "g") fun σ3 H3 s3 => ?_
  apply s_ifN s3 (b := meetL p.1 r.2 && meetL r.1 p.2)
  · walk_at "g"
  · intro hb2 H4 s4
    exact s_ret s4 (p_some p_str) (by unfold kindOf; rw [hb, if_neg Bool.false_ne_true, if_pos hb2]) q
  intro hb2 H4 s4
  apply s_ifN s4 (b := meetL p.1 r.2)
  · walk_at "g"
  · intro hb3 H5 s5
    exact s_ret s5 (p_some p_str) (by unfold kindOf; rw [hb, if_neg Bool.false_ne_true, hb2, if_neg Bool.false_ne_true, if_pos hb3]) q
  intro hb3 H5 s5
  apply s_ifN s5 (b := meetL r.1 p.2)
  · walk_at "g"
  · intro hb4 H6 s6
    exact s_ret s6 (p_some p_str) (by unfold kindOf; rw [hb, if_neg Bool.false_ne_true, hb2, if_neg Bool.false_ne_true, hb3, if_neg Bool.false_ne_true, if_pos hb4]) q
  intro hb4 H6 s6
  exact s_ret s6 p_non (by unfold kindOf; rw [hb, if_neg Bool.false_ne_true, hb2, if_neg Bool.false_ne_true, hb3, if_neg Bool.false_ne_true, hb4, if_neg Bool.false_ne_true]) q

theorem ok__needed {P : Program} {w : World} {K : PySem.W.Frag} {mg : Str → Option Value} {base : Heap} {a : Ad} {f : Addr} {fd : FuncData} (F : FnP K "_needed" "_needed" s__needed f fd) (T : Txt K mg a) (P_Rule_pattern : PrG P w K mg base 1 a.cRule "pattern" (sp_Rule_pattern a)) :
    FnOk P w K mg base (L2.CX P w) 3 f fd ["rule", "at", "place"] (sp__needed a) := by
  refine F.ok sc__needed (fun vs H Q E h => by obtain ⟨O, v0, v1, v2, x, i, p, rfl, hO, h0, h1, h2, hip, q⟩ := h; rfl) (fun cdv A outer s H vs Q E hr h => ?_)
  refine ⟨_, (pss_cons (ps_set (i := 3) sc__needed.nd rfl (Or.inl rfl) (pe_op op_addU (pe_op op_sub (pv 2) (pv 1)) (pe_callB call_lenU (by rfl) T.f_len (by decide +kernel) (pa_cons (pe_fld (pv 0) rfl) pa_nil))))
    (pss_cons (ps_if (pt_chain op_leU op_ltU pe_int (pv 3) (pe_callB call_lenU (by rfl) T.f_len (by decide +kernel) (pa_cons (pe_propG P_Rule_pattern (hr.mono (by decide)) (pv 0)) pa_nil))) (pss_one (ps_ret (pe_ix ix_seq (pe_propG P_Rule_pattern (hr.mono (by decide)) (pv 0)) (pv 3) (fun _ _ => rfl)))) pss_nil)
    (pss_one (ps_ret pe_non)))), ?_⟩
  obtain ⟨O, v0, v1, v2, x, i, p, rfl, hO, h0, h1, h2, hip, q⟩ := h
  obtain ⟨hi, hp⟩ := hip
  obtain ⟨_, _, _, fx⟩ := id h0
  have f1 := fx.l.2
  have f2 := fx.o.2
  have f3 := fx.r.2
  have hpl := pat_len fx
  have s0 := s_start (N := N__needed) (vs := [v0, v1, v2]) (Γ := [some (.pure (rRule a) x), some (.pure rInt i), some (.pure rInt p), none]) hO ⟨h0, h1, h2, trivial, trivial⟩ rfl
  refine s_set s0 (by walk_at "g") fun σ1 H1 s1 => ?_
  apply s_ifN s1
  · walk_at "g"
  · intro hb H2 s2
    have hb2 := hb
    simp only [Bool.and_eq_true, decide_eq_true_eq] at hb2
    exact s_ret s2 (p_some (by walk_at "g")) (by unfold needed; rw [if_pos hb]) q
  intro hb H2 s2
  exact s_ret s2 p_non (by unfold needed; rw [hb, if_neg Bool.false_ne_true]) q
def ovI (a : Ad) (x y : R4) (s : Int) (kd : Str) (k : Nat) (Γ : Gm) : Prop := ∃ z s7 s8 s9, layTo x y s k = some z ∧ Γ = [some (.pure (rRule a) x), some (.pure (rRule a) y), some (.pure rInt s), some (.pure (rOpt rStr) (some kd)), some (.pure rInt (loOf x y s)), some (.pure rInt (hiOf x y s)), some (.pure rStr z), s7, s8, s9]
theorem ok__overlap {P : Program} {w : World} {K : PySem.W.Frag} {mg : Str → Option Value} {base : Heap} {a : Ad} {f : Addr} {fd : FuncData} (F : FnP K "_overlap" "_overlap" s__overlap f fd) (T : Txt K mg a) (G__needed : FnG P w K mg base 3 "_needed" (sp__needed a)) (G__kind : FnG P w K mg base 2 "_kind" (sp__kind a)) (G__places : FnG P w K mg base 1 "_places" (sp__places a)) :
    FnOk P w K mg base (L2.CX P w) 4 f fd ["one", "other", "shift"] (sp__overlap a) := by
  refine F.ok sc__overlap (fun vs H Q E h => by obtain ⟨O, v0, v1, v2, x, y, i, rfl, hO, h0, h1, h2, hi, q⟩ := h; rfl) (fun cdv A outer s H vs Q E hr h => ?_)
  refine ⟨_, (pss_cons (ps_set (i := 3) sc__overlap.nd rfl (Or.inl rfl) (pe_callG G__kind (hr.mono (by decide)) passN rfl (pa_cons (pe_callG G__places (hr.mono (by decide)) passN rfl (pa_cons (pv 0) (pa_cons pe_int pa_nil))) (pa_cons (pe_callG G__places (hr.mono (by decide)) passN rfl (pa_cons (pv 1) (pa_cons (pv 2) pa_nil))) pa_nil))))
    (pss_cons (ps_if (pt_cmpR op_isNone (pv 3) pe_non (nomark _)) (pss_one (ps_ret pe_non)) pss_nil)
    (pss_cons (ps_set (i := 4) sc__overlap.nd rfl (Or.inl rfl) (pe_callB (call_minU2 rfl) (by rfl) T.f_min (by decide +kernel) (pa_cons (pe_un un_neg (pe_callB call_lenU (by rfl) T.f_len (by decide +kernel) (pa_cons (pe_fld (pv 0) rfl) pa_nil))) (pa_cons (pe_op op_sub (pv 2) (pe_callB call_lenU (by rfl) T.f_len (by decide +kernel) (pa_cons (pe_fld (pv 1) rfl) pa_nil))) pa_nil))))
    (pss_cons (ps_set (i := 5) sc__overlap.nd rfl (Or.inl rfl) (pe_callB (call_maxU rfl) (by rfl) T.f_max (by decide +kernel) (pa_cons (pe_op op_addU (pe_callB call_lenU (by rfl) T.f_len (by decide +kernel) (pa_cons (pe_fld (pv 0) rfl) pa_nil)) (pe_callB call_lenU (by rfl) T.f_len (by decide +kernel) (pa_cons (pe_fld (pv 0) rfl) pa_nil))) (pa_cons (pe_op op_addU (pe_op op_addU (pv 2) (pe_callB call_lenU (by rfl) T.f_len (by decide +kernel) (pa_cons (pe_fld (pv 1) rfl) pa_nil))) (pe_callB call_lenU (by rfl) T.f_len (by decide +kernel) (pa_cons (pe_fld (pv 1) rfl) pa_nil))) pa_nil))))
    (pss_cons (ps_set (i := 6) sc__overlap.nd rfl (Or.inl rfl) pe_str)
    (pss_cons (ps_for (by first | exact po | exact PassesOwn.never | exact passes_of rfl) rfl (pi_range2 (by rfl) T.f_range (pa_cons (pv 4) (pa_cons (pv 5) pa_nil))) (pg_name (i := 7) sc__overlap.nd rfl (Or.inl rfl)) (pss_cons (ps_set (i := 8) sc__overlap.nd rfl (Or.inl rfl) (pe_callG G__needed (hr.mono (by decide)) passN rfl (pa_cons (pv 0) (pa_cons pe_int (pa_cons (pv 7) pa_nil)))))
    (pss_cons (ps_set (i := 9) sc__overlap.nd rfl (Or.inl rfl) (pe_callG G__needed (hr.mono (by decide)) passN rfl (pa_cons (pv 1) (pa_cons (pv 2) (pa_cons (pv 7) pa_nil)))))
    (pss_one (ps_if (pt_cmpR op_isNone (pv 8) pe_non (nomark _)) (pss_one (ps_set (i := 6) sc__overlap.nd rfl (Or.inl rfl) (pe_op op_addU (pv 6) (pv 9)))) (pss_one (ps_if (PW.pt (pw_or (pt_cmpR op_isNone (pv 9) pe_non (nomark _)) (pw_or1 (pt_cmpR (op_eqU hr) (pv 9) (pv 8) (nomark _))))) (pss_one (ps_set (i := 6) sc__overlap.nd rfl (Or.inl rfl) (pe_op op_addU (pv 6) (pv 8)))) (pss_one (ps_ret pe_non)))))))))
    (pss_one (ps_ret (pe_tup (pa_cons (pv 3) (pa_cons (pv 6) (pa_cons (pe_un un_neg (pv 4)) pa_nil)))))))))))), ?_⟩
  obtain ⟨O, v0, v1, v2, x, y, i, rfl, hO, h0, h1, h2, hi, q⟩ := h
  obtain ⟨_, _, _, fx⟩ := id h0
  obtain ⟨_, _, _, fy⟩ := id h1
  have f1 := fx.l.2
  have f2 := fx.o.2
  have f3 := fx.r.2
  have g1 := fy.l.2
  have g2 := fy.o.2
  have g3 := fy.r.2
  have hi2 : -100 ≤ i ∧ i ≤ 100 := hi
  have hi3 : SmP i := ⟨by omega, by omega⟩
  have hz0 : SmP 0 := by decide
  have b1 := besideL_len x 0
  have b2 := besideL_len y i
  have t1 := takenL_len x 0
  have t2 := takenL_len y i
  have hlo : -200 ≤ loOf x y i ∧ loOf x y i ≤ 200 := by unfold loOf; split <;> omega
  have hhi : -200 ≤ hiOf x y i ∧ hiOf x y i ≤ 200 := by unfold hiOf; split <;> omega
  have hsm : SmL (pls x 0) ∧ SmL (pls y i) := ⟨⟨by show (besideL x 0).length ≤ 100; omega, by show (takenL x 0).length ≤ 100; omega⟩, by show (besideL y i).length ≤ 100; omega, by show (takenL y i).length ≤ 100; omega⟩
  have s0 := s_start (N := N__overlap) (vs := [v0, v1, v2]) (Γ := [some (.pure (rRule a) x), some (.pure (rRule a) y), some (.pure rInt i), none, none, none, none, none, none, none]) hO ⟨h0, h1, h2, trivial, trivial, trivial, trivial, trivial, trivial, trivial, trivial⟩ rfl
  refine s_set (x := kindOf (pls x 0) (pls y i)) s0 (p_call2 (p_call2 (f := pls) (p_var rfl) p_int hz0) (p_call2 (f := pls) (p_var rfl) (p_var rfl) hi3) hsm) fun σ1 H1 s1 => ?_
  apply s_ifN s1
  · exact t_T (q_op (p_var rfl) p_unit o_isN)
  · intro hb H2 s2
    refine s_ret s2 p_non ?_ q
    unfold overlapOf
    cases hk : kindOf (pls x 0) (pls y i) with
    | none => rfl
    | some k => rw [hk] at hb; cases hb
  intro hb H2 s2
  cases hk : kindOf (pls x 0) (pls y i) with
  | none => rw [hk] at hb; cases hb
  | some kd =>
  rw [hk] at s2
  refine s_set (x := loOf x y i) s2 (by unfold loOf; exact q_cb2 (by walk_at "g") (by walk_at "g") o_min) fun σ3 H3 s3 => ?_
  refine s_set (x := hiOf x y i) s3 (by unfold hiOf; exact q_cb2 (by walk_at "g") (by walk_at "g") o_max) fun σ4 H4 s4 => ?_
  refine s_set (r := rStr) (x := ("" : Str)) s4 p_str fun σ5 H5 s5 => ?_
  refine g_for2 (lo := loOf x y i) (n := hiOf x y i) (ovI a x y i kd) (p_var rfl) (p_var rfl) (by omega) s5 ⟨_, _, _, _, rfl, rfl⟩ ?_ ?_
  · rintro k Γk O' σ6 H6 hk6 ⟨z, s7, s8, s9, hz, rfl⟩ s6
    have hlen := layTo_len hz
    have hne : kindOf (pls x 0) (pls y i) ≠ none := by rw [hk]; exact fun z => nomatch z
    have hng := no_gap (p := loOf x y i + k) hne (by omega) hk6
    have hsp : SmP (loOf x y i + k) := ⟨by omega, by omega⟩
    have hnx : layTo x y i (k + 1) = layOne z (needed x 0 (loOf x y i + k)) (needed y i (loOf x y i + k)) := by
      show (layTo x y i k).bind _ = _
      rw [hz]; rfl
    refine s_set (x := needed x 0 (loOf x y i + k)) s6 (p_call3 (p_var rfl) p_int (p_var rfl) ⟨hz0, hsp⟩) fun σ7 H7 s7 => ?_
    refine s_set (x := needed y i (loOf x y i + k)) s7 (p_call3 (p_var rfl) (p_var rfl) (p_var rfl) ⟨hi3, hsp⟩) fun σ8 H8 s8 => ?_
    have hl1 : ∀ m, needed x 0 (loOf x y i + k) = some m → m.length = 1 := fun m h => needed_len h
    have hl2 : ∀ m, needed y i (loOf x y i + k) = some m → m.length = 1 := fun m h => needed_len h
    generalize needed x 0 (loOf x y i + k) = m1 at *
    generalize needed y i (loOf x y i + k) = m2 at *
    refine g_if (t_T (q_op (p_var rfl) p_unit o_isN)) s8 (fun hb1 H9 s9 => ?_) (fun hb1 H9 s9 => ?_)
    · cases m1 with
      | some m => cases hb1
      | none =>
        cases m2 with
        | none => exact (hng rfl rfl).elim
        | some t =>
          have := hl2 t rfl
          refine g_set (r := rStr) (x := z ++ t) (q_op (p_var rfl) (p_get (p_var rfl)) (o_addS (by omega))) s9 fun σ' H' s' => ?_
          exact nx_mk ⟨_, _, _, _, hnx, rfl⟩ s'
    · cases m1 with
      | none => cases hb1
      | some m =>
        have := hl1 m rfl
        refine g_if (b := m2.isNone || decide (m2 = some m)) (t_or (t_T (q_op (p_var rfl) p_unit o_isN)) fun hb2 => t_T ?_) s9 (fun hb3 H10 s10 => ?_) (fun hb3 H10 s10 => ?_)
        · cases m2 with
          | none => cases hb2
          | some t =>
            have e : decide (some t = some m) = decide (t = m) := decide_eq_decide.mpr ⟨Option.some.inj, congrArg some⟩
            rw [e]
            exact q_op (p_get (p_var rfl)) (p_get (p_var rfl)) o_eqS
        · refine g_set (r := rStr) (x := z ++ m) (q_op (p_var rfl) (p_get (p_var rfl)) (o_addS (by omega))) s10 fun σ' H' s' => ?_
          refine nx_mk ⟨_, _, _, _, ?_, rfl⟩ s'
          rw [hnx]
          cases m2 with
          | none => rfl
          | some t =>
            have : t = m := by simpa using hb3
            show (if t = m then some (z ++ m) else none) = _
            rw [if_pos this]
        · refine s_ret s10 p_non ?_ q
          have hn : layTo x y i (k + 1) = none := by
            rw [hnx]
            cases m2 with
            | none => cases hb3
            | some t =>
              have : ¬ t = m := by simpa using hb3
              show (if t = m then some (z ++ m) else none) = _
              rw [if_neg this]
          unfold overlapOf
          rw [layTo_stop hn (by omega)]
          cases kindOf (pls x 0) (pls y i) <;> rfl
  · rintro Γn O' σ6 H6 ⟨z, s7, s8, s9, hz, rfl⟩ s6
    refine s_ret s6 (p_some (p_t3 (p_get (p_var rfl)) (p_var rfl) (p_neg (p_var rfl)))) ?_ q
    unfold overlapOf
    rw [hk, hz]; rfl
end K7
set_option maxHeartbeats 4000000
/-! K7P: k07: overlaps of a book, disturbances: the program's -/
namespace K7
open PySem PySem.Spec PyProof.Rows L2 MC
local macro_rules | `(tactic| walk_at "hp") => `(tactic| first | assumption | (apply Le.keep; assumption; walk_at "hp") | (apply TextAt.le; assumption; walk_at "hp") | (apply Lw.keep; assumption; walk_at "hp"; first | rfl | exact sh_str _ | exact sh_ints _ | exact sh_sgns _) | (apply TextAt.lw; assumption; walk_at "hp"))
local macro_rules | `(tactic| walk_at "le") => `(tactic| first | exact Le.refl _ | assumption | (apply Le.trans'; assumption; walk_at "le"))
local macro_rules | `(tactic| walk_at "lw") => `(tactic| first | exact Lw.refl _ | assumption | exact Le.w (by assumption) | (apply Lw.trans'; (first | assumption | exact Le.w (by assumption)); walk_at "lw"))
local macro_rules | `(tactic| walk_at "sz") => `(tactic| first | omega | (simp only [slen_app]; omega) | (simp only [List.length_append, List.length_cons, List.length_nil, List.length_map, List.length_range]; omega) | omega | (simp; omega) | decide)
local macro_rules | `(tactic| walk_at "x") => `(tactic| first
  | with_reducible refine x_seq ?_ | with_reducible refine x_asg ?_ | with_reducible refine x_ret ?_ | with_reducible refine x_drop ?_
  | ((with_reducible apply x_var); exact rfl) | with_reducible refine x_c ?_ | with_reducible refine x_op ?_ | with_reducible refine x_opS ?_ | with_reducible refine x_un ?_ | with_reducible refine x_neg ?_
  | with_reducible refine x_test ?_ | with_reducible refine x_tB ?_ | with_reducible refine x_kB ?_
  | with_reducible refine x_nil ?_ | with_reducible refine x_cons ?_ | with_reducible refine x_tup ?_ | with_reducible refine x_lst ?_
  | ((with_reducible refine x_kTup ?_ ?_); (walk_at "sz"); (intro _ _ _ _ _)) | ((with_reducible refine x_kLst ?_ ?_); (walk_at "sz"); (intro _ _ _ _ _))
  | with_reducible refine x_fld ?_ | ((with_reducible apply x_fS); assumption; (walk_at "hp")) | ((with_reducible apply x_fC); assumption; (walk_at "hp"))
  | with_reducible refine x_cb ?_ | with_reducible refine x_call ?_ | with_reducible refine x_callE ?_ | with_reducible refine x_bm ?_ | with_reducible refine x_cv ?_
  | with_reducible refine x_meth ?_ | with_reducible refine x_cm ?_ | with_reducible refine x_kCM ?_ | with_reducible refine x_mk ?_ | with_reducible refine x_kMk ?_
  | with_reducible refine x_np ?_ | with_reducible refine x_part ?_ | with_reducible refine x_kPart ?_ | with_reducible refine x_sl ?_ | with_reducible refine x_rev ?_
  | with_reducible refine x_addI ?_ | ((with_reducible refine x_addS ?_ ?_); (walk_at "sz")) | with_reducible refine x_I0 ?_
  | with_reducible refine x_eqS ?_ | with_reducible refine x_eqI ?_ | with_reducible refine x_eqB ?_ | with_reducible refine x_neS ?_ | with_reducible refine x_neI ?_ | with_reducible refine x_neB ?_
  | with_reducible refine x_eqFS ?_ | with_reducible refine x_eqFI ?_
  | with_reducible refine x_ltI ?_ | with_reducible refine x_ltS ?_ | with_reducible refine x_leI ?_ | with_reducible refine x_leS ?_ | with_reducible refine x_inT ?_ | with_reducible refine x_notInT ?_
  | ((with_reducible refine x_slS ?_ ?_); (walk_at "sz")) | ((with_reducible refine x_kRev ?_ ?_); (walk_at "sz"))
  | ((with_reducible refine x_lenS ?_ ?_); (walk_at "sz")) | ((with_reducible apply x_lenT); (walk_at "hp"))
  | ((with_reducible apply x_ixT); (walk_at "hp"); exact rfl)
  | with_reducible refine x_abs ?_ | with_reducible refine x_int ?_ | with_reducible refine x_strS ?_
  | ((with_reducible apply x_isB); (first | exact kit_ty (r := true) (by decide +kernel) | exact kit_ty (r := false) (by decide +kernel))) | ((with_reducible apply x_isI); (first | exact kit_ty (r := true) (by decide +kernel) | exact kit_ty (r := false) (by decide +kernel))) | ((with_reducible apply x_isS); (first | exact kit_ty (r := true) (by decide +kernel) | exact kit_ty (r := false) (by decide +kernel)))
  | ((with_reducible apply x_isT); (walk_at "hp"); (first | exact kit_ty (r := true) (by decide +kernel) | exact kit_ty (r := false) (by decide +kernel)))
  | ((with_reducible apply x_isText); assumption; (walk_at "hp")) | ((with_reducible apply x_isTextS); assumption) | ((with_reducible apply x_isTextI); assumption) | ((with_reducible apply x_isTextN); assumption) | ((with_reducible apply x_kCVT); assumption)
  | ((with_reducible apply x_addL); (walk_at "hp"); (walk_at "hp"); (walk_at "sz"); (intro _ _ _ _ _)) | ((with_reducible apply x_tyL); (walk_at "hp")) | with_reducible refine x_tyS ?_
  | with_reducible refine x_joined ?_ | with_reducible refine x_js ?_ | with_reducible refine x_js0 ?_ | ((with_reducible refine x_kJs ?_ ?_); (walk_at "sz")) | with_reducible refine x_fmt ?_ | ((with_reducible refine x_fmtS ?_ ?_); (walk_at "sz")) | ((with_reducible refine x_fmtI ?_ ?_); omega)
  | with_reducible refine x_rse ?_ | with_reducible refine x_ex ?_ | with_reducible refine x_ex0 ?_ | with_reducible refine x_xf ?_
  | with_reducible refine x_for ?_ | with_reducible refine x_r1 ?_ | with_reducible refine x_r2 ?_ | with_reducible refine x_il ?_ | with_reducible refine x_en ?_ | with_reducible refine x_lc ?_ | with_reducible refine x_next ?_ | dsimp only)
local macro_rules | `(tactic| walk_at "xs") => `(tactic| repeat walk_at "x")
local macro_rules | `(tactic| walk_at "ev0") => `(tactic| (refine ev_run ?_; intro _ _ _ q; walk_at "xs"; refine q _ ?_; walk_at "le"))
local macro_rules | `(tactic| walk_at "ch") => `(tactic| (intro _ _ _ q; walk_at "xs"; refine q _ ?_; walk_at "le"))
local macro_rules | `(tactic| walk_at "ev") => `(tactic| first
  | (focus ((with_reducible refine ev_andV ?_ (fun _ => ?_)); (all_goals walk_at "ev"))) | (focus ((with_reducible refine ev_orV ?_ (fun _ => ?_)); (all_goals walk_at "ev")))
  | ((with_reducible refine ev_notV ?_); walk_at "ev")
  | (focus ((with_reducible apply ev_chain); (focus walk_at "ch"); (focus walk_at "ch"); (focus walk_at "ch"); (focus (intro _ _ _ q; walk_at "x"; exact q)); (focus (intro _ _ _ q; walk_at "x"; exact q))))
  | walk_at "ev0" | skip)
local macro_rules | `(tactic| walk_at "et") => `(tactic| first
  | (focus ((with_reducible refine et_and ?_ (fun _ => ?_)); (all_goals walk_at "et"))) | (focus ((with_reducible refine et_or ?_ (fun _ => ?_)); (all_goals walk_at "et")))
  | ((with_reducible refine et_not ?_); walk_at "et") | ((with_reducible refine et_B ?_); walk_at "ev") | ((with_reducible refine et_T ?_); walk_at "ev"))
local macro_rules | `(tactic| walk_at "hp") => `(tactic| first | assumption | (apply RuleAt.le; assumption; walk_at "hp") | (apply RulesAt.le; assumption; walk_at "hp") | (apply BookAt.le; assumption; walk_at "hp") | (apply RuleAt.lw; assumption; walk_at "hp") | (apply BookAt.lw; assumption; walk_at "hp") | (apply R4s.le; assumption; walk_at "hp") | (apply R4s.lw; assumption; walk_at "hp"))
local macro_rules | `(tactic| walk_at "x") => `(tactic| first
  | ((with_reducible apply x_fO); assumption; (walk_at "hp")) | ((with_reducible apply x_fN); assumption; (walk_at "hp")) | ((with_reducible apply x_fL); assumption; (walk_at "hp")) | ((with_reducible apply x_fR); assumption; (walk_at "hp")) | ((with_reducible apply x_fB); assumption; (walk_at "hp"))
  | ((with_reducible apply x_isRule); assumption; (walk_at "hp")) | ((with_reducible apply x_kCVB); assumption)
  | with_reducible refine x_callO ?_ | with_reducible refine x_kCO ?_ | with_reducible refine x_prop ?_ | with_reducible refine x_max ?_ | with_reducible refine x_intB ?_ | with_reducible refine x_findS ?_ | with_reducible refine x_countS ?_ | with_reducible refine x_isN ?_)
local macro_rules | `(tactic| walk_at "sz") => `(tactic| (simp only [slen_app, elen, len1a, len1b, len1c]; omega))
local macro_rules | `(tactic| walk_at "x") => `(tactic| first
  | with_reducible refine x_sfld ?_ | with_reducible refine x_enL ?_ | with_reducible refine x_enN ?_ | with_reducible refine x_it ?_ | with_reducible refine x_asgT ?_ | ((with_reducible apply x_g2); (walk_at "hp")) | ((with_reducible apply x_g3); (walk_at "hp")) | ((with_reducible apply x_g4); (walk_at "hp"))
  | ((with_reducible apply x_lenL2); (walk_at "hp")) | with_reducible refine x_gseq ?_ | with_reducible refine x_g0 ?_ | with_reducible refine x_gfor ?_ | with_reducible refine x_gps ?_)
local macro_rules | `(tactic| walk_at "x") => `(tactic| first | ((with_reducible refine x_splitS ?_ ?_ ?_); (decide +kernel); (walk_at "sz"); (intro _ _ _ _ _)) | with_reducible refine x_methK ?_ | with_reducible refine x_mkSt ?_ | with_reducible refine x_kMkSt ?_ | ((with_reducible apply x_kStL); (walk_at "hp")))
theorem h0n {α : Type} {r : Rp α} {H : Hp} {v : V} {x : α} (h : r.at_ H v x) : r.at_ (hid H []) v x := by rw [hid_nil]; exact h
theorem h0m {α : Type} {r : Rp α} {H : Hp} {v : V} {x : α} (h : r.at_ (hid H []) v x) : r.at_ H v x := by rw [hid_nil] at h; exact h
theorem hd0 {H : Hp} : Hd [] H := fun p hp => by cases hp
theorem x_g2n {K : PySem.W.Frag} {σ : L2.St} {H : Hp} {T U : Addr} {x y z : V} {i j k : Nat} {QH : L2.St → Hp → Prop} (h : H T = some (.tup [x, .ref U])) (h2 : H U = some (.tup [y, z])) (q : QH (((σ.set i (some x)).set j (some y)).set k (some z)) H) :
    gTup K 2 (gCons (gName i) (gCons (gTup K 2 (gCons (gName j) (gCons (gName k) gNil))) gNil)) (.ref T) σ H QH :=
  ⟨T, [x, .ref U], rfl, sqt h, rfl, x, [.ref U], rfl, .ref U, [], rfl, U, [y, z], rfl, sqt h2, rfl, y, [z], rfl, z, [], rfl, rfl, rfl, q⟩
theorem x_tIf {tt : TT} {ta tb : TE} {σ : L2.St} {H : Hp} {Q : VK} {b : Bool} (h : EvT tt σ H b) (h1 : b = true → ∀ H1, Le H H1 → ta σ H1 Q) (h2 : b = false → ∀ H1, Le H H1 → tb σ H1 Q) : tIf tt ta tb σ H Q := h H (Le.refl H) _ fun H1 e => by
  cases b with
  | true => rw [if_pos rfl]; exact h1 rfl H1 e
  | false => rw [if_neg Bool.false_ne_true]; exact h2 rfl H1 e
theorem x_tIfC {tt : TT} {ta tb : TE} {σ : L2.St} {H : Hp} {Q : VK} {b : Bool} {u w r : Int} (h : EvT tt σ H b) (h1 : ∀ H1 (Q : VK), (∀ H2, Le H1 H2 → Q (.int u) H2) → ta σ H1 Q) (h2 : ∀ H1 (Q : VK), (∀ H2, Le H1 H2 → Q (.int w) H2) → tb σ H1 Q)
    (e : (if b = true then u else w) = r) (q : ∀ H1, Le H H1 → Q (.int r) H1) : tIf tt ta tb σ H Q := by
  refine x_tIf h (fun hb H1 e1 => h1 H1 Q fun H2 e2 => ?_) (fun hb H1 e1 => h2 H1 Q fun H2 e2 => ?_)
  · rw [if_pos hb] at e
    rw [e]; exact q H2 (e1.trans e2)
  · rw [if_neg (by rw [hb]; exact Bool.false_ne_true)] at e
    rw [e]; exact q H2 (e1.trans e2)
theorem x_gfor2 {σ : L2.St} {H : Hp} {ys : List V} {D : GEnds} {tu : TGn} {j : Nat} {lo n : Int} (hn : -(2 ^ 62) ≤ lo ∧ lo < 2 ^ 62 ∧ -(2 ^ 62) ≤ n ∧ n < 2 ^ 62) (Pv : Nat → List V → L2.St → Hp → Prop) (h0 : Pv 0 ys σ H)
    (hs : ∀ (i : Nat) ys' σ' H', lo + (i : Int) < n → Pv i ys' σ' H' → tu { D with nx := Pv (i + 1), ct := Pv (i + 1), bk := D.nx } ys' (σ'.set j (some (.int (lo + (i : Nat))))) H') (hd : ∀ ys' σ' H', Pv (n - lo).toNat ys' σ' H' → D.nx ys' σ' H') : kR2 (kGFor (gName j) tu D ys σ) [.int lo, .int n] H :=
  ⟨lo, n, rfl, hn, x_gforW walk_range Pv h0 (fun _ _ _ _ _ _ => trivial) (fun i x ys' σ' H1 H2 hi p y => by
    obtain ⟨rfl, rfl⟩ := y
    exact hs i ys' σ' _ (by omega) p) hd⟩
theorem x_gat {σ : L2.St} {H : Hp} {ys : List V} {D : GEnds} (h : D.nx ys σ H) : (D.at ys).nx σ H := h
local macro_rules | `(tactic| walk_at "x") => `(tactic| with_reducible refine x_gat ?_)
/-! ### rows -/
theorem RowAt.le {H H' : Hp} {v : V} {x : Row} (e : Le H H') (h : RowAt H v x) : RowAt H' v x := by
  obtain ⟨p, e1, h1⟩ := h
  exact ⟨p, e1, e.keep h1⟩
theorem RowsAt.le {H H' : Hp} (e : Le H H') : ∀ {vs : List V} {xs : List Row}, RowsAt H vs xs → RowsAt H' vs xs
  | [], [], _ => trivial
  | _ :: _, _ :: _, h => ⟨h.1.le e, RowsAt.le e h.2⟩
  | [], _ :: _, h => h.elim
  | _ :: _, [], h => h.elim
theorem RowsAt.app {H : Hp} {v : V} {x : Row} (hp : RowAt H v x) : ∀ {vs : List V} {xs : List Row}, RowsAt H vs xs → RowsAt H (vs ++ [v]) (xs ++ [x])
  | [], [], _ => ⟨hp, trivial⟩
  | _ :: _, _ :: _, h => ⟨h.1, RowsAt.app hp h.2⟩
  | [], _ :: _, h => h.elim
  | _ :: _, [], h => h.elim
theorem RowsAt.len {H : Hp} : ∀ {vs : List V} {xs : List Row}, RowsAt H vs xs → vs.length = xs.length
  | [], [], _ => rfl
  | _ :: _, _ :: _, h => by simp [RowsAt.len h.2]
  | [], _ :: _, h => h.elim
  | _ :: _, [], h => h.elim
theorem rowOf_len (i j : Nat) (s : Int) (o : Option (Str × Str × Int)) : (rowOf i j s o).length ≤ 1 := by
  cases o with
  | none => simp [rowOf]
  | some x => simp [rowOf]
theorem rowsAt_succ (xs : List R4) (i j m : Nat) : rowsAt xs i j (m + 1) = rowsAt xs i j m ++ rowOf i j (leastOf i j + m) (overlapOf (xs.getD i r0) (xs.getD j r0) (leastOf i j + m)) := by
  unfold rowsAt
  rw [List.range_succ, List.flatMap_append]; simp
theorem rowsIn_succ (xs : List R4) (i m : Nat) : rowsIn xs i (m + 1) = rowsIn xs i m ++ rowsAt xs i (i + m) (5 - leastOf i (i + m)).toNat := by
  unfold rowsIn
  rw [List.range_succ, List.flatMap_append]; simp
theorem rowsTo_succ (xs : List R4) (m : Nat) : rowsTo xs (m + 1) = rowsTo xs m ++ rowsIn xs m (xs.length - m) := by
  unfold rowsTo
  rw [List.range_succ, List.flatMap_append]; simp
theorem rowsAt_len (xs : List R4) (i j m : Nat) : (rowsAt xs i j m).length ≤ m := by
  induction m with
  | zero => simp [rowsAt]
  | succ m ih =>
    rw [rowsAt_succ, List.length_append]
    have := rowOf_len i j (leastOf i j + m) (overlapOf (xs.getD i r0) (xs.getD j r0) (leastOf i j + m))
    omega
theorem least_b (i j : Nat) : -4 ≤ leastOf i j ∧ leastOf i j ≤ 1 := by unfold leastOf; split <;> omega
theorem rowsIn_len (xs : List R4) (i m : Nat) : (rowsIn xs i m).length ≤ m * 9 := by
  induction m with
  | zero => simp [rowsIn]
  | succ m ih =>
    rw [rowsIn_succ, List.length_append]
    have := rowsAt_len xs i (i + m) (5 - leastOf i (i + m)).toNat
    have := least_b i (i + m)
    omega
theorem rowsTo_len {xs : List R4} (h : xs.length ≤ 8) (m : Nat) : (rowsTo xs m).length ≤ m * 72 := by
  induction m with
  | zero => simp [rowsTo]
  | succ m ih =>
    rw [rowsTo_succ, List.length_append]
    have := rowsIn_len xs m (xs.length - m)
    omega
theorem ok_overlaps {P : Program} {w : World} {K : PySem.W.Frag} {mg : Str → Option Value} {base : Heap} {a : Ad} {f : Addr} {fd : FuncData} (F : FnP K "overlaps" "overlaps" s_overlaps f fd) (T : Txt K mg a) (G__overlap : FnG P w K mg base 4 "_overlap" (sp__overlap a)) (IT_Book : ItG P w K mg base 1 a.cBook "_rules") (O_Book___len__ : OpG P w K mg base 1 a.cBook "__len__" (sp_Book___len__ a)) :
    GFn P w K mg base 5 f fd ["book"] (sp_overlaps a) := by
  obtain ⟨oc, od, dV, kV, doc, pm, an, cdv, ct, osl, rfl, lk, hcd, hD, _⟩ := F.ex
  refine gfn_of lk hcd sc_overlaps (fun vs H Q E h => by obtain ⟨p, xs, rfl, fx, hn, h, hq⟩ := h; rfl) (fun A outer s H vs Q E pn hr h => ?_)
  refine ⟨_, (gss_cons (gs_ps (ps_set (i := 1) sc_overlaps.nd rfl (Or.inl rfl) (pe_callTy (call_listYG IT_Book O_Book___len__ rfl (hr.mono (by decide)) (hr.mono (by decide))) (by rfl) T.f_list (by decide +kernel) (pa_cons (pv 0) pa_nil))))
    (gss_cons (gs_for (by first | exact po | exact PassesOwn.never | exact passes_of rfl) rfl (pi_range1 (by rfl) T.f_range (pa_cons (pe_callB call_lenU (by rfl) T.f_len (by decide +kernel) (pa_cons (pv 1) pa_nil)) pa_nil)) (pg_name (i := 2) sc_overlaps.nd rfl (Or.inl rfl)) (gss_cons (gs_for (by first | exact po | exact PassesOwn.never | exact passes_of rfl) rfl (pi_range2 (by rfl) T.f_range (pa_cons (pv 2) (pa_cons (pe_callB call_lenU (by rfl) T.f_len (by decide +kernel) (pa_cons (pv 1) pa_nil)) pa_nil))) (pg_name (i := 3) sc_overlaps.nd rfl (Or.inl rfl)) (gss_cons (gs_ps (ps_set (i := 4) sc_overlaps.nd rfl (Or.inl rfl) (pe_ifExp (pt_cmpR (op_eqU hr) (pv 2) (pv 3) (nomark _)) pe_int (pe_un un_neg (pe_globI (n := 4) rfl T.g__FARTHEST)))))
    (gss_cons (gs_for (by first | exact po | exact PassesOwn.never | exact passes_of rfl) rfl (pi_range2 (by rfl) T.f_range (pa_cons (pv 4) (pa_cons (pe_op op_addU (pe_globI (n := 4) rfl T.g__FARTHEST) pe_int) pa_nil))) (pg_name (i := 5) sc_overlaps.nd rfl (Or.inl rfl)) (gss_cons (gs_ps (ps_set (i := 6) sc_overlaps.nd rfl (Or.inl rfl) (pe_callG G__overlap (hr.mono (by decide)) passN rfl (pa_cons (pe_ix ix_seq (pv 1) (pv 2) (fun _ _ => rfl)) (pa_cons (pe_ix ix_seq (pv 1) (pv 3) (fun _ _ => rfl)) (pa_cons (pv 5) pa_nil))))))
    (gss_cons (gs_if (pt_cmpR op_isNotN (pv 6) pe_non (nomark _)) (gss_cons (gs_yield (pe_tup (pa_cons (pv 2) (pa_cons (pv 3) (pa_cons (pv 5) (pa_cons (pe_ix ix_seq (pv 6) pe_int (fun _ _ => rfl)) (pa_cons (pe_ix ix_seq (pv 6) pe_int (fun _ _ => rfl)) (pa_cons (pe_ix ix_seq (pv 6) pe_int (fun _ _ => rfl)) pa_nil))))))))
    gss_nil) gss_nil)
    gss_nil)))
    gss_nil)))
    gss_nil))
    gss_nil)), ?_⟩
  obtain ⟨p, xs, rfl, fx, hn, h, hq⟩ := h
  obtain ⟨dx, l, vs, h1, h2, h3⟩ := id h
  have hlen := h3.len
  walk_at "xs"
  refine x_listY h1 lkB h2 (by omega) (fun H1 e => ⟨p, xs, rfl, hn, h.le e, fun H2 e2 => ⟨_, rfl, ⟨by omega, by rw [sizeLine_eq]; omega⟩, e2⟩⟩) fun p1 H1 n1 e1 hp1 => ?_
  walk_at "xs"
  rw [hlen]
  refine x_gfor1 (by omega) (fun i ys σ' H' => (∃ v2 v3 v4 v5 v6, σ' = [some (V.ref p), some (V.ref p1), v2, v3, v4, v5, v6]) ∧ Le H1 H' ∧ RowsAt H' ys (rowsTo xs i)) ⟨⟨_, _, _, _, _, rfl⟩, Le.refl _, trivial⟩ ?_ ?_
  · rintro i ys σ' H3 hi ⟨⟨v2, v3, v4, v5, v6, rfl⟩, e2, hys⟩
    have hp3 := e2.keep hp1
    walk_at "xs"
    rw [hlen]
    refine x_gfor2 (by omega) (fun j ys σ' H' => (∃ v3 v4 v5 v6, σ' = [some (V.ref p), some (V.ref p1), some (V.int i), v3, v4, v5, v6]) ∧ Le H1 H' ∧ RowsAt H' ys (rowsTo xs i ++ rowsIn xs i j)) ⟨⟨_, _, _, _, rfl⟩, e2, by simpa [rowsIn] using hys⟩ ?_ ?_
    · rintro j ys σ' H4 hj ⟨⟨v3, v4, v5, v6, rfl⟩, e4, hys4⟩
      walk_at "xs"
      have hl4 : (if decide (((i : Nat) : Int) = (i : Int) + (j : Int)) = true then (1 : Int) else -4) = leastOf i (i + j) := by
        unfold leastOf
        by_cases q : i = i + j
        · rw [if_pos q, if_pos (decide_eq_true (by omega))]
        · rw [if_neg q, if_neg (by rw [decide_eq_false (by omega)]; exact Bool.false_ne_true)]
      refine x_tIfC (b := decide (((i : Nat) : Int) = (i : Int) + (j : Int))) (u := 1) (w := -4) (et_T (ev_run fun H5 e5 Q5 q5 => ?_)) (fun H5 Q5 q5 => ?_) (fun H5 Q5 q5 => ?_) hl4 fun H5 e5 => ?_
      · walk_at "xs"
        exact q5 _ (Le.refl _)
      · walk_at "xs"
        exact q5 _ (Le.refl _)
      · walk_at "xs"
        exact q5 _ (Le.refl _)
      · clear hl4
        walk_at "xs"
        have hb9 := least_b i (i + j)
        refine x_gfor2 (by omega) (fun k ys σ' H' => (∃ v5 v6, σ' = [some (V.ref p), some (V.ref p1), some (V.int i), some (V.int ((i : Int) + (j : Int))), some (V.int (leastOf i (i + j))), v5, v6]) ∧ Le H1 H' ∧ RowsAt H' ys (rowsTo xs i ++ rowsIn xs i j ++ rowsAt xs i (i + j) k)) ⟨⟨_, _, rfl⟩, e4.trans e5, by simpa [rowsAt] using hys4.le e5⟩ ?_ ?_
        · rintro k ys σ' H6 hk ⟨⟨v5, v6, rfl⟩, e6, hys6⟩
          have hiu : i < vs.length := by omega
          have hju : i + j < vs.length := by omega
          obtain ⟨r, hr, hr2⟩ := h3.get (List.getElem?_eq_getElem (show i < xs.length by omega))
          obtain ⟨r', hr', hr2'⟩ := h3.get (List.getElem?_eq_getElem (show i + j < xs.length by omega))
          have hx : xs.getD i r0 = xs[i]'(by omega) := by rw [List.getD_eq_getElem?_getD, List.getElem?_eq_getElem (by omega)]; rfl
          have hy : xs.getD (i + j) r0 = xs[i + j]'(by omega) := by rw [List.getD_eq_getElem?_getD, List.getElem?_eq_getElem (by omega)]; rfl
          rw [← hx] at hr2
          rw [← hy] at hr2'
          have fi : Fine (xs.getD i r0) := by rw [hx]; exact fx _ (List.getElem_mem _)
          have fj : Fine (xs.getD (i + j) r0) := by rw [hy]; exact fx _ (List.getElem_mem _)
          have hl6 := hys6.len
          have b1 := rowsTo_len hn i
          have b2 := rowsIn_len xs i j
          have b3 := rowsAt_len xs i (i + j) k
          simp only [List.length_append] at hl6
          walk_at "xs"
          refine x_ixL2 (e6.keep hp1) (atI_nat ⟨by omega, by omega⟩ (v := .ref r) (by rw [Int.toNat_natCast]; exact hr)) ?_
          walk_at "xs"
          refine x_ixL2 (e6.keep hp1) (atI_nat ⟨by omega, by omega⟩ (v := .ref r') (by rw [show ((i : Int) + (j : Int)).toNat = i + j by omega]; exact hr')) ?_
          walk_at "xs"
          refine ⟨[], _, _, _, xs.getD i r0, xs.getD (i + j) r0, leastOf i (i + j) + k, rfl, hd0, h0n ⟨r, rfl, (hr2.le e1).le e6, fi⟩, h0n ⟨r', rfl, (hr2'.le e1).le e6, fj⟩, h0n rfl, ⟨by omega, by omega⟩, fun u H7 e7 hu => ?_⟩
          have hu := h0m hu
          have hsucc := rowsAt_succ xs i (i + j) k
          walk_at "xs"
          refine x_gif (b := !decide (u = .non)) (et_T (ev_run fun H8 e8 Q8 q8 => ?_)) (fun hb H8 e8 => ?_) (fun hb H8 e8 => ?_)
          · walk_at "xs"
            exact x_notN (q8 _ (Le.refl _))
          · cases ho : overlapOf (xs.getD i r0) (xs.getD (i + j) r0) (leastOf i (i + j) + k) with
            | none =>
              rw [ho] at hu
              have : u = .non := hu
              rw [this] at hb; simp at hb
            | some o =>
              obtain ⟨kd, zz, b⟩ := o
              rw [ho] at hu hsucc
              obtain ⟨_, p8, w1, w2, w3, rfl, hp8, rfl, rfl, rfl⟩ := hu
              have hp9 := e8.keep hp8
              walk_at "xs"
              refine x_gyield (by omega) ?_
              walk_at "xs"
              rename_i T2 H9 n9 e9 h9
              refine ⟨⟨_, _, rfl⟩, ((e6.trans e7).trans e8).trans e9, ?_⟩
              rw [hsucc, ← List.append_assoc]
              exact RowsAt.app ⟨_, rfl, h9⟩ (hys6.le ((e7.trans e8).trans e9))
          · cases ho : overlapOf (xs.getD i r0) (xs.getD (i + j) r0) (leastOf i (i + j) + k) with
            | none =>
              rw [ho] at hsucc
              walk_at "xs"
              refine ⟨⟨_, _, rfl⟩, (e6.trans e7).trans e8, ?_⟩
              rw [hsucc]
              simpa [rowOf] using hys6.le (e7.trans e8)
            | some o =>
              rw [ho] at hu
              have hun := hu.1
              have : u = .non := by simpa using hb
              exact absurd this hun
        · rintro ys σ' H6 ⟨⟨v5, v6, rfl⟩, e6, hys6⟩
          walk_at "xs"
          refine ⟨⟨_, _, _, _, rfl⟩, e6, ?_⟩
          rw [rowsIn_succ, ← List.append_assoc]
          exact hys6
    · rintro ys σ' H4 ⟨⟨v3, v4, v5, v6, rfl⟩, e4, hys4⟩
      walk_at "xs"
      refine ⟨⟨_, _, _, _, _, rfl⟩, e4, ?_⟩
      rw [rowsTo_succ]
      rw [show (((xs.length : Nat) : Int) - (i : Int)).toNat = xs.length - i by omega] at hys4
      exact hys4
  · rintro ys σ' H4 ⟨⟨v2, v3, v4, v5, v6, rfl⟩, e4, hys4⟩
    rw [Int.toNat_natCast] at hys4
    walk_at "xs"
    exact hq ys H4 (e1.trans e4) hys4
theorem le_hide {H H' : Hp} {p : Addr} (e : Le H H') (hp : H p = none) : Le H (hid H' [p]) := ⟨fun b o hb => by
  unfold hid
  rw [if_neg (by simp only [List.mem_singleton]; intro z; rw [z, hp] at hb; cases hb)]
  exact e.at_ b o hb, fun b hb => by
  unfold hid at hb
  split at hb
  · rename_i m; rw [List.mem_singleton.mp m]; exact hp
  · exact e.fr b hb⟩
theorem sm_log {i : Int} (h : -1000 ≤ i ∧ i ≤ 1000) : i.natAbs.log2 < 1000 := by
  have : i.natAbs < 2 ^ 1000 := Nat.lt_of_le_of_lt (show i.natAbs ≤ 2 ^ 10 by omega) (Nat.pow_lt_pow_right (by decide) (by decide))
  by_cases h0 : i.natAbs = 0
  · rw [h0]; decide
  · exact (Nat.log2_lt h0).mpr this
theorem isStep_in {xs : List R4} {z : Str} {c : Bool} {t : Int × Int} (h : isStep xs z c t = true) : (0 ≤ t.1 ∧ t.1 < xs.length) ∧ fits (xs.getD t.1.toNat r0) z c t.2 = true := by
  unfold isStep at h
  rw [Bool.and_eq_true] at h
  exact ⟨of_decide_eq_true h.1, h.2⟩
theorem fits_pos {x : R4} {z : Str} {c : Bool} {i : Int} (h : fits x z c i = true) : 0 ≤ i ∧ i < z.length := by
  unfold fits at h
  split at h
  · cases h
  · omega
theorem ok_disturbance {P : Program} {w : World} {K : PySem.W.Frag} {mg : Str → Option Value} {base : Heap} {a : Ad} {f : Addr} {fd : FuncData} (F : FnP K "disturbance" "disturbance" s_disturbance f fd) (T : Txt K mg a) (G__kind : FnG P w K mg base 2 "_kind" (sp__kind a)) (G__places_in : FnG P w K mg base 3 "_places_in" (sp__places_in a)) (O_Book___getitem__ : OpG P w K mg base 2 a.cBook "__getitem__" (sp_Book___getitem__ a)) (M_Rule_fits : MeG P w K mg base 3 a.cRule "fits" (sp_Rule_fits a)) (X_BadRun : ExG P w K mg base 1 "BadRun" a.cBadRun "index") (X_Mismatch : ExG P w K mg base 1 "Mismatch" a.cMismatch "at") (O_Book___len__ : OpG P w K mg base 1 a.cBook "__len__" (sp_Book___len__ a)) (X_NoRule : ExG P w K mg base 1 "NoRule" a.cNoRule "number") :
    FnOk P w K mg base (L2.CX P w) 4 f fd ["book", "text", "first", "second"] (sp_disturbance a) := by
  refine F.ok sc_disturbance (fun vs H Q E h => by obtain ⟨p, q, r, s, xs, z, c, u, v, rfl, fx, hn, gz, hb, ht, hr, hs, hu, hv, h1, h2, h3⟩ := h; rfl) (fun cdv A outer s H vs Q E hr h => ?_)
  refine ⟨_, (pss_cons (ps_set (i := 4) sc_disturbance.nd rfl (Or.inl rfl) (pe_lst pa_nil))
    (pss_cons (ps_for (by first | exact po | exact PassesOwn.never | exact passes_of rfl) rfl (pi_enum (by rfl) T.f_enumerate (pa_cons (pe_lst (pa_cons (pv 2) (pa_cons (pv 3) pa_nil))) pa_nil)) (pg_tup rfl (pgs_cons (pg_name (i := 5) sc_disturbance.nd rfl (Or.inl rfl)) (pgs_cons (pg_tup rfl (pgs_cons (pg_name (i := 6) sc_disturbance.nd rfl (Or.inl rfl)) (pgs_cons (pg_name (i := 7) sc_disturbance.nd rfl (Or.inl rfl)) pgs_nil))) pgs_nil))) (pss_cons (ps_if (pt_not (pt_chain op_leU op_ltU pe_int (pv 6) (pe_callB (call_lenG O_Book___len__ (hr.mono (by decide))) (by rfl) T.f_len (by decide +kernel) (pa_cons (pv 0) pa_nil)))) (pss_one (ps_rseF rfl rfl (takes_of rfl rfl rfl rfl) (pmk6_exG X_BadRun (hr.mono (by decide)) rfl (pa_cons (pv 5) pa_nil)) (pmk_exG X_NoRule (hr.mono (by decide)) rfl (pa_cons (pv 6) pa_nil)))) pss_nil)
    (pss_cons (ps_if (pt_not (pt_val (pe_methG M_Rule_fits (hr.mono (by decide)) passN (pe_subG O_Book___getitem__ (hr.mono (by decide)) (takes_of rfl rfl rfl rfl) (pv 0) (pv 6)) (pa_cons (pv 1) (pa_cons (pv 7) pa_nil))))) (pss_one (ps_rseF rfl rfl (takes_of rfl rfl rfl rfl) (pmk6_exG X_BadRun (hr.mono (by decide)) rfl (pa_cons (pv 5) pa_nil)) (pmk_exG X_Mismatch (hr.mono (by decide)) rfl (pa_cons (pv 7) pa_nil)))) pss_nil)
    (pss_one (ps_expr (pe_bm PySem.F.plainAttrs_list PySem.F.slot_list_append PySem.F.type_list_append mt_append (pv 4) (pa_cons (pe_callG G__places_in (hr.mono (by decide)) passN rfl (pa_cons (pv 1) (pa_cons (pe_subG O_Book___getitem__ (hr.mono (by decide)) (takes_of rfl rfl rfl rfl) (pv 0) (pv 6)) (pa_cons (pv 7) pa_nil)))) pa_nil)))))))
    (pss_one (ps_ret (pe_callG G__kind (hr.mono (by decide)) passN rfl (pa_cons (pe_ix ix_seq (pv 4) pe_int (fun _ _ => rfl)) (pa_cons (pe_ix ix_seq (pv 4) pe_int (fun _ _ => rfl)) pa_nil))))))), ?_⟩
  obtain ⟨p, q, r, s, xs, z, c, u, v, rfl, fx, hn, gz, hb, ht, hr, hs, hu, hv, h1, h2, h3⟩ := h
  have hz2 : z.length ≤ 120 := gz.2.1
  walk_at "xs"
  rename_i pl H1 n1 e1 hpl1 ll H2 n2 e2 hll
  have hpl2 := e2.keep hpl1
  have hne : ll ≠ pl := fun z => by rw [z, hpl1] at n2; cases n2
  have eB : Le H (hid H2 [pl]) := le_hide (e1.trans e2) n1
  have hllB : hid H2 [pl] ll = some (.lst [.ref r, .ref s]) := hid_at hll (by simpa using hne)
  refine x_forEn (sql hll) (fun i σ' H' => (∃ v5 v6 v7, σ' = [some (V.ref p), some (V.ref q), some (V.ref r), some (V.ref s), some (V.ref pl), v5, v6, v7]) ∧ Le (hid H2 [pl]) (hid H' [pl]) ∧ (∃ ws, H' pl = some (.lst ws) ∧ All2 rPl (hid H' [pl]) ws (([u, v].take i).map fun t => plsIn z.length (xs.getD t.1.toNat r0) t.2)) ∧ ∀ t ∈ [u, v].take i, isStep xs z c t = true) ⟨⟨_, _, _, rfl⟩, Le.refl _, ⟨[], hpl2, trivial⟩, fun t ht => by cases ht⟩ (fun i σ' H' _ h => sql (unhid.keep (h.2.1.keep hllB))) ?_ ?_
  · rintro i w T σ' H3 H4 hw ⟨⟨v5, v6, v7, rfl⟩, e3, ⟨ws, hws, hall⟩, hst⟩ e4 hT
    obtain ⟨t, o, hti, rfl, hpr, hsm⟩ : ∃ t o, [u, v][i]? = some t ∧ w = .ref o ∧ PrAt H o t ∧ (SmP t.1 ∧ SmP t.2) := by
      match i, hw with
      | 0, hw => cases hw; exact ⟨u, r, rfl, rfl, hr, hu⟩
      | 1, hw => cases hw; exact ⟨v, s, rfl, rfl, hs, hv⟩
    have hout : isStep xs z c t = false → ∀ d H', Le H H' → H' d = some (.xd [("index", .int (i : Nat))]) → E (.ref a.cBadRun) (some d) H' := by
      intro hf d H' e hd
      match i, hti, hd, hst with
      | 0, hti, hd, _ => cases hti; exact h2 hf _ _ _ e ⟨rfl, d, rfl, hd⟩
      | 1, hti, hd, hst => cases hti; exact h3 (hst u (List.mem_cons_self ..)) hf _ _ _ e ⟨rfl, d, rfl, hd⟩
    have hi2 : i < 2 := (List.getElem?_eq_some_iff.mp hti).1
    have htk : [u, v].take (i + 1) = [u, v].take i ++ [t] := by rw [List.take_add_one, hti]; rfl
    have e24 : Le (hid H2 [pl]) (hid H4 [pl]) := e3.trans (hid_le e4)
    have eA : Le H (hid H4 [pl]) := eB.trans e24
    have eA4 : Le H H4 := eA.trans unhid
    have hsm1 : -1000 ≤ t.1 ∧ t.1 ≤ 1000 := hsm.1
    have hsm2 : -1000 ≤ t.2 ∧ t.2 ≤ 1000 := hsm.2
    refine x_g2n hT (eA4.keep hpr) ?_
    walk_at "xs"
    refine x_if (b := !(decide ((0 : Int) ≤ t.1) && decide (t.1 < ((xs.length : Nat) : Int)))) ?_ (fun hb5 H5 e5 => ?_) (fun hb5 H5 e5 => ?_)
    · refine et_not (et_T ?_)
      apply ev_chain
      · walk_at "ch"
      · walk_at "ch"
      · intro H6 e6 Q6 q6
        obtain ⟨dxb, lb, usb, b1, b2, b3⟩ := hb.le (eA4.trans e6)
        walk_at "xs"
        exact x_lenO b1 ⟨p, xs, rfl, hn, ⟨dxb, lb, usb, b1, b2, b3⟩, fun H7 e7 => ⟨_, rfl, by omega, q6 _ e7⟩⟩
      · intro _ _ _ q; walk_at "x"; exact q
      · intro _ _ _ q; walk_at "x"; exact q
    · walk_at "xs"
      refine x_rseF1 (i := ((i : Nat) : Int)) (j := t.1) (sm_log (by omega)) (sm_log hsm1) (fun Kk kk => by walk_at "xs"; exact kk _ (Le.refl _)) (fun H6 Kk e6 kk => by walk_at "xs"; exact kk _ (Le.refl _)) fun d H6 e6 hd6 => ?_
      refine hout ?_ d H6 ((eA4.trans e5).trans e6) hd6
      unfold isStep
      simp only [Bool.not_eq_true', Bool.and_eq_false_iff, decide_eq_false_iff_not] at hb5
      rw [Bool.and_eq_false_iff]
      exact .inl (decide_eq_false (by omega))
    simp only [Bool.not_eq_false', Bool.and_eq_true, decide_eq_true_eq] at hb5
    have hx2 : xs[t.1.toNat]? = some (xs.getD t.1.toNat r0) := by rw [List.getD_eq_getElem?_getD, List.getElem?_eq_getElem (by omega)]; rfl
    have fxt : Fine (xs.getD t.1.toNat r0) := fx _ (List.mem_of_getElem? hx2)
    walk_at "xs"
    refine x_if (b := !fits (xs.getD t.1.toNat r0) z c t.2) ?_ (fun hb6 H6 e6 => ?_) (fun hb6 H6 e6 => ?_)
    · refine et_not (et_B (ev_run fun H6 e6 Q6 q6 => ?_))
      obtain ⟨dxb, lb, usb, b1, b2, b3⟩ := hb.le ((eA4.trans e5).trans e6)
      walk_at "xs"
      refine x_subO b1 ⟨p, xs, t.1, rfl, hb5, hn, ⟨dxb, lb, usb, b1, b2, b3⟩, fun o2 H7 e7 hr7 => ?_⟩
      obtain ⟨dr, hr8⟩ := id hr7
      refine x_kMeth hr8 lkF ?_
      walk_at "xs"
      exact ⟨o2, q, _, z, c, t.2, rfl, fxt, gz, hr7, ht.le (((eA4.trans e5).trans e6).trans e7), fun H8 e8 => q6 _ (e7.trans e8)⟩
    · walk_at "xs"
      refine x_rseF1 (i := ((i : Nat) : Int)) (j := t.2) (sm_log (by omega)) (sm_log hsm2) (fun Kk kk => by walk_at "xs"; exact kk _ (Le.refl _)) (fun H7 Kk e7 kk => by walk_at "xs"; exact kk _ (Le.refl _)) fun d H7 e7 hd7 => ?_
      refine hout ?_ d H7 (((eA4.trans e5).trans e6).trans e7) hd7
      unfold isStep
      rw [Bool.and_eq_false_iff]
      exact .inr (by simpa using hb6)
    have hfit : fits (xs.getD t.1.toNat r0) z c t.2 = true := by simpa using hb6
    have hpos := fits_pos hfit
    have e46 : Le H4 H6 := e5.trans e6
    have hpl6 : H6 pl = some (.lst ws) := e46.keep (e4.keep hws)
    obtain ⟨dxb, lb, usb, b1, b2, b3⟩ := hb.le (eA4.trans e46)
    have eA6 : Le H (hid H6 [pl]) := eA.trans (hid_le e46)
    walk_at "xs"
    refine x_subO b1 ⟨p, xs, t.1, rfl, hb5, hn, ⟨dxb, lb, usb, b1, b2, b3⟩, fun o2 H7 e7 hr7 => ?_⟩
    walk_at "xs"
    have hO7 : Hd [pl] H7 := fun b hb => by rw [List.mem_singleton.mp hb]; exact ⟨ws, e7.keep hpl6⟩
    have hr7' : (rRule a).at_ (hid H7 [pl]) (.ref o2) (xs.getD t.1.toNat r0) := by
      obtain ⟨dr, hr8⟩ := hr7
      exact ⟨o2, rfl, ⟨dr, hid_at hr8 (hd_not hO7 hr8 fun _ z => by cases z)⟩, fxt⟩
    have ht7 : (rText a).at_ (hid H7 [pl]) (.ref q) (z, c) := ⟨q, rfl, ht.le (eA6.trans (hid_le e7)), gz⟩
    refine ⟨[pl], _, _, _, (z, c), xs.getD t.1.toNat r0, t.2, rfl, hO7, ht7, hr7', rfl, ⟨by show 0 < z.length; omega, hsm.2⟩, fun wv H8 e8 hwv => ?_⟩
    have hpl8 := e8.keep (e7.keep hpl6)
    have hl := hall.len
    have hl2 : ws.length ≤ 2 := by rw [hl, List.length_map]; have := List.length_take_le' i [u, v]; simpa using this
    walk_at "xs"
    refine x_app hpl8 (by omega) ?_
    have e38 : Le (hid H3 [pl]) (hid H8 [pl]) := hid_le (((e4.trans e46).trans e7).trans e8)
    refine ⟨⟨_, _, _, rfl⟩, ?_, ⟨ws ++ [wv], upd_same, ?_⟩, ?_⟩
    · rw [hid_upd (by simp)]; exact e3.trans e38
    · rw [hid_upd (by simp), htk, List.map_append]
      exact All2.app hwv (hall.le e38)
    · intro t' ht'
      rw [htk] at ht'
      rcases List.mem_append.mp ht' with h | h
      · exact hst t' h
      · rw [List.mem_singleton.mp h]
        unfold isStep
        rw [Bool.and_eq_true]
        exact ⟨decide_eq_true hb5, hfit⟩
  · rintro σ' H3 ⟨⟨v5, v6, v7, rfl⟩, e3, ⟨ws, hws, hall⟩, hst⟩
    match ws, hall with
    | [w1, w2], hall =>
    obtain ⟨g1, g2, _⟩ := hall
    have hO3 : Hd [pl] H3 := fun b hb => by rw [List.mem_singleton.mp hb]; exact ⟨_, hws⟩
    have su := hst u (by simp)
    have sv := hst v (by simp)
    obtain ⟨iu1, iu2⟩ := isStep_in su
    obtain ⟨iv1, iv2⟩ := isStep_in sv
    have fu : Fine (xs.getD u.1.toNat r0) := by
      have : xs[u.1.toNat]? = some (xs.getD u.1.toNat r0) := by rw [List.getD_eq_getElem?_getD, List.getElem?_eq_getElem (by omega)]; rfl
      exact fx _ (List.mem_of_getElem? this)
    have fv : Fine (xs.getD v.1.toNat r0) := by
      have : xs[v.1.toNat]? = some (xs.getD v.1.toNat r0) := by rw [List.getD_eq_getElem?_getD, List.getElem?_eq_getElem (by omega)]; rfl
      exact fx _ (List.mem_of_getElem? this)
    have hsm : ∀ (x : R4) (n : Nat) (i : Int), Fine x → SmL (plsIn n x i) := fun x n i f => by
      have f1 := f.l.2
      have f2 := f.o.2
      have f3 := f.r.2
      have b1 := besideL_len x i
      have b2 := takenL_len x i
      refine ⟨?_, ?_⟩
      · show ((besideL x i).map _).length ≤ 100
        rw [List.length_map]; omega
      · show ((takenL x i).map _).length ≤ 100
        rw [List.length_map]; omega
    walk_at "xs"
    refine x_ixL2 hws (v := w1) rfl ?_
    walk_at "xs"
    refine x_ixL2 hws (v := w2) rfl ?_
    walk_at "xs"
    refine ⟨[pl], _, _, _, _, rfl, hO3, g1, g2, ⟨hsm _ _ _ fu, hsm _ _ _ fv⟩, fun w H4 e4 hw => ?_⟩
    exact h1 su sv w H4 ((eB.trans e3).trans (unhid.trans e4)) (by
      have : (rOpt rStr).at_ (hid H4 [pl]) w (aDist xs z c u v) := hw
      exact (rOpt rStr).le unhid this)
end K7
set_option maxHeartbeats 4000000
/-! K7J: k04: what is drawn -/
namespace K7
open PySem PySem.Spec PyProof.Rows L2 MC
local macro_rules | `(tactic| walk_at "hp") => `(tactic| first | assumption | (apply Le.keep; assumption; walk_at "hp") | (apply TextAt.le; assumption; walk_at "hp") | (apply Lw.keep; assumption; walk_at "hp"; first | rfl | exact sh_str _ | exact sh_ints _ | exact sh_sgns _) | (apply TextAt.lw; assumption; walk_at "hp"))
local macro_rules | `(tactic| walk_at "le") => `(tactic| first | exact Le.refl _ | assumption | (apply Le.trans'; assumption; walk_at "le"))
local macro_rules | `(tactic| walk_at "lw") => `(tactic| first | exact Lw.refl _ | assumption | exact Le.w (by assumption) | (apply Lw.trans'; (first | assumption | exact Le.w (by assumption)); walk_at "lw"))
local macro_rules | `(tactic| walk_at "sz") => `(tactic| first | omega | (simp only [slen_app]; omega) | (simp only [List.length_append, List.length_cons, List.length_nil, List.length_map, List.length_range]; omega) | omega | (simp; omega) | decide)
local macro_rules | `(tactic| walk_at "x") => `(tactic| first
  | with_reducible refine x_seq ?_ | with_reducible refine x_asg ?_ | with_reducible refine x_ret ?_ | with_reducible refine x_drop ?_
  | ((with_reducible apply x_var); exact rfl) | with_reducible refine x_c ?_ | with_reducible refine x_op ?_ | with_reducible refine x_opS ?_ | with_reducible refine x_un ?_ | with_reducible refine x_neg ?_
  | with_reducible refine x_test ?_ | with_reducible refine x_tB ?_ | with_reducible refine x_kB ?_
  | with_reducible refine x_nil ?_ | with_reducible refine x_cons ?_ | with_reducible refine x_tup ?_ | with_reducible refine x_lst ?_
  | ((with_reducible refine x_kTup ?_ ?_); (walk_at "sz"); (intro _ _ _ _ _)) | ((with_reducible refine x_kLst ?_ ?_); (walk_at "sz"); (intro _ _ _ _ _))
  | with_reducible refine x_fld ?_ | ((with_reducible apply x_fS); assumption; (walk_at "hp")) | ((with_reducible apply x_fC); assumption; (walk_at "hp"))
  | with_reducible refine x_cb ?_ | with_reducible refine x_call ?_ | with_reducible refine x_callE ?_ | with_reducible refine x_bm ?_ | with_reducible refine x_cv ?_
  | with_reducible refine x_meth ?_ | with_reducible refine x_cm ?_ | with_reducible refine x_kCM ?_ | with_reducible refine x_mk ?_ | with_reducible refine x_kMk ?_
  | with_reducible refine x_np ?_ | with_reducible refine x_part ?_ | with_reducible refine x_kPart ?_ | with_reducible refine x_sl ?_ | with_reducible refine x_rev ?_
  | with_reducible refine x_addI ?_ | ((with_reducible refine x_addS ?_ ?_); (walk_at "sz")) | with_reducible refine x_I0 ?_
  | with_reducible refine x_eqS ?_ | with_reducible refine x_eqI ?_ | with_reducible refine x_eqB ?_ | with_reducible refine x_neS ?_ | with_reducible refine x_neI ?_ | with_reducible refine x_neB ?_
  | with_reducible refine x_eqFS ?_ | with_reducible refine x_eqFI ?_
  | with_reducible refine x_ltI ?_ | with_reducible refine x_ltS ?_ | with_reducible refine x_leI ?_ | with_reducible refine x_leS ?_ | with_reducible refine x_inT ?_ | with_reducible refine x_notInT ?_
  | ((with_reducible refine x_slS ?_ ?_); (walk_at "sz")) | ((with_reducible refine x_kRev ?_ ?_); (walk_at "sz"))
  | ((with_reducible refine x_lenS ?_ ?_); (walk_at "sz")) | ((with_reducible apply x_lenT); (walk_at "hp"))
  | ((with_reducible apply x_ixT); (walk_at "hp"); exact rfl)
  | with_reducible refine x_abs ?_ | with_reducible refine x_int ?_ | with_reducible refine x_strS ?_
  | ((with_reducible apply x_isB); (first | exact kit_ty (r := true) (by decide +kernel) | exact kit_ty (r := false) (by decide +kernel))) | ((with_reducible apply x_isI); (first | exact kit_ty (r := true) (by decide +kernel) | exact kit_ty (r := false) (by decide +kernel))) | ((with_reducible apply x_isS); (first | exact kit_ty (r := true) (by decide +kernel) | exact kit_ty (r := false) (by decide +kernel)))
  | ((with_reducible apply x_isT); (walk_at "hp"); (first | exact kit_ty (r := true) (by decide +kernel) | exact kit_ty (r := false) (by decide +kernel)))
  | ((with_reducible apply x_isText); assumption; (walk_at "hp")) | ((with_reducible apply x_isTextS); assumption) | ((with_reducible apply x_isTextI); assumption) | ((with_reducible apply x_isTextN); assumption) | ((with_reducible apply x_kCVT); assumption)
  | ((with_reducible apply x_addL); (walk_at "hp"); (walk_at "hp"); (walk_at "sz"); (intro _ _ _ _ _)) | ((with_reducible apply x_tyL); (walk_at "hp")) | with_reducible refine x_tyS ?_
  | with_reducible refine x_joined ?_ | with_reducible refine x_js ?_ | with_reducible refine x_js0 ?_ | ((with_reducible refine x_kJs ?_ ?_); (walk_at "sz")) | with_reducible refine x_fmt ?_ | ((with_reducible refine x_fmtS ?_ ?_); (walk_at "sz")) | ((with_reducible refine x_fmtI ?_ ?_); omega)
  | with_reducible refine x_rse ?_ | with_reducible refine x_ex ?_ | with_reducible refine x_ex0 ?_ | with_reducible refine x_xf ?_
  | with_reducible refine x_for ?_ | with_reducible refine x_r1 ?_ | with_reducible refine x_r2 ?_ | with_reducible refine x_il ?_ | with_reducible refine x_en ?_ | with_reducible refine x_lc ?_ | with_reducible refine x_next ?_ | dsimp only)
local macro_rules | `(tactic| walk_at "xs") => `(tactic| repeat walk_at "x")
local macro_rules | `(tactic| walk_at "ev0") => `(tactic| (refine ev_run ?_; intro _ _ _ q; walk_at "xs"; refine q _ ?_; walk_at "le"))
local macro_rules | `(tactic| walk_at "ch") => `(tactic| (intro _ _ _ q; walk_at "xs"; refine q _ ?_; walk_at "le"))
local macro_rules | `(tactic| walk_at "ev") => `(tactic| first
  | (focus ((with_reducible refine ev_andV ?_ (fun _ => ?_)); (all_goals walk_at "ev"))) | (focus ((with_reducible refine ev_orV ?_ (fun _ => ?_)); (all_goals walk_at "ev")))
  | ((with_reducible refine ev_notV ?_); walk_at "ev")
  | (focus ((with_reducible apply ev_chain); (focus walk_at "ch"); (focus walk_at "ch"); (focus walk_at "ch"); (focus (intro _ _ _ q; walk_at "x"; exact q)); (focus (intro _ _ _ q; walk_at "x"; exact q))))
  | walk_at "ev0" | skip)
local macro_rules | `(tactic| walk_at "et") => `(tactic| first
  | (focus ((with_reducible refine et_and ?_ (fun _ => ?_)); (all_goals walk_at "et"))) | (focus ((with_reducible refine et_or ?_ (fun _ => ?_)); (all_goals walk_at "et")))
  | ((with_reducible refine et_not ?_); walk_at "et") | ((with_reducible refine et_B ?_); walk_at "ev") | ((with_reducible refine et_T ?_); walk_at "ev"))
local macro_rules | `(tactic| walk_at "hp") => `(tactic| first | assumption | (apply RuleAt.le; assumption; walk_at "hp") | (apply RulesAt.le; assumption; walk_at "hp") | (apply BookAt.le; assumption; walk_at "hp") | (apply RuleAt.lw; assumption; walk_at "hp") | (apply BookAt.lw; assumption; walk_at "hp") | (apply R4s.le; assumption; walk_at "hp") | (apply R4s.lw; assumption; walk_at "hp"))
local macro_rules | `(tactic| walk_at "x") => `(tactic| first
  | ((with_reducible apply x_fO); assumption; (walk_at "hp")) | ((with_reducible apply x_fN); assumption; (walk_at "hp")) | ((with_reducible apply x_fL); assumption; (walk_at "hp")) | ((with_reducible apply x_fR); assumption; (walk_at "hp")) | ((with_reducible apply x_fB); assumption; (walk_at "hp"))
  | ((with_reducible apply x_isRule); assumption; (walk_at "hp")) | ((with_reducible apply x_kCVB); assumption)
  | with_reducible refine x_callO ?_ | with_reducible refine x_kCO ?_ | with_reducible refine x_prop ?_ | with_reducible refine x_max ?_ | with_reducible refine x_intB ?_ | with_reducible refine x_findS ?_ | with_reducible refine x_countS ?_ | with_reducible refine x_isN ?_)
local macro_rules | `(tactic| walk_at "sz") => `(tactic| (simp only [slen_app, elen, len1a, len1b, len1c]; omega))
local macro_rules | `(tactic| walk_at "x") => `(tactic| first
  | with_reducible refine x_sfld ?_ | with_reducible refine x_enL ?_ | with_reducible refine x_enN ?_ | with_reducible refine x_it ?_ | with_reducible refine x_asgT ?_ | ((with_reducible apply x_g2); (walk_at "hp")) | ((with_reducible apply x_g3); (walk_at "hp")) | ((with_reducible apply x_g4); (walk_at "hp"))
  | ((with_reducible apply x_lenL2); (walk_at "hp")) | with_reducible refine x_gseq ?_ | with_reducible refine x_g0 ?_ | with_reducible refine x_gfor ?_ | with_reducible refine x_gps ?_)
local macro_rules | `(tactic| walk_at "x") => `(tactic| first | ((with_reducible refine x_splitS ?_ ?_ ?_); (decide +kernel); (walk_at "sz"); (intro _ _ _ _ _)) | with_reducible refine x_methK ?_ | with_reducible refine x_mkSt ?_ | with_reducible refine x_kMkSt ?_ | ((with_reducible apply x_kStL); (walk_at "hp")))
/-! ### the drawing list -/
def sp__law_next (a : Ad) : Sp := spNext
local macro_rules | `(tactic| walk_at "st") => `(tactic| first | assumption | (apply St.le; assumption; walk_at "st"))
local macro_rules | `(tactic| walk_at "x") => `(tactic| first | ((with_reducible apply x_ixL2); (walk_at "hp"); exact rfl) | ((with_reducible apply x_lenL2); (walk_at "hp")))
theorem ok__law_next {P : Program} {w : World} {K : PySem.W.Frag} {mg : Str → Option Value} {base : Heap} {a : Ad} {f : Addr} {fd : FuncData} (F : FnP K "_law_next" "_law_next" s__law_next f fd) (T : Txt K mg a)  :
    FnOk P w K mg base (L2.CX P w) 1 f fd ["_law_state", "_law_many"] (sp__law_next a) := by
  refine F.ok sc__law_next (fun vs H Q E h => by obtain ⟨s, l, n, rfl, hs, hn, q⟩ := h; rfl) (fun cdv A outer s H vs Q E hr h => ?_)
  refine ⟨_, (pss_cons (ps_if (PW.pt (pw_and (pt_cmpR (op_eqU hr) (pe_ix ix_seq (pv 0) pe_int (fun _ _ => rfl)) pe_int (nomark _)) (pw_and1 (pt_cmpR op_ltU (pe_ix ix_seq (pv 0) pe_int (fun _ _ => rfl)) (pe_callB call_lenU (by rfl) T.f_len (by decide +kernel) (pa_cons (pe_ix ix_seq (pv 0) pe_int (fun _ _ => rfl)) pa_nil)) (nomark _))))) (pss_cons (ps_asg (pe_callB call_absU (by rfl) T.f_abs (by decide +kernel) (pa_cons (pe_ix ix_seq (pe_ix ix_seq (pv 0) pe_int (fun _ _ => rfl)) (pe_ix ix_seq (pv 0) pe_int (fun _ _ => rfl)) (fun _ _ => rfl)) pa_nil)) (pg_sub (pv 0) pe_int set_list))
    (pss_one (ps_asg (pe_op op_addU (pe_ix ix_seq (pv 0) pe_int (fun _ _ => rfl)) pe_int) (pg_sub (pv 0) pe_int set_list)))) pss_nil)
    (pss_cons (ps_set (i := 2) sc__law_next.nd rfl (Or.inl rfl) (pe_op op_modN (pe_callTy call_intU (by rfl) T.f_int (by decide +kernel) (pa_cons (pe_ix ix_seq (pv 0) pe_int (fun _ _ => rfl)) pa_nil)) (pv 1)))
    (pss_cons (ps_asg (pe_op op_fdivN (pe_callTy call_intU (by rfl) T.f_int (by decide +kernel) (pa_cons (pe_ix ix_seq (pv 0) pe_int (fun _ _ => rfl)) pa_nil)) (pv 1)) (pg_sub (pv 0) pe_int set_list))
    (pss_one (ps_ret (pv 2)))))), ?_⟩
  obtain ⟨s, l, n, rfl, hs, hn, q⟩ := h
  obtain ⟨ns, pos, rest, h1, h2, hp, hr⟩ := hs
  have hls : l ≠ s := by
    intro q
    rw [q, h1] at h2
    cases ns <;> cases h2
  walk_at "xs"
  refine x_if (b := decide (rest = 0) && decide (pos < ns.length)) (et_and (et_T (ev_run fun H1 e1 Q1 q1 => ?_)) (fun hb => et_T (ev_run fun H1 e1 Q1 q1 => ?_))) (fun hb H1 e1 => ?_) (fun hb H1 e1 => ?_)
  · walk_at "xs"
    exact q1 _ (Le.refl _)
  · walk_at "xs"
    rw [List.length_map]
    exact q1 _ (Le.refl _)
  · simp only [Bool.and_eq_true, decide_eq_true_eq] at hb
    walk_at "xs"
    refine x_setL ?_
    walk_at "xs"
    refine x_ixL2 (v := .int (ns.getD pos.toNat 0)) (by walk_at "hp") (atI_ints ⟨hp, hb.2⟩) ?_
    walk_at "xs"
    refine x_rSetSt (by walk_at "hp") rfl rfl fun H2 e2 k2 hs2 => ?_
    have hl2 : H2 l = some (.lst (ns.map V.int)) := (k2 l hls).trans (e1.keep h2)
    walk_at "xs"
    refine x_setL ?_
    walk_at "xs"
    refine x_rSetSt (by walk_at "hp") rfl rfl fun H3 e3 k3 hs3 => ?_
    have hl3 : H3 l = some (.lst (ns.map V.int)) := (k3 l hls).trans hl2
    walk_at "xs"
    refine x_I (by show n ≠ 0; omega) ?_
    walk_at "xs"
    refine x_setL ?_
    walk_at "xs"
    refine x_I ⟨by omega, by omega⟩ ?_
    walk_at "xs"
    refine x_rSetSt (by walk_at "hp") rfl rfl fun H4 e4 k4 hs4 => ?_
    have hl4 : H4 l = some (.lst (ns.map V.int)) := (k4 l hls).trans hl3
    walk_at "xs"
    refine q _ _ (Int.fmod_nonneg_of_pos _ hn.1) (Int.fmod_lt_of_pos _ hn.1) (by walk_at "lw") ⟨ns, _, _, hs4, hl4, by omega, Int.fdiv_nonneg ?_ (by omega)⟩
    split <;> omega
  · walk_at "xs"
    refine x_I (by show n ≠ 0; omega) ?_
    walk_at "xs"
    refine x_setL ?_
    walk_at "xs"
    refine x_I ⟨by omega, by omega⟩ ?_
    walk_at "xs"
    refine x_rSetSt (by walk_at "hp") rfl rfl fun H4 e4 k4 hs4 => ?_
    have hl4 : H4 l = some (.lst (ns.map V.int)) := (k4 l hls).trans (e1.keep h2)
    walk_at "xs"
    exact q _ _ (Int.fmod_nonneg_of_pos _ hn.1) (Int.fmod_lt_of_pos _ hn.1) (by walk_at "lw") ⟨ns, _, _, hs4, hl4, hp, Int.fdiv_nonneg hr (by omega)⟩
/-! ### letters, words -/
def sp__law_letters_of (a : Ad) : Sp := fun vs H Q E => ∃ s l, vs = [.ref s] ∧ St H s l ∧ ∀ z H', bad z = none → 2 ≤ z.length → z.length ≤ 4 → Lw H H' → St H' s l → Q (.str z) H'
def sp__law_word_of (a : Ad) : Sp := fun vs H Q E => ∃ s l w n k, vs = [.ref s, .str w, .int n, .int k] ∧ St H s l ∧ bad w = none ∧ (0 < w.length ∧ w.length ≤ 100) ∧ (0 ≤ n ∧ n ≤ 200) ∧ ∀ z H', bad z = none → (z.length : Int) = n → Lw H H' → St H' s l → Q (.str z) H'
theorem alpha_n : ("abcdefghijklmnopqrstuvwxyz" : Str).length = 26 := by decide +kernel
theorem alpha_bad : bad "abcdefghijklmnopqrstuvwxyz" = none := by decide +kernel
theorem bad_one {z : Str} {i : Nat} (h : bad z = none) (hi : i < z.length) : bad ⟨#[z.cps.getD i 0]⟩ = none := by
  rw [bad_l]
  intro c hc
  have : c = z.cps.getD i 0 := by simpa using hc
  rw [this]
  exact bad_none.mp h i hi
theorem join_ok {ys : List Str} (h : ∀ y ∈ ys, bad y = none ∧ y.length = 1) : bad (Txt.join "" ys) = none ∧ (Txt.join "" ys).length = ys.length := by
  have e := joinE_l ys
  constructor
  · rw [bad_l]
    intro c hc
    rw [e] at hc
    obtain ⟨l, hl, hc⟩ := List.mem_flatten.mp hc
    obtain ⟨y, hy, rfl⟩ := List.mem_map.mp hl
    exact bad_l.mp (h y hy).1 c hc
  · rw [← len_l, e]
    clear e
    induction ys with
    | nil => rfl
    | cons y r ih =>
      rw [List.map_cons, List.flatten_cons, List.length_append, ih fun x hx => h x (List.mem_cons_of_mem _ hx), len_l, (h y List.mem_cons_self).2, List.length_cons]
      omega
theorem x_ixN {K : PySem.W.Frag} {H : Hp} {Q : VK} {z : Str} {i : Int} (hz : z.length ≤ 1000000) (hi : 0 ≤ i ∧ i < z.length) (q : Q (.str ⟨#[z.cps.getD i.toNat 0]⟩) H) : rIx K (.str z) (.int i) H Q := x_ixS hz (atI_get hi) q
theorem ok__law_letters_of {P : Program} {w : World} {K : PySem.W.Frag} {mg : Str → Option Value} {base : Heap} {a : Ad} {f : Addr} {fd : FuncData} (F : FnP K "_law_letters_of" "_law_letters_of" s__law_letters_of f fd) (T : Txt K mg a) (G__law_next : FnG P w K mg base 1 "_law_next" (sp__law_next a)) :
    FnOk P w K mg base (L2.CX P w) 2 f fd ["_law_state"] (sp__law_letters_of a) := by
  refine F.ok sc__law_letters_of (fun vs H Q E h => by obtain ⟨s, l, rfl, hs, q⟩ := h; rfl) (fun cdv A outer s H vs Q E hr h => ?_)
  refine ⟨_, (pss_cons (ps_set (i := 1) sc__law_letters_of.nd rfl (Or.inr rfl) pe_str)
    (pss_cons (ps_set (i := 2) sc__law_letters_of.nd rfl (Or.inl rfl) (pe_op op_addU pe_int (pe_callG G__law_next (hr.mono (by decide)) passN rfl (pa_cons (pv 0) (pa_cons pe_int pa_nil)))))
    (pss_cons (ps_set (i := 3) sc__law_letters_of.nd rfl (Or.inr rfl) (pe_callG G__law_next (hr.mono (by decide)) passN rfl (pa_cons (pv 0) (pa_cons pe_int pa_nil))))
    (pss_cons (ps_set (i := 4) sc__law_letters_of.nd rfl (Or.inr rfl) (pe_ix ix_seq (pe_lst (pa_cons pe_int (pa_cons pe_int (pa_cons pe_int (pa_cons pe_int (pa_cons pe_int (pa_cons pe_int (pa_cons pe_int (pa_cons pe_int (pa_cons pe_int (pa_cons pe_int (pa_cons pe_int (pa_cons pe_int pa_nil))))))))))))) (pe_callG G__law_next (hr.mono (by decide)) passN rfl (pa_cons (pv 0) (pa_cons pe_int pa_nil))) (fun _ _ => rfl)))
    (pss_one (ps_ret (pe_bm PySem.F.plainAttrs_str PySem.F.slot_str_join PySem.F.type_str_join mt_joinU pe_str (pa_cons (pe_lc (own := [("_law_k", 5)]) (g := gName 5) (tt := tYes) rfl sc__law_letters_of.nd (pi_range1 (by rfl) T.f_range (pa_cons (pv 2) pa_nil)) (blkOk_by (N := ["_law_state", "_law_base", "_law_many", "_law_at", "_law_step", "_law_k"]) (sc := defScope s__law_letters_of) (by decide +kernel)) (fun _ _ _ _ _ => pg_name (i := 5) sc__law_letters_of.nd rfl (Or.inl rfl)) (fun _ _ _ _ _ => pts_nil) (fun _ _ _ _ _ => (pe_ix (ix_seqk K rfl) (pv 1) (pe_op op_modN (pe_callTy call_intU (by rfl) T.f_int (by decide +kernel) (pa_cons (pe_op op_addU (pv 3) (pe_op op_mulU (pv 5) (pv 4))) pa_nil)) pe_int) (fun _ _ => rfl)))) pa_nil)))))))), ?_⟩
  obtain ⟨s, l, rfl, hs, q⟩ := h
  have l0 : ("" : Str).length = 0 := rfl
  have l26 := alpha_n
  walk_at "xs"
  refine c_next (by walk_at "st") (by omega) fun r1 H1 hr1 hr1' e1 s1 => ?_
  walk_at "xs"
  refine c_next (by walk_at "st") (by omega) fun r2 H2 hr2 hr2' e2 s2 => ?_
  walk_at "xs"
  rename_i p3 H3 n3 e3 h3
  refine c_next (by walk_at "st") (by omega) fun r4 H4 hr4 hr4' e4 s4 => ?_
  walk_at "xs"
  refine x_ixL2 (xs := ([1, 3, 5, 7, 9, 11, 15, 17, 19, 21, 23, 25] : List Int).map V.int) (e4.keep h3 rfl) (atI_ints ⟨hr4, hr4'⟩) ?_
  generalize ([1, 3, 5, 7, 9, 11, 15, 17, 19, 21, 23, 25] : List Int).getD r4.toNat 0 = st
  walk_at "xs"
  refine x_lcR (f := fun (k : Nat) => ⟨#[("abcdefghijklmnopqrstuvwxyz" : Str).cps.getD ((r2 + (k : Int) * st).fmod 26).toNat 0]⟩) (by omega) (fun _ => rfl) (fun i H5 hi e5 Qe qe => ?_) fun p H5 n5 e5 h5 => ?_
  · walk_at "xs"
    refine x_mulI (by omega) ?_
    walk_at "xs"
    refine x_I (by decide) ?_
    walk_at "xs"
    have f1 := Int.fmod_nonneg_of_pos (r2 + (i : Int) * st) (show (0 : Int) < 26 by decide)
    have f2 := Int.fmod_lt_of_pos (r2 + (i : Int) * st) (show (0 : Int) < 26 by decide)
    refine x_ixN (by rw [l26]; omega) (by rw [l26]; omega) ?_
    exact qe _ (Le.refl _)
  · have hy : ∀ y ∈ (List.range (2 + r1).toNat).map (fun (k : Nat) => (⟨#[("abcdefghijklmnopqrstuvwxyz" : Str).cps.getD ((r2 + (k : Int) * st).fmod 26).toNat 0]⟩ : Str)), bad y = none ∧ y.length = 1 := by
      intro y hy
      obtain ⟨k, _, rfl⟩ := List.mem_map.mp hy
      have f1 := Int.fmod_nonneg_of_pos (r2 + (k : Int) * st) (show (0 : Int) < 26 by decide)
      have f2 := Int.fmod_lt_of_pos (r2 + (k : Int) * st) (show (0 : Int) < 26 by decide)
      exact ⟨bad_one alpha_bad (by rw [l26]; omega), rfl⟩
    obtain ⟨j1, j2⟩ := join_ok hy
    rw [List.length_map, List.length_range] at j2
    refine x_join h5 ?_ ?_
    · rw [sum_ones' _ fun y h => (hy y h).2, List.length_map, List.length_range, l0]
      omega
    · exact q _ _ j1 (by omega) (by omega) (by walk_at "lw") (by walk_at "st")
theorem ok__law_word_of {P : Program} {w : World} {K : PySem.W.Frag} {mg : Str → Option Value} {base : Heap} {a : Ad} {f : Addr} {fd : FuncData} (F : FnP K "_law_word_of" "_law_word_of" s__law_word_of f fd) (T : Txt K mg a) (G__law_next : FnG P w K mg base 1 "_law_next" (sp__law_next a)) :
    FnOk P w K mg base (L2.CX P w) 2 f fd ["_law_state", "_law_signs", "_law_size", "_law_shift"] (sp__law_word_of a) := by
  refine F.ok sc__law_word_of (fun vs H Q E h => by obtain ⟨s, l, w, n, k, rfl, hs, hb, hw, hn, q⟩ := h; rfl) (fun cdv A outer s H vs Q E hr h => ?_)
  refine ⟨_, (pss_cons (ps_set (i := 4) sc__law_word_of.nd rfl (Or.inl rfl) (pe_callB call_lenU (by rfl) T.f_len (by decide +kernel) (pa_cons (pv 1) pa_nil)))
    (pss_cons (ps_set (i := 5) sc__law_word_of.nd rfl (Or.inl rfl) pe_str)
    (pss_cons (ps_for (by first | exact po | exact PassesOwn.never | exact passes_of rfl) rfl (pi_range1 (by rfl) T.f_range (pa_cons (pv 2) pa_nil)) (pg_name (i := 6) sc__law_word_of.nd rfl (Or.inl rfl)) (pss_cons (ps_set (i := 7) sc__law_word_of.nd rfl (Or.inl rfl) (pe_op op_modN (pe_callTy call_intU (by rfl) T.f_int (by decide +kernel) (pa_cons (pe_op op_addU (pe_op op_addU (pe_callG G__law_next (hr.mono (by decide)) passN rfl (pa_cons (pv 0) (pa_cons (pv 4) pa_nil))) (pv 3)) (pv 6)) pa_nil)) (pv 4)))
    (pss_one (ps_set (i := 5) sc__law_word_of.nd rfl (Or.inl rfl) (pe_op op_addU (pv 5) (pe_ix ix_seq (pv 1) (pv 7) (fun _ _ => rfl)))))))
    (pss_one (ps_ret (pv 5)))))), ?_⟩
  obtain ⟨s, l, w, n, k, rfl, hs, hb, hw, hn, q⟩ := h
  have l0 : ("" : Str).length = 0 := rfl
  walk_at "xs"
  refine x_for1 (by omega) (fun i σ' H' => (∃ z v1 v2, σ' = [some (V.ref s), some (V.str w), some (V.int n), some (V.int k), some (V.int (w.length : Nat)), some (V.str z), v1, v2] ∧ bad z = none ∧ z.length = i) ∧ Lw H H' ∧ St H' s l) ⟨⟨"", _, _, rfl, rfl, rfl⟩, Lw.refl H, hs⟩ ?_ ?_
  · rintro i σ' H1 hi ⟨⟨z, v1, v2, rfl, hz, hl⟩, e1, s1⟩
    walk_at "xs"
    refine c_next (by walk_at "st") (by omega) fun r2 H2 hr2 hr2' e2 s2 => ?_
    walk_at "xs"
    refine x_I (by show ((w.length : Nat) : Int) ≠ 0; omega) ?_
    have f1 := Int.fmod_nonneg_of_pos (r2 + k + (i : Int)) (show (0 : Int) < (w.length : Nat) by omega)
    have f2 := Int.fmod_lt_of_pos (r2 + k + (i : Int)) (show (0 : Int) < (w.length : Nat) by omega)
    walk_at "xs"
    refine x_ixN (by omega) ⟨f1, f2⟩ ?_
    have l1 : (⟨#[w.cps.getD ((r2 + k + (i : Int)).fmod (w.length : Nat)).toNat 0]⟩ : Str).length = 1 := rfl
    walk_at "xs"
    exact ⟨⟨_, _, _, rfl, bad_app hz (bad_one hb (by omega)), by rw [slen_app, l1]; omega⟩, e1.trans e2, s2⟩
  · rintro σ' H1 ⟨⟨z, v1, v2, rfl, hz, hl⟩, e1, s1⟩
    walk_at "xs"
    exact q z _ hz (by omega) e1 s1
theorem c_word {a : Ad} {H : Hp} {Q : VK} {E : XK} {s l : Addr} {w : Str} {n k : Int} (hs : St H s l) (hb : bad w = none) (hw : 0 < w.length ∧ w.length ≤ 100) (hn : 0 ≤ n ∧ n ≤ 200) (q : ∀ z H', bad z = none → (z.length : Int) = n → Lw H H' → St H' s l → Q (.str z) H') : sp__law_word_of a [.ref s, .str w, .int n, .int k] H Q E := ⟨s, l, w, n, k, rfl, hs, hb, hw, hn, q⟩
/-! ### rules -/
def sp__law_rule_of (a : Ad) : Sp := fun vs H Q E => ∃ s l g k, vs = [.ref s, .str g, .int k] ∧ St H s l ∧ bad g = none ∧ (0 < g.length ∧ g.length ≤ 100) ∧ (0 ≤ k ∧ k ≤ 100) ∧ ∀ p x H', Fine x → Lw H H' → St H' s l → H' p = some (.tup x.vs) → Q (.ref p) H'
def sp__law_rules_of (a : Ad) : Sp := fun vs H Q E => ∃ s l g, vs = [.ref s, .str g] ∧ St H s l ∧ bad g = none ∧ (0 < g.length ∧ g.length ≤ 100) ∧
  ∀ p us xs H', (∀ x ∈ xs, Fine x) → xs.Nodup → 1 ≤ xs.length → xs.length ≤ 8 → Lw H H' → St H' s l → H' p = some (.lst us) → R4s H' us xs → Q (.ref p) H'
theorem fmodb (x : Int) {n : Int} (h : 0 < n) : 0 ≤ x.fmod n ∧ x.fmod n < n := ⟨Int.fmod_nonneg_of_pos _ h, Int.fmod_lt_of_pos _ h⟩
theorem ok__law_rule_of {P : Program} {w : World} {K : PySem.W.Frag} {mg : Str → Option Value} {base : Heap} {a : Ad} {f : Addr} {fd : FuncData} (F : FnP K "_law_rule_of" "_law_rule_of" s__law_rule_of f fd) (T : Txt K mg a) (G__law_word_of : FnG P w K mg base 2 "_law_word_of" (sp__law_word_of a)) (G__law_next : FnG P w K mg base 1 "_law_next" (sp__law_next a)) :
    FnOk P w K mg base (L2.CX P w) 3 f fd ["_law_state", "_law_signs", "_law_k"] (sp__law_rule_of a) := by
  refine F.ok sc__law_rule_of (fun vs H Q E h => by obtain ⟨s, l, g, k, rfl, hs, hb, hg, hk, q⟩ := h; rfl) (fun cdv A outer s H vs Q E hr h => ?_)
  refine ⟨_, (pss_cons (ps_set (i := 3) sc__law_rule_of.nd rfl (Or.inl rfl) (pe_ix ix_seq (pe_lst (pa_cons pe_int (pa_cons pe_int (pa_cons pe_int (pa_cons pe_int pa_nil))))) (pe_op op_modN (pe_callTy call_intU (by rfl) T.f_int (by decide +kernel) (pa_cons (pe_op op_addU (pe_callG G__law_next (hr.mono (by decide)) passN rfl (pa_cons (pv 0) (pa_cons pe_int pa_nil))) (pv 2)) pa_nil)) pe_int) (fun _ _ => rfl)))
    (pss_cons (ps_set (i := 4) sc__law_rule_of.nd rfl (Or.inl rfl) (pe_callG G__law_word_of (hr.mono (by decide)) passN rfl (pa_cons (pv 0) (pa_cons (pv 1) (pa_cons (pv 3) (pa_cons (pv 2) pa_nil))))))
    (pss_cons (ps_set (i := 3) sc__law_rule_of.nd rfl (Or.inl rfl) (pe_ix ix_seq (pe_lst (pa_cons pe_int (pa_cons pe_int (pa_cons pe_int pa_nil)))) (pe_op op_modN (pe_callTy call_intU (by rfl) T.f_int (by decide +kernel) (pa_cons (pe_op op_addU (pe_callG G__law_next (hr.mono (by decide)) passN rfl (pa_cons (pv 0) (pa_cons pe_int pa_nil))) (pv 2)) pa_nil)) pe_int) (fun _ _ => rfl)))
    (pss_cons (ps_set (i := 5) sc__law_rule_of.nd rfl (Or.inl rfl) (pe_callG G__law_word_of (hr.mono (by decide)) passN rfl (pa_cons (pv 0) (pa_cons (pv 1) (pa_cons (pv 3) (pa_cons (pv 2) pa_nil))))))
    (pss_cons (ps_set (i := 3) sc__law_rule_of.nd rfl (Or.inl rfl) (pe_op op_addU pe_int (pe_op op_modN (pe_callTy call_intU (by rfl) T.f_int (by decide +kernel) (pa_cons (pe_op op_addU (pe_callG G__law_next (hr.mono (by decide)) passN rfl (pa_cons (pv 0) (pa_cons pe_int pa_nil))) (pe_op op_fdivN (pv 2) pe_int)) pa_nil)) pe_int)))
    (pss_cons (ps_set (i := 6) sc__law_rule_of.nd rfl (Or.inl rfl) (pe_callG G__law_word_of (hr.mono (by decide)) passN rfl (pa_cons (pv 0) (pa_cons (pv 1) (pa_cons (pv 3) (pa_cons (pe_op op_addU (pv 2) pe_int) pa_nil))))))
    (pss_cons (ps_set (i := 3) sc__law_rule_of.nd rfl (Or.inl rfl) (pe_ix ix_seq (pe_lst (pa_cons pe_int (pa_cons pe_int (pa_cons pe_int (pa_cons pe_int pa_nil))))) (pe_op op_modN (pe_callTy call_intU (by rfl) T.f_int (by decide +kernel) (pa_cons (pe_op op_addU (pe_callG G__law_next (hr.mono (by decide)) passN rfl (pa_cons (pv 0) (pa_cons pe_int pa_nil))) (pe_op op_fdivN (pv 2) pe_int)) pa_nil)) pe_int) (fun _ _ => rfl)))
    (pss_one (ps_ret (pe_tup (pa_cons (pv 4) (pa_cons (pv 5) (pa_cons (pv 6) (pa_cons (pe_callG G__law_word_of (hr.mono (by decide)) passN rfl (pa_cons (pv 0) (pa_cons (pv 1) (pa_cons (pv 3) (pa_cons (pv 2) pa_nil))))) pa_nil)))))))))))))), ?_⟩
  obtain ⟨s, l, g, k, rfl, hs, hb, hg, hk, q⟩ := h
  walk_at "xs"
  rename_i p1 H1 n1 e1 h1
  refine c_next (by walk_at "st") (by omega) fun r2 H2 hr2 hr2' e2 s2 => ?_
  walk_at "xs"
  refine x_I (by decide) ?_
  have b1 := fmodb (r2 + k) (show (0 : Int) < 4 by decide)
  refine x_ixP (fun n => 0 ≤ n ∧ n ≤ 2) [0, 0, 1, 2] (e2.keep h1 rfl) b1 (by decide) fun n3 hn3 => ?_
  walk_at "xs"
  refine c_word (by walk_at "st") hb hg (by omega) fun zl H3 hzl hzl2 e3 s3 => ?_
  walk_at "xs"
  rename_i p4 H4 n4 e4 h4
  refine c_next (by walk_at "st") (by omega) fun r5 H5 hr5 hr5' e5 s5 => ?_
  walk_at "xs"
  refine x_I (by decide) ?_
  have b2 := fmodb (r5 + k) (show (0 : Int) < 3 by decide)
  refine x_ixP (fun n => 1 ≤ n ∧ n ≤ 3) [2, 1, 3] (e5.keep h4 rfl) b2 (by decide) fun n6 hn6 => ?_
  walk_at "xs"
  refine c_word (by walk_at "st") hb hg (by omega) fun zo H6 hzo hzo2 e6 s6 => ?_
  walk_at "xs"
  refine c_next (by walk_at "st") (by omega) fun r7 H7 hr7 hr7' e7 s7 => ?_
  walk_at "xs"
  refine x_I ⟨by decide, by decide⟩ ?_
  walk_at "xs"
  refine x_I (by decide) ?_
  have b3 := fmodb (r7 + k.fdiv 2) (show (0 : Int) < 3 by decide)
  walk_at "xs"
  refine c_word (by walk_at "st") hb hg (by omega) fun zn H8 hzn hzn2 e8 s8 => ?_
  walk_at "xs"
  rename_i p9 H9 n9 e9 h9
  refine c_next (by walk_at "st") (by omega) fun r10 H10 hr10 hr10' e10 s10 => ?_
  walk_at "xs"
  refine x_I ⟨by decide, by decide⟩ ?_
  walk_at "xs"
  refine x_I (by decide) ?_
  have b4 := fmodb (r10 + k.fdiv 4) (show (0 : Int) < 4 by decide)
  refine x_ixP (fun n => 0 ≤ n ∧ n ≤ 2) [0, 0, 1, 2] (e10.keep h9 rfl) b4 (by decide) fun n11 hn11 => ?_
  walk_at "xs"
  refine c_word (by walk_at "st") hb hg (by omega) fun zr H11 hzr hzr2 e11 s11 => ?_
  walk_at "xs"
  rename_i p12 H12 n12 e12 h12
  exact q p12 ⟨zl, zo, zn, zr⟩ H12 ⟨⟨hzl, by show zl.length ≤ 2; omega⟩, ⟨hzo, by show 1 ≤ zo.length; omega, by show zo.length ≤ 3; omega⟩, ⟨hzn, by show 1 ≤ zn.length; omega, by show zn.length ≤ 3; omega⟩, ⟨hzr, by show zr.length ≤ 2; omega⟩⟩ (by walk_at "lw") (by walk_at "st") h12
theorem ok_of_bad {z : Str} (h : bad z = none) (hl : z.length ≤ 1000) : PyData.strOk z = true := by
  unfold PyData.strOk
  have h1 := all128 h
  simp [h1]
  intro i hi
  have h2 := Array.all_eq_true.mp h1 i hi
  simp at h2
  omega
theorem Fine.ok {x : R4} (h : Fine x) : x.ok := ⟨ok_of_bad h.l.1 (by have := h.l.2; omega), ok_of_bad h.o.1 (by have := h.o.2; omega), ok_of_bad h.n.1 (by have := h.n.2; omega), ok_of_bad h.r.1 (by have := h.r.2; omega)⟩
theorem ok__law_rules_of {P : Program} {w : World} {K : PySem.W.Frag} {mg : Str → Option Value} {base : Heap} {a : Ad} {f : Addr} {fd : FuncData} (F : FnP K "_law_rules_of" "_law_rules_of" s__law_rules_of f fd) (T : Txt K mg a) (G__law_next : FnG P w K mg base 1 "_law_next" (sp__law_next a)) (G__law_rule_of : FnG P w K mg base 3 "_law_rule_of" (sp__law_rule_of a)) :
    FnOk P w K mg base (L2.CX P w) 4 f fd ["_law_state", "_law_signs"] (sp__law_rules_of a) := by
  refine F.ok sc__law_rules_of (fun vs H Q E h => by obtain ⟨s, l, g, rfl, hs, hb, hg, q⟩ := h; rfl) (fun cdv A outer s H vs Q E hr h => ?_)
  refine ⟨_, (pss_cons (ps_set (i := 2) sc__law_rules_of.nd rfl (Or.inl rfl) (pe_lst pa_nil))
    (pss_cons (ps_for (by first | exact po | exact PassesOwn.never | exact passes_of rfl) rfl (pi_range1 (by rfl) T.f_range (pa_cons (pe_ix ix_seq (pe_lst (pa_cons pe_int (pa_cons pe_int (pa_cons pe_int (pa_cons pe_int (pa_cons pe_int (pa_cons pe_int (pa_cons pe_int (pa_cons pe_int pa_nil))))))))) (pe_callG G__law_next (hr.mono (by decide)) passN rfl (pa_cons (pv 0) (pa_cons pe_int pa_nil))) (fun _ _ => rfl)) pa_nil)) (pg_name (i := 3) sc__law_rules_of.nd rfl (Or.inl rfl)) (pss_cons (ps_set (i := 4) sc__law_rules_of.nd rfl (Or.inl rfl) (pe_callG G__law_rule_of (hr.mono (by decide)) passN rfl (pa_cons (pv 0) (pa_cons (pv 1) (pa_cons (pv 3) pa_nil)))))
    (pss_one (ps_if (pt_cmpR (op_notInD (by have := hr.un; show (A.deeper _).units + _ < _; omega)) (pv 4) (pv 2) (by rfl)) (pss_one (ps_expr (pe_bm PySem.F.plainAttrs_list PySem.F.slot_list_append PySem.F.type_list_append mt_append (pv 2) (pa_cons (pv 4) pa_nil)))) pss_nil))))
    (pss_one (ps_ret (pv 2))))), ?_⟩
  obtain ⟨s, l, g, rfl, hs, hb, hg, q⟩ := h
  walk_at "xs"
  rename_i p1 H1 n1 e1 h1 p2 H2 n2 e2 h2
  refine c_next (by walk_at "st") (by omega) fun r2 H3 hr2 hr2' e3 s3 => ?_
  refine x_ixP (fun n => 1 ≤ n ∧ n ≤ 8) [2, 1, 3, 4, 2, 1, 3, 8] (e3.keep h2 rfl) ⟨hr2, hr2'⟩ (by decide) fun n hn => ?_
  have hps : s ≠ p1 ∧ l ≠ p1 := hs.ne n1
  have h13 : H3 p1 = some (.lst []) := e3.keep (e2.keep h1) rfl
  have eH : Lw H H3 := by walk_at "lw"
  refine x_for1 (by omega) (fun i σ' H' => (∃ v1 v2, σ' = [some (V.ref s), some (V.str g), some (V.ref p1), v1, v2]) ∧ Lw H H' ∧ St H' s l ∧ ∃ us xs, H' p1 = some (.lst us) ∧ R4s H' us xs ∧ (∀ x ∈ xs, Fine x) ∧ xs.Nodup ∧ xs.length ≤ i ∧ (1 ≤ i → 1 ≤ xs.length)) ⟨⟨_, _, rfl⟩, eH, s3, [], [], h13, trivial, (fun x h => by cases h), List.nodup_nil, Nat.le_refl _, fun h => by omega⟩ ?_ ?_
  · rintro i σ' H4 hi ⟨⟨v1, v2, rfl⟩, e4, s4, us, xs, hp4, hr4, fx, hd, hl, hl1⟩
    walk_at "xs"
    refine ⟨s, l, g, _, rfl, s4, hb, hg, by omega, fun p5 x H5 hx e5 s5 hp5 => ?_⟩
    have hr5 := hr4.lw e5
    have hp15 := e5.keep hp4 hr4.sh
    walk_at "xs"
    refine x_if (b := !decide (x ∈ xs)) (et_T (ev_run fun H6 e6 Q6 q6 => ?_)) (fun hb6 H6 e6 => ?_) (fun hb6 H6 e6 => ?_)
    · walk_at "xs"
      exact x_notIn4 (e6.keep hp5) (e6.keep hp15) (hr5.le e6) hx.ok (fun y hy => (fx y hy).ok) (q6 _ (Le.refl _))
    · have hx6 : x ∉ xs := by simpa using hb6
      have hlen := hr4.len
      walk_at "xs"
      refine x_app (e6.keep hp15) (by omega) ?_
      refine ⟨⟨_, _, rfl⟩, lw_own ((e4.trans e5).trans e6.w) n1, (s5.le e6).put hps, us ++ [.ref p5], xs ++ [x], upd_same, R4s.put (e6.keep hp15) (R4s.app (e6.keep hp5) (hr5.le e6)), ?_, ?_, ?_, ?_⟩
      · intro y hy
        rcases List.mem_append.mp hy with hy | hy
        · exact fx y hy
        · rw [List.mem_singleton.mp hy]; exact hx
      · rw [List.nodup_append]
        refine ⟨hd, by simp, fun a ha b hb => ?_⟩
        rw [List.mem_singleton.mp hb]
        intro z
        rw [z] at ha; exact hx6 ha
      · rw [List.length_append, List.length_singleton]; omega
      · intro _; rw [List.length_append, List.length_singleton]; omega
    · walk_at "xs"
      refine ⟨⟨_, _, rfl⟩, (e4.trans e5).trans e6.w, s5.le e6, us, xs, e6.keep hp15, hr5.le e6, fx, hd, by omega, fun _ => ?_⟩
      have hx6 : x ∈ xs := by simpa using hb6
      exact List.length_pos_of_mem hx6
  · rintro σ' H4 ⟨⟨v1, v2, rfl⟩, e4, s4, us, xs, hp4, hr4, fx, hd, hl, hl1⟩
    walk_at "xs"
    exact q p1 us xs H4 fx hd (hl1 (by omega)) (by omega) e4 s4 hp4 hr4
end K7
set_option maxHeartbeats 4000000
/-! K7K: k07: texts, lines, books, fits (from K3K, K4K) -/
namespace K7
open PySem PySem.Spec PyProof.Rows L2 MC
local macro_rules | `(tactic| walk_at "hp") => `(tactic| first | assumption | (apply Le.keep; assumption; walk_at "hp") | (apply TextAt.le; assumption; walk_at "hp") | (apply Lw.keep; assumption; walk_at "hp"; first | rfl | exact sh_str _ | exact sh_ints _ | exact sh_sgns _) | (apply TextAt.lw; assumption; walk_at "hp"))
local macro_rules | `(tactic| walk_at "le") => `(tactic| first | exact Le.refl _ | assumption | (apply Le.trans'; assumption; walk_at "le"))
local macro_rules | `(tactic| walk_at "lw") => `(tactic| first | exact Lw.refl _ | assumption | exact Le.w (by assumption) | (apply Lw.trans'; (first | assumption | exact Le.w (by assumption)); walk_at "lw"))
local macro_rules | `(tactic| walk_at "sz") => `(tactic| first | omega | (simp only [slen_app]; omega) | (simp only [List.length_append, List.length_cons, List.length_nil, List.length_map, List.length_range]; omega) | omega | (simp; omega) | decide)
local macro_rules | `(tactic| walk_at "x") => `(tactic| first
  | with_reducible refine x_seq ?_ | with_reducible refine x_asg ?_ | with_reducible refine x_ret ?_ | with_reducible refine x_drop ?_
  | ((with_reducible apply x_var); exact rfl) | with_reducible refine x_c ?_ | with_reducible refine x_op ?_ | with_reducible refine x_opS ?_ | with_reducible refine x_un ?_ | with_reducible refine x_neg ?_
  | with_reducible refine x_test ?_ | with_reducible refine x_tB ?_ | with_reducible refine x_kB ?_
  | with_reducible refine x_nil ?_ | with_reducible refine x_cons ?_ | with_reducible refine x_tup ?_ | with_reducible refine x_lst ?_
  | ((with_reducible refine x_kTup ?_ ?_); (walk_at "sz"); (intro _ _ _ _ _)) | ((with_reducible refine x_kLst ?_ ?_); (walk_at "sz"); (intro _ _ _ _ _))
  | with_reducible refine x_fld ?_ | ((with_reducible apply x_fS); assumption; (walk_at "hp")) | ((with_reducible apply x_fC); assumption; (walk_at "hp"))
  | with_reducible refine x_cb ?_ | with_reducible refine x_call ?_ | with_reducible refine x_callE ?_ | with_reducible refine x_bm ?_ | with_reducible refine x_cv ?_
  | with_reducible refine x_meth ?_ | with_reducible refine x_cm ?_ | with_reducible refine x_kCM ?_ | with_reducible refine x_mk ?_ | with_reducible refine x_kMk ?_
  | with_reducible refine x_np ?_ | with_reducible refine x_part ?_ | with_reducible refine x_kPart ?_ | with_reducible refine x_sl ?_ | with_reducible refine x_rev ?_
  | with_reducible refine x_addI ?_ | ((with_reducible refine x_addS ?_ ?_); (walk_at "sz")) | with_reducible refine x_I0 ?_
  | with_reducible refine x_eqS ?_ | with_reducible refine x_eqI ?_ | with_reducible refine x_eqB ?_ | with_reducible refine x_neS ?_ | with_reducible refine x_neI ?_ | with_reducible refine x_neB ?_
  | with_reducible refine x_eqFS ?_ | with_reducible refine x_eqFI ?_
  | with_reducible refine x_ltI ?_ | with_reducible refine x_ltS ?_ | with_reducible refine x_leI ?_ | with_reducible refine x_leS ?_ | with_reducible refine x_inT ?_ | with_reducible refine x_notInT ?_
  | ((with_reducible refine x_slS ?_ ?_); (walk_at "sz")) | ((with_reducible refine x_kRev ?_ ?_); (walk_at "sz"))
  | ((with_reducible refine x_lenS ?_ ?_); (walk_at "sz")) | ((with_reducible apply x_lenT); (walk_at "hp"))
  | ((with_reducible apply x_ixT); (walk_at "hp"); exact rfl)
  | with_reducible refine x_abs ?_ | with_reducible refine x_int ?_ | with_reducible refine x_strS ?_
  | ((with_reducible apply x_isB); (first | exact kit_ty (r := true) (by decide +kernel) | exact kit_ty (r := false) (by decide +kernel))) | ((with_reducible apply x_isI); (first | exact kit_ty (r := true) (by decide +kernel) | exact kit_ty (r := false) (by decide +kernel))) | ((with_reducible apply x_isS); (first | exact kit_ty (r := true) (by decide +kernel) | exact kit_ty (r := false) (by decide +kernel)))
  | ((with_reducible apply x_isT); (walk_at "hp"); (first | exact kit_ty (r := true) (by decide +kernel) | exact kit_ty (r := false) (by decide +kernel)))
  | ((with_reducible apply x_isText); assumption; (walk_at "hp")) | ((with_reducible apply x_isTextS); assumption) | ((with_reducible apply x_isTextI); assumption) | ((with_reducible apply x_isTextN); assumption) | ((with_reducible apply x_kCVT); assumption)
  | ((with_reducible apply x_addL); (walk_at "hp"); (walk_at "hp"); (walk_at "sz"); (intro _ _ _ _ _)) | ((with_reducible apply x_tyL); (walk_at "hp")) | with_reducible refine x_tyS ?_
  | with_reducible refine x_joined ?_ | with_reducible refine x_js ?_ | with_reducible refine x_js0 ?_ | ((with_reducible refine x_kJs ?_ ?_); (walk_at "sz")) | with_reducible refine x_fmt ?_ | ((with_reducible refine x_fmtS ?_ ?_); (walk_at "sz")) | ((with_reducible refine x_fmtI ?_ ?_); omega)
  | with_reducible refine x_rse ?_ | with_reducible refine x_ex ?_ | with_reducible refine x_ex0 ?_ | with_reducible refine x_xf ?_
  | with_reducible refine x_for ?_ | with_reducible refine x_r1 ?_ | with_reducible refine x_r2 ?_ | with_reducible refine x_il ?_ | with_reducible refine x_en ?_ | with_reducible refine x_lc ?_ | with_reducible refine x_next ?_ | dsimp only)
local macro_rules | `(tactic| walk_at "xs") => `(tactic| repeat walk_at "x")
local macro_rules | `(tactic| walk_at "ev0") => `(tactic| (refine ev_run ?_; intro _ _ _ q; walk_at "xs"; refine q _ ?_; walk_at "le"))
local macro_rules | `(tactic| walk_at "ch") => `(tactic| (intro _ _ _ q; walk_at "xs"; refine q _ ?_; walk_at "le"))
local macro_rules | `(tactic| walk_at "ev") => `(tactic| first
  | (focus ((with_reducible refine ev_andV ?_ (fun _ => ?_)); (all_goals walk_at "ev"))) | (focus ((with_reducible refine ev_orV ?_ (fun _ => ?_)); (all_goals walk_at "ev")))
  | ((with_reducible refine ev_notV ?_); walk_at "ev")
  | (focus ((with_reducible apply ev_chain); (focus walk_at "ch"); (focus walk_at "ch"); (focus walk_at "ch"); (focus (intro _ _ _ q; walk_at "x"; exact q)); (focus (intro _ _ _ q; walk_at "x"; exact q))))
  | walk_at "ev0" | skip)
local macro_rules | `(tactic| walk_at "et") => `(tactic| first
  | (focus ((with_reducible refine et_and ?_ (fun _ => ?_)); (all_goals walk_at "et"))) | (focus ((with_reducible refine et_or ?_ (fun _ => ?_)); (all_goals walk_at "et")))
  | ((with_reducible refine et_not ?_); walk_at "et") | ((with_reducible refine et_B ?_); walk_at "ev") | ((with_reducible refine et_T ?_); walk_at "ev"))
local macro_rules | `(tactic| walk_at "hp") => `(tactic| first | assumption | (apply RuleAt.le; assumption; walk_at "hp") | (apply RulesAt.le; assumption; walk_at "hp") | (apply BookAt.le; assumption; walk_at "hp") | (apply RuleAt.lw; assumption; walk_at "hp") | (apply BookAt.lw; assumption; walk_at "hp") | (apply R4s.le; assumption; walk_at "hp") | (apply R4s.lw; assumption; walk_at "hp"))
local macro_rules | `(tactic| walk_at "x") => `(tactic| first
  | ((with_reducible apply x_fO); assumption; (walk_at "hp")) | ((with_reducible apply x_fN); assumption; (walk_at "hp")) | ((with_reducible apply x_fL); assumption; (walk_at "hp")) | ((with_reducible apply x_fR); assumption; (walk_at "hp")) | ((with_reducible apply x_fB); assumption; (walk_at "hp"))
  | ((with_reducible apply x_isRule); assumption; (walk_at "hp")) | ((with_reducible apply x_kCVB); assumption)
  | with_reducible refine x_callO ?_ | with_reducible refine x_kCO ?_ | with_reducible refine x_prop ?_ | with_reducible refine x_max ?_ | with_reducible refine x_intB ?_ | with_reducible refine x_findS ?_ | with_reducible refine x_countS ?_ | with_reducible refine x_isN ?_)
local macro_rules | `(tactic| walk_at "sz") => `(tactic| (simp only [slen_app, elen, len1a, len1b, len1c]; omega))
local macro_rules | `(tactic| walk_at "x") => `(tactic| first
  | with_reducible refine x_sfld ?_ | with_reducible refine x_enL ?_ | with_reducible refine x_enN ?_ | with_reducible refine x_it ?_ | with_reducible refine x_asgT ?_ | ((with_reducible apply x_g2); (walk_at "hp")) | ((with_reducible apply x_g3); (walk_at "hp")) | ((with_reducible apply x_g4); (walk_at "hp"))
  | ((with_reducible apply x_lenL2); (walk_at "hp")) | with_reducible refine x_gseq ?_ | with_reducible refine x_g0 ?_ | with_reducible refine x_gfor ?_ | with_reducible refine x_gps ?_)
local macro_rules | `(tactic| walk_at "x") => `(tactic| first | ((with_reducible refine x_splitS ?_ ?_ ?_); (decide +kernel); (walk_at "sz"); (intro _ _ _ _ _)) | with_reducible refine x_methK ?_ | with_reducible refine x_mkSt ?_ | with_reducible refine x_kMkSt ?_ | ((with_reducible apply x_kStL); (walk_at "hp")))
local macro_rules | `(tactic| walk_at "st") => `(tactic| first | assumption | (apply St.le; assumption; walk_at "st"))
local macro_rules | `(tactic| walk_at "x") => `(tactic| first | ((with_reducible apply x_ixL2); (walk_at "hp"); exact rfl) | ((with_reducible apply x_lenL2); (walk_at "hp")))
local macro_rules | `(tactic| walk_at "hp") => `(tactic| first | assumption | (apply Rs.le; assumption; walk_at "hp") | (apply Rs.lw; assumption; walk_at "hp"))
local macro_rules | `(tactic| walk_at "x") => `(tactic| first | ((with_reducible apply x_r0); (walk_at "hp")) | ((with_reducible apply x_r1'); (walk_at "hp")) | ((with_reducible apply x_r2'); (walk_at "hp")) | ((with_reducible apply x_r3); (walk_at "hp")) | ((with_reducible apply x_lenRs); (walk_at "hp")) | with_reducible refine x_is ?_ | with_reducible refine x_tOwn ?_)
local macro_rules | `(tactic| walk_at "x") => `(tactic| first | with_reducible refine x_mkRG ?_ | ((with_reducible apply x_kOwn); (walk_at "hp")))
def sp__law_text_of (a : Ad) : Sp := fun vs H Q E => ∃ s l g p xs n, vs = [.ref s, .str g, .ref p, .int n] ∧ St H s l ∧ bad g = none ∧ (0 < g.length ∧ g.length ≤ 100) ∧ Rs H p xs ∧ (∀ x ∈ xs, Fine x) ∧ (1 ≤ xs.length ∧ xs.length ≤ 8) ∧ (0 ≤ n ∧ n ≤ 15) ∧
  ∀ z H', bad z = none → (z.length : Int) = n → Lw H H' → St H' s l → Q (.str z) H'
def sp__law_form_of (a : Ad) : Sp := fun vs H Q E => ∃ p x, vs = [.ref p] ∧ Fine x ∧ H p = some (.tup x.vs) ∧ ∀ H', Le H H' → Q (.str (form x)) H'
def sp__law_fits (a : Ad) : Sp := fun vs H Q E => ∃ p x z c i, vs = [.ref p, .str z, .bl c, .int i] ∧ Fine x ∧ Good z c ∧ H p = some (.tup x.vs) ∧ ∀ H', Le H H' → Q (.bl (fits x z c i)) H'
def sp__law_whole (a : Ad) : Sp := fun vs H Q E => ∃ i, vs = [.int i] ∧ ∀ H', Le H H' → Q (.bl true) H'
def sp__law_book_of (a : Ad) : Sp := fun vs H Q E => ∃ p xs, vs = [.ref p] ∧ Rs H p xs ∧ (∀ x ∈ xs, Fine x) ∧ xs.Nodup ∧ (1 ≤ xs.length ∧ xs.length ≤ 8) ∧ ∀ q H', Le H H' → BookAt a H' q xs → Q (.ref q) H'
theorem cut_len_to (z : Str) (n : Nat) : (cutS z none (some ((n : Nat) : Int))).length = min n z.length := by
  rw [← len_l, cut_l, HT.sIx_none, HT.sIx_nat, List.drop_zero, List.length_take, len_l]; omega
theorem cut_len_from (z : Str) (n : Nat) : (cutS z (some ((n : Nat) : Int)) none).length = z.length - n := by
  rw [← len_l, cut_l, HT.sIx_none, HT.sIx_nat, List.length_take, List.length_drop, len_l]; omega
theorem ok__law_text_of {P : Program} {w : World} {K : PySem.W.Frag} {mg : Str → Option Value} {base : Heap} {a : Ad} {f : Addr} {fd : FuncData} (F : FnP K "_law_text_of" "_law_text_of" s__law_text_of f fd) (T : Txt K mg a) (G__law_next : FnG P w K mg base 1 "_law_next" (sp__law_next a)) (G__law_word_of : FnG P w K mg base 2 "_law_word_of" (sp__law_word_of a)) :
    FnOk P w K mg base (L2.CX P w) 3 f fd ["_law_state", "_law_signs", "_law_rules", "_law_many"] (sp__law_text_of a) := by
  refine F.ok sc__law_text_of (fun vs H Q E h => by obtain ⟨s, l, g, p, xs, n, rfl, hs, hb, hg, hr, fx, hx, hn, q⟩ := h; rfl) (fun cdv A outer s H vs Q E hr h => ?_)
  refine ⟨_, (pss_cons (ps_set (i := 4) sc__law_text_of.nd rfl (Or.inl rfl) pe_str)
    (pss_cons (ps_for (by first | exact po | exact PassesOwn.never | exact passes_of rfl) rfl (pi_range1 (by rfl) T.f_range (pa_cons (pv 3) pa_nil)) (pg_name (i := 5) sc__law_text_of.nd rfl (Or.inl rfl)) (pss_one (ps_if (pt_cmpR (op_eqU hr) (pe_callG G__law_next (hr.mono (by decide)) passN rfl (pa_cons (pv 0) (pa_cons pe_int pa_nil))) pe_int (nomark _)) (pss_cons (ps_set (i := 6) sc__law_text_of.nd rfl (Or.inl rfl) (pe_ix ix_seq (pv 2) (pe_callG G__law_next (hr.mono (by decide)) passN rfl (pa_cons (pv 0) (pa_cons (pe_callB call_lenU (by rfl) T.f_len (by decide +kernel) (pa_cons (pv 2) pa_nil)) pa_nil))) (fun _ _ => rfl)))
    (pss_one (ps_set (i := 4) sc__law_text_of.nd rfl (Or.inl rfl) (pe_op op_addU (pe_op op_addU (pe_op op_addU (pv 4) (pe_ix ix_seq (pv 6) pe_int (fun _ _ => rfl))) (pe_ix ix_seq (pv 6) pe_int (fun _ _ => rfl))) (pe_ix ix_seq (pv 6) pe_int (fun _ _ => rfl)))))) (pss_one (ps_set (i := 4) sc__law_text_of.nd rfl (Or.inl rfl) (pe_op op_addU (pv 4) (pe_callG G__law_word_of (hr.mono (by decide)) passN rfl (pa_cons (pv 0) (pa_cons (pv 1) (pa_cons pe_int (pa_cons (pv 5) pa_nil)))))))))))
    (pss_one (ps_ret (pe_slice sl_U (pv 4) po_none (po_some (pv 3))))))), ?_⟩
  obtain ⟨s, l, g, p, xs, n, rfl, hs, hb, hg, hr, fx, hx, hn, q⟩ := h
  have l0 : ("" : Str).length = 0 := rfl
  walk_at "xs"
  refine x_for1 (by omega) (fun i σ' H' => (∃ z v1 v2, σ' = [some (V.ref s), some (V.str g), some (V.ref p), some (V.int n), some (V.str z), v1, v2] ∧ bad z = none ∧ i ≤ z.length ∧ z.length ≤ 7 * i) ∧ Lw H H' ∧ St H' s l) ⟨⟨"", _, _, rfl, rfl, Nat.zero_le _, Nat.le_refl _⟩, Lw.refl H, hs⟩ ?_ ?_
  · rintro i σ' H1 hi ⟨⟨z, v1, v2, rfl, hz, hl1, hl2⟩, e1, s1⟩
    walk_at "xs"
    refine x_ifK ?_
    walk_at "xs"
    refine c_next (by walk_at "st") (by omega) fun r2 H2 hr2 hr2' e2 s2 => ?_
    walk_at "xs"
    refine x_kIf (fun _ => ?_) (fun _ => ?_)
    · walk_at "xs"
      refine c_next (by walk_at "st") (by omega) fun r3 H3 hr3 hr3' e3 s3 => ?_
      have hr4 : Rs H3 p xs := by walk_at "hp"
      refine x_ixRs hr4 ⟨hr3, hr3'⟩ fun r x hx3 hrx => ?_
      have f := fx x (List.mem_of_getElem? hx3)
      have f1 := f.l.2
      have f2 := f.o.2
      have f3 := f.r.2
      walk_at "xs"
      refine ⟨⟨_, _, _, rfl, bad_app (bad_app (bad_app hz f.l.1) f.o.1) f.r.1, by simp only [slen_app]; omega, by simp only [slen_app]; omega⟩, by walk_at "lw", s3⟩
    · walk_at "xs"
      refine c_word (by walk_at "st") hb hg (by omega) fun zl H3 hzl hzl2 e3 s3 => ?_
      walk_at "xs"
      refine ⟨⟨_, _, _, rfl, bad_app hz hzl, by simp only [slen_app]; omega, by simp only [slen_app]; omega⟩, by walk_at "lw", s3⟩
  · rintro σ' H1 ⟨⟨z, v1, v2, rfl, hz, hl1, hl2⟩, e1, s1⟩
    walk_at "xs"
    have hnn : n = ((n.toNat : Nat) : Int) := by omega
    refine q _ H1 (bad_cut hz) ?_ e1 s1
    rw [hnn, cut_len_to]
    omega
theorem ok__law_form_of {P : Program} {w : World} {K : PySem.W.Frag} {mg : Str → Option Value} {base : Heap} {a : Ad} {f : Addr} {fd : FuncData} (F : FnP K "_law_form_of" "_law_form_of" s__law_form_of f fd) (T : Txt K mg a)  :
    FnOk P w K mg base (L2.CX P w) 1 f fd ["_law_rule"] (sp__law_form_of a) := by
  refine F.ok sc__law_form_of (fun vs H Q E h => by obtain ⟨p, x, rfl, f, hp, q⟩ := h; rfl) (fun cdv A outer s H vs Q E hr h => ?_)
  refine ⟨_, (pss_one (ps_ret (pe_op op_addU (pe_op op_addU (pe_op op_addU (pe_op op_addU (pe_op op_addU (pe_op op_addU (pe_ix ix_seq (pv 0) pe_int (fun _ _ => rfl)) pe_str) (pe_ix ix_seq (pv 0) pe_int (fun _ _ => rfl))) pe_str) (pe_ix ix_seq (pv 0) pe_int (fun _ _ => rfl))) pe_str) (pe_ix ix_seq (pv 0) pe_int (fun _ _ => rfl))))), ?_⟩
  obtain ⟨p, x, rfl, f, hp, q⟩ := h
  have f1 := f.l.2
  have f2 := f.o.2
  have f3 := f.r.2
  have f4 := f.n.2
  have c1 : ("(" : Str).length = 1 := by decide +kernel
  have c2 : (">" : Str).length = 1 := by decide +kernel
  have c3 : (")" : Str).length = 1 := by decide +kernel
  walk_at "xs"
  exact q _ (Le.refl _)
theorem forms_sum {xs : List R4} (fx : ∀ x ∈ xs, Fine x) : ((xs.map form).map (·.length)).sum ≤ 13 * xs.length := by
  induction xs with
  | nil => simp
  | cons x r ih =>
    have := ih fun y hy => fx y (List.mem_cons_of_mem _ hy)
    have fx1 := fx x List.mem_cons_self
    have f1 := fx1.l.2
    have f2 := fx1.o.2.2
    have f3 := fx1.r.2
    have f4 := fx1.n.2.2
    have hz := form_len x
    simp only [List.map_cons, List.sum_cons, List.length_cons]
    omega
theorem ok__law_book_of {P : Program} {w : World} {K : PySem.W.Frag} {mg : Str → Option Value} {base : Heap} {a : Ad} {f : Addr} {fd : FuncData} (F : FnP K "_law_book_of" "_law_book_of" s__law_book_of f fd) (T : Txt K mg a) (C_Book_read : CmG P w K mg base 7 a.cBook "read" (sp_Book_read a)) (G__law_form_of : FnG P w K mg base 1 "_law_form_of" (sp__law_form_of a)) :
    FnOk P w K mg base (L2.CX P w) 8 f fd ["_law_rules"] (sp__law_book_of a) := by
  refine F.ok sc__law_book_of (fun vs H Q E h => by obtain ⟨p, xs, rfl, hr, fx, hd, hx, q⟩ := h; rfl) (fun cdv A outer s H vs Q E hr h => ?_)
  refine ⟨_, (pss_one (ps_ret (pe_cmethG C_Book_read (hr.mono (by decide)) passN (pe_glob (v := .ref a.cBook) rfl T.g_Book rfl) (pa_cons (pe_bm PySem.F.plainAttrs_str PySem.F.slot_str_join PySem.F.type_str_join mt_joinU pe_str (pa_cons (pe_lc (own := [("_law_rule", 1)]) (g := gName 1) (tt := tYes) rfl sc__law_book_of.nd (pi_list (pv 0)) (blkOk_by (N := ["_law_rules", "_law_rule"]) (sc := defScope s__law_book_of) (by decide +kernel)) (fun _ _ _ _ _ => pg_name (i := 1) sc__law_book_of.nd rfl (Or.inl rfl)) (fun _ _ _ _ _ => pts_nil) (fun _ _ _ _ _ => (pe_callG G__law_form_of (hr.mono (by decide)) passN rfl (pa_cons (pv 1) pa_nil)))) pa_nil)) pa_nil)))), ?_⟩
  obtain ⟨p, xs, rfl, hr, fx, hd, hx, q⟩ := h
  obtain ⟨us, h1, h2⟩ := hr
  have hlen := h2.len
  have l1 : ("\n" : Str).length = 1 := by decide +kernel
  walk_at "xs"
  refine x_lcLS (fun i => form (xs.getD i ⟨"", "", "", ""⟩)) h1 (by omega) (fun _ => rfl) (fun i v H' hv e Qe qe => ?_) fun r H1 hr e1 hr1 => ?_
  · obtain ⟨t, y, hy, rfl, hty⟩ := h2.at hv
    walk_at "xs"
    have hg : xs.getD i ⟨"", "", "", ""⟩ = y := by rw [List.getD_eq_getElem?_getD, hy]; rfl
    rw [hg] at qe
    exact ⟨t, y, rfl, fx y (List.mem_of_getElem? hy), e.keep hty, qe⟩
  · rw [map_range form _ xs hlen] at hr1
    have hs := forms_sum fx
    walk_at "xs"
    refine x_join (z := "\n") hr1 (by rw [List.length_map, l1]; omega) ?_
    walk_at "xs"
    exact ⟨xs, rfl, fx, hd, hx.1, hx.2, fun b H2 e2 hb => q b H2 (e1.trans e2) hb⟩
theorem flat_one : ∀ (l : List Nat) (f : Nat → Nat), ((l.map fun k => (⟨#[f k]⟩ : Str)).map (·.cps.toList)).flatten = l.map f
  | [], _ => rfl
  | x :: r, f => by
    have ih := flat_one r f
    simp only [List.map_cons, List.flatten_cons, ih]
    rfl
/-- what a closed text shows from a place on -/
theorem round_cut {z : Str} {b : Int} {n : Nat} (hz : 0 < z.length) (hn : n ≤ z.length) :
    Txt.join "" ((List.range n).map fun (k : Nat) => (⟨#[z.cps.getD ((b + (k : Int)).fmod (z.length : Nat)).toNat 0]⟩ : Str)) = cutS (repS z 2) (some (b.fmod z.length)) (some (b.fmod z.length + n)) := by
  refine str_ext ?_
  rw [joinE_l, flat_one, cut_l, rep2]
  have h0 : b.fmod (z.length : Nat) = b % (z.length : Nat) := Int.fmod_eq_emod_of_nonneg _ (by omega)
  have h1 : 0 ≤ b % ((z.length : Nat) : Int) := Int.emod_nonneg _ (by omega)
  have h2 : b % ((z.length : Nat) : Int) < z.length := Int.emod_lt_of_pos _ (by omega)
  obtain ⟨m, hm⟩ := Int.eq_ofNat_of_zero_le h1
  have hml : m < z.length := by omega
  rw [h0, hm, show (m : Int) + (n : Int) = ((m + n : Nat) : Int) by omega, HT.sIx_nat, HT.sIx_nat, slen_app, Nat.min_eq_left (by omega), Nat.min_eq_left (by omega), show m + n - m = n by omega, app_l]
  have hl : z.cps.toList.length = z.length := len_l z
  refine List.ext_getElem? fun k => ?_
  by_cases hk : k < n
  · rw [List.getElem?_map, List.getElem?_range hk, List.getElem?_take_of_lt hk, List.getElem?_drop]
    have e1 : (b + (k : Int)).fmod (z.length : Nat) = (((m + k) % z.length : Nat) : Int) := by
      rw [Int.fmod_eq_emod_of_nonneg _ (by omega), ← Int.emod_add_emod, hm]
      norm_cast
    show some (z.cps.getD ((b + (k : Int)).fmod (z.length : Nat)).toNat 0) = _
    rw [e1, Int.toNat_natCast]
    have g : ∀ j, j < z.length → some (z.cps.getD j 0) = z.cps.toList[j]? := fun j hj => by
      have hj' : j < z.cps.size := hj
      rw [Array.getD_eq_getD_getElem?, Array.getElem?_eq_getElem hj', Option.getD_some, Array.getElem?_toList, Array.getElem?_eq_getElem hj']
    by_cases hmk : m + k < z.length
    · rw [Nat.mod_eq_of_lt hmk, List.getElem?_append_left (by omega), g _ hmk]
    · rw [show (m + k) % z.length = m + k - z.length from by rw [Nat.mod_eq_sub_mod (by omega), Nat.mod_eq_of_lt (by omega)], List.getElem?_append_right (by omega), hl, g _ (by omega)]
  · rw [List.getElem?_eq_none (by simp; omega), List.getElem?_eq_none (by simp; omega)]
theorem ok__law_fits {P : Program} {w : World} {K : PySem.W.Frag} {mg : Str → Option Value} {base : Heap} {a : Ad} {f : Addr} {fd : FuncData} (F : FnP K "_law_fits" "_law_fits" s__law_fits f fd) (T : Txt K mg a)  :
    FnOk P w K mg base (L2.CX P w) 1 f fd ["_law_rule", "_law_shown", "_law_closed", "_law_at"] (sp__law_fits a) := by
  refine F.ok sc__law_fits (fun vs H Q E h => by obtain ⟨p, x, z, c, i, rfl, f, gz, hp, q⟩ := h; rfl) (fun cdv A outer s H vs Q E hr h => ?_)
  refine ⟨_, (pss_cons (ps_set (i := 4) sc__law_fits.nd rfl (Or.inr rfl) (pe_callB call_lenU (by rfl) T.f_len (by decide +kernel) (pa_cons (pv 1) pa_nil)))
    (pss_cons (ps_set (i := 5) sc__law_fits.nd rfl (Or.inl rfl) (pe_op op_addU (pe_op op_addU (pe_ix ix_seq (pv 0) pe_int (fun _ _ => rfl)) (pe_ix ix_seq (pv 0) pe_int (fun _ _ => rfl))) (pe_ix ix_seq (pv 0) pe_int (fun _ _ => rfl))))
    (pss_cons (ps_set (i := 6) sc__law_fits.nd rfl (Or.inr rfl) (pe_op op_sub (pv 3) (pe_callB call_lenU (by rfl) T.f_len (by decide +kernel) (pa_cons (pe_ix ix_seq (pv 0) pe_int (fun _ _ => rfl)) pa_nil))))
    (pss_cons (ps_if (PW.pt (pw_or (pt_not (pt_chain op_leU op_ltU pe_int (pv 3) (pv 4))) (pw_or1 (pt_cmpR op_gt (pe_callB call_lenU (by rfl) T.f_len (by decide +kernel) (pa_cons (pv 5) pa_nil)) (pv 4) (nomark _))))) (pss_one (ps_ret pe_bl)) pss_nil)
    (pss_cons (ps_if (pt_not (pt_val (pv 2))) (pss_one (ps_ret (pe_and (pe_cmpR op_ge (pv 6) pe_int (nomark _)) (pe_one (pe_cmpR (op_eqU hr) (pe_slice sl_U (pv 1) (po_some (pv 6)) (po_some (pe_op op_addU (pv 6) (pe_callB call_lenU (by rfl) T.f_len (by decide +kernel) (pa_cons (pv 5) pa_nil))))) (pv 5) (nomark _)))))) pss_nil)
    (pss_cons (ps_setLc (i := 7) (own := [("_law_k", 8)]) (g := gName 8) (tt := tYes) rfl sc__law_fits.nd rfl rfl (sw_true rfl rfl rfl (by decide +kernel)) (pi_range1 (by rfl) T.f_range (pa_cons (pe_callB call_lenU (by rfl) T.f_len (by decide +kernel) (pa_cons (pv 5) pa_nil)) pa_nil)) (blkOk_by (N := ["_law_rule", "_law_shown", "_law_closed", "_law_at", "_law_many", "_law_pattern", "_law_begin", "_law_row", "_law_k"]) (sc := defScope s__law_fits) (by decide +kernel)) (fun _ _ _ _ _ => pg_name (i := 8) sc__law_fits.nd rfl (Or.inl rfl)) (fun _ _ _ _ _ => pts_nil) (fun _ _ _ _ _ => (pe_ix (ix_seqk K rfl) (pv 1) (pe_op op_modN (pe_callTy call_intU (by rfl) T.f_int (by decide +kernel) (pa_cons (pe_op op_addU (pv 6) (pv 8)) pa_nil)) (pv 4)) (fun _ _ => rfl))))
    (pss_one (ps_ret (pe_cmpR (op_eqU hr) (pe_bm PySem.F.plainAttrs_str PySem.F.slot_str_join PySem.F.type_str_join mt_joinU pe_str (pa_cons (pv 7) pa_nil)) (pv 5) (nomark _)))))))))), ?_⟩
  obtain ⟨p, x, z, c, i, rfl, f, gz, hp, q⟩ := h
  have f1 := f.l.2
  have f2 := f.o.2
  have f3 := f.r.2
  have hz2 : z.length ≤ 120 := gz.2.1
  have l0 : ("" : Str).length = 0 := rfl
  have hpl := pat_len f
  have hL2 := slen_app (x.l ++ x.o) x.r
  have hL3 := slen_app x.l x.o
  walk_at "xs"
  have hpe : x.l ++ x.o ++ x.r = pat x := rfl
  rw [hpe] at hL2 ⊢
  refine x_if (b := (!(decide ((0 : Int) ≤ i) && decide (i < ((z.length : Nat) : Int)))) || decide (((z.length : Nat) : Int) < (((pat x).length : Nat) : Int))) ?_ (fun hb H3 e3 => ?_) (fun hb H3 e3 => ?_)
  · walk_at "et"
  · walk_at "xs"
    have : fits x z c i = false := by
      unfold fits
      rw [if_pos]
      simp only [Bool.or_eq_true, Bool.not_eq_true', Bool.and_eq_false_iff, decide_eq_false_iff_not, decide_eq_true_eq] at hb
      omega
    rw [← this]
    exact q _ e3
  · simp only [Bool.or_eq_false_iff, Bool.not_eq_false', Bool.and_eq_true, decide_eq_false_iff_not, decide_eq_true_eq] at hb
    walk_at "xs"
    have hn : ¬(¬(0 ≤ i ∧ i < (z.length : Int)) ∨ (pat x).length > z.length) := by omega
    refine x_if (b := !c) (by walk_at "et") (fun hc H4 e4 => ?_) (fun hc H4 e4 => ?_)
    · walk_at "xs"
      have : fits x z c i = (decide (i - x.l.length ≥ 0) && decide (cutS z (some (i - x.l.length)) (some (i - x.l.length + (pat x).length)) = pat x)) := by
        unfold fits
        rw [if_neg hn, if_neg (by simpa using hc)]
      rw [this] at q
      refine x_andV ?_ (fun H5 e5 => q _ ((e3.trans e4).trans e5))
      walk_at "ev"
    · walk_at "xs"
      refine x_lcR (f := fun (k : Nat) => ⟨#[z.cps.getD ((i - (x.l.length : Nat) + (k : Int)).fmod (z.length : Nat)).toNat 0]⟩) (by omega) (fun _ => rfl) (fun k H5 hk e5 Qe qe => ?_) fun r H5 n5 e5 h5 => ?_
      · walk_at "xs"
        refine x_I (by show ((z.length : Nat) : Int) ≠ 0; omega) ?_
        refine x_ixN (by omega) ⟨Int.fmod_nonneg_of_pos _ (by omega), Int.fmod_lt_of_pos _ (by omega)⟩ ?_
        exact qe _ (Le.refl _)
      · rw [Int.toNat_natCast] at h5
        walk_at "xs"
        refine x_join h5 ?_ ?_
        · rw [sum_ones' _ (fun y hy => by obtain ⟨k, _, rfl⟩ := List.mem_map.mp hy; rfl), List.length_map, List.length_range, l0]; omega
        rw [round_cut (by omega) (by omega)]
        walk_at "xs"
        have : fits x z c i = decide (cutS (repS z 2) (some ((i - x.l.length).fmod z.length)) (some ((i - x.l.length).fmod z.length + (pat x).length)) = pat x) := by
          unfold fits
          rw [if_neg hn, if_pos (by simpa using hc)]
        rw [this] at q
        exact q _ ((e3.trans e4).trans e5)
theorem ok__law_whole {P : Program} {w : World} {K : PySem.W.Frag} {mg : Str → Option Value} {base : Heap} {a : Ad} {f : Addr} {fd : FuncData} (F : FnP K "_law_whole" "_law_whole" s__law_whole f fd) (T : Txt K mg a)  :
    FnOk P w K mg base (L2.CX P w) 1 f fd ["_law_told"] (sp__law_whole a) := by
  refine F.ok sc__law_whole (fun vs H Q E h => by obtain ⟨i, rfl, q⟩ := h; rfl) (fun cdv A outer s H vs Q E hr h => ?_)
  refine ⟨_, (pss_one (ps_ret (pe_and (pe_callB call_isi (by rfl) T.f_isinstance (by decide +kernel) (pa_cons (pv 0) (pa_cons (pe_bltn (v := .ty "int") (by rfl) T.f_int (by decide +kernel) rfl) pa_nil))) (pe_one (pe_not (pe_callB call_isi (by rfl) T.f_isinstance (by decide +kernel) (pa_cons (pv 0) (pa_cons (pe_bltn (v := .ty "bool") (by rfl) T.f_bool (by decide +kernel) rfl) pa_nil)))))))), ?_⟩
  obtain ⟨i, rfl, q⟩ := h
  walk_at "xs"
  refine x_andV (b := true) (ev_is (ev_andV (b := true) ?_ (fun _ => ev_notV (b := false) ?_)) rfl) q
  · walk_at "ev"
  · walk_at "ev"
end K7
set_option maxHeartbeats 4000000
/-! K7L: k07: steps, places, kinds, shifts: the law's -/
namespace K7
open PySem PySem.Spec PyProof.Rows L2 MC
local macro_rules | `(tactic| walk_at "hp") => `(tactic| first | assumption | (apply Le.keep; assumption; walk_at "hp") | (apply TextAt.le; assumption; walk_at "hp") | (apply Lw.keep; assumption; walk_at "hp"; first | rfl | exact sh_str _ | exact sh_ints _ | exact sh_sgns _) | (apply TextAt.lw; assumption; walk_at "hp"))
local macro_rules | `(tactic| walk_at "le") => `(tactic| first | exact Le.refl _ | assumption | (apply Le.trans'; assumption; walk_at "le"))
local macro_rules | `(tactic| walk_at "lw") => `(tactic| first | exact Lw.refl _ | assumption | exact Le.w (by assumption) | (apply Lw.trans'; (first | assumption | exact Le.w (by assumption)); walk_at "lw"))
local macro_rules | `(tactic| walk_at "sz") => `(tactic| first | omega | (simp only [slen_app]; omega) | (simp only [List.length_append, List.length_cons, List.length_nil, List.length_map, List.length_range]; omega) | omega | (simp; omega) | decide)
local macro_rules | `(tactic| walk_at "x") => `(tactic| first
  | with_reducible refine x_seq ?_ | with_reducible refine x_asg ?_ | with_reducible refine x_ret ?_ | with_reducible refine x_drop ?_
  | ((with_reducible apply x_var); exact rfl) | with_reducible refine x_c ?_ | with_reducible refine x_op ?_ | with_reducible refine x_opS ?_ | with_reducible refine x_un ?_ | with_reducible refine x_neg ?_
  | with_reducible refine x_test ?_ | with_reducible refine x_tB ?_ | with_reducible refine x_kB ?_
  | with_reducible refine x_nil ?_ | with_reducible refine x_cons ?_ | with_reducible refine x_tup ?_ | with_reducible refine x_lst ?_
  | ((with_reducible refine x_kTup ?_ ?_); (walk_at "sz"); (intro _ _ _ _ _)) | ((with_reducible refine x_kLst ?_ ?_); (walk_at "sz"); (intro _ _ _ _ _))
  | with_reducible refine x_fld ?_ | ((with_reducible apply x_fS); assumption; (walk_at "hp")) | ((with_reducible apply x_fC); assumption; (walk_at "hp"))
  | with_reducible refine x_cb ?_ | with_reducible refine x_call ?_ | with_reducible refine x_callE ?_ | with_reducible refine x_bm ?_ | with_reducible refine x_cv ?_
  | with_reducible refine x_meth ?_ | with_reducible refine x_cm ?_ | with_reducible refine x_kCM ?_ | with_reducible refine x_mk ?_ | with_reducible refine x_kMk ?_
  | with_reducible refine x_np ?_ | with_reducible refine x_part ?_ | with_reducible refine x_kPart ?_ | with_reducible refine x_sl ?_ | with_reducible refine x_rev ?_
  | with_reducible refine x_addI ?_ | ((with_reducible refine x_addS ?_ ?_); (walk_at "sz")) | with_reducible refine x_I0 ?_
  | with_reducible refine x_eqS ?_ | with_reducible refine x_eqI ?_ | with_reducible refine x_eqB ?_ | with_reducible refine x_neS ?_ | with_reducible refine x_neI ?_ | with_reducible refine x_neB ?_
  | with_reducible refine x_eqFS ?_ | with_reducible refine x_eqFI ?_
  | with_reducible refine x_ltI ?_ | with_reducible refine x_ltS ?_ | with_reducible refine x_leI ?_ | with_reducible refine x_leS ?_ | with_reducible refine x_inT ?_ | with_reducible refine x_notInT ?_
  | ((with_reducible refine x_slS ?_ ?_); (walk_at "sz")) | ((with_reducible refine x_kRev ?_ ?_); (walk_at "sz"))
  | ((with_reducible refine x_lenS ?_ ?_); (walk_at "sz")) | ((with_reducible apply x_lenT); (walk_at "hp"))
  | ((with_reducible apply x_ixT); (walk_at "hp"); exact rfl)
  | with_reducible refine x_abs ?_ | with_reducible refine x_int ?_ | with_reducible refine x_strS ?_
  | ((with_reducible apply x_isB); (first | exact kit_ty (r := true) (by decide +kernel) | exact kit_ty (r := false) (by decide +kernel))) | ((with_reducible apply x_isI); (first | exact kit_ty (r := true) (by decide +kernel) | exact kit_ty (r := false) (by decide +kernel))) | ((with_reducible apply x_isS); (first | exact kit_ty (r := true) (by decide +kernel) | exact kit_ty (r := false) (by decide +kernel)))
  | ((with_reducible apply x_isT); (walk_at "hp"); (first | exact kit_ty (r := true) (by decide +kernel) | exact kit_ty (r := false) (by decide +kernel)))
  | ((with_reducible apply x_isText); assumption; (walk_at "hp")) | ((with_reducible apply x_isTextS); assumption) | ((with_reducible apply x_isTextI); assumption) | ((with_reducible apply x_isTextN); assumption) | ((with_reducible apply x_kCVT); assumption)
  | ((with_reducible apply x_addL); (walk_at "hp"); (walk_at "hp"); (walk_at "sz"); (intro _ _ _ _ _)) | ((with_reducible apply x_tyL); (walk_at "hp")) | with_reducible refine x_tyS ?_
  | with_reducible refine x_joined ?_ | with_reducible refine x_js ?_ | with_reducible refine x_js0 ?_ | ((with_reducible refine x_kJs ?_ ?_); (walk_at "sz")) | with_reducible refine x_fmt ?_ | ((with_reducible refine x_fmtS ?_ ?_); (walk_at "sz")) | ((with_reducible refine x_fmtI ?_ ?_); omega)
  | with_reducible refine x_rse ?_ | with_reducible refine x_ex ?_ | with_reducible refine x_ex0 ?_ | with_reducible refine x_xf ?_
  | with_reducible refine x_for ?_ | with_reducible refine x_r1 ?_ | with_reducible refine x_r2 ?_ | with_reducible refine x_il ?_ | with_reducible refine x_en ?_ | with_reducible refine x_lc ?_ | with_reducible refine x_next ?_ | dsimp only)
local macro_rules | `(tactic| walk_at "xs") => `(tactic| repeat walk_at "x")
local macro_rules | `(tactic| walk_at "ev0") => `(tactic| (refine ev_run ?_; intro _ _ _ q; walk_at "xs"; refine q _ ?_; walk_at "le"))
local macro_rules | `(tactic| walk_at "ch") => `(tactic| (intro _ _ _ q; walk_at "xs"; refine q _ ?_; walk_at "le"))
local macro_rules | `(tactic| walk_at "ev") => `(tactic| first
  | (focus ((with_reducible refine ev_andV ?_ (fun _ => ?_)); (all_goals walk_at "ev"))) | (focus ((with_reducible refine ev_orV ?_ (fun _ => ?_)); (all_goals walk_at "ev")))
  | ((with_reducible refine ev_notV ?_); walk_at "ev")
  | (focus ((with_reducible apply ev_chain); (focus walk_at "ch"); (focus walk_at "ch"); (focus walk_at "ch"); (focus (intro _ _ _ q; walk_at "x"; exact q)); (focus (intro _ _ _ q; walk_at "x"; exact q))))
  | walk_at "ev0" | skip)
local macro_rules | `(tactic| walk_at "et") => `(tactic| first
  | (focus ((with_reducible refine et_and ?_ (fun _ => ?_)); (all_goals walk_at "et"))) | (focus ((with_reducible refine et_or ?_ (fun _ => ?_)); (all_goals walk_at "et")))
  | ((with_reducible refine et_not ?_); walk_at "et") | ((with_reducible refine et_B ?_); walk_at "ev") | ((with_reducible refine et_T ?_); walk_at "ev"))
local macro_rules | `(tactic| walk_at "hp") => `(tactic| first | assumption | (apply RuleAt.le; assumption; walk_at "hp") | (apply RulesAt.le; assumption; walk_at "hp") | (apply BookAt.le; assumption; walk_at "hp") | (apply RuleAt.lw; assumption; walk_at "hp") | (apply BookAt.lw; assumption; walk_at "hp") | (apply R4s.le; assumption; walk_at "hp") | (apply R4s.lw; assumption; walk_at "hp"))
local macro_rules | `(tactic| walk_at "x") => `(tactic| first
  | ((with_reducible apply x_fO); assumption; (walk_at "hp")) | ((with_reducible apply x_fN); assumption; (walk_at "hp")) | ((with_reducible apply x_fL); assumption; (walk_at "hp")) | ((with_reducible apply x_fR); assumption; (walk_at "hp")) | ((with_reducible apply x_fB); assumption; (walk_at "hp"))
  | ((with_reducible apply x_isRule); assumption; (walk_at "hp")) | ((with_reducible apply x_kCVB); assumption)
  | with_reducible refine x_callO ?_ | with_reducible refine x_kCO ?_ | with_reducible refine x_prop ?_ | with_reducible refine x_max ?_ | with_reducible refine x_intB ?_ | with_reducible refine x_findS ?_ | with_reducible refine x_countS ?_ | with_reducible refine x_isN ?_)
local macro_rules | `(tactic| walk_at "sz") => `(tactic| (simp only [slen_app, elen, len1a, len1b, len1c]; omega))
local macro_rules | `(tactic| walk_at "x") => `(tactic| first
  | with_reducible refine x_sfld ?_ | with_reducible refine x_enL ?_ | with_reducible refine x_enN ?_ | with_reducible refine x_it ?_ | with_reducible refine x_asgT ?_ | ((with_reducible apply x_g2); (walk_at "hp")) | ((with_reducible apply x_g3); (walk_at "hp")) | ((with_reducible apply x_g4); (walk_at "hp"))
  | ((with_reducible apply x_lenL2); (walk_at "hp")) | with_reducible refine x_gseq ?_ | with_reducible refine x_g0 ?_ | with_reducible refine x_gfor ?_ | with_reducible refine x_gps ?_)
local macro_rules | `(tactic| walk_at "x") => `(tactic| first | ((with_reducible refine x_splitS ?_ ?_ ?_); (decide +kernel); (walk_at "sz"); (intro _ _ _ _ _)) | with_reducible refine x_methK ?_ | with_reducible refine x_mkSt ?_ | with_reducible refine x_kMkSt ?_ | ((with_reducible apply x_kStL); (walk_at "hp")))
local macro_rules | `(tactic| walk_at "gz") => `(tactic| first | assumption | omega | exact ⟨Int.fmod_nonneg_of_pos _ (by omega), Int.fmod_lt_of_pos _ (by omega)⟩ | (walk_at "sz"))
local macro_rules | `(tactic| walk_at "o") => `(tactic| first
  | with_reducible exact o_addI | ((with_reducible refine o_addS ?_); (walk_at "gz")) | ((with_reducible refine o_addL ?_); (walk_at "gz")) | with_reducible exact o_sub | with_reducible exact o_gt | with_reducible exact o_ge
  | with_reducible exact o_ltI | with_reducible exact o_leI | with_reducible exact o_ltS | with_reducible exact o_eqI | with_reducible exact o_eqS | with_reducible exact o_eqB | with_reducible exact o_neI | with_reducible exact o_neS | with_reducible exact o_neB
  | with_reducible exact o_isN | with_reducible exact o_isV | with_reducible exact o_inT | with_reducible exact o_notInT | with_reducible exact c_lt | with_reducible exact c_le
  | with_reducible exact o_20 | with_reducible exact o_21 | with_reducible exact o_30 | with_reducible exact o_31 | with_reducible exact o_32 | with_reducible exact o_40 | with_reducible exact o_41 | with_reducible exact o_42 | with_reducible exact o_43
  | with_reducible exact o_R0 | with_reducible exact o_R1 | with_reducible exact o_R2 | with_reducible exact o_R3
  | ((with_reducible refine o_ixL ?_); (walk_at "gz")) | ((with_reducible refine o_ixTL ?_); (walk_at "gz")) | ((with_reducible refine o_ixS ?_ ?_); (walk_at "gz"); (walk_at "gz"))
  | ((with_reducible refine o_mulI ?_); (walk_at "gz")) | ((with_reducible refine o_mulS ?_ ?_ ?_); (walk_at "gz"); (walk_at "gz"); (walk_at "gz"))
  | ((with_reducible refine o_mod ?_); (walk_at "gz")) | ((with_reducible refine o_fdiv ?_); (walk_at "gc")) | ((with_reducible refine o_pow ?_); (walk_at "gc"))
  | ((with_reducible refine o_lenS ?_); (walk_at "gz")) | with_reducible exact o_lenL | with_reducible exact o_lenT | with_reducible exact o_int | with_reducible exact o_intB | with_reducible exact o_abs | with_reducible exact o_strS | with_reducible exact o_listL | with_reducible exact o_max
  | ((with_reducible refine o_slS ?_); (walk_at "gz")) | with_reducible exact o_slL)
local macro_rules | `(tactic| walk_at "gc") => `(tactic| first | assumption | decide | exact ⟨by omega, by omega⟩ | exact ⟨by decide, by decide, by decide⟩)
local macro_rules | `(tactic| walk_at "g") => `(tactic| first
  | ((with_reducible apply p_var); exact rfl)
  | with_reducible exact p_int | with_reducible exact p_str | with_reducible exact p_bl | with_reducible exact p_unit | with_reducible exact p_non
  | ((with_reducible apply q_op); (focus walk_at "g"); (focus walk_at "g"); (walk_at "o"))
  | ((with_reducible apply p_lenO); exact rfl)
  | ((with_reducible apply q_cb1); (focus walk_at "g"); (walk_at "o"))
  | ((with_reducible apply q_cb2); (focus walk_at "g"); (focus walk_at "g"); (walk_at "o"))
  | ((with_reducible apply q_ch); (focus walk_at "g"); (focus walk_at "g"); (focus walk_at "g"); (focus walk_at "o"); (walk_at "o"))
  | ((with_reducible apply q_sl); (focus walk_at "g"); (focus walk_at "g"); (focus walk_at "g"); (walk_at "o"))
  | with_reducible exact o_none | ((with_reducible apply o_some); (walk_at "g"))
  | ((with_reducible apply p_not); (walk_at "g")) | ((with_reducible apply p_and); (focus walk_at "g"); (intro _; walk_at "g")) | ((with_reducible apply p_or); (focus walk_at "g"); (intro _; walk_at "g"))
  | ((with_reducible apply p_neg); (walk_at "g")) | ((with_reducible apply p_rev); (focus walk_at "g"); (walk_at "gz"))
  | ((with_reducible apply t_B); (walk_at "g")) | ((with_reducible apply t_T); (walk_at "g")) | ((with_reducible apply t_not); (walk_at "g"))
  | ((with_reducible apply t_and); (focus walk_at "g"); (intro _; walk_at "g")) | ((with_reducible apply t_or); (focus walk_at "g"); (intro _; walk_at "g"))
  | ((with_reducible apply p_tR); (focus walk_at "g"); (focus walk_at "g"); (focus walk_at "g"); (walk_at "g"))
  | ((with_reducible apply p_t2); (focus walk_at "g"); (walk_at "g")) | ((with_reducible apply p_t3); (focus walk_at "g"); (focus walk_at "g"); (walk_at "g"))
  | ((with_reducible apply p_t4); (focus walk_at "g"); (focus walk_at "g"); (focus walk_at "g"); (walk_at "g"))
  | ((with_reducible apply p_lst); (focus walk_at "g"); (walk_at "gz")) | with_reducible exact a_nil | ((with_reducible apply a_cons); (focus walk_at "g"); (walk_at "g"))
  | ((with_reducible apply p_join); (focus walk_at "g"); (focus walk_at "g"); (walk_at "gz"))
  | ((with_reducible apply n_lcL); (focus walk_at "g"); (focus walk_at "gz"); (intro _ _; walk_at "g"))
  | ((with_reducible apply n_lcR); (focus walk_at "g"); (focus walk_at "gz"); (intro _ h; have h := mem_rng h; walk_at "g"))
  | ((with_reducible apply p_call1); (focus walk_at "g"); (walk_at "pre")) | ((with_reducible apply p_call2); (focus walk_at "g"); (focus walk_at "g"); (walk_at "pre"))
  | ((with_reducible apply p_call3); (focus walk_at "g"); (focus walk_at "g"); (focus walk_at "g"); (walk_at "pre"))
  | ((with_reducible apply p_call4); (focus walk_at "g"); (focus walk_at "g"); (focus walk_at "g"); (focus walk_at "g"); (walk_at "pre"))
  | ((with_reducible apply p_call5); (focus walk_at "g"); (focus walk_at "g"); (focus walk_at "g"); (focus walk_at "g"); (focus walk_at "g"); (walk_at "pre")))
local macro_rules | `(tactic| walk_at "pre") => `(tactic| first | trivial | assumption | (refine ⟨?_, ?_⟩ <;> first | assumption | omega | trivial) | omega)
local macro_rules | `(tactic| walk_at "gz") => `(tactic| (simp only [rngL_len, List.length_append, List.length_map, List.length_cons, List.length_nil]; omega))
abbrev rPr : Rp (Int × Int) := rT2 rInt rInt
def stepsAt (xs : List R4) (z : Str) (c : Bool) (i k : Nat) : List (Int × Int) := ((List.range k).filter fun (k : Nat) => fits (xs.getD k r0) z c ((i : Nat) : Int)).map fun (k : Nat) => (((k : Nat) : Int), ((i : Nat) : Int))
def stepsTo (xs : List R4) (z : Str) (c : Bool) (i : Nat) : List (Int × Int) := (List.range i).flatMap fun (i : Nat) => stepsAt xs z c i xs.length
theorem stepsTo_succ (xs : List R4) (z : Str) (c : Bool) (i : Nat) : stepsTo xs z c (i + 1) = stepsTo xs z c i ++ stepsAt xs z c i xs.length := by
  unfold stepsTo
  rw [List.range_succ, List.flatMap_append]; simp
theorem stepsAt_succ (xs : List R4) (z : Str) (c : Bool) (i k : Nat) : stepsAt xs z c i (k + 1) = stepsAt xs z c i k ++ (if fits (xs.getD k r0) z c ((i : Nat) : Int) = true then [(((k : Nat) : Int), ((i : Nat) : Int))] else []) := by
  unfold stepsAt
  rw [List.range_succ, List.filter_append, List.map_append]
  congr 1
  cases h : fits (xs.getD k r0) z c ((i : Nat) : Int) <;> simp only [List.filter_cons, List.filter_nil, h, if_true, List.map_cons, List.map_nil, Bool.false_eq_true, if_false]
theorem stepsAt_zero (xs : List R4) (z : Str) (c : Bool) (i : Nat) : stepsAt xs z c i 0 = [] := rfl
theorem stepsAt_len (xs : List R4) (z : Str) (c : Bool) (i k : Nat) : (stepsAt xs z c i k).length ≤ k := by
  unfold stepsAt
  rw [List.length_map]
  exact Nat.le_trans (List.length_filter_le _ _) (by simp)
theorem stepsTo_len (xs : List R4) (z : Str) (c : Bool) (i : Nat) : (stepsTo xs z c i).length ≤ i * xs.length := by
  induction i with
  | zero => simp [stepsTo]
  | succ i ih =>
    rw [stepsTo_succ, List.length_append, Nat.succ_mul]
    have := stepsAt_len xs z c i xs.length
    omega
theorem mem_steps {xs : List R4} {z : Str} {c : Bool} {t : Int × Int} {n : Nat} (h : t ∈ stepsTo xs z c n) : isStep xs z c t = true ∧ (0 ≤ t.2 ∧ t.2 < n) := by
  unfold stepsTo at h
  obtain ⟨i, hi, h⟩ := List.mem_flatMap.mp h
  unfold stepsAt at h
  obtain ⟨k, hk, rfl⟩ := List.mem_map.mp h
  obtain ⟨hk1, hk2⟩ := List.mem_filter.mp hk
  have hi := List.mem_range.mp hi
  have hk1 := List.mem_range.mp hk1
  refine ⟨?_, by show (0 : Int) ≤ (i : Int); omega, by show (i : Int) < n; omega⟩
  unfold isStep
  rw [Bool.and_eq_true]
  exact ⟨decide_eq_true ⟨by show (0 : Int) ≤ (k : Int); omega, by show (k : Int) < _; omega⟩, hk2⟩
section
variable {K : PySem.W.Frag} {a : Ad} {Γ : Gm} {ta tb tc td : TE} {x : R4} {z : Str} {c : Bool} {i : Int}
theorem g_fits (ha : Pg ta Γ rR4 x) (hb : Pg tb Γ rStr z) (hc : Pg tc Γ rBool c) (hd : Pg td Γ rInt i) (f : Fine x) (g : Good z c) : Pg (tCallS (sp__law_fits a) EN (tCons ta (tCons tb (tCons tc (tCons td tNil))))) Γ rBool (fits x z c i) := fun A B H O σ s Q q =>
  ha A B H O σ s _ fun v0 H0 e0 g0 => hb A B H0 O σ (s.go e0) _ fun v1 H1 e1 g1 => hc A B H1 O σ ((s.go e0).go e1) _ fun v2 H2 e2 g2 => hd A B H2 O σ (((s.go e0).go e1).go e2) _ fun v3 H3 e3 g3 => by
    obtain ⟨p, rfl, hp⟩ := g0
    cases g1; cases g2; cases g3
    exact ⟨p, x, z, c, i, rfl, f, g, ((e1.trans e2).trans e3).keep (unhid.keep hp), fun H4 e4 => q _ _ ((((e0.trans e1).trans e2).trans e3).trans e4) rfl⟩
end
abbrev sp__law_steps_of (a : Ad) : Sp := spP3 (rList rR4) rStr rBool (rList rPr) (fun xs z c => (∀ x ∈ xs, Fine x) ∧ xs.length ≤ 8 ∧ Good z c) (fun xs z c => stepsTo xs z c z.length)
theorem ok__law_steps_of {P : Program} {w : World} {K : PySem.W.Frag} {mg : Str → Option Value} {base : Heap} {a : Ad} {f : Addr} {fd : FuncData} (F : FnP K "_law_steps_of" "_law_steps_of" s__law_steps_of f fd) (T : Txt K mg a) (G__law_fits : FnG P w K mg base 1 "_law_fits" (sp__law_fits a)) :
    FnOk P w K mg base (L2.CX P w) 2 f fd ["_law_rules", "_law_shown", "_law_closed"] (sp__law_steps_of a) := by
  refine F.ok sc__law_steps_of (fun vs H Q E h => by obtain ⟨O, v0, v1, v2, xs, z, c, rfl, hO, h0, h1, h2, hpre, q⟩ := h; rfl) (fun cdv A outer s H vs Q E hr h => ?_)
  refine ⟨_, (pss_cons (ps_set (i := 3) sc__law_steps_of.nd rfl (Or.inl rfl) (pe_lst pa_nil))
    (pss_cons (ps_for (by first | exact po | exact PassesOwn.never | exact passes_of rfl) rfl (pi_range1 (by rfl) T.f_range (pa_cons (pe_callB call_lenU (by rfl) T.f_len (by decide +kernel) (pa_cons (pv 1) pa_nil)) pa_nil)) (pg_name (i := 4) sc__law_steps_of.nd rfl (Or.inl rfl)) (pss_one (ps_for (by first | exact po | exact PassesOwn.never | exact passes_of rfl) rfl (pi_range1 (by rfl) T.f_range (pa_cons (pe_callB call_lenU (by rfl) T.f_len (by decide +kernel) (pa_cons (pv 0) pa_nil)) pa_nil)) (pg_name (i := 5) sc__law_steps_of.nd rfl (Or.inl rfl)) (pss_one (ps_if (pt_val (pe_callG G__law_fits (hr.mono (by decide)) passN rfl (pa_cons (pe_ix ix_seq (pv 0) (pv 5) (fun _ _ => rfl)) (pa_cons (pv 1) (pa_cons (pv 2) (pa_cons (pv 4) pa_nil)))))) (pss_one (ps_expr (pe_bm PySem.F.plainAttrs_list PySem.F.slot_list_append PySem.F.type_list_append mt_append (pv 3) (pa_cons (pe_tup (pa_cons (pv 5) (pa_cons (pv 4) pa_nil))) pa_nil)))) pss_nil)))))
    (pss_one (ps_ret (pv 3))))), ?_⟩
  obtain ⟨O, v0, v1, v2, xs, z, c, rfl, hO, h0, h1, h2, hpre, q⟩ := h
  obtain ⟨fx, hn, gz⟩ := hpre
  have hz2 : z.length ≤ 120 := gz.2.1
  have s0 := s_start (N := N__law_steps_of) (vs := [v0, v1, v2]) (Γ := [some (.pure (rList rR4) xs), some (.pure rStr z), some (.pure rBool c), none, none, none]) hO ⟨h0, h1, h2, trivial, trivial, trivial, trivial⟩ rfl
  refine s_own rPr s0 fun p O1 σ1 H1 s1 => ?_
  refine x_seq ?_
  refine g_for1 (n := ((z.length : Nat) : Int)) (fun i Γ => ∃ s4 s5, Γ = [some (.pure (rList rR4) xs), some (.pure rStr z), some (.pure rBool c), some (.own p rPr (stepsTo xs z c i)), s4, s5]) (by walk_at "g") (by omega) s1 ⟨_, _, rfl⟩ ?_ ?_
  · rintro i Γk O2 σ2 H2 hi ⟨s4, s5, rfl⟩ s2
    refine g_for1 (n := ((xs.length : Nat) : Int)) (fun k Γ => ∃ s5, Γ = [some (.pure (rList rR4) xs), some (.pure rStr z), some (.pure rBool c), some (.own p rPr (stepsTo xs z c i ++ stepsAt xs z c i k)), some (.pure rInt (i : Int)), s5]) (by walk_at "g") (by omega) s2 ⟨_, by rw [stepsAt_zero, List.append_nil]; rfl⟩ ?_ ?_
    · rintro k Γk O3 σ3 H3 hk ⟨s5, rfl⟩ s3
      have hkx : k < xs.length := by omega
      have fk : Fine (xs.getD k r0) := by rw [List.getD_eq_getElem?_getD, List.getElem?_eq_getElem hkx]; exact fx _ (List.getElem_mem _)
      have b1 := stepsTo_len xs z c i
      have b2 := stepsAt_len xs z c i k
      have b3 : i * xs.length ≤ 120 * 8 := Nat.mul_le_mul (by omega) hn
      have hS := stepsAt_succ xs z c i k
      refine g_if (b := fits (xs.getD k r0) z c (i : Int)) (t_T (g_fits (q_op (p_var rfl) (p_var rfl) (o_ixL ⟨by omega, by omega⟩)) (p_var rfl) (p_var rfl) (p_var rfl) fk gz)) s3 (fun hb H4 s4 => ?_) (fun hb H4 s4 => ?_)
      · rw [if_pos hb] at hS
        refine g_app (r := rPr) rfl (x := ((k : Int), (i : Int))) (by walk_at "g") (by rw [List.length_append]; omega) s4 fun σ5 H5 s5 => ?_
        refine nx_mk ⟨some (.pure rInt ((k : Nat) : Int)), ?_⟩ s5
        rw [hS, ← List.append_assoc]; rfl
      · rw [if_neg (by rw [hb]; exact Bool.false_ne_true), List.append_nil] at hS
        refine nx_mk ⟨some (.pure rInt ((k : Nat) : Int)), ?_⟩ s4
        rw [hS]; rfl
    · rintro Γn O3 σ3 H3 ⟨s5, rfl⟩ s3
      refine nx_mk ⟨some (.pure rInt ((i : Nat) : Int)), s5, ?_⟩ s3
      rw [stepsTo_succ]; rfl
  · rintro Γn O2 σ2 H2 ⟨s4, s5, rfl⟩ s2
    exact g_retO rfl s2 fun v H' e hv => q v H' e hv

/-! ### places -/
theorem rngL_add (lo : Int) (m n : Nat) : rngL lo (m + n) = rngL lo m ++ rngL (lo + m) n := by
  unfold rngL
  rw [List.range_add, List.map_append, List.map_map]
  congr 1
  refine List.map_congr_left fun k _ => ?_
  simp only [Function.comp]
  omega
theorem fmod_inj {u v : Int} {n : Nat} (hn : 0 < n) (h : u.fmod (n : Int) = v.fmod (n : Int)) (h1 : -(n : Int) < u - v) (h2 : u - v < n) : u = v := by
  rw [Int.fmod_eq_emod_of_nonneg _ (by omega), Int.fmod_eq_emod_of_nonneg _ (by omega)] at h
  have h3 := Int.emod_eq_emod_iff_emod_sub_eq_zero.mp h
  have h4 := Int.dvd_of_emod_eq_zero h3
  have h5 : u - v = 0 := Int.eq_zero_of_dvd_of_natAbs_lt_natAbs h4 (by omega)
  omega
theorem cutL_nat {α : Type} (xs ys zs : List α) {i j : Nat} (hi : i = xs.length) (hj : j = xs.length + ys.length) : cutL (xs ++ ys ++ zs) (some ((i : Nat) : Int)) (some ((j : Nat) : Int)) = ys := by
  subst hi hj
  unfold cutL
  rw [HT.sIx_nat, HT.sIx_nat, List.length_append, List.length_append, Nat.min_eq_left (by omega), Nat.min_eq_left (by omega), List.append_assoc, List.drop_left, Nat.add_sub_cancel_left, List.take_left]
/-- the row of the law -/
def rowL (x : R4) (n i : Int) : List Int := (rngL 0 (((x.l.length : Nat) : Int) + ((x.o.length : Nat) : Int) + ((x.r.length : Nat) : Int)).toNat).map fun k => (i - ((x.l.length : Nat) : Int) + k).fmod n
theorem rowL_eq (x : R4) (n i : Int) : rowL x n i = (rngL (i - x.l.length) x.l.length).map (fun k => k.fmod n) ++ (takenL x i).map (fun k => k.fmod n) ++ (rngL (i + x.o.length) x.r.length).map (fun k => k.fmod n) := by
  unfold rowL takenL
  rw [← List.map_append, ← List.map_append, show (((x.l.length : Nat) : Int) + ((x.o.length : Nat) : Int) + ((x.r.length : Nat) : Int)).toNat = x.l.length + x.o.length + x.r.length by omega]
  have e : rngL (i - x.l.length) x.l.length ++ rngL i x.o.length ++ rngL (i + x.o.length) x.r.length = rngL (i - x.l.length) (x.l.length + x.o.length + x.r.length) := by
    rw [rngL_add, rngL_add]
    rw [show i - ((x.l.length : Nat) : Int) + ((x.l.length : Nat) : Int) = i by omega, show i - ((x.l.length : Nat) : Int) + ((x.l.length + x.o.length : Nat) : Int) = i + x.o.length by omega]
  rw [e]
  unfold rngL
  rw [List.map_map, List.map_map]
  refine List.map_congr_left fun k _ => ?_
  simp only [Function.comp]
  congr 1
  omega
def takL (x : R4) (n i : Int) : List Int := cutL (rowL x n i) (some ((x.l.length : Nat) : Int)) (some (((x.l.length : Nat) : Int) + ((x.o.length : Nat) : Int)))
theorem takL_eq (x : R4) (n i : Int) : takL x n i = (takenL x i).map (fun k => k.fmod n) := by
  unfold takL
  rw [rowL_eq, show ((x.l.length : Nat) : Int) + ((x.o.length : Nat) : Int) = ((x.l.length + x.o.length : Nat) : Int) by omega]
  exact cutL_nat _ _ _ (by rw [List.length_map, rngL_len]) (by rw [List.length_map, rngL_len, List.length_map, takenL_len])
theorem besL_eq (x : R4) (n : Nat) (i : Int) (hn : 0 < n) (hp : (pat x).length ≤ n) : ((rowL x n i).filter fun p => !decide (p ∈ takL x n i)) = (besideL x i).map (fun k => k.fmod n) := by
  have hps := pat_sum x
  rw [rowL_eq, takL_eq, List.filter_append, List.filter_append]
  have hin : ((takenL x i).map (fun k => k.fmod (n : Int))).filter (fun p => !decide (p ∈ (takenL x i).map (fun k => k.fmod (n : Int)))) = [] := by
    rw [List.filter_eq_nil_iff]
    intro p hp
    simp [hp]
  have hout : ∀ lo m, (∀ k ∈ rngL lo m, ∀ t ∈ takenL x i, k ≠ t ∧ -(n : Int) < k - t ∧ k - t < n) → ((rngL lo m).map (fun k => k.fmod (n : Int))).filter (fun p => !decide (p ∈ (takenL x i).map (fun k => k.fmod (n : Int)))) = (rngL lo m).map (fun k => k.fmod (n : Int)) := by
    intro lo m h
    rw [List.filter_eq_self]
    intro p hp
    obtain ⟨k, hk, rfl⟩ := List.mem_map.mp hp
    simp only [Bool.not_eq_true', decide_eq_false_iff_not]
    intro ht
    obtain ⟨t, ht, e⟩ := List.mem_map.mp ht
    obtain ⟨g1, g2, g3⟩ := h k hk t ht
    exact g1 (fmod_inj hn e.symm g2 g3)
  rw [hin, List.append_nil, hout _ _ ?_, hout _ _ ?_]
  · unfold besideL; rw [List.map_append]
  · intro k hk t ht
    rw [mem_rngL] at hk
    rw [mem_tak] at ht
    omega
  · intro k hk t ht
    rw [mem_rngL] at hk
    rw [mem_tak] at ht
    omega
abbrev rLL : Rp (List (List Int)) := rList (rList rInt)
abbrev sp__law_places (a : Ad) : Sp := spP3 rR4 rInt rInt rLL (fun x n i => Fine x ∧ (((pat x).length : Nat) : Int) ≤ n ∧ n ≤ 1000 ∧ SmP i) (fun x n i => [(plsIn n.toNat x i).1, (plsIn n.toNat x i).2])
theorem ok__law_places {P : Program} {w : World} {K : PySem.W.Frag} {mg : Str → Option Value} {base : Heap} {a : Ad} {f : Addr} {fd : FuncData} (F : FnP K "_law_places" "_law_places" s__law_places f fd) (T : Txt K mg a)  :
    FnOk P w K mg base (L2.CX P w) 1 f fd ["_law_rule", "_law_many", "_law_at"] (sp__law_places a) := by
  refine F.ok sc__law_places (fun vs H Q E h => by obtain ⟨O, v0, v1, v2, x, n, i, rfl, hO, h0, h1, h2, hpre, q⟩ := h; rfl) (fun cdv A outer s H vs Q E hr h => ?_)
  refine ⟨_, (pss_cons (ps_set (i := 3) sc__law_places.nd rfl (Or.inr rfl) (pe_op op_sub (pv 2) (pe_callB call_lenU (by rfl) T.f_len (by decide +kernel) (pa_cons (pe_ix ix_seq (pv 0) pe_int (fun _ _ => rfl)) pa_nil))))
    (pss_cons (ps_set (i := 4) sc__law_places.nd rfl (Or.inl rfl) (pe_op op_addU (pe_op op_addU (pe_callB call_lenU (by rfl) T.f_len (by decide +kernel) (pa_cons (pe_ix ix_seq (pv 0) pe_int (fun _ _ => rfl)) pa_nil)) (pe_callB call_lenU (by rfl) T.f_len (by decide +kernel) (pa_cons (pe_ix ix_seq (pv 0) pe_int (fun _ _ => rfl)) pa_nil))) (pe_callB call_lenU (by rfl) T.f_len (by decide +kernel) (pa_cons (pe_ix ix_seq (pv 0) pe_int (fun _ _ => rfl)) pa_nil))))
    (pss_cons (ps_setLc (i := 5) (own := [("_law_k", 7)]) (g := gName 7) (tt := tYes) rfl sc__law_places.nd rfl rfl (sw_true rfl rfl rfl (by decide +kernel)) (pi_range1 (by rfl) T.f_range (pa_cons (pv 4) pa_nil)) (blkOk_by (N := ["_law_rule", "_law_many", "_law_at", "_law_begin", "_law_size", "_law_row", "_law_takes", "_law_k", "_law_place"]) (sc := defScope s__law_places) (by decide +kernel)) (fun _ _ _ _ _ => pg_name (i := 7) sc__law_places.nd rfl (Or.inl rfl)) (fun _ _ _ _ _ => pts_nil) (fun _ _ _ _ _ => (pe_op op_modN (pe_callTy call_intU (by rfl) T.f_int (by decide +kernel) (pa_cons (pe_op op_addU (pv 3) (pv 7)) pa_nil)) (pv 1))))
    (pss_cons (ps_set (i := 6) sc__law_places.nd rfl (Or.inr rfl) (pe_slice sl_U (pv 5) (po_some (pe_callB call_lenU (by rfl) T.f_len (by decide +kernel) (pa_cons (pe_ix ix_seq (pv 0) pe_int (fun _ _ => rfl)) pa_nil))) (po_some (pe_op op_addU (pe_callB call_lenU (by rfl) T.f_len (by decide +kernel) (pa_cons (pe_ix ix_seq (pv 0) pe_int (fun _ _ => rfl)) pa_nil)) (pe_callB call_lenU (by rfl) T.f_len (by decide +kernel) (pa_cons (pe_ix ix_seq (pv 0) pe_int (fun _ _ => rfl)) pa_nil))))))
    (pss_one (ps_ret (pe_lst (pa_cons (pe_lc (own := [("_law_place", 8)]) (g := gName 8) rfl sc__law_places.nd (pi_list (pv 5)) (blkOk_by (N := ["_law_rule", "_law_many", "_law_at", "_law_begin", "_law_size", "_law_row", "_law_takes", "_law_k", "_law_place"]) (sc := defScope s__law_places) (by decide +kernel)) (fun _ _ _ _ _ => pg_name (i := 8) sc__law_places.nd rfl (Or.inl rfl)) (fun _ _ _ _ _ => pts_one (pt_cmpR (op_notInDk K rfl hr) (pv 8) (pv 6) (by rfl))) (fun _ _ _ _ _ => (pv 8))) (pa_cons (pv 6) pa_nil))))))))), ?_⟩
  obtain ⟨O, v0, v1, v2, x, n, i, rfl, hO, h0, h1, h2, hpre, q⟩ := h
  obtain ⟨f, hpn, hn, hi⟩ := hpre
  have f1 := f.l.2
  have f2 := f.o.2
  have f3 := f.r.2
  have hps := pat_sum x
  have hi2 : -1000 ≤ i ∧ i ≤ 1000 := hi
  have s0 := s_start (N := N__law_places) (vs := [v0, v1, v2]) (Γ := [some (.pure rR4 x), some (.pure rInt n), some (.pure rInt i), none, none, none, none, none, none]) hO ⟨h0, h1, h2, trivial, trivial, trivial, trivial, trivial, trivial, trivial⟩ rfl
  refine s_set (x := i - ((x.l.length : Nat) : Int)) s0 (by walk_at "g") fun σ1 H1 s1 => ?_
  refine s_set (x := ((x.l.length : Nat) : Int) + ((x.o.length : Nat) : Int) + ((x.r.length : Nat) : Int)) s1 (by walk_at "g") fun σ2 H2 s2 => ?_
  refine s_set (x := rowL x n i) s2 (n_lcR (p_var rfl) (by omega) fun k _ => q_op (q_cb1 (q_op (p_var rfl) (p_var rfl) o_addI) o_int) (p_var rfl) (o_mod (by omega))) fun σ3 H3 s3 => ?_
  refine s_set (x := takL x n i) s3 (q_sl (p_var rfl) (by walk_at "g") (by walk_at "g") o_slL) fun σ4 H4 s4 => ?_
  have hlen : (rowL x n i).length ≤ 7 := by rw [rowL, List.length_map, rngL_len]; omega
  refine s_ret s4 (p_lst (a_cons (n_lcLF (p_var rfl) (by omega) (fun k _ => t_T (q_op (p_var rfl) (p_var rfl) (o_notInL trivial fun _ _ => trivial))) fun k _ _ => p_var rfl) (a_cons (p_var rfl) a_nil)) (by show 2 ≤ 1000000; decide)) ?_ q
  obtain ⟨m, rfl⟩ : ∃ m : Nat, n = (m : Int) := ⟨n.toNat, by omega⟩
  have hb := besL_eq x m i (by omega) (by omega)
  have ht := takL_eq x m i
  rw [List.map_id', hb, ht]
  rfl
theorem meet_law (p r : List Int) : (!decide ((p.filter fun k => decide (k ∈ r)).map (fun k => k) = [])) = meetL p r := by
  rw [List.map_id']
  cases h : meetL p r with
  | true =>
    obtain ⟨k, h1, h2⟩ := meet_iff.mp h
    rw [Bool.not_eq_true', decide_eq_false_iff_not]
    intro e
    have : k ∈ p.filter fun k => decide (k ∈ r) := List.mem_filter.mpr ⟨h1, decide_eq_true h2⟩
    rw [e] at this; cases this
  | false =>
    rw [Bool.not_eq_false', decide_eq_true_eq, List.filter_eq_nil_iff]
    intro k hk hr
    have : meetL p r = true := meet_iff.mpr ⟨k, hk, of_decide_eq_true hr⟩
    rw [h] at this; cases this
abbrev sp__law_meet (a : Ad) : Sp := spP2 (rList rInt) (rList rInt) rBool (fun p q => p.length ≤ 100 ∧ q.length ≤ 100) meetL
theorem ok__law_meet {P : Program} {w : World} {K : PySem.W.Frag} {mg : Str → Option Value} {base : Heap} {a : Ad} {f : Addr} {fd : FuncData} (F : FnP K "_law_meet" "_law_meet" s__law_meet f fd) (T : Txt K mg a)  :
    FnOk P w K mg base (L2.CX P w) 1 f fd ["_law_one", "_law_two"] (sp__law_meet a) := by
  refine F.ok sc__law_meet (fun vs H Q E h => by obtain ⟨O, v0, v1, p, r, rfl, hO, h0, h1, hpre, q⟩ := h; rfl) (fun cdv A outer s H vs Q E hr h => ?_)
  refine ⟨_, (pss_one (ps_ret (pe_cmpR (op_neU hr) (pe_lc (own := [("_law_place", 2)]) (g := gName 2) rfl sc__law_meet.nd (pi_list (pv 0)) (blkOk_by (N := ["_law_one", "_law_two", "_law_place"]) (sc := defScope s__law_meet) (by decide +kernel)) (fun _ _ _ _ _ => pg_name (i := 2) sc__law_meet.nd rfl (Or.inl rfl)) (fun _ _ _ _ _ => pts_one (pt_cmpR (op_inDk K rfl hr) (pv 2) (pv 1) (by rfl))) (fun _ _ _ _ _ => (pv 2))) (pe_lst pa_nil) (nomark _)))), ?_⟩
  obtain ⟨O, v0, v1, p, r, rfl, hO, h0, h1, hpre, q⟩ := h
  obtain ⟨hp, hq⟩ := hpre
  have s0 := s_start (N := N__law_meet) (vs := [v0, v1]) (Γ := [some (.pure (rList rInt) p), some (.pure (rList rInt) r), none]) hO ⟨h0, h1, trivial, trivial⟩ rfl
  exact s_ret s0 (q_op (n_lcLF (p_var rfl) (by omega) (fun k _ => t_T (q_op (p_var rfl) (p_var rfl) (o_inL trivial fun _ _ => trivial))) fun k _ _ => p_var rfl) (p_lst a_nil (by decide)) (o_neD (fun _ _ => trivial) fun _ h => by cases h)) (meet_law p r) q
def k2 (p : List (List Int)) : List Int × List Int := (p.getD 0 [], p.getD 1 [])
abbrev sp__law_kind_of (a : Ad) : Sp := spP2 rLL rLL (rOpt rStr) (fun p q => (p.length = 2 ∧ SmL (k2 p)) ∧ (q.length = 2 ∧ SmL (k2 q))) fun p q => kindOf (k2 p) (k2 q)
theorem ok__law_kind_of {P : Program} {w : World} {K : PySem.W.Frag} {mg : Str → Option Value} {base : Heap} {a : Ad} {f : Addr} {fd : FuncData} (F : FnP K "_law_kind_of" "_law_kind_of" s__law_kind_of f fd) (T : Txt K mg a) (G__law_meet : FnG P w K mg base 1 "_law_meet" (sp__law_meet a)) :
    FnOk P w K mg base (L2.CX P w) 2 f fd ["_law_one", "_law_two"] (sp__law_kind_of a) := by
  refine F.ok sc__law_kind_of (fun vs H Q E h => by obtain ⟨O, v0, v1, p, r, rfl, hO, h0, h1, hpre, q⟩ := h; rfl) (fun cdv A outer s H vs Q E hr h => ?_)
  refine ⟨_, (pss_cons (ps_if (pt_val (pe_callG G__law_meet (hr.mono (by decide)) passN rfl (pa_cons (pe_ix ix_seq (pv 0) pe_int (fun _ _ => rfl)) (pa_cons (pe_ix ix_seq (pv 1) pe_int (fun _ _ => rfl)) pa_nil)))) (pss_one (ps_ret pe_str)) pss_nil)
    (pss_cons (ps_if (PW.pt (pw_and (pt_val (pe_callG G__law_meet (hr.mono (by decide)) passN rfl (pa_cons (pe_ix ix_seq (pv 0) pe_int (fun _ _ => rfl)) (pa_cons (pe_ix ix_seq (pv 1) pe_int (fun _ _ => rfl)) pa_nil)))) (pw_and1 (pt_val (pe_callG G__law_meet (hr.mono (by decide)) passN rfl (pa_cons (pe_ix ix_seq (pv 1) pe_int (fun _ _ => rfl)) (pa_cons (pe_ix ix_seq (pv 0) pe_int (fun _ _ => rfl)) pa_nil))))))) (pss_one (ps_ret pe_str)) pss_nil)
    (pss_cons (ps_if (pt_val (pe_callG G__law_meet (hr.mono (by decide)) passN rfl (pa_cons (pe_ix ix_seq (pv 0) pe_int (fun _ _ => rfl)) (pa_cons (pe_ix ix_seq (pv 1) pe_int (fun _ _ => rfl)) pa_nil)))) (pss_one (ps_ret pe_str)) pss_nil)
    (pss_cons (ps_if (pt_val (pe_callG G__law_meet (hr.mono (by decide)) passN rfl (pa_cons (pe_ix ix_seq (pv 1) pe_int (fun _ _ => rfl)) (pa_cons (pe_ix ix_seq (pv 0) pe_int (fun _ _ => rfl)) pa_nil)))) (pss_one (ps_ret pe_str)) pss_nil)
    (pss_one (ps_ret pe_non)))))), ?_⟩
  obtain ⟨O, v0, v1, p, r, rfl, hO, h0, h1, hpre, q⟩ := h
  obtain ⟨⟨hp, hp1, hp2⟩, ⟨hr0, hr1, hr2⟩⟩ := hpre
  have s0 := s_start (N := N__law_kind_of) (vs := [v0, v1]) (Γ := [some (.pure rLL p), some (.pure rLL r)]) hO ⟨h0, h1, trivial⟩ rfl
  have ip0 : ∀ {Γ : Gm}, Γ[0]? = some (some (.pure rLL p)) → Pg (tOp (rIx K) (tVar 0) (tC (.int 0))) Γ (rList rInt) (k2 p).1 := fun h => q_op (p_var h) p_int (o_ixL ⟨by decide, by omega⟩)
  have ip1 : ∀ {Γ : Gm}, Γ[0]? = some (some (.pure rLL p)) → Pg (tOp (rIx K) (tVar 0) (tC (.int 1))) Γ (rList rInt) (k2 p).2 := fun h => q_op (p_var h) p_int (o_ixL ⟨by decide, by omega⟩)
  have ir0 : ∀ {Γ : Gm}, Γ[1]? = some (some (.pure rLL r)) → Pg (tOp (rIx K) (tVar 1) (tC (.int 0))) Γ (rList rInt) (k2 r).1 := fun h => q_op (p_var h) p_int (o_ixL ⟨by decide, by omega⟩)
  have ir1 : ∀ {Γ : Gm}, Γ[1]? = some (some (.pure rLL r)) → Pg (tOp (rIx K) (tVar 1) (tC (.int 1))) Γ (rList rInt) (k2 r).2 := fun h => q_op (p_var h) p_int (o_ixL ⟨by decide, by omega⟩)
  apply s_ifN s0 (b := meetL (k2 p).2 (k2 r).2)
  · exact t_T (p_call2 (ip1 rfl) (ir1 rfl) ⟨hp2, hr2⟩)
  · intro hb H1 s1
    exact s_ret s1 (p_some p_str) (by show _ = kindOf (k2 p) (k2 r); unfold kindOf; rw [if_pos hb]) q
  intro hb H1 s1
  apply s_ifN s1 (b := meetL (k2 p).1 (k2 r).2 && meetL (k2 r).1 (k2 p).2)
  · exact t_and (t_T (p_call2 (ip0 rfl) (ir1 rfl) ⟨hp1, hr2⟩)) fun _ => t_T (p_call2 (ir0 rfl) (ip1 rfl) ⟨hr1, hp2⟩)
  · intro hb2 H4 s4
    exact s_ret s4 (p_some p_str) (by show _ = kindOf (k2 p) (k2 r); unfold kindOf; rw [hb, if_neg Bool.false_ne_true, if_pos hb2]) q
  intro hb2 H4 s4
  apply s_ifN s4 (b := meetL (k2 p).1 (k2 r).2)
  · exact t_T (p_call2 (ip0 rfl) (ir1 rfl) ⟨hp1, hr2⟩)
  · intro hb3 H5 s5
    exact s_ret s5 (p_some p_str) (by show _ = kindOf (k2 p) (k2 r); unfold kindOf; rw [hb, if_neg Bool.false_ne_true, hb2, if_neg Bool.false_ne_true, if_pos hb3]) q
  intro hb3 H5 s5
  apply s_ifN s5 (b := meetL (k2 r).1 (k2 p).2)
  · exact t_T (p_call2 (ir0 rfl) (ip1 rfl) ⟨hr1, hp2⟩)
  · intro hb4 H6 s6
    exact s_ret s6 (p_some p_str) (by show _ = kindOf (k2 p) (k2 r); unfold kindOf; rw [hb, if_neg Bool.false_ne_true, hb2, if_neg Bool.false_ne_true, hb3, if_neg Bool.false_ne_true, if_pos hb4]) q
  intro hb4 H6 s6
  exact s_ret s6 p_non (by show _ = kindOf (k2 p) (k2 r); unfold kindOf; rw [hb, if_neg Bool.false_ne_true, hb2, if_neg Bool.false_ne_true, hb3, if_neg Bool.false_ne_true, hb4, if_neg Bool.false_ne_true]) q
/-- a step of a text, as far as the places go -/
def DueOk (xs : List R4) (z : Str) (u : Int × Int) : Prop := (0 ≤ u.1 ∧ u.1 < xs.length) ∧ Fine (xs.getD u.1.toNat r0) ∧ (pat (xs.getD u.1.toNat r0)).length ≤ z.length ∧ SmP u.2
theorem sm_plsIn {x : R4} (n : Nat) (i : Int) (f : Fine x) : SmL (plsIn n x i) := by
  have f1 := f.l.2
  have f2 := f.o.2
  have f3 := f.r.2
  have b1 := besideL_len x i
  have b2 := takenL_len x i
  refine ⟨?_, ?_⟩
  · show ((besideL x i).map _).length ≤ 100
    rw [List.length_map]; omega
  · show ((takenL x i).map _).length ≤ 100
    rw [List.length_map]; omega
abbrev sp__law_due_of (a : Ad) : Sp := spP4 (rList rR4) rStr rPr rPr (rOpt rStr) (fun xs z u v => DueOk xs z u ∧ DueOk xs z v ∧ z.length ≤ 120) (fun xs z u v => aDist xs z false u v)
theorem ok__law_due_of {P : Program} {w : World} {K : PySem.W.Frag} {mg : Str → Option Value} {base : Heap} {a : Ad} {f : Addr} {fd : FuncData} (F : FnP K "_law_due_of" "_law_due_of" s__law_due_of f fd) (T : Txt K mg a) (G__law_kind_of : FnG P w K mg base 2 "_law_kind_of" (sp__law_kind_of a)) (G__law_places : FnG P w K mg base 1 "_law_places" (sp__law_places a)) :
    FnOk P w K mg base (L2.CX P w) 3 f fd ["_law_rules", "_law_shown", "_law_one", "_law_two"] (sp__law_due_of a) := by
  refine F.ok sc__law_due_of (fun vs H Q E h => by obtain ⟨O, v0, v1, v2, v3, xs, z, u, v, rfl, hO, h0, h1, h2, h3, hpre, q⟩ := h; rfl) (fun cdv A outer s H vs Q E hr h => ?_)
  refine ⟨_, (pss_cons (ps_set (i := 4) sc__law_due_of.nd rfl (Or.inl rfl) (pe_callG G__law_places (hr.mono (by decide)) passN rfl (pa_cons (pe_ix ix_seq (pv 0) (pe_ix ix_seq (pv 2) pe_int (fun _ _ => rfl)) (fun _ _ => rfl)) (pa_cons (pe_callB call_lenU (by rfl) T.f_len (by decide +kernel) (pa_cons (pv 1) pa_nil)) (pa_cons (pe_ix ix_seq (pv 2) pe_int (fun _ _ => rfl)) pa_nil)))))
    (pss_cons (ps_set (i := 5) sc__law_due_of.nd rfl (Or.inl rfl) (pe_callG G__law_places (hr.mono (by decide)) passN rfl (pa_cons (pe_ix ix_seq (pv 0) (pe_ix ix_seq (pv 3) pe_int (fun _ _ => rfl)) (fun _ _ => rfl)) (pa_cons (pe_callB call_lenU (by rfl) T.f_len (by decide +kernel) (pa_cons (pv 1) pa_nil)) (pa_cons (pe_ix ix_seq (pv 3) pe_int (fun _ _ => rfl)) pa_nil)))))
    (pss_one (ps_ret (pe_callG G__law_kind_of (hr.mono (by decide)) passN rfl (pa_cons (pv 4) (pa_cons (pv 5) pa_nil))))))), ?_⟩
  obtain ⟨O, v0, v1, v2, v3, xs, z, u, v, rfl, hO, h0, h1, h2, h3, hpre, q⟩ := h
  obtain ⟨⟨hu1, hu2, hu3, hu4⟩, ⟨hv1, hv2, hv3, hv4⟩, hz⟩ := hpre
  have s0 := s_start (N := N__law_due_of) (vs := [v0, v1, v2, v3]) (Γ := [some (.pure (rList rR4) xs), some (.pure rStr z), some (.pure rPr u), some (.pure rPr v), none, none]) hO ⟨h0, h1, h2, h3, trivial, trivial, trivial⟩ rfl
  refine s_set (x := [(plsIn z.length (xs.getD u.1.toNat r0) u.2).1, (plsIn z.length (xs.getD u.1.toNat r0) u.2).2]) s0 (p_call3 (q_op (p_var rfl) (q_op (p_var rfl) p_int o_20) (o_ixL hu1)) (q_cb1 (p_var rfl) (o_lenS (by omega))) (q_op (p_var rfl) p_int o_21) ⟨hu2, by show (((pat (xs.getD u.1.toNat r0)).length : Nat) : Int) ≤ ((z.length : Nat) : Int); omega, by show ((z.length : Nat) : Int) ≤ 1000; omega, hu4⟩) fun σ1 H1 s1 => ?_
  refine s_set (x := [(plsIn z.length (xs.getD v.1.toNat r0) v.2).1, (plsIn z.length (xs.getD v.1.toNat r0) v.2).2]) s1 (p_call3 (q_op (p_var rfl) (q_op (p_var rfl) p_int o_20) (o_ixL hv1)) (q_cb1 (p_var rfl) (o_lenS (by omega))) (q_op (p_var rfl) p_int o_21) ⟨hv2, by show (((pat (xs.getD v.1.toNat r0)).length : Nat) : Int) ≤ ((z.length : Nat) : Int); omega, by show ((z.length : Nat) : Int) ≤ 1000; omega, hv4⟩) fun σ2 H2 s2 => ?_
  exact s_ret s2 (p_call2 (p_var rfl) (p_var rfl) ⟨⟨rfl, sm_plsIn _ _ hu2⟩, ⟨rfl, sm_plsIn _ _ hv2⟩⟩) rfl q
/-! ### shifts -/
def rRow : Rp Row := ⟨RowAt, fun e h => h.le e⟩
section
variable {K : PySem.W.Frag} {w : Row}
theorem o_w0 : Op2 (rIx K) rRow w rInt (0 : Int) rInt w.1 := fun A B H O σ Γ s v1 v2 Q h1 h2 q => by
  obtain ⟨p, rfl, g⟩ := h1
  cases h2
  exact x_ixT (unhid.keep g) rfl (q _ _ (Le.refl _) rfl)
theorem o_w1 : Op2 (rIx K) rRow w rInt (1 : Int) rInt w.2.1 := fun A B H O σ Γ s v1 v2 Q h1 h2 q => by
  obtain ⟨p, rfl, g⟩ := h1
  cases h2
  exact x_ixT (unhid.keep g) rfl (q _ _ (Le.refl _) rfl)
theorem o_w2 : Op2 (rIx K) rRow w rInt (2 : Int) rInt w.2.2.1 := fun A B H O σ Γ s v1 v2 Q h1 h2 q => by
  obtain ⟨p, rfl, g⟩ := h1
  cases h2
  exact x_ixT (unhid.keep g) rfl (q _ _ (Le.refl _) rfl)
theorem o_w3 : Op2 (rIx K) rRow w rInt (3 : Int) rStr w.2.2.2.1 := fun A B H O σ Γ s v1 v2 Q h1 h2 q => by
  obtain ⟨p, rfl, g⟩ := h1
  cases h2
  exact x_ixT (unhid.keep g) rfl (q _ _ (Le.refl _) rfl)
end
def foundIn (ws : List Row) (u v : Int × Int) : List Str := (ws.filter fun w => decide ((w.1, w.2.1, w.2.2.1) = (u.1, v.1, v.2 - u.2))).map fun w => w.2.2.2.1
def shiftsOk (ws : List Row) (u v : Int × Int) (k : Option Str) : Bool :=
  if (decide (v.1 < u.1) || (decide (u.1 = v.1) && decide (v.2 ≤ u.2))) = true then true
  else match k with
  | none => decide (foundIn ws u v = [])
  | some k => decide (foundIn ws u v = [k])
abbrev sp__law_shifts (a : Ad) : Sp := spP4 (rList rRow) rPr rPr (rOpt rStr) rBool (fun ws u v k => ws.length ≤ 10000 ∧ (∀ w ∈ ws, PyData.strOk w.2.2.2.1 = true) ∧ ∀ z, k = some z → PyData.strOk z = true) shiftsOk
theorem found_succ (ws : List Row) (u v : Int × Int) {k : Nat} {w : Row} (h : ws[k]? = some w) : foundIn (ws.take (k + 1)) u v = foundIn (ws.take k) u v ++ (if decide ((w.1, w.2.1, w.2.2.1) = (u.1, v.1, v.2 - u.2)) = true then [w.2.2.2.1] else []) := by
  unfold foundIn
  rw [List.take_add_one, h, List.filter_append, List.map_append]
  congr 1
  show List.map _ (List.filter _ [w]) = _
  rw [List.filter_cons]
  by_cases e : decide ((w.1, w.2.1, w.2.2.1) = (u.1, v.1, v.2 - u.2)) = true
  · rw [if_pos e, if_pos e]; rfl
  · rw [if_neg e, if_neg e]; rfl
theorem found_ok {ws : List Row} {u v : Int × Int} (h : ∀ w ∈ ws, PyData.strOk w.2.2.2.1 = true) : ∀ z ∈ foundIn ws u v, PyData.strOk z = true := fun z hz => by
  unfold foundIn at hz
  obtain ⟨w, hw, rfl⟩ := List.mem_map.mp hz
  exact h w (List.mem_filter.mp hw).1
theorem found_len (ws : List Row) (u v : Int × Int) : (foundIn ws u v).length ≤ ws.length := by
  unfold foundIn
  rw [List.length_map]; exact List.length_filter_le _ _
theorem ok__law_shifts {P : Program} {w : World} {K : PySem.W.Frag} {mg : Str → Option Value} {base : Heap} {a : Ad} {f : Addr} {fd : FuncData} (F : FnP K "_law_shifts" "_law_shifts" s__law_shifts f fd) (T : Txt K mg a)  :
    FnOk P w K mg base (L2.CX P w) 1 f fd ["_law_rows", "_law_one", "_law_two", "_law_kind"] (sp__law_shifts a) := by
  refine F.ok sc__law_shifts (fun vs H Q E h => by obtain ⟨O, v0, v1, v2, v3, ws, u, v, kd, rfl, hO, h0, h1, h2, h3, hpre, q⟩ := h; rfl) (fun cdv A outer s H vs Q E hr h => ?_)
  refine ⟨_, (pss_cons (ps_if (PW.pt (pw_or (pt_cmpR op_gt (pe_ix ix_seq (pv 1) pe_int (fun _ _ => rfl)) (pe_ix ix_seq (pv 2) pe_int (fun _ _ => rfl)) (nomark _)) (pw_or1 (PW.pt (pw_and (pt_cmpR (op_eqU hr) (pe_ix ix_seq (pv 1) pe_int (fun _ _ => rfl)) (pe_ix ix_seq (pv 2) pe_int (fun _ _ => rfl)) (nomark _)) (pw_and1 (pt_cmpR op_ge (pe_ix ix_seq (pv 1) pe_int (fun _ _ => rfl)) (pe_ix ix_seq (pv 2) pe_int (fun _ _ => rfl)) (nomark _)))))))) (pss_one (ps_ret pe_bl)) pss_nil)
    (pss_cons (ps_set (i := 4) sc__law_shifts.nd rfl (Or.inl rfl) (pe_lst pa_nil))
    (pss_cons (ps_for (by first | exact po | exact PassesOwn.never | exact passes_of rfl) rfl (pi_list (pv 0)) (pg_name (i := 5) sc__law_shifts.nd rfl (Or.inl rfl)) (pss_one (ps_if (pt_cmpR (op_eqU hr) (pe_tup (pa_cons (pe_ix ix_seq (pv 5) pe_int (fun _ _ => rfl)) (pa_cons (pe_ix ix_seq (pv 5) pe_int (fun _ _ => rfl)) (pa_cons (pe_ix ix_seq (pv 5) pe_int (fun _ _ => rfl)) pa_nil)))) (pe_tup (pa_cons (pe_ix ix_seq (pv 1) pe_int (fun _ _ => rfl)) (pa_cons (pe_ix ix_seq (pv 2) pe_int (fun _ _ => rfl)) (pa_cons (pe_op op_sub (pe_ix ix_seq (pv 2) pe_int (fun _ _ => rfl)) (pe_ix ix_seq (pv 1) pe_int (fun _ _ => rfl))) pa_nil)))) (nomark _)) (pss_one (ps_expr (pe_bm PySem.F.plainAttrs_list PySem.F.slot_list_append PySem.F.type_list_append mt_append (pv 4) (pa_cons (pe_ix ix_seq (pv 5) pe_int (fun _ _ => rfl)) pa_nil)))) pss_nil)))
    (pss_cons (ps_if (pt_cmpR op_isNone (pv 3) pe_non (nomark _)) (pss_one (ps_ret (pe_cmpR (op_eqU hr) (pv 4) (pe_lst pa_nil) (nomark _)))) pss_nil)
    (pss_one (ps_ret (pe_cmpR (op_eqU hr) (pv 4) (pe_lst (pa_cons (pv 3) pa_nil)) (nomark _)))))))), ?_⟩
  obtain ⟨O, v0, v1, v2, v3, ws, u, v, kd, rfl, hO, h0, h1, h2, h3, hpre, q⟩ := h
  obtain ⟨hl, hok, hkd⟩ := hpre
  have s0 := s_start (N := N__law_shifts) (vs := [v0, v1, v2, v3]) (Γ := [some (.pure (rList rRow) ws), some (.pure rPr u), some (.pure rPr v), some (.pure (rOpt rStr) kd), none, none]) hO ⟨h0, h1, h2, h3, trivial, trivial, trivial⟩ rfl
  apply s_ifN s0 (b := decide (v.1 < u.1) || (decide (u.1 = v.1) && decide (v.2 ≤ u.2)))
  · exact t_or (t_T (q_op (q_op (p_var rfl) p_int o_20) (q_op (p_var rfl) p_int o_20) o_gt)) fun _ => t_and (t_T (q_op (q_op (p_var rfl) p_int o_20) (q_op (p_var rfl) p_int o_20) o_eqI)) fun _ => t_T (q_op (q_op (p_var rfl) p_int o_21) (q_op (p_var rfl) p_int o_21) o_ge)
  · intro hb H1 s1
    exact s_ret s1 p_bl (by unfold shiftsOk; rw [if_pos hb]) q
  intro hb H1 s1
  refine s_own rStr s1 fun p O1 σ1 H1 s1 => ?_
  refine x_seq ?_
  refine g_forL (fun k Γ => ∃ s5, Γ = [some (.pure (rList rRow) ws), some (.pure rPr u), some (.pure rPr v), some (.pure (rOpt rStr) kd), some (.own p rStr (foundIn (ws.take k) u v)), s5]) (p_var rfl) s1 ⟨_, rfl⟩ ?_ ?_
  · rintro B' k w Γk O2 σ2 H2 hw ⟨s5, rfl⟩ s2
    have hS := found_succ ws u v hw
    have hk := (List.getElem?_eq_some_iff.mp hw).1
    have hfl := found_len (ws.take k) u v
    rw [List.length_take] at hfl
    refine g_if (b := decide ((w.1, w.2.1, w.2.2.1) = (u.1, v.1, v.2 - u.2))) (t_T (q_op (p_t3 (q_op (p_var rfl) p_int o_w0) (q_op (p_var rfl) p_int o_w1) (q_op (p_var rfl) p_int o_w2)) (p_t3 (q_op (p_var rfl) p_int o_20) (q_op (p_var rfl) p_int o_20) (q_op (q_op (p_var rfl) p_int o_21) (q_op (p_var rfl) p_int o_21) o_sub)) (o_eqD (ra := rT3 rInt rInt rInt) ⟨trivial, trivial, trivial⟩ ⟨trivial, trivial, trivial⟩))) s2 (fun hb H3 s3 => ?_) (fun hb H3 s3 => ?_)
    · rw [if_pos hb] at hS
      refine g_app (r := rStr) rfl (x := w.2.2.2.1) (q_op (p_var rfl) p_int o_w3) (by omega) s3 fun σ4 H4 s4 => ?_
      refine nx_mk ⟨some (.pure rRow w), ?_⟩ s4
      rw [hS]; rfl
    · rw [if_neg (by rw [hb]; exact Bool.false_ne_true), List.append_nil] at hS
      refine nx_mk ⟨some (.pure rRow w), ?_⟩ s3
      rw [hS]; rfl
  · rintro Γn O2 σ2 H2 ⟨s5, rfl⟩ s2
    rw [List.take_length] at s2
    obtain ⟨O3, s3⟩ := s2.done 4 rfl
    have hfok := found_ok (u := u) (v := v) hok
    dsimp only
    apply s_ifN s3 (b := kd.isNone)
    · exact t_T (q_op (p_var rfl) p_unit o_isN)
    · intro hb2 H4 s4
      refine s_ret s4 (q_op (p_var rfl) (p_lst a_nil (by decide)) (o_eqD (ra := rList rStr) hfok fun _ h => by cases h)) ?_ q
      unfold shiftsOk
      rw [hb, if_neg Bool.false_ne_true]
      cases kd with
      | none => rfl
      | some k => cases hb2
    · intro hb2 H4 s4
      cases kd with
      | none => cases hb2
      | some k =>
      refine s_ret s4 (q_op (p_var rfl) (p_lst (a_cons (p_get (p_var rfl)) a_nil) (by show 1 ≤ 1000000; decide)) (o_eqD (ra := rList rStr) hfok fun z hz => by rw [List.mem_singleton.mp hz]; exact hkd k rfl)) ?_ q
      unfold shiftsOk
      rw [hb, if_neg Bool.false_ne_true]
end K7
set_option maxHeartbeats 4000000
/-! K7N: k07: what the law asks of the program; pairs that are no steps -/
namespace K7
open PySem PySem.Spec PyProof.Rows L2 MC
local macro_rules | `(tactic| walk_at "hp") => `(tactic| first | assumption | (apply Le.keep; assumption; walk_at "hp") | (apply TextAt.le; assumption; walk_at "hp") | (apply Lw.keep; assumption; walk_at "hp"; first | rfl | exact sh_str _ | exact sh_ints _ | exact sh_sgns _) | (apply TextAt.lw; assumption; walk_at "hp"))
local macro_rules | `(tactic| walk_at "le") => `(tactic| first | exact Le.refl _ | assumption | (apply Le.trans'; assumption; walk_at "le"))
local macro_rules | `(tactic| walk_at "lw") => `(tactic| first | exact Lw.refl _ | assumption | exact Le.w (by assumption) | (apply Lw.trans'; (first | assumption | exact Le.w (by assumption)); walk_at "lw"))
local macro_rules | `(tactic| walk_at "sz") => `(tactic| first | omega | (simp only [slen_app]; omega) | (simp only [List.length_append, List.length_cons, List.length_nil, List.length_map, List.length_range]; omega) | omega | (simp; omega) | decide)
local macro_rules | `(tactic| walk_at "x") => `(tactic| first
  | with_reducible refine x_seq ?_ | with_reducible refine x_asg ?_ | with_reducible refine x_ret ?_ | with_reducible refine x_drop ?_
  | ((with_reducible apply x_var); exact rfl) | with_reducible refine x_c ?_ | with_reducible refine x_op ?_ | with_reducible refine x_opS ?_ | with_reducible refine x_un ?_ | with_reducible refine x_neg ?_
  | with_reducible refine x_test ?_ | with_reducible refine x_tB ?_ | with_reducible refine x_kB ?_
  | with_reducible refine x_nil ?_ | with_reducible refine x_cons ?_ | with_reducible refine x_tup ?_ | with_reducible refine x_lst ?_
  | ((with_reducible refine x_kTup ?_ ?_); (walk_at "sz"); (intro _ _ _ _ _)) | ((with_reducible refine x_kLst ?_ ?_); (walk_at "sz"); (intro _ _ _ _ _))
  | with_reducible refine x_fld ?_ | ((with_reducible apply x_fS); assumption; (walk_at "hp")) | ((with_reducible apply x_fC); assumption; (walk_at "hp"))
  | with_reducible refine x_cb ?_ | with_reducible refine x_call ?_ | with_reducible refine x_callE ?_ | with_reducible refine x_bm ?_ | with_reducible refine x_cv ?_
  | with_reducible refine x_meth ?_ | with_reducible refine x_cm ?_ | with_reducible refine x_kCM ?_ | with_reducible refine x_mk ?_ | with_reducible refine x_kMk ?_
  | with_reducible refine x_np ?_ | with_reducible refine x_part ?_ | with_reducible refine x_kPart ?_ | with_reducible refine x_sl ?_ | with_reducible refine x_rev ?_
  | with_reducible refine x_addI ?_ | ((with_reducible refine x_addS ?_ ?_); (walk_at "sz")) | with_reducible refine x_I0 ?_
  | with_reducible refine x_eqS ?_ | with_reducible refine x_eqI ?_ | with_reducible refine x_eqB ?_ | with_reducible refine x_neS ?_ | with_reducible refine x_neI ?_ | with_reducible refine x_neB ?_
  | with_reducible refine x_eqFS ?_ | with_reducible refine x_eqFI ?_
  | with_reducible refine x_ltI ?_ | with_reducible refine x_ltS ?_ | with_reducible refine x_leI ?_ | with_reducible refine x_leS ?_ | with_reducible refine x_inT ?_ | with_reducible refine x_notInT ?_
  | ((with_reducible refine x_slS ?_ ?_); (walk_at "sz")) | ((with_reducible refine x_kRev ?_ ?_); (walk_at "sz"))
  | ((with_reducible refine x_lenS ?_ ?_); (walk_at "sz")) | ((with_reducible apply x_lenT); (walk_at "hp"))
  | ((with_reducible apply x_ixT); (walk_at "hp"); exact rfl)
  | with_reducible refine x_abs ?_ | with_reducible refine x_int ?_ | with_reducible refine x_strS ?_
  | ((with_reducible apply x_isB); (first | exact kit_ty (r := true) (by decide +kernel) | exact kit_ty (r := false) (by decide +kernel))) | ((with_reducible apply x_isI); (first | exact kit_ty (r := true) (by decide +kernel) | exact kit_ty (r := false) (by decide +kernel))) | ((with_reducible apply x_isS); (first | exact kit_ty (r := true) (by decide +kernel) | exact kit_ty (r := false) (by decide +kernel)))
  | ((with_reducible apply x_isT); (walk_at "hp"); (first | exact kit_ty (r := true) (by decide +kernel) | exact kit_ty (r := false) (by decide +kernel)))
  | ((with_reducible apply x_isText); assumption; (walk_at "hp")) | ((with_reducible apply x_isTextS); assumption) | ((with_reducible apply x_isTextI); assumption) | ((with_reducible apply x_isTextN); assumption) | ((with_reducible apply x_kCVT); assumption)
  | ((with_reducible apply x_addL); (walk_at "hp"); (walk_at "hp"); (walk_at "sz"); (intro _ _ _ _ _)) | ((with_reducible apply x_tyL); (walk_at "hp")) | with_reducible refine x_tyS ?_
  | with_reducible refine x_joined ?_ | with_reducible refine x_js ?_ | with_reducible refine x_js0 ?_ | ((with_reducible refine x_kJs ?_ ?_); (walk_at "sz")) | with_reducible refine x_fmt ?_ | ((with_reducible refine x_fmtS ?_ ?_); (walk_at "sz")) | ((with_reducible refine x_fmtI ?_ ?_); omega)
  | with_reducible refine x_rse ?_ | with_reducible refine x_ex ?_ | with_reducible refine x_ex0 ?_ | with_reducible refine x_xf ?_
  | with_reducible refine x_for ?_ | with_reducible refine x_r1 ?_ | with_reducible refine x_r2 ?_ | with_reducible refine x_il ?_ | with_reducible refine x_en ?_ | with_reducible refine x_lc ?_ | with_reducible refine x_next ?_ | dsimp only)
local macro_rules | `(tactic| walk_at "xs") => `(tactic| repeat walk_at "x")
local macro_rules | `(tactic| walk_at "ev0") => `(tactic| (refine ev_run ?_; intro _ _ _ q; walk_at "xs"; refine q _ ?_; walk_at "le"))
local macro_rules | `(tactic| walk_at "ch") => `(tactic| (intro _ _ _ q; walk_at "xs"; refine q _ ?_; walk_at "le"))
local macro_rules | `(tactic| walk_at "ev") => `(tactic| first
  | (focus ((with_reducible refine ev_andV ?_ (fun _ => ?_)); (all_goals walk_at "ev"))) | (focus ((with_reducible refine ev_orV ?_ (fun _ => ?_)); (all_goals walk_at "ev")))
  | ((with_reducible refine ev_notV ?_); walk_at "ev")
  | (focus ((with_reducible apply ev_chain); (focus walk_at "ch"); (focus walk_at "ch"); (focus walk_at "ch"); (focus (intro _ _ _ q; walk_at "x"; exact q)); (focus (intro _ _ _ q; walk_at "x"; exact q))))
  | walk_at "ev0" | skip)
local macro_rules | `(tactic| walk_at "et") => `(tactic| first
  | (focus ((with_reducible refine et_and ?_ (fun _ => ?_)); (all_goals walk_at "et"))) | (focus ((with_reducible refine et_or ?_ (fun _ => ?_)); (all_goals walk_at "et")))
  | ((with_reducible refine et_not ?_); walk_at "et") | ((with_reducible refine et_B ?_); walk_at "ev") | ((with_reducible refine et_T ?_); walk_at "ev"))
local macro_rules | `(tactic| walk_at "hp") => `(tactic| first | assumption | (apply RuleAt.le; assumption; walk_at "hp") | (apply RulesAt.le; assumption; walk_at "hp") | (apply BookAt.le; assumption; walk_at "hp") | (apply RuleAt.lw; assumption; walk_at "hp") | (apply BookAt.lw; assumption; walk_at "hp") | (apply R4s.le; assumption; walk_at "hp") | (apply R4s.lw; assumption; walk_at "hp"))
local macro_rules | `(tactic| walk_at "x") => `(tactic| first
  | ((with_reducible apply x_fO); assumption; (walk_at "hp")) | ((with_reducible apply x_fN); assumption; (walk_at "hp")) | ((with_reducible apply x_fL); assumption; (walk_at "hp")) | ((with_reducible apply x_fR); assumption; (walk_at "hp")) | ((with_reducible apply x_fB); assumption; (walk_at "hp"))
  | ((with_reducible apply x_isRule); assumption; (walk_at "hp")) | ((with_reducible apply x_kCVB); assumption)
  | with_reducible refine x_callO ?_ | with_reducible refine x_kCO ?_ | with_reducible refine x_prop ?_ | with_reducible refine x_max ?_ | with_reducible refine x_intB ?_ | with_reducible refine x_findS ?_ | with_reducible refine x_countS ?_ | with_reducible refine x_isN ?_)
local macro_rules | `(tactic| walk_at "sz") => `(tactic| (simp only [slen_app, elen, len1a, len1b, len1c]; omega))
local macro_rules | `(tactic| walk_at "x") => `(tactic| first
  | with_reducible refine x_sfld ?_ | with_reducible refine x_enL ?_ | with_reducible refine x_enN ?_ | with_reducible refine x_it ?_ | with_reducible refine x_asgT ?_ | ((with_reducible apply x_g2); (walk_at "hp")) | ((with_reducible apply x_g3); (walk_at "hp")) | ((with_reducible apply x_g4); (walk_at "hp"))
  | ((with_reducible apply x_lenL2); (walk_at "hp")) | with_reducible refine x_gseq ?_ | with_reducible refine x_g0 ?_ | with_reducible refine x_gfor ?_ | with_reducible refine x_gps ?_)
local macro_rules | `(tactic| walk_at "x") => `(tactic| first | ((with_reducible refine x_splitS ?_ ?_ ?_); (decide +kernel); (walk_at "sz"); (intro _ _ _ _ _)) | with_reducible refine x_methK ?_ | with_reducible refine x_mkSt ?_ | with_reducible refine x_kMkSt ?_ | ((with_reducible apply x_kStL); (walk_at "hp")))
local macro_rules | `(tactic| walk_at "x") => `(tactic| first
  | with_reducible refine x_listG ?_ | with_reducible refine x_gm ?_)
local macro_rules | `(tactic| walk_at "st") => `(tactic| first | assumption | (apply St.le; assumption; walk_at "st"))
local macro_rules | `(tactic| walk_at "x") => `(tactic| first | ((with_reducible apply x_ixL2); (walk_at "hp"); exact rfl) | ((with_reducible apply x_lenL2); (walk_at "hp")))
local macro_rules | `(tactic| walk_at "hp") => `(tactic| first | assumption | (apply Rs.le; assumption; walk_at "hp") | (apply Rs.lw; assumption; walk_at "hp"))
local macro_rules | `(tactic| walk_at "x") => `(tactic| first | ((with_reducible apply x_r0); (walk_at "hp")) | ((with_reducible apply x_r1'); (walk_at "hp")) | ((with_reducible apply x_r2'); (walk_at "hp")) | ((with_reducible apply x_r3); (walk_at "hp")) | ((with_reducible apply x_lenRs); (walk_at "hp")) | with_reducible refine x_is ?_ | with_reducible refine x_tOwn ?_)
local macro_rules | `(tactic| walk_at "x") => `(tactic| first | with_reducible refine x_mkRG ?_ | ((with_reducible apply x_kOwn); (walk_at "hp")))
theorem int_len {i : Int} (hi : i.natAbs.log2 < 1000) : ((toString i : String) : Str).length ≤ 1001 := by
  have e := int_text_length_le (k := 1000) (by decide) hi
  rw [PySem.ofString_length]; exact e
theorem ini_BadRun {P : Program} {w : World} {K : PySem.W.Frag} {mg : Str → Option Value} {base : Heap} {f cc : Addr} {fd : FuncData} {C : Addr} (F : SupF P K "__init__" "BadRun.__init__" (defArgs s_BadRun___init__) (defBody s_BadRun___init__) (defScope s_BadRun___init__) f fd C cc) (T : SupC P K mg C) (no : PySem.W.findIn K (.ref C) "index" = some none) :
    FnOk P w K mg base (L2.CX P w) 1 f fd ["self", "index"] (sp_exi C "index") := by
  refine fn_sup (N := ["self", "index"]) F ⟨rfl, rfl, rfl, by decide +kernel, rfl, by decide +kernel, by decide +kernel, by decide +kernel, rfl, rfl⟩ rfl rfl (by decide) T (fun vs H Q E h => by obtain ⟨e, i, rfl, _⟩ := h; rfl) (fun cd A outer s H vs Q E hr h => ?_)
  obtain ⟨e, i, rfl, hi, he, q⟩ := h
  have hl := int_len hi
  have l1 : ("the step at index " : Str).length = 18 := by decide +kernel
  have l2 : (" cannot be taken" : Str).length = 16 := by decide +kernel
  have l3 : Str.empty.length = 0 := by decide +kernel
  have hi2 : i.natAbs.log2 < 1920 := by omega
  refine ⟨_, _, e, pa_cons (pe_joinedU (.cons pe_str (.cons (pe_fmt (pv 1)) (.cons pe_str .nil)))) pa_nil, pss_one (ps_ost (pv 0) (pv 1)), rfl, he, ?_⟩
  walk_at "xs"
  refine ⟨by show 1 ≤ 1000; decide, he, ?_⟩
  refine x_ost ?_
  walk_at "xs"
  exact ⟨e, C, rfl, T.oex, no, Or.inl ⟨he, fun dx hdx hne => q dx hdx hne⟩⟩
theorem ini_NoRule {P : Program} {w : World} {K : PySem.W.Frag} {mg : Str → Option Value} {base : Heap} {f cc : Addr} {fd : FuncData} {C : Addr} (F : SupF P K "__init__" "NoRule.__init__" (defArgs s_NoRule___init__) (defBody s_NoRule___init__) (defScope s_NoRule___init__) f fd C cc) (T : SupC P K mg C) (no : PySem.W.findIn K (.ref C) "number" = some none) :
    FnOk P w K mg base (L2.CX P w) 1 f fd ["self", "number"] (sp_exi C "number") := by
  refine fn_sup (N := ["self", "number"]) F ⟨rfl, rfl, rfl, by decide +kernel, rfl, by decide +kernel, by decide +kernel, by decide +kernel, rfl, rfl⟩ rfl rfl (by decide) T (fun vs H Q E h => by obtain ⟨e, i, rfl, _⟩ := h; rfl) (fun cd A outer s H vs Q E hr h => ?_)
  obtain ⟨e, i, rfl, hi, he, q⟩ := h
  have hl := int_len hi
  have l1 : ("there is no rule " : Str).length = 17 := by decide +kernel
  have l3 : Str.empty.length = 0 := by decide +kernel
  have hi2 : i.natAbs.log2 < 1920 := by omega
  refine ⟨_, _, e, pa_cons (pe_joinedU (.cons pe_str (.cons (pe_fmt (pv 1)) .nil))) pa_nil, pss_one (ps_ost (pv 0) (pv 1)), rfl, he, ?_⟩
  walk_at "xs"
  refine ⟨by show 1 ≤ 1000; decide, he, ?_⟩
  refine x_ost ?_
  walk_at "xs"
  exact ⟨e, C, rfl, T.oex, no, Or.inl ⟨he, fun dx hdx hne => q dx hdx hne⟩⟩
theorem ini_Mismatch {P : Program} {w : World} {K : PySem.W.Frag} {mg : Str → Option Value} {base : Heap} {f cc : Addr} {fd : FuncData} {C : Addr} (F : SupF P K "__init__" "Mismatch.__init__" (defArgs s_Mismatch___init__) (defBody s_Mismatch___init__) (defScope s_Mismatch___init__) f fd C cc) (T : SupC P K mg C) (no : PySem.W.findIn K (.ref C) "at" = some none) :
    FnOk P w K mg base (L2.CX P w) 1 f fd ["self", "at"] (sp_exi C "at") := by
  refine fn_sup (N := ["self", "at"]) F ⟨rfl, rfl, rfl, by decide +kernel, rfl, by decide +kernel, by decide +kernel, by decide +kernel, rfl, rfl⟩ rfl rfl (by decide) T (fun vs H Q E h => by obtain ⟨e, i, rfl, _⟩ := h; rfl) (fun cd A outer s H vs Q E hr h => ?_)
  obtain ⟨e, i, rfl, hi, he, q⟩ := h
  have hl := int_len hi
  have l1 : ("the rule does not fit at " : Str).length = 25 := by decide +kernel
  have l3 : Str.empty.length = 0 := by decide +kernel
  have hi2 : i.natAbs.log2 < 1920 := by omega
  refine ⟨_, _, e, pa_cons (pe_joinedU (.cons pe_str (.cons (pe_fmt (pv 1)) .nil))) pa_nil, pss_one (ps_ost (pv 0) (pv 1)), rfl, he, ?_⟩
  walk_at "xs"
  refine ⟨by show 1 ≤ 1000; decide, he, ?_⟩
  refine x_ost ?_
  walk_at "xs"
  exact ⟨e, C, rfl, T.oex, no, Or.inl ⟨he, fun dx hdx hne => q dx hdx hne⟩⟩
def sE__law_whole (a : Ad) : SpE := fun e c d vs H Q E => ∃ i, vs = [.int i] ∧ ∀ H', Le H H' → Q (.bl true) H'
theorem okE__law_whole {P : Program} {w : World} {K : PySem.W.Frag} {mg : Str → Option Value} {base : Heap} {a : Ad} {f : Addr} {fd : FuncData} (F : FnP K "_law_whole" "_law_whole" s__law_whole f fd) (T : Txt K mg a)  :
    FnE P w K mg base 1 f fd ["_law_told"] (sE__law_whole a) := by
  refine fn_ofE F sc__law_whole (fun e c d vs H Q E h => by obtain ⟨i, rfl, q⟩ := h; rfl) (fun cdv A outer s H vs Q p c d hr hz hf h => ?_)
  obtain ⟨e, oe⟩ := p
  obtain ⟨i, rfl, q⟩ := h
  refine ⟨_, (pss_one (ps_ret (pe_and (pe_callB call_isi (by rfl) T.f_isinstance (by decide +kernel) (pa_cons (pv 0) (pa_cons (pe_bltn (v := .ty "int") (by rfl) T.f_int (by decide +kernel) rfl) pa_nil))) (pe_one (pe_not (pe_callB call_isi (by rfl) T.f_isinstance (by decide +kernel) (pa_cons (pv 0) (pa_cons (pe_bltn (v := .ty "bool") (by rfl) T.f_bool (by decide +kernel) rfl) pa_nil)))))))), ?_⟩
  walk_at "xs"
  refine x_andV (b := true) (ev_is (ev_andV (b := true) ?_ (fun _ => ev_notV (b := false) ?_)) rfl) q
  · walk_at "ev"
  · walk_at "ev"
theorem c_wholeE {a : Ad} {e : Addr} {c : Value} {d : Option Addr} {H : Hp} {Q : VK} {E : XK} {i : Int} (q : ∀ H', Le H H' → Q (.bl true) H') : sE__law_whole a e c d [.int i] H Q E := ⟨i, rfl, q⟩
/-! ### typed: books, disturbances -/
def rBook (a : Ad) : Rp (List R4) := ⟨fun H v xs => ∃ p, v = .ref p ∧ BookAt a H p xs ∧ (∀ x ∈ xs, Fine x) ∧ xs.length ≤ 8, fun e ⟨p, h1, h2, h3⟩ => ⟨p, h1, h2.le e, h3⟩⟩
theorem pr_at {H : Hp} {v : V} {u : Int × Int} (h : rPr.at_ H v u) : ∃ p, v = .ref p ∧ PrAt H p u := by
  obtain ⟨p, w1, w2, rfl, h1, h2, h3⟩ := h
  cases h2; cases h3
  exact ⟨p, rfl, h1⟩
theorem PrAt.le {H H' : Hp} {p : Addr} {u : Int × Int} (e : Le H H') (h : PrAt H p u) : PrAt H' p u := e.keep h
theorem g_dist {a : Ad} {Γ : Gm} {ta tb tc td : TE} {xs : List R4} {t : Str × Bool} {u v : Int × Int} {E : L2.St → XK} (ha : Pg ta Γ (rBook a) xs) (hb : Pg tb Γ (rText a) t) (hc : Pg tc Γ rPr u) (hd : Pg td Γ rPr v)
    (su : isStep xs t.1 t.2 u = true) (sv : isStep xs t.1 t.2 v = true) (mu : SmP u.1 ∧ SmP u.2) (mv : SmP v.1 ∧ SmP v.2) : Pg (tCallS (sp_disturbance a) E (tCons ta (tCons tb (tCons tc (tCons td tNil))))) Γ (rOpt rStr) (aDist xs t.1 t.2 u v) := fun A B H O σ s Q q =>
  ha A B H O σ s _ fun v0 H0 e0 g0 => hb A B H0 O σ (s.go e0) _ fun v1 H1 e1 g1 => hc A B H1 O σ ((s.go e0).go e1) _ fun v2 H2 e2 g2 => hd A B H2 O σ (((s.go e0).go e1).go e2) _ fun v3 H3 e3 g3 => by
    have s3 := (((s.go e0).go e1).go e2).go e3
    obtain ⟨p0, rfl, b0, fx, hn⟩ := (rBook a).le unhid ((rBook a).le (hid_le ((e1.trans e2).trans e3)) g0)
    obtain ⟨p1, rfl, b1, gz⟩ := (rText a).le unhid ((rText a).le (hid_le (e2.trans e3)) g1)
    obtain ⟨p2, rfl, b2⟩ := pr_at (rPr.le unhid (rPr.le (hid_le e3) g2))
    obtain ⟨p3, rfl, b3⟩ := pr_at (rPr.le unhid g3)
    refine ⟨p0, p1, p2, p3, xs, t.1, t.2, u, v, rfl, fx, hn, gz, b0, b1, b2, b3, mu, mv, fun _ _ w H4 e4 hw => ?_, fun hf => ?_, fun _ hf => ?_⟩
    · exact q w H4 ((((e0.trans e1).trans e2).trans e3).trans e4) (RpF.fl (s3.go e4).fr hw)
    · rw [su] at hf; cases hf
    · rw [sv] at hf; cases hf
abbrev sp__law_tells (a : Ad) : Sp := spP5 (rBook a) (rText a) rPr rPr (rOpt rStr) rBool (fun xs t u v d => (isStep xs t.1 t.2 u = true ∧ isStep xs t.1 t.2 v = true) ∧ ((SmP u.1 ∧ SmP u.2) ∧ (SmP v.1 ∧ SmP v.2)) ∧ aDist xs t.1 t.2 u v = d) (fun _ _ _ _ _ => true)
theorem ok__law_tells {P : Program} {w : World} {K : PySem.W.Frag} {mg : Str → Option Value} {base : Heap} {a : Ad} {f : Addr} {fd : FuncData} (F : FnP K "_law_tells" "_law_tells" s__law_tells f fd) (T : Txt K mg a) (G_disturbance : FnG P w K mg base 4 "disturbance" (sp_disturbance a)) :
    FnOk P w K mg base (L2.CX P w) 5 f fd ["_law_book", "_law_text", "_law_one", "_law_two", "_law_due"] (sp__law_tells a) := by
  refine F.ok sc__law_tells (fun vs H Q E h => by obtain ⟨O, v0, v1, v2, v3, v4, xs, t, u, v, d, rfl, hO, h0, h1, h2, h3, h4, hpre, q⟩ := h; rfl) (fun cdv A outer s H vs Q E hr h => ?_)
  refine ⟨_, (pss_cons (ps_set (i := 5) sc__law_tells.nd rfl (Or.inl rfl) (pe_callG G_disturbance (hr.mono (by decide)) (passW (takes_of rfl rfl rfl rfl)) rfl (pa_cons (pv 0) (pa_cons (pv 1) (pa_cons (pv 2) (pa_cons (pv 3) pa_nil))))))
    (pss_cons (ps_if (pt_cmpR op_isNone (pv 4) pe_non (nomark _)) (pss_one (ps_ret (pe_cmpR op_isNone (pv 5) pe_non (nomark _)))) pss_nil)
    (pss_one (ps_ret (pe_and (pe_callB call_isi (by rfl) T.f_isinstance (by decide +kernel) (pa_cons (pv 5) (pa_cons (pe_bltn (v := .ty "str") (by rfl) T.f_str (by decide +kernel) rfl) pa_nil))) (pe_one (pe_cmpR (op_eqU hr) (pv 5) (pv 4) (nomark _)))))))), ?_⟩
  obtain ⟨O, v0, v1, v2, v3, v4, xs, t, u, v, d, rfl, hO, h0, h1, h2, h3, h4, hpre, q⟩ := h
  obtain ⟨⟨su, sv⟩, ⟨mu, mv⟩, hd⟩ := hpre
  have s0 := s_start (N := N__law_tells) (vs := [v0, v1, v2, v3, v4]) (Γ := [some (.pure (rBook a) xs), some (.pure (rText a) t), some (.pure rPr u), some (.pure rPr v), some (.pure (rOpt rStr) d), none]) hO ⟨h0, h1, h2, h3, h4, trivial, trivial⟩ rfl
  refine s_set (x := d) s0 (hd ▸ g_dist (p_var rfl) (p_var rfl) (p_var rfl) (p_var rfl) su sv mu mv) fun σ1 H1 s1 => ?_
  clear hd
  apply s_ifN s1 (b := d.isNone)
  · exact t_T (q_op (p_var rfl) p_unit o_isN)
  · intro hb H2 s2
    exact s_ret s2 (q_op (p_var rfl) p_unit o_isN) hb q
  · intro hb H2 s2
    cases d with
    | none => cases hb
    | some k =>
    exact s_ret s2 (p_and (b := true) (c := decide (k = k)) (q_cb2 (p_get (p_var rfl)) p_ty (o_isiS (kit_ty (r := true) (by decide +kernel)))) fun _ => q_op (p_get (p_var rfl)) (p_get (p_var rfl)) o_eqS) (by simp) q
def RefOk (xs : List R4) (z : Str) (c : Bool) (u v : Int × Int) (d : Int) : Prop := ((SmP u.1 ∧ SmP u.2) ∧ (SmP v.1 ∧ SmP v.2)) ∧ ((isStep xs z c u = false ∧ d = 0) ∨ (isStep xs z c u = true ∧ isStep xs z c v = false ∧ d = 1))
abbrev sp__law_refused (a : Ad) : Sp := spP5 (rBook a) (rText a) rPr rPr rInt rBool (fun xs t u v d => RefOk xs t.1 t.2 u v d) (fun _ _ _ _ _ => true)
theorem ok__law_refused {P : Program} {w : World} {K : PySem.W.Frag} {mg : Str → Option Value} {base : Heap} {a : Ad} {f : Addr} {fd : FuncData} (F : FnP K "_law_refused" "_law_refused" s__law_refused f fd) (T : Txt K mg a) (G_disturbance : FnG P w K mg base 4 "disturbance" (sp_disturbance a)) (E__law_whole : FnEG P w K mg base 1 "_law_whole" (sE__law_whole a)) :
    FnOk P w K mg base (L2.CX P w) 5 f fd ["_law_book", "_law_text", "_law_one", "_law_two", "_law_due"] (sp__law_refused a) := by
  refine F.ok sc__law_refused (fun vs H Q E h => by obtain ⟨O, v0, v1, v2, v3, v4, xs, t, u, v, d, rfl, hO, h0, h1, h2, h3, h4, hpre, q⟩ := h; rfl) (fun cdv A outer s H vs Q E hr h => ?_)
  refine ⟨_, (pss_cons (ps_try_asL rfl rfl sc__law_refused.nd (takes_of rfl rfl rfl rfl) (fun W pn xe tk po => (pss_one (ps_set (i := 5) sc__law_refused.nd rfl (Or.inl rfl) (pe_callG G_disturbance (hr.mono (by decide)) (passW tk) rfl (pa_cons (pv 0) (pa_cons (pv 1) (pa_cons (pv 2) (pa_cons (pv 3) pa_nil)))))))) (.cons (i := 6) ⟨rfl, by decide, .inl T.g_BadRun⟩ rfl rfl (fun a0 oe cls d pn hz hf => (pss_cons (ps_set (i := 7) sc__law_refused.nd rfl (Or.inl rfl) (pe_and (pe_not (pe_callB (call_isQk K rfl List.mem_cons_self hz hf) (by rfl) T.f_isinstance (by decide +kernel) (pa_cons (pv 6) (pa_cons (pe_glob (v := .ref a.cMismatch) rfl T.g_Mismatch rfl) pa_nil)))) (pe_one (pe_not (pe_callB (call_isQk K rfl List.mem_cons_self hz hf) (by rfl) T.f_isinstance (by decide +kernel) (pa_cons (pv 6) (pa_cons (pe_glob (v := .ref a.cNoRule) rfl T.g_NoRule rfl) pa_nil)))))))
    (pss_cons (ps_set (i := 8) sc__law_refused.nd rfl (Or.inl rfl) (pe_and (pe_callB (call_isQk K rfl List.mem_cons_self hz hf) (by rfl) T.f_isinstance (by decide +kernel) (pa_cons (pv 6) (pa_cons (pe_glob (v := .ref a.cClerkError) rfl T.g_ClerkError rfl) pa_nil))) (pe_one (pe_callB (call_isQk K rfl List.mem_cons_self hz hf) (by rfl) T.f_isinstance (by decide +kernel) (pa_cons (pv 6) (pa_cons (pe_bltn (v := .ty "ValueError") (by rfl) T.f_ValueError (by decide +kernel) rfl) pa_nil))))))
    (pss_one (ps_ret (pe_and (pe_callEG E__law_whole ((roomS hr).mono (by decide)) hz hf (by rfl) (pa_cons (pe_xf (T.xf .run) (T.nf .run) hz hf (pv 6)) pa_nil)) (pe_and (pe_cmpR op_eq (pe_xf (T.xf .run) (T.nf .run) hz hf (pv 6)) (pv 4) (nomark _)) (pe_and (pv 7) (pe_one (pv 8)))))))))) .nil))
    (pss_one (ps_ret (pe_and (pe_cmpR op_isNone (pv 5) pe_non (nomark _)) (pe_one pe_bl))))), ?_⟩
  obtain ⟨O, v0, v1, v2, v3, v4, xs, t, u, v, d, rfl, hO, h0, h1, h2, h3, h4, hpre, q⟩ := h
  obtain ⟨⟨mu, mv⟩, hcase⟩ := hpre
  obtain ⟨p0, rfl, b0, fx, hn⟩ := (rBook a).le unhid h0
  obtain ⟨p1, rfl, b1, gz⟩ := (rText a).le unhid h1
  obtain ⟨p2, rfl, b2⟩ := pr_at (rPr.le unhid h2)
  obtain ⟨p3, rfl, b3⟩ := pr_at (rPr.le unhid h3)
  cases h4
  have q' : ∀ H', Le H H' → Q (.bl true) H' := fun H' e => q _ H' e rfl
  clear q h0 h1 h2 h3
  walk_at "xs"
  refine x_tryC (fun W => ∀ cls dd H', Le H H' → ExcIs a .run d cls dd H' → W cls dd [some (V.ref p0), some (V.ref p1), some (V.ref p2), some (V.ref p3), some (V.int d), none, none, none, none] H') ?_ fun W hW => ?_
  · intro cls dd H' le hx
    obtain ⟨rfl, d2, rfl, hdd⟩ := hx
    refine ⟨true, T.exm .run .run, fun _ a0 ha => ?_, fun q => nomatch q⟩
    have hd2 : ∀ H2, Le H' H2 → ∀ dd, some d2 = some dd → ∃ fs, H2 dd = some (.xd fs) := fun H2 e dd h => by
      cases h; exact ⟨_, e.keep hdd⟩
    walk_at "xs"
    refine x_andV (b := true) (ev_is (ev_andV (b := true) (ev_is (ev_notV (b := false) (ev_run fun H1 e1 Q1 q1 => ?_)) rfl) (fun _ => ev_is (ev_notV (b := false) (ev_run fun H1 e1 Q1 q1 => ?_)) (rfl : _ = true))) rfl) fun H1 e1 => ?_
    · walk_at "xs"
      exact x_isq (T.exT .run) (fun u h => h) (hd2 _ e1) (T.kit .run .place) (q1 _ (Le.refl _))
    · walk_at "xs"
      exact x_isq (T.exT .run) (fun u h => h) (hd2 _ e1) (T.kit .run .none) (q1 _ (Le.refl _))
    walk_at "xs"
    refine x_andV (b := true) (ev_is (ev_andV (b := true) (ev_run fun H2 e2 Q1 q1 => ?_) (fun _ => ev_run (b := true) fun H2 e2 Q1 q1 => ?_)) rfl) fun H2 e2 => ?_
    · walk_at "xs"
      exact x_isq (T.exT .run) (fun u h => h) (hd2 _ (e1.trans e2)) (T.kitE .run) (q1 _ (Le.refl _))
    · walk_at "xs"
      exact x_isq (T.exT .run) (fun u h => h) (hd2 _ (e1.trans e2)) (T.kitV .run) (q1 _ (Le.refl _))
    walk_at "xs"
    have e12 := e1.trans e2
    refine x_andV (b := true) (ev_is (ev_andV (b := true) (ev_run fun H3 e3 Q1 q1 => ?_) (fun _ => ev_andV (b := decide (d = d)) (ev_run fun H3 e3 Q1 q1 => ?_) fun _ => ev_andV (b := true) (ev_run fun H3 e3 Q1 q1 => ?_) fun _ => ev_run (b := true) fun H3 e3 Q1 q1 => ?_)) (by simp)) fun H3 e3 => ?_
    · walk_at "xs"
      refine x_kXf (C := a.x .run) ((e12.trans e3).keep hdd) lk1 ?_
      walk_at "xs"
      exact c_wholeE q1
    · walk_at "xs"
      refine x_kXf (C := a.x .run) ((e12.trans e3).keep hdd) lk1 ?_
      walk_at "xs"
      exact q1 _ (Le.refl _)
    · walk_at "xs"
      exact q1 _ (Le.refl _)
    · walk_at "xs"
      exact q1 _ (Le.refl _)
    exact q' _ ((le.trans e12).trans e3)
  · walk_at "xs"
    refine ⟨p0, p1, p2, p3, xs, t.1, t.2, u, v, rfl, fx, hn, gz, b0, b1, b2, b3, mu, mv, fun su sv => ?_, fun hf cls dd H' e hx => ?_, fun su hf cls dd H' e hx => ?_⟩
    · rcases hcase with ⟨h, _⟩ | ⟨_, h, _⟩
      · rw [su] at h; cases h
      · rw [sv] at h; cases h
    · rcases hcase with ⟨_, h⟩ | ⟨h, _⟩
      · subst h; exact hW cls dd H' e hx
      · rw [hf] at h; cases h
    · rcases hcase with ⟨h, _⟩ | ⟨_, _, h⟩
      · rw [su] at h; cases h
      · subst h; exact hW cls dd H' e hx
/-! ### the book as it was -/
theorem map_at {α : Type} (f : R4 → α) (xs : List R4) : (List.range xs.length).map (fun i => f (xs.getD i r0)) = xs.map f := map_range f r0 xs rfl
theorem getD_of {xs : List R4} {i : Nat} {x : R4} (h : xs[i]? = some x) : xs.getD i r0 = x := by rw [List.getD_eq_getElem?_getD, h]; rfl
theorem strOk_l {z : Str} : PyData.strOk z = true ↔ ∀ c ∈ z.cps.toList, c < 0x110000 := by
  unfold PyData.strOk
  rw [← Array.all_toList, List.all_eq_true]
  simp
theorem strOk_app {z w : Str} (h1 : PyData.strOk z = true) (h2 : PyData.strOk w = true) : PyData.strOk (z ++ w) = true := by
  rw [strOk_l] at *
  intro c hc
  rw [app_l, List.mem_append] at hc
  exact hc.elim (h1 c) (h2 c)
theorem form_ok {x : R4} (f : Fine x) : PyData.strOk (form x) = true := by
  have h := f.ok
  exact strOk_app (strOk_app (strOk_app (strOk_app (strOk_app (strOk_app h.1 (by decide +kernel)) h.2.1) (by decide +kernel)) h.2.2.1) (by decide +kernel)) h.2.2.2
theorem forms_ok {xs : List R4} (fx : ∀ x ∈ xs, Fine x) : ∀ z ∈ xs.map form, PyData.strOk z = true := fun z hz => by
  obtain ⟨x, hx, rfl⟩ := List.mem_map.mp hz
  exact form_ok (fx x hx)
theorem x_isBook {K : PySem.W.Frag} {mg : Str → Option Value} {a : Ad} {H : Hp} {p : Addr} {Q : VK} {xs : List R4} (T : Txt K mg a) (h : BookAt a H p xs) (q : Q (.bl true) H) : rIsi K [.ref p, .ref a.cBook] H Q := by
  obtain ⟨dx, l, us, h1, _⟩ := h
  exact x_isO h1 T.insB T.kBB q
theorem rs_of {H : Hp} {v : V} {xs : List R4} (h : (rList rR4).at_ H v xs) : ∃ p, v = .ref p ∧ Rs H p xs := by
  obtain ⟨p, vs, rfl, h1, h2⟩ := h
  refine ⟨p, rfl, vs, h1, ?_⟩
  clear h1
  induction vs generalizing xs with
  | nil =>
    cases xs with
    | nil => exact trivial
    | cons _ _ => exact h2.elim
  | cons v vs ih =>
    cases xs with
    | nil => exact h2.elim
    | cons x xs => exact ⟨h2.1, ih h2.2⟩
theorem rs_rp {H : Hp} {p : Addr} {xs : List R4} (h : Rs H p xs) : (rList rR4).at_ H (.ref p) xs := by
  obtain ⟨vs, h1, h2⟩ := h
  refine ⟨p, vs, rfl, h1, ?_⟩
  clear h1
  induction vs generalizing xs with
  | nil =>
    cases xs with
    | nil => exact trivial
    | cons _ _ => exact h2.elim
  | cons v vs ih =>
    cases xs with
    | nil => exact h2.elim
    | cons x xs => exact ⟨h2.1, ih h2.2⟩
abbrev sp__law_is_book (a : Ad) : Sp := spP2 (rBook a) (rList rR4) rBool (fun xs ys => xs = ys) (fun _ _ => true)
theorem ok__law_is_book {P : Program} {w : World} {K : PySem.W.Frag} {mg : Str → Option Value} {base : Heap} {a : Ad} {f : Addr} {fd : FuncData} (F : FnP K "_law_is_book" "_law_is_book" s__law_is_book f fd) (T : Txt K mg a) (M_Book_written : MeG P w K mg base 4 a.cBook "written" (sp_Book_written a)) (IT_Book : ItG P w K mg base 1 a.cBook "_rules") (O_Rule___str__ : OpG P w K mg base 1 a.cRule "__str__" (sp_Rule___str__ a)) (G__law_form_of : FnG P w K mg base 1 "_law_form_of" (sp__law_form_of a)) (O_Book___len__ : OpG P w K mg base 1 a.cBook "__len__" (sp_Book___len__ a)) :
    FnOk P w K mg base (L2.CX P w) 5 f fd ["_law_book", "_law_rules"] (sp__law_is_book a) := by
  refine F.ok sc__law_is_book (fun vs H Q E h => by obtain ⟨O, v0, v1, xs, xs', rfl, hO, h0, h1, hpre, q0⟩ := h; rfl) (fun cdv A outer s H vs Q E hr h => ?_)
  refine ⟨_, (pss_cons (ps_if (PW.pt (pw_or (pt_not (pt_val (pe_callB call_isi (by rfl) T.f_isinstance (by decide +kernel) (pa_cons (pv 0) (pa_cons (pe_glob (v := .ref a.cBook) rfl T.g_Book rfl) pa_nil))))) (pw_or1 (pt_cmpR (op_neU hr) (pe_callB (call_lenG O_Book___len__ (hr.mono (by decide))) (by rfl) T.f_len (by decide +kernel) (pa_cons (pv 0) pa_nil)) (pe_callB call_lenU (by rfl) T.f_len (by decide +kernel) (pa_cons (pv 1) pa_nil)) (nomark _))))) (pss_one (ps_ret pe_bl)) pss_nil)
    (pss_cons (ps_setLc (i := 2) (own := [("_law_rule", 3)]) (g := gName 3) (tt := tYes) rfl sc__law_is_book.nd rfl rfl (sw_true rfl rfl rfl (by decide +kernel)) (pi_list (pv 1)) (blkOk_by (N := ["_law_book", "_law_rules", "_law_lines", "_law_rule"]) (sc := defScope s__law_is_book) (by decide +kernel)) (fun _ _ _ _ _ => pg_name (i := 3) sc__law_is_book.nd rfl (Or.inl rfl)) (fun _ _ _ _ _ => pts_nil) (fun _ _ _ _ _ => (pe_callG G__law_form_of (hr.mono (by decide)) passN rfl (pa_cons (pv 3) pa_nil))))
    (pss_cons (ps_if (pt_cmpR (op_neU hr) (pe_lc (own := [("_law_rule", 3)]) (g := gName 3) (tt := tYes) rfl sc__law_is_book.nd (pi_own IT_Book (hr.mono (by decide)) (pv 0)) (blkOk_by (N := ["_law_book", "_law_rules", "_law_lines", "_law_rule"]) (sc := defScope s__law_is_book) (by decide +kernel)) (fun _ _ _ _ _ => pg_name (i := 3) sc__law_is_book.nd rfl (Or.inl rfl)) (fun _ _ _ _ _ => pts_nil) (fun _ _ _ _ _ => (pe_callTy (call_strG O_Rule___str__ (hr.mono (by decide))) (by rfl) T.f_str (by decide +kernel) (pa_cons (pv 3) pa_nil)))) (pv 2) (nomark _)) (pss_one (ps_ret pe_bl)) pss_nil)
    (pss_one (ps_ret (pe_cmpR (op_eqU hr) (pe_methG0 M_Book_written (hr.mono (by decide)) passN (pv 0)) (pe_bm PySem.F.plainAttrs_str PySem.F.slot_str_join PySem.F.type_str_join mt_joinU pe_str (pa_cons (pv 2) pa_nil)) (nomark _))))))), ?_⟩
  obtain ⟨O, v0, v1, xs, xs', rfl, hO, h0, h1, hpre, q0⟩ := h
  obtain ⟨p, rfl, hb, fx, hn⟩ := (rBook a).le unhid h0
  obtain ⟨r, rfl, hr⟩ := rs_of ((rList rR4).le unhid h1)
  subst hpre
  have hq : ∀ H', Le H H' → Q (.bl true) H' := fun H' e => q0 _ H' e rfl
  clear q0 h0 h1
  obtain ⟨us, h1, h2⟩ := id hr
  have hlen := h2.len
  obtain ⟨dx0, l0, us0, b01, b02, b03⟩ := id hb
  have l1 : ("\n" : Str).length = 1 := by decide +kernel
  have hfs := forms_sum fx
  walk_at "xs"
  refine x_no (et_is (b := !true || !decide (((xs.length : Nat) : Int) = (xs.length : Nat))) (et_or (et_not (et_B (ev_run fun H1 e1 Q1 q1 => ?_))) fun _ => et_T (ev_run fun H1 e1 Q1 q1 => ?_)) (by simp)) fun H1 e1 => ?_
  · walk_at "xs"
    exact x_isBook T (hb.le e1) (q1 _ (Le.refl _))
  · walk_at "xs"
    refine x_lenO (e1.keep b01) ⟨p, xs, rfl, hn, hb.le e1, fun H2 e2 => ⟨_, rfl, by omega, ?_⟩⟩
    have hr2 : Rs H2 r xs := hr.le (e1.trans e2)
    walk_at "xs"
    exact q1 _ e2
  walk_at "xs"
  refine x_kIL (e1.keep h1) ?_
  refine x_lcP walk_list (fun _ => true) (fun i => .str (form (xs.getD i r0))) (by omega) (fun H' e => sql ((e1.trans e).keep h1)) (fun _ => rfl) (fun i v H' hi hv e => et_yes) (fun i v H' hi hv _ e Qe qe => ?_) fun L H2 nL e2 hL => ?_
  · obtain ⟨t, y, hy, rfl, hty⟩ := h2.at hv
    rw [getD_of hy] at qe
    walk_at "xs"
    exact ⟨t, y, rfl, fx y (List.mem_of_getElem? hy), (e1.trans e).keep hty, fun H5 e5 => qe _ e5⟩
  rw [accP_all, hlen] at hL
  have hL : H2 L = some (.lst ((xs.map form).map V.str)) := by
    rw [hL, ← map_at form xs, List.map_map]; rfl
  have eA : Le H H2 := e1.trans e2
  clear e1 e2
  walk_at "xs"
  refine x_no (et_is (b := !decide (xs.map form = xs.map form)) (et_T (ev_run fun H3 e3 Q3 q3 => ?_)) (by simp)) fun H3 e3 => ?_
  · have hb3 := hb.le (eA.trans e3)
    obtain ⟨dx, l, us3, b1, b2, b3⟩ := id hb3
    have hl3 := b3.len
    walk_at "xs"
    refine x_kIL b2 ?_
    refine x_lcP walk_list (fun _ => true) (fun i => .str (form (xs.getD i r0))) (by omega) (fun H' e => sql (e.keep b2)) (fun _ => rfl) (fun i v H' hi hv e => et_yes) (fun i v H' hi hv _ e Qe qe => ?_) fun L2 H4 nL2 e4 hL2 => ?_
    · obtain ⟨t, y, hy, rfl, hty⟩ := b3.at hv
      have hty' := hty.le e
      obtain ⟨dt, hty2⟩ := id hty'
      rw [getD_of hy] at qe
      walk_at "xs"
      refine x_strO hty2 ⟨t, y, rfl, fx y (List.mem_of_getElem? hy), hty', fun H5 e5 => ⟨_, rfl, qe _ e5⟩⟩
    rw [accP_all, hl3] at hL2
    have hL2 : H4 L2 = some (.lst ((xs.map form).map V.str)) := by
      rw [hL2, ← map_at form xs, List.map_map]; rfl
    walk_at "xs"
    exact x_neLS hL2 ((e3.trans e4).keep hL) (forms_ok fx) (forms_ok fx) (q3 _ e4)
  · have hb3 := hb.le (eA.trans e3)
    obtain ⟨dx, l, us3, b1, b2, b3⟩ := id hb3
    walk_at "xs"
    refine x_kMeth b1 (lkM (by decide +kernel)) ?_
    walk_at "xs"
    refine ⟨p, xs, rfl, fx, hn, hb3, fun H4 e4 => ?_⟩
    walk_at "xs"
    refine x_join (z := "\n") ((e3.trans e4).keep hL) (by rw [List.length_map, l1]; omega) ?_
    refine x_eqS ?_
    have := hq H4 ((eA.trans e3).trans e4)
    rw [decide_eq_true (show lines xs = Txt.join "\n" (xs.map form) from rfl)]
    exact this
/-! ### pairs that are no steps -/
def Odd (xs : List R4) (z : Str) (c : Bool) (t : Int × Int) : Prop := isStep xs z c t = false ∧ SmP t.1 ∧ SmP t.2
def sp__law_strangers (a : Ad) : Sp := fun vs H Q E => ∃ s l r xs z c, vs = [.ref s, .ref r, .str z, .bl c] ∧ St H s l ∧ Rs H r xs ∧ (∀ x ∈ xs, Fine x) ∧ (1 ≤ xs.length ∧ xs.length ≤ 8) ∧ Good z c ∧ z.length ≤ 15 ∧
  ∀ p ts H', Lw H H' → St H' s l → (rList rPr).at_ H' (.ref p) ts → ts.length = 3 → (∀ t ∈ ts, Odd xs z c t) → Q (.ref p) H'
theorem pr_lw {H H' : Hp} {v : V} {u : Int × Int} (e : Lw H H') (h : rPr.at_ H v u) : rPr.at_ H' v u := by
  obtain ⟨p, w1, w2, rfl, h1, h2, h3⟩ := h
  exact ⟨p, w1, w2, rfl, e.keep h1 rfl, h2, h3⟩
theorem prs_lw {H H' : Hp} (e : Lw H H') : ∀ {vs : List V} {ts : List (Int × Int)}, All2 rPr H vs ts → All2 rPr H' vs ts
  | [], [], _ => trivial
  | _ :: _, _ :: _, h => ⟨pr_lw e h.1, prs_lw e h.2⟩
  | [], _ :: _, h => h.elim
  | _ :: _, [], h => h.elim
theorem prs_put {H : Hp} {l : Addr} {ws : List V} {o : HO} (hl : H l = some (.lst ws)) : ∀ {vs : List V} {ts : List (Int × Int)}, All2 rPr H vs ts → All2 rPr (upd H l o) vs ts
  | [], [], _ => trivial
  | _ :: _, _ :: _, h => ⟨by
      obtain ⟨p, w1, w2, rfl, h1, h2, h3⟩ := h.1
      exact ⟨p, w1, w2, rfl, by rw [upd_ne (fun z => by rw [z, hl] at h1; cases h1)]; exact h1, h2, h3⟩, prs_put hl h.2⟩
  | [], _ :: _, h => h.elim
  | _ :: _, [], h => h.elim
theorem odd_num {xs : List R4} {z : Str} {c : Bool} {t : Int × Int} (h : ¬(0 ≤ t.1 ∧ t.1 < xs.length)) : isStep xs z c t = false := by
  unfold isStep
  rw [decide_eq_false h, Bool.false_and]
theorem odd_fit {xs : List R4} {z : Str} {c : Bool} {t : Int × Int} (h : fits (xs.getD t.1.toNat r0) z c t.2 = false) : isStep xs z c t = false := by
  unfold isStep
  rw [h, Bool.and_false]
theorem odd_out {xs : List R4} {z : Str} {c : Bool} {t : Int × Int} (h : ¬(0 ≤ t.2 ∧ t.2 < z.length)) : isStep xs z c t = false := by
  refine odd_fit ?_
  cases e : fits (xs.getD t.1.toNat r0) z c t.2 with
  | false => rfl
  | true => exact absurd (fits_pos e) h
theorem ok__law_strangers {P : Program} {w : World} {K : PySem.W.Frag} {mg : Str → Option Value} {base : Heap} {a : Ad} {f : Addr} {fd : FuncData} (F : FnP K "_law_strangers" "_law_strangers" s__law_strangers f fd) (T : Txt K mg a) (G__law_next : FnG P w K mg base 1 "_law_next" (sp__law_next a)) (G__law_fits : FnG P w K mg base 1 "_law_fits" (sp__law_fits a)) :
    FnOk P w K mg base (L2.CX P w) 2 f fd ["_law_state", "_law_rules", "_law_shown", "_law_closed"] (sp__law_strangers a) := by
  refine F.ok sc__law_strangers (fun vs H Q E h => by obtain ⟨s, l, r, xs, z, c, rfl, hs, hr, fx, hx, gz, hz, q⟩ := h; rfl) (fun cdv A outer s H vs Q E hr h => ?_)
  refine ⟨_, (pss_cons (ps_set (i := 4) sc__law_strangers.nd rfl (Or.inl rfl) (pe_callB call_lenU (by rfl) T.f_len (by decide +kernel) (pa_cons (pv 2) pa_nil)))
    (pss_cons (ps_set (i := 5) sc__law_strangers.nd rfl (Or.inl rfl) (pe_lst (pa_cons (pe_tup (pa_cons (pe_un un_neg pe_int) (pa_cons pe_int pa_nil))) (pa_cons (pe_tup (pa_cons (pe_callB call_lenU (by rfl) T.f_len (by decide +kernel) (pa_cons (pv 1) pa_nil)) (pa_cons pe_int pa_nil))) (pa_cons (pe_tup (pa_cons pe_int (pa_cons (pv 4) pa_nil))) (pa_cons (pe_tup (pa_cons pe_int (pa_cons (pe_un un_neg pe_int) pa_nil))) (pa_cons (pe_tup (pa_cons (pe_callB call_lenU (by rfl) T.f_len (by decide +kernel) (pa_cons (pv 1) pa_nil)) (pa_cons (pe_un un_neg pe_int) pa_nil))) pa_nil)))))))
    (pss_cons (ps_set (i := 6) sc__law_strangers.nd rfl (Or.inl rfl) (pe_callG G__law_next (hr.mono (by decide)) passN rfl (pa_cons (pv 0) (pa_cons (pe_callB call_lenU (by rfl) T.f_len (by decide +kernel) (pa_cons (pv 1) pa_nil)) pa_nil))))
    (pss_cons (ps_for (by first | exact po | exact PassesOwn.never | exact passes_of rfl) rfl (pi_range1 (by rfl) T.f_range (pa_cons (pv 4) pa_nil)) (pg_name (i := 7) sc__law_strangers.nd rfl (Or.inl rfl)) (pss_one (ps_if (pt_not (pt_val (pe_callG G__law_fits (hr.mono (by decide)) passN rfl (pa_cons (pe_ix ix_seq (pv 1) (pv 6) (fun _ _ => rfl)) (pa_cons (pv 2) (pa_cons (pv 3) (pa_cons (pv 7) pa_nil))))))) (pss_one (ps_expr (pe_bm PySem.F.plainAttrs_list PySem.F.slot_list_append PySem.F.type_list_append mt_append (pv 5) (pa_cons (pe_tup (pa_cons (pv 6) (pa_cons (pv 7) pa_nil))) pa_nil)))) pss_nil)))
    (pss_cons (ps_set (i := 8) sc__law_strangers.nd rfl (Or.inl rfl) (pe_ix ix_seq (pv 5) (pe_callG G__law_next (hr.mono (by decide)) passN rfl (pa_cons (pv 0) (pa_cons (pe_callB call_lenU (by rfl) T.f_len (by decide +kernel) (pa_cons (pv 5) pa_nil)) pa_nil))) (fun _ _ => rfl)))
    (pss_cons (ps_set (i := 9) sc__law_strangers.nd rfl (Or.inl rfl) (pe_ix ix_seq (pv 5) (pe_callG G__law_next (hr.mono (by decide)) passN rfl (pa_cons (pv 0) (pa_cons (pe_callB call_lenU (by rfl) T.f_len (by decide +kernel) (pa_cons (pv 5) pa_nil)) pa_nil))) (fun _ _ => rfl)))
    (pss_one (ps_ret (pe_lst (pa_cons (pv 8) (pa_cons (pv 9) (pa_cons (pe_ix ix_seq (pv 5) (pe_un un_neg pe_int) (fun _ _ => rfl)) pa_nil)))))))))))), ?_⟩
  obtain ⟨s, l, r, xs, z, c, rfl, hs, hr, fx, hx, gz, hz, q⟩ := h
  walk_at "xs"
  rename_i T1 H1 n1 e1 h1 T2 H2 n2 e2 h2 T3 H3 n3 e3 h3 T4 H4 n4 e4 h4 T5 H5 n5 e5 h5 PL H6 n6 e6 h6
  have eH : Le H H6 := ((((e1.trans e2).trans e3).trans e4).trans e5).trans e6
  have nPL : H PL = none := ((((e1.trans e2).trans e3).trans e4).trans e5).fr _ n6
  have hbase : All2 rPr H6 [.ref T1, .ref T2, .ref T3, .ref T4, .ref T5] [(-1, 0), ((xs.length : Int), 0), (0, (z.length : Int)), (0, -1), ((xs.length : Int), -1)] :=
    ⟨⟨_, _, _, rfl, ((((e2.trans e3).trans e4).trans e5).trans e6).keep h1, rfl, rfl⟩, ⟨_, _, _, rfl, (((e3.trans e4).trans e5).trans e6).keep h2, rfl, rfl⟩, ⟨_, _, _, rfl, ((e4.trans e5).trans e6).keep h3, rfl, rfl⟩, ⟨_, _, _, rfl, (e5.trans e6).keep h4, rfl, rfl⟩, ⟨_, _, _, rfl, e6.keep h5, rfl, rfl⟩, trivial⟩
  have hodd : ∀ t ∈ ([(-1, 0), ((xs.length : Int), 0), (0, (z.length : Int)), (0, -1), ((xs.length : Int), -1)] : List (Int × Int)), Odd xs z c t := by
    intro t ht
    simp only [List.mem_cons, List.not_mem_nil, or_false] at ht
    rcases ht with rfl | rfl | rfl | rfl | rfl
    · exact ⟨odd_num (fun h => by have := h.1; simp at this), ⟨by show (-1000 : Int) ≤ -1; decide, by show (-1 : Int) ≤ 1000; decide⟩, ⟨by show (-1000 : Int) ≤ 0; decide, by show (0 : Int) ≤ 1000; decide⟩⟩
    · exact ⟨odd_num (fun h => by have := h.2; simp at this), ⟨by show (-1000 : Int) ≤ (xs.length : Int); omega, by show (xs.length : Int) ≤ 1000; omega⟩, ⟨by show (-1000 : Int) ≤ 0; decide, by show (0 : Int) ≤ 1000; decide⟩⟩
    · exact ⟨odd_out (fun h => by have := h.2; simp at this), ⟨by show (-1000 : Int) ≤ 0; decide, by show (0 : Int) ≤ 1000; decide⟩, ⟨by show (-1000 : Int) ≤ (z.length : Int); omega, by show (z.length : Int) ≤ 1000; omega⟩⟩
    · exact ⟨odd_out (fun h => by have := h.1; simp at this), ⟨by show (-1000 : Int) ≤ 0; decide, by show (0 : Int) ≤ 1000; decide⟩, ⟨by show (-1000 : Int) ≤ -1; decide, by show (-1 : Int) ≤ 1000; decide⟩⟩
    · exact ⟨odd_num (fun h => by have := h.2; simp at this), ⟨by show (-1000 : Int) ≤ (xs.length : Int); omega, by show (xs.length : Int) ≤ 1000; omega⟩, ⟨by show (-1000 : Int) ≤ -1; decide, by show (-1 : Int) ≤ 1000; decide⟩⟩
  have hs6 := hs.le eH
  have hr6 := hr.le eH
  have hne := hs.ne nPL
  clear e1 e2 e3 e4 e5 e6 h1 h2 h3 h4 h5 n1 n2 n3 n4 n5 n6
  refine c_next (by walk_at "st") (by omega) fun k H7 k1 k2 e7 s7 => ?_
  have h7 : H7 PL = some (.lst [.ref T1, .ref T2, .ref T3, .ref T4, .ref T5]) := e7.keep h6 rfl
  have eL : Lw H H7 := eH.w.trans e7
  have hr7 := hr6.lw e7
  have hb7 := prs_lw e7 hbase
  clear e7 h6 hbase hr6 hs6
  walk_at "xs"
  refine x_for1 (by omega) (fun i σ' H' => (∃ v7, σ' = [some (V.ref s), some (V.ref r), some (V.str z), some (V.bl c), some (V.int (z.length : Nat)), some (V.ref PL), some (V.int k), v7, none, none]) ∧ Lw H H' ∧ St H' s l ∧ ∃ ws ts, H' PL = some (.lst ws) ∧ All2 rPr H' ws ts ∧ (5 ≤ ts.length ∧ ts.length ≤ 5 + i) ∧ ∀ t ∈ ts, Odd xs z c t) ⟨⟨_, rfl⟩, eL, s7, _, _, h7, hb7, ⟨Nat.le_refl 5, Nat.le_refl 5⟩, hodd⟩ ?_ ?_
  · rintro i σ' H8 hi ⟨⟨v7, rfl⟩, e8, s8, ws, ts, hw, ha, hl, ho⟩
    have hr8 : Rs H8 r xs := hr.lw e8
    have hlen := ha.len
    obtain ⟨y, hy⟩ : ∃ y, xs[k.toNat]? = some y := ⟨_, List.getElem?_eq_getElem (by omega)⟩
    have f := fx y (List.mem_of_getElem? hy)
    have hg : xs.getD k.toNat r0 = y := getD_of hy
    walk_at "xs"
    refine x_if (b := !fits y z c (i : Nat)) (et_not (et_B (ev_run fun H9 e9 Q9 q9 => ?_))) (fun hb H9 e9 => ?_) (fun hb H9 e9 => ?_)
    · have hr9 := hr8.le e9
      walk_at "xs"
      refine x_ixRs hr9 ⟨k1, k2⟩ fun u y' hy' hu => ?_
      have : y' = y := Option.some.inj (hy'.symm.trans hy)
      subst this
      walk_at "xs"
      exact ⟨u, y', z, c, _, rfl, f, gz, hu, q9⟩
    · walk_at "xs"
      rename_i T H10 n10 e10 h10
      have hw10 := (e9.trans e10).keep hw
      refine x_app hw10 (by omega) ?_
      refine ⟨⟨_, rfl⟩, lw_own (e8.trans (e9.trans e10).w) nPL, (s8.le (e9.trans e10)).put hne, ws ++ [.ref T], ts ++ [(k, (i : Int))], upd_same, All2.app ?_ (prs_put hw10 (ha.le (e9.trans e10))), by rw [List.length_append, List.length_singleton]; omega, ?_⟩
      · exact ⟨T, _, _, rfl, by rw [upd_ne (fun z => by rw [z, hw10] at h10; cases h10)]; exact h10, rfl, rfl⟩
      · intro t ht
        rcases List.mem_append.mp ht with h | h
        · exact ho t h
        · rw [List.mem_singleton.mp h]
          refine ⟨odd_fit ?_, ⟨by show -1000 ≤ k; omega, by show k ≤ 1000; omega⟩, ⟨by show (-1000 : Int) ≤ (i : Int); omega, by show (i : Int) ≤ 1000; omega⟩⟩
          show fits (xs.getD k.toNat r0) z c (i : Int) = false
          rw [hg]; simpa using hb
    · walk_at "xs"
      exact ⟨⟨_, rfl⟩, e8.trans e9.w, s8.le e9, ws, ts, e9.keep hw, ha.le e9, by omega, ho⟩
  · rintro σ' H8 ⟨⟨v7, rfl⟩, e8, s8, ws, ts, hw, ha, hl, ho⟩
    have hlen := ha.len
    have hsh : stSh (.lst ws) = false := sh_long (by omega)
    have hzt : ((z.length : Nat) : Int).toNat = z.length := by omega
    rw [hzt] at hl
    walk_at "xs"
    refine c_next s8 (by omega) fun k9 H9 a1 a2 e9 s9 => ?_
    have hw9 := e9.keep hw hsh
    obtain ⟨t1, ht1⟩ : ∃ t, ts[k9.toNat]? = some t := ⟨_, List.getElem?_eq_getElem (by omega)⟩
    obtain ⟨v1, hv1, hr1⟩ := (prs_lw e9 ha).get ht1
    refine x_ixL2 hw9 (atI_nat ⟨by omega, by omega⟩ hv1) ?_
    walk_at "xs"
    refine c_next s9 (by omega) fun k10 H10 b1 b2 e10 s10 => ?_
    have hw10 := e10.keep hw9 hsh
    obtain ⟨t2, ht2⟩ : ∃ t, ts[k10.toNat]? = some t := ⟨_, List.getElem?_eq_getElem (by omega)⟩
    obtain ⟨v2, hv2, hr2⟩ := (prs_lw (e9.trans e10) ha).get ht2
    refine x_ixL2 hw10 (atI_nat ⟨by omega, by omega⟩ hv2) ?_
    obtain ⟨t3, ht3⟩ : ∃ t, ts[ts.length - 1]? = some t := ⟨_, List.getElem?_eq_getElem (by omega)⟩
    obtain ⟨v3, hv3, hr3⟩ := (prs_lw (e9.trans e10) ha).get ht3
    rw [← hlen] at hv3
    walk_at "xs"
    refine x_ixL2 hw10 (atI_m1 hv3) ?_
    walk_at "xs"
    rename_i P11 H11 n11 e11 h11
    refine q P11 [t1, t2, t3] H11 ((e8.trans e9).trans (e10.trans e11.w)) (s10.le e11) ⟨P11, _, rfl, h11, (pr_lw e10 hr1) |> rPr.le e11, rPr.le e11 hr2, rPr.le e11 hr3, trivial⟩ rfl ?_
    intro t ht
    simp only [List.mem_cons, List.not_mem_nil, or_false] at ht
    rcases ht with rfl | rfl | rfl
    · exact ho _ (List.mem_of_getElem? ht1)
    · exact ho _ (List.mem_of_getElem? ht2)
    · exact ho _ (List.mem_of_getElem? ht3)
end K7
set_option maxHeartbeats 4000000
/-! K7V: k07: overlaps tell just the disturbances of open texts (no program in sight) -/
namespace K7
open PySem PySem.Spec PyProof.Rows L2 MC
/-! ### what stands in the rows -/
theorem flat_pick {β : Type} (f : Nat → List β) (k0 : Nat) : ∀ m, (∀ k, k < m → k ≠ k0 → f k = []) → (List.range m).flatMap f = if k0 < m then f k0 else [] := by
  intro m
  induction m with
  | zero => intro _; simp
  | succ m ih =>
    intro h
    rw [List.range_succ, List.flatMap_append, ih fun k hk => h k (by omega)]
    simp only [List.flatMap_cons, List.flatMap_nil, List.append_nil]
    by_cases e : k0 = m
    · subst e
      rw [if_neg (Nat.lt_irrefl _), if_pos (Nat.lt_succ_self _), List.nil_append]
    · rw [h m (Nat.lt_succ_self _) (fun z => e z.symm), List.append_nil]
      by_cases h1 : k0 < m
      · rw [if_pos h1, if_pos (by omega)]
      · rw [if_neg h1, if_neg (by omega)]
theorem flat_none {β : Type} (f : Nat → List β) : ∀ m, (∀ k, k < m → f k = []) → (List.range m).flatMap f = [] := by
  intro m h
  rw [List.flatMap_eq_nil_iff]
  intro k hk
  exact h k (List.mem_range.mp hk)
theorem found_flat (L : List Nat) (f : Nat → List Row) (u v : Int × Int) : foundIn (L.flatMap f) u v = L.flatMap fun k => foundIn (f k) u v := by
  unfold foundIn
  rw [List.filter_flatMap, List.map_flatMap]
def kd : Option (Str × Str × Int) → List Str
  | none => []
  | some (k, _, _) => [k]
theorem found_row (i j : Nat) (s : Int) (o : Option (Str × Str × Int)) (u v : Int × Int) : foundIn (rowOf i j s o) u v = if ((i : Int), (j : Int), s) = (u.1, v.1, v.2 - u.2) then kd o else [] := by
  cases o with
  | none => simp [foundIn, rowOf, kd]
  | some o =>
    obtain ⟨k, w, b⟩ := o
    unfold foundIn rowOf
    rw [List.filter_cons]
    by_cases e : ((i : Int), (j : Int), s) = (u.1, v.1, v.2 - u.2)
    · rw [if_pos (decide_eq_true e), if_pos e]; rfl
    · rw [if_neg (by rw [decide_eq_false e]; exact Bool.false_ne_true), if_neg e]; rfl
theorem found_rowsAt {xs : List R4} {i j m k0 : Nat} {u v : Int × Int} (hi : u.1 = i) (hj : v.1 = j) (hk : v.2 - u.2 = leastOf i j + k0) : foundIn (rowsAt xs i j m) u v = if k0 < m then kd (overlapOf (xs.getD i r0) (xs.getD j r0) (v.2 - u.2)) else [] := by
  unfold rowsAt
  rw [found_flat, flat_pick _ k0 m]
  · by_cases h : k0 < m
    · rw [if_pos h, if_pos h, found_row, hk, if_pos (by rw [hi, hj])]
    · rw [if_neg h, if_neg h]
  · intro k _ hne
    rw [found_row, if_neg]
    intro e
    injection e with _ e
    injection e with _ e
    omega
theorem found_rowsAt_no {xs : List R4} {i j m : Nat} {u v : Int × Int} (h : ¬(u.1 = i ∧ v.1 = j) ∨ v.2 - u.2 < leastOf i j) : foundIn (rowsAt xs i j m) u v = [] := by
  unfold rowsAt
  rw [found_flat, flat_none]
  intro k _
  rw [found_row, if_neg]
  intro e
  injection e with e1 e
  injection e with e2 e3
  rcases h with h | h
  · exact h ⟨e1.symm, e2.symm⟩
  · omega
theorem found_rows {xs : List R4} {i j : Nat} {u v : Int × Int} (hi : u.1 = i) (hj : v.1 = j) (hij : i ≤ j) (hjl : j < xs.length) : foundIn (rows xs) u v = foundIn (rowsAt xs i j (5 - leastOf i j).toNat) u v := by
  unfold rows rowsTo
  rw [found_flat, flat_pick _ i]
  · rw [if_pos (by omega)]
    unfold rowsIn
    rw [found_flat, flat_pick _ (j - i)]
    · rw [if_pos (by omega), show i + (j - i) = j by omega]
    · intro k hk hne
      exact found_rowsAt_no (.inl fun h => by omega)
  · intro k hk hne
    unfold rowsIn
    rw [found_flat, flat_none]
    intro k' _
    exact found_rowsAt_no (.inl fun h => by omega)
/-! ### places of steps of open texts -/
theorem fits_open {x : R4} {z : Str} {i : Int} (h : fits x z false i = true) : 0 ≤ i - x.l.length ∧ i + x.o.length + x.r.length ≤ z.length ∧ ∀ k, k < (pat x).length → z.cps.toList[(i - x.l.length).toNat + k]? = (pat x).cps.toList[k]? := by
  unfold fits at h
  split at h
  · cases h
  rename_i hn
  rw [if_neg Bool.false_ne_true, Bool.and_eq_true] at h
  obtain ⟨h1, h2⟩ := h
  have h1 := of_decide_eq_true h1
  have h2 := of_decide_eq_true h2
  have hps := pat_sum x
  obtain ⟨b, hb⟩ : ∃ b : Nat, i - x.l.length = (b : Int) := ⟨(i - x.l.length).toNat, by omega⟩
  rw [hb] at h1 h2 ⊢
  have hl : (cutS z (some (b : Int)) (some ((b : Int) + ((pat x).length : Int)))).cps.toList = (pat x).cps.toList := congrArg (fun w : Str => w.cps.toList) h2
  rw [cut_l, show (b : Int) + ((pat x).length : Int) = ((b + (pat x).length : Nat) : Int) by omega, HT.sIx_nat, HT.sIx_nat] at hl
  have hlen := congrArg List.length hl
  rw [List.length_take, List.length_drop, len_l, len_l] at hlen
  by_cases h0 : (pat x).length = 0
  · refine ⟨by omega, by omega, fun k hk => by omega⟩
  have hin : b + (pat x).length ≤ z.length := by omega
  refine ⟨by omega, by omega, fun k hk => ?_⟩
  rw [← hl, Nat.min_eq_left (by omega), Nat.min_eq_left (by omega), List.getElem?_take_of_lt (by omega), List.getElem?_drop, Int.toNat_natCast]
theorem plsIn_open {x : R4} {z : Str} {i : Int} (h : fits x z false i = true) : plsIn z.length x i = pls x i := by
  obtain ⟨h1, h2, _⟩ := fits_open h
  have hid : ∀ L : List Int, (∀ k ∈ L, 0 ≤ k ∧ k < z.length) → L.map (fun k => k.fmod (z.length : Int)) = L := fun L hL => by
    have : L.map (fun k => k.fmod (z.length : Int)) = L.map id := List.map_congr_left fun k hk => by
      obtain ⟨g1, g2⟩ := hL k hk
      rw [Int.fmod_eq_emod_of_nonneg _ (by omega)]
      exact Int.emod_eq_of_lt g1 g2
    rw [this, List.map_id]
  unfold plsIn pls
  rw [hid _ fun k hk => ?_, hid _ fun k hk => ?_]
  · rw [mem_tak] at hk; omega
  · rw [mem_bes] at hk; omega
theorem kind_shift (x y : R4) (a b : Int) : kindOf (pls x a) (pls y b) = kindOf (pls x 0) (pls y (b - a)) := by
  have h1 : meetL (takenL x a) (takenL y b) = meetL (takenL x 0) (takenL y (b - a)) := by
    rw [Bool.eq_iff_iff, meet_iff, meet_iff]
    constructor
    · rintro ⟨k, g1, g2⟩
      rw [mem_tak] at g1 g2
      exact ⟨k - a, by rw [mem_tak]; omega, by rw [mem_tak]; omega⟩
    · rintro ⟨k, g1, g2⟩
      rw [mem_tak] at g1 g2
      exact ⟨k + a, by rw [mem_tak]; omega, by rw [mem_tak]; omega⟩
  have h2 : meetL (besideL x a) (takenL y b) = meetL (besideL x 0) (takenL y (b - a)) := by
    rw [Bool.eq_iff_iff, meet_iff, meet_iff]
    constructor
    · rintro ⟨k, g1, g2⟩
      rw [mem_bes] at g1
      rw [mem_tak] at g2
      exact ⟨k - a, by rw [mem_bes]; omega, by rw [mem_tak]; omega⟩
    · rintro ⟨k, g1, g2⟩
      rw [mem_bes] at g1
      rw [mem_tak] at g2
      exact ⟨k + a, by rw [mem_bes]; omega, by rw [mem_tak]; omega⟩
  have h3 : meetL (besideL y b) (takenL x a) = meetL (besideL y (b - a)) (takenL x 0) := by
    rw [Bool.eq_iff_iff, meet_iff, meet_iff]
    constructor
    · rintro ⟨k, g1, g2⟩
      rw [mem_bes] at g1
      rw [mem_tak] at g2
      exact ⟨k - a, by rw [mem_bes]; omega, by rw [mem_tak]; omega⟩
    · rintro ⟨k, g1, g2⟩
      rw [mem_bes] at g1
      rw [mem_tak] at g2
      exact ⟨k + a, by rw [mem_bes]; omega, by rw [mem_tak]; omega⟩
  unfold kindOf pls
  simp only [h1, h2, h3]
/-- at most four places apart -/
theorem kind_near {x y : R4} {s : Int} (fx : Fine x) (fy : Fine y) (h : kindOf (pls x 0) (pls y s) ≠ none) : -4 ≤ s ∧ s ≤ 4 := by
  have f1 := fx.l.2
  have f2 := fx.o.2
  have f3 := fx.r.2
  have g1 := fy.l.2
  have g2 := fy.o.2
  have g3 := fy.r.2
  have hm : meetL (takenL x 0) (takenL y s) = true ∨ meetL (besideL x 0) (takenL y s) = true ∨ meetL (besideL y s) (takenL x 0) = true := by
    refine Classical.byContradiction fun hn => h ?_
    have h1 : meetL (pls x 0).2 (pls y s).2 = false := by cases e : meetL (takenL x 0) (takenL y s) with | false => exact e | true => exact absurd (.inl e) hn
    have h2 : meetL (pls x 0).1 (pls y s).2 = false := by cases e : meetL (besideL x 0) (takenL y s) with | false => exact e | true => exact absurd (.inr (.inl e)) hn
    have h3 : meetL (pls y s).1 (pls x 0).2 = false := by cases e : meetL (besideL y s) (takenL x 0) with | false => exact e | true => exact absurd (.inr (.inr e)) hn
    unfold kindOf
    rw [h1, h2, h3]; rfl
  rcases hm with hm | hm | hm
  · obtain ⟨k, h1, h2⟩ := meet_iff.mp hm
    rw [mem_tak] at h1 h2
    omega
  · obtain ⟨k, h1, h2⟩ := meet_iff.mp hm
    rw [mem_bes] at h1
    rw [mem_tak] at h2
    omega
  · obtain ⟨k, h1, h2⟩ := meet_iff.mp hm
    rw [mem_bes] at h1
    rw [mem_tak] at h2
    omega
/-- what a rule needs stands in the text where it fits -/
theorem needed_fits {x : R4} {z : Str} {a i p : Int} {m : Str} (hf : fits x z false (a + i) = true) (h : needed x i p = some m) : m = ⟨#[z.cps.getD (a + p).toNat 0]⟩ := by
  obtain ⟨h1, h2, h3⟩ := fits_open hf
  have hps := pat_sum x
  unfold needed at h
  split at h
  · rename_i hc
    rw [Bool.and_eq_true] at hc
    have c1 := of_decide_eq_true hc.1
    have c2 := of_decide_eq_true hc.2
    cases h
    have h4 := h3 (p - i + x.l.length).toNat (by omega)
    have e : (a + i - ((x.l.length : Nat) : Int)).toNat + (p - i + ((x.l.length : Nat) : Int)).toNat = (a + p).toNat := by omega
    rw [e] at h4
    have hz : (a + p).toNat < z.cps.size := by show _ < z.length; omega
    have hp : (p - i + ((x.l.length : Nat) : Int)).toNat < (pat x).cps.size := by show _ < (pat x).length; omega
    rw [Array.getElem?_toList, Array.getElem?_toList, Array.getElem?_eq_getElem hz, Array.getElem?_eq_getElem hp] at h4
    have h5 := Option.some.inj h4
    rw [Array.getD_eq_getD_getElem?, Array.getD_eq_getD_getElem?, Array.getElem?_eq_getElem hz, Array.getElem?_eq_getElem hp, Option.getD_some, Option.getD_some, h5]
  · cases h
theorem lay_some {x y : R4} {z : Str} {a s : Int} (hx : fits x z false a = true) (hy : fits y z false (a + s) = true) (hk : kindOf (pls x 0) (pls y s) ≠ none) : ∀ k : Nat, (k : Int) ≤ hiOf x y s - loOf x y s → ∃ w, layTo x y s k = some w := by
  intro k
  induction k with
  | zero => intro _; exact ⟨"", rfl⟩
  | succ k ih =>
    intro h
    obtain ⟨w, hw⟩ := ih (by omega)
    have hng := no_gap (p := loOf x y s + k) hk (by omega) (by omega)
    unfold layTo
    rw [hw, Option.bind_some]
    have hx' : fits x z false (a + 0) = true := by rw [Int.add_zero]; exact hx
    have e1 := fun m h => needed_fits (p := loOf x y s + k) (m := m) hx' h
    have e2 := fun m h => needed_fits (p := loOf x y s + k) (m := m) hy h
    cases h1 : needed x 0 (loOf x y s + k) with
    | none =>
      cases h2 : needed y s (loOf x y s + k) with
      | none => exact (hng h1 h2).elim
      | some t => exact ⟨_, rfl⟩
    | some m =>
      cases h2 : needed y s (loOf x y s + k) with
      | none => exact ⟨_, rfl⟩
      | some t =>
        refine ⟨w ++ m, ?_⟩
        unfold layOne
        simp only
        rw [if_pos ((e2 t h2).trans (e1 m h1).symm)]
theorem overlap_some {x y : R4} {z : Str} {a s : Int} (hx : fits x z false a = true) (hy : fits y z false (a + s) = true) {k : Str} (hk : kindOf (pls x 0) (pls y s) = some k) : kd (overlapOf x y s) = [k] := by
  have hne : kindOf (pls x 0) (pls y s) ≠ none := by rw [hk]; exact fun h => nomatch h
  have hgap : 0 ≤ hiOf x y s - loOf x y s := by
    obtain ⟨p, g1, g2⟩ := kind_common hne
    unfold hiOf loOf
    split <;> split <;> omega
  obtain ⟨w, hw⟩ := lay_some hx hy hne (hiOf x y s - loOf x y s).toNat (by omega)
  unfold overlapOf
  rw [hk, Option.bind_some, hw]
  rfl
theorem overlap_none {x y : R4} {s : Int} (hk : kindOf (pls x 0) (pls y s) = none) : kd (overlapOf x y s) = [] := by
  unfold overlapOf
  rw [hk]; rfl
theorem shifts_true {xs : List R4} {z : Str} {u v : Int × Int} (fx : ∀ x ∈ xs, Fine x) (su : isStep xs z false u = true) (sv : isStep xs z false v = true) : shiftsOk (rows xs) u v (aDist xs z false u v) = true := by
  obtain ⟨⟨iu1, iu2⟩, hu⟩ := isStep_in su
  obtain ⟨⟨iv1, iv2⟩, hv⟩ := isStep_in sv
  unfold shiftsOk
  split
  · rfl
  rename_i hno
  simp only [Bool.or_eq_true, Bool.and_eq_true, decide_eq_true_eq, not_or, not_and] at hno
  obtain ⟨i, hi⟩ : ∃ i : Nat, u.1 = (i : Int) := ⟨u.1.toNat, by omega⟩
  obtain ⟨j, hj⟩ : ∃ j : Nat, v.1 = (j : Int) := ⟨v.1.toNat, by omega⟩
  have hij : i ≤ j := by omega
  have hjl : j < xs.length := by omega
  have hD : aDist xs z false u v = kindOf (pls (xs.getD i r0) 0) (pls (xs.getD j r0) (v.2 - u.2)) := by
    unfold aDist
    rw [plsIn_open hu, plsIn_open hv, kind_shift, hi, hj, Int.toNat_natCast, Int.toNat_natCast]
  rw [hi, Int.toNat_natCast] at hu
  rw [hj, Int.toNat_natCast] at hv
  have hv' : fits (xs.getD j r0) z false (u.2 + (v.2 - u.2)) = true := by rw [show u.2 + (v.2 - u.2) = v.2 by omega]; exact hv
  have fi : Fine (xs.getD i r0) := by rw [List.getD_eq_getElem?_getD, List.getElem?_eq_getElem (show i < xs.length by omega)]; exact fx _ (List.getElem_mem _)
  have fj : Fine (xs.getD j r0) := by rw [List.getD_eq_getElem?_getD, List.getElem?_eq_getElem hjl]; exact fx _ (List.getElem_mem _)
  rw [hD, found_rows hi hj hij hjl]
  have hlb := least_b i j
  cases hk : kindOf (pls (xs.getD i r0) 0) (pls (xs.getD j r0) (v.2 - u.2)) with
  | none =>
    show decide (_ = []) = true
    refine decide_eq_true ?_
    by_cases h : v.2 - u.2 < leastOf i j
    · exact found_rowsAt_no (.inr h)
    · obtain ⟨k0, hk0⟩ : ∃ k0 : Nat, v.2 - u.2 = leastOf i j + k0 := ⟨(v.2 - u.2 - leastOf i j).toNat, by omega⟩
      rw [found_rowsAt hi hj hk0, overlap_none hk]
      split <;> rfl
  | some k =>
    show decide (_ = [k]) = true
    refine decide_eq_true ?_
    have hne : kindOf (pls (xs.getD i r0) 0) (pls (xs.getD j r0) (v.2 - u.2)) ≠ none := by rw [hk]; exact fun h => nomatch h
    have hnr := kind_near fi fj hne
    have hge : leastOf i j ≤ v.2 - u.2 := by
      unfold leastOf
      split
      · rename_i e
        have := hno.2 (by omega)
        omega
      · omega
    obtain ⟨k0, hk0⟩ : ∃ k0 : Nat, v.2 - u.2 = leastOf i j + k0 := ⟨(v.2 - u.2 - leastOf i j).toNat, by omega⟩
    rw [found_rowsAt hi hj hk0, if_pos (by omega), overlap_some hu hv' hk]
theorem kind_ok {p q : List Int × List Int} {k : Str} (h : kindOf p q = some k) : PyData.strOk k = true := by
  unfold kindOf at h
  split at h
  · cases h; decide +kernel
  split at h
  · cases h; decide +kernel
  split at h
  · cases h; decide +kernel
  split at h
  · cases h; decide +kernel
  cases h
theorem rows_ok {xs : List R4} : ∀ w ∈ rows xs, PyData.strOk w.2.2.2.1 = true := by
  intro w hw
  unfold rows rowsTo at hw
  obtain ⟨i, _, hw⟩ := List.mem_flatMap.mp hw
  unfold rowsIn at hw
  obtain ⟨j, _, hw⟩ := List.mem_flatMap.mp hw
  unfold rowsAt at hw
  obtain ⟨k, _, hw⟩ := List.mem_flatMap.mp hw
  unfold rowOf at hw
  split at hw
  · cases hw
  · rename_i kd w' b ho
    rw [List.mem_singleton.mp hw]
    show PyData.strOk kd = true
    unfold overlapOf at ho
    obtain ⟨k', hk', ho⟩ := Option.bind_eq_some_iff.mp ho
    obtain ⟨_, _, ho⟩ := Option.map_eq_some_iff.mp ho
    cases ho
    exact kind_ok hk'
end K7
set_option maxHeartbeats 16000000
/-! K7W: k07: the law -/
namespace K7
open PySem PySem.Spec PyProof.Rows L2 MC
local macro_rules | `(tactic| walk_at "hp") => `(tactic| first | assumption | (apply Le.keep; assumption; walk_at "hp") | (apply TextAt.le; assumption; walk_at "hp") | (apply Lw.keep; assumption; walk_at "hp"; first | rfl | exact sh_str _ | exact sh_ints _ | exact sh_sgns _) | (apply TextAt.lw; assumption; walk_at "hp"))
local macro_rules | `(tactic| walk_at "le") => `(tactic| first | exact Le.refl _ | assumption | (apply Le.trans'; assumption; walk_at "le"))
local macro_rules | `(tactic| walk_at "lw") => `(tactic| first | exact Lw.refl _ | assumption | exact Le.w (by assumption) | (apply Lw.trans'; (first | assumption | exact Le.w (by assumption)); walk_at "lw"))
local macro_rules | `(tactic| walk_at "sz") => `(tactic| first | omega | (simp only [slen_app]; omega) | (simp only [List.length_append, List.length_cons, List.length_nil, List.length_map, List.length_range]; omega) | omega | (simp; omega) | decide)
local macro_rules | `(tactic| walk_at "x") => `(tactic| first
  | with_reducible refine x_seq ?_ | with_reducible refine x_asg ?_ | with_reducible refine x_ret ?_ | with_reducible refine x_drop ?_
  | ((with_reducible apply x_var); exact rfl) | with_reducible refine x_c ?_ | with_reducible refine x_op ?_ | with_reducible refine x_opS ?_ | with_reducible refine x_un ?_ | with_reducible refine x_neg ?_
  | with_reducible refine x_test ?_ | with_reducible refine x_tB ?_ | with_reducible refine x_kB ?_
  | with_reducible refine x_nil ?_ | with_reducible refine x_cons ?_ | with_reducible refine x_tup ?_ | with_reducible refine x_lst ?_
  | ((with_reducible refine x_kTup ?_ ?_); (walk_at "sz"); (intro _ _ _ _ _)) | ((with_reducible refine x_kLst ?_ ?_); (walk_at "sz"); (intro _ _ _ _ _))
  | with_reducible refine x_fld ?_ | ((with_reducible apply x_fS); assumption; (walk_at "hp")) | ((with_reducible apply x_fC); assumption; (walk_at "hp"))
  | with_reducible refine x_cb ?_ | with_reducible refine x_call ?_ | with_reducible refine x_callE ?_ | with_reducible refine x_bm ?_ | with_reducible refine x_cv ?_
  | with_reducible refine x_meth ?_ | with_reducible refine x_cm ?_ | with_reducible refine x_kCM ?_ | with_reducible refine x_mk ?_ | with_reducible refine x_kMk ?_
  | with_reducible refine x_np ?_ | with_reducible refine x_part ?_ | with_reducible refine x_kPart ?_ | with_reducible refine x_sl ?_ | with_reducible refine x_rev ?_
  | with_reducible refine x_addI ?_ | ((with_reducible refine x_addS ?_ ?_); (walk_at "sz")) | with_reducible refine x_I0 ?_
  | with_reducible refine x_eqS ?_ | with_reducible refine x_eqI ?_ | with_reducible refine x_eqB ?_ | with_reducible refine x_neS ?_ | with_reducible refine x_neI ?_ | with_reducible refine x_neB ?_
  | with_reducible refine x_eqFS ?_ | with_reducible refine x_eqFI ?_
  | with_reducible refine x_ltI ?_ | with_reducible refine x_ltS ?_ | with_reducible refine x_leI ?_ | with_reducible refine x_leS ?_ | with_reducible refine x_inT ?_ | with_reducible refine x_notInT ?_
  | ((with_reducible refine x_slS ?_ ?_); (walk_at "sz")) | ((with_reducible refine x_kRev ?_ ?_); (walk_at "sz"))
  | ((with_reducible refine x_lenS ?_ ?_); (walk_at "sz")) | ((with_reducible apply x_lenT); (walk_at "hp"))
  | ((with_reducible apply x_ixT); (walk_at "hp"); exact rfl)
  | with_reducible refine x_abs ?_ | with_reducible refine x_int ?_ | with_reducible refine x_strS ?_
  | ((with_reducible apply x_isB); (first | exact kit_ty (r := true) (by decide +kernel) | exact kit_ty (r := false) (by decide +kernel))) | ((with_reducible apply x_isI); (first | exact kit_ty (r := true) (by decide +kernel) | exact kit_ty (r := false) (by decide +kernel))) | ((with_reducible apply x_isS); (first | exact kit_ty (r := true) (by decide +kernel) | exact kit_ty (r := false) (by decide +kernel)))
  | ((with_reducible apply x_isT); (walk_at "hp"); (first | exact kit_ty (r := true) (by decide +kernel) | exact kit_ty (r := false) (by decide +kernel)))
  | ((with_reducible apply x_isText); assumption; (walk_at "hp")) | ((with_reducible apply x_isTextS); assumption) | ((with_reducible apply x_isTextI); assumption) | ((with_reducible apply x_isTextN); assumption) | ((with_reducible apply x_kCVT); assumption)
  | ((with_reducible apply x_addL); (walk_at "hp"); (walk_at "hp"); (walk_at "sz"); (intro _ _ _ _ _)) | ((with_reducible apply x_tyL); (walk_at "hp")) | with_reducible refine x_tyS ?_
  | with_reducible refine x_joined ?_ | with_reducible refine x_js ?_ | with_reducible refine x_js0 ?_ | ((with_reducible refine x_kJs ?_ ?_); (walk_at "sz")) | with_reducible refine x_fmt ?_ | ((with_reducible refine x_fmtS ?_ ?_); (walk_at "sz")) | ((with_reducible refine x_fmtI ?_ ?_); omega)
  | with_reducible refine x_rse ?_ | with_reducible refine x_ex ?_ | with_reducible refine x_ex0 ?_ | with_reducible refine x_xf ?_
  | with_reducible refine x_for ?_ | with_reducible refine x_r1 ?_ | with_reducible refine x_r2 ?_ | with_reducible refine x_il ?_ | with_reducible refine x_en ?_ | with_reducible refine x_lc ?_ | with_reducible refine x_next ?_ | dsimp only)
local macro_rules | `(tactic| walk_at "xs") => `(tactic| repeat walk_at "x")
local macro_rules | `(tactic| walk_at "ev0") => `(tactic| (refine ev_run ?_; intro _ _ _ q; walk_at "xs"; refine q _ ?_; walk_at "le"))
local macro_rules | `(tactic| walk_at "ch") => `(tactic| (intro _ _ _ q; walk_at "xs"; refine q _ ?_; walk_at "le"))
local macro_rules | `(tactic| walk_at "ev") => `(tactic| first
  | (focus ((with_reducible refine ev_andV ?_ (fun _ => ?_)); (all_goals walk_at "ev"))) | (focus ((with_reducible refine ev_orV ?_ (fun _ => ?_)); (all_goals walk_at "ev")))
  | ((with_reducible refine ev_notV ?_); walk_at "ev")
  | (focus ((with_reducible apply ev_chain); (focus walk_at "ch"); (focus walk_at "ch"); (focus walk_at "ch"); (focus (intro _ _ _ q; walk_at "x"; exact q)); (focus (intro _ _ _ q; walk_at "x"; exact q))))
  | walk_at "ev0" | skip)
local macro_rules | `(tactic| walk_at "et") => `(tactic| first
  | (focus ((with_reducible refine et_and ?_ (fun _ => ?_)); (all_goals walk_at "et"))) | (focus ((with_reducible refine et_or ?_ (fun _ => ?_)); (all_goals walk_at "et")))
  | ((with_reducible refine et_not ?_); walk_at "et") | ((with_reducible refine et_B ?_); walk_at "ev") | ((with_reducible refine et_T ?_); walk_at "ev"))
local macro_rules | `(tactic| walk_at "hp") => `(tactic| first | assumption | (apply RuleAt.le; assumption; walk_at "hp") | (apply RulesAt.le; assumption; walk_at "hp") | (apply BookAt.le; assumption; walk_at "hp") | (apply RuleAt.lw; assumption; walk_at "hp") | (apply BookAt.lw; assumption; walk_at "hp") | (apply R4s.le; assumption; walk_at "hp") | (apply R4s.lw; assumption; walk_at "hp"))
local macro_rules | `(tactic| walk_at "x") => `(tactic| first
  | ((with_reducible apply x_fO); assumption; (walk_at "hp")) | ((with_reducible apply x_fN); assumption; (walk_at "hp")) | ((with_reducible apply x_fL); assumption; (walk_at "hp")) | ((with_reducible apply x_fR); assumption; (walk_at "hp")) | ((with_reducible apply x_fB); assumption; (walk_at "hp"))
  | ((with_reducible apply x_isRule); assumption; (walk_at "hp")) | ((with_reducible apply x_kCVB); assumption)
  | with_reducible refine x_callO ?_ | with_reducible refine x_kCO ?_ | with_reducible refine x_prop ?_ | with_reducible refine x_max ?_ | with_reducible refine x_intB ?_ | with_reducible refine x_findS ?_ | with_reducible refine x_countS ?_ | with_reducible refine x_isN ?_)
local macro_rules | `(tactic| walk_at "sz") => `(tactic| (simp only [slen_app, elen, len1a, len1b, len1c]; omega))
local macro_rules | `(tactic| walk_at "x") => `(tactic| first
  | with_reducible refine x_sfld ?_ | with_reducible refine x_enL ?_ | with_reducible refine x_enN ?_ | with_reducible refine x_it ?_ | with_reducible refine x_asgT ?_ | ((with_reducible apply x_g2); (walk_at "hp")) | ((with_reducible apply x_g3); (walk_at "hp")) | ((with_reducible apply x_g4); (walk_at "hp"))
  | ((with_reducible apply x_lenL2); (walk_at "hp")) | with_reducible refine x_gseq ?_ | with_reducible refine x_g0 ?_ | with_reducible refine x_gfor ?_ | with_reducible refine x_gps ?_)
local macro_rules | `(tactic| walk_at "x") => `(tactic| first | ((with_reducible refine x_splitS ?_ ?_ ?_); (decide +kernel); (walk_at "sz"); (intro _ _ _ _ _)) | with_reducible refine x_methK ?_ | with_reducible refine x_mkSt ?_ | with_reducible refine x_kMkSt ?_ | ((with_reducible apply x_kStL); (walk_at "hp")))
local macro_rules | `(tactic| walk_at "x") => `(tactic| first
  | with_reducible refine x_listG ?_ | with_reducible refine x_gm ?_)
local macro_rules | `(tactic| walk_at "st") => `(tactic| first | assumption | (apply St.le; assumption; walk_at "st"))
local macro_rules | `(tactic| walk_at "x") => `(tactic| first | ((with_reducible apply x_ixL2); (walk_at "hp"); exact rfl) | ((with_reducible apply x_lenL2); (walk_at "hp")))
local macro_rules | `(tactic| walk_at "hp") => `(tactic| first | assumption | (apply Rs.le; assumption; walk_at "hp") | (apply Rs.lw; assumption; walk_at "hp"))
local macro_rules | `(tactic| walk_at "x") => `(tactic| first | ((with_reducible apply x_r0); (walk_at "hp")) | ((with_reducible apply x_r1'); (walk_at "hp")) | ((with_reducible apply x_r2'); (walk_at "hp")) | ((with_reducible apply x_r3); (walk_at "hp")) | ((with_reducible apply x_lenRs); (walk_at "hp")) | with_reducible refine x_is ?_ | with_reducible refine x_tOwn ?_)
local macro_rules | `(tactic| walk_at "x") => `(tactic| first | with_reducible refine x_mkRG ?_ | ((with_reducible apply x_kOwn); (walk_at "hp")))
def sp_law (K : PySem.W.Frag) : Sp := fun vs H Q E => ∃ (s0 : Addr) (ns : List Int), vs = [.ref s0] ∧ SqL K H s0 (ns.map V.int) ∧ ∀ H', Q (.bl true) H'
/-! ### to and fro -/
theorem s_from {H : Hp} {O : List Addr} {σ : L2.St} {Γ : Gm} (hO : Hd O H) (he : EnvAt H O σ Γ) (hn : owns Γ = []) : Sta (H, O) (hid H O) H O σ Γ :=
  ⟨Le.refl _, hO, fun _ h => h, (fun p h => by rw [hn] at h; cases h), Le.refl _, he, hO, (fun p h => by rw [hn] at h; cases h), by rw [hn]; exact List.nodup_nil⟩
theorem env_any {H : Hp} {O : List Addr} {σ : L2.St} {s : Option Sl} {Γ : Gm} (h : EnvAt H O σ (s :: Γ)) : ∃ v σ', σ = v :: σ' ∧ EnvAt H O σ' Γ := by
  cases σ with
  | nil => exact h.elim
  | cons v σ => exact ⟨v, σ, rfl, h.2⟩
theorem env_pure {α : Type} {r : Rp α} {x : α} {H : Hp} {O : List Addr} {σ : L2.St} {Γ : Gm} (h : EnvAt H O σ (some (.pure r x) :: Γ)) : ∃ v σ', σ = some v :: σ' ∧ r.at_ H v x ∧ EnvAt H O σ' Γ := by
  cases σ with
  | nil => exact h.elim
  | cons v σ =>
    cases v with
    | none => exact h.1.elim
    | some v => exact ⟨v, σ, rfl, r.le unhid h.1, h.2⟩
theorem env_nil {H : Hp} {O : List Addr} {σ : L2.St} (h : EnvAt H O σ []) : σ = [] := by
  cases σ with
  | nil => rfl
  | cons _ _ => exact h.elim
def rVal : Rp V := ⟨fun _ v x => v = x, fun _ h => h⟩
theorem rows_all {H : Hp} : ∀ {vs : List V} {ws : List Row}, RowsAt H vs ws → All2 rRow H vs ws
  | [], [], _ => trivial
  | _ :: _, _ :: _, h => ⟨h.1, rows_all h.2⟩
  | [], _ :: _, h => h.elim
  | _ :: _, [], h => h.elim
theorem sh_prs {H : Hp} : ∀ {vs : List V} {ts : List (Int × Int)}, All2 rPr H vs ts → stSh (.lst vs) = false
  | [], [], _ => rfl
  | [_], [_], h => by obtain ⟨⟨p, _, _, rfl, _⟩, _⟩ := h; rfl
  | _ :: _ :: _, _ :: _ :: _, h => by obtain ⟨⟨p, _, _, rfl, _⟩, ⟨q, _, _, rfl, _⟩, _⟩ := h; rfl
  | [], _ :: _, h => h.elim
  | _ :: _, [], h => h.elim
  | [_], _ :: _ :: _, h => h.2.elim
  | _ :: _ :: _, [_], h => h.2.elim
theorem lprs_lw {H H' : Hp} {v : V} {ts : List (Int × Int)} (e : Lw H H') (h : (rList rPr).at_ H v ts) : (rList rPr).at_ H' v ts := by
  obtain ⟨p, vs, rfl, h1, h2⟩ := h
  exact ⟨p, vs, rfl, e.keep h1 (sh_prs h2), prs_lw e h2⟩
theorem mem_cutL {α : Type} {xs : List α} {lo hi : Option Int} {x : α} (h : x ∈ cutL xs lo hi) : x ∈ xs := List.mem_of_mem_drop (List.mem_of_mem_take h)
theorem all_cut {α : Type} {r : Rp α} {H : Hp} {vs : List V} {xs : List α} {lo hi : Option Int} (h : All2 r H vs xs) : All2 r H (cutV vs lo hi) (cutL xs lo hi) := by
  have hl := h.len
  unfold cutL cutV
  rw [hl]
  exact (h.drop _).take _
theorem fits_len {x : R4} {z : Str} {c : Bool} {i : Int} (h : fits x z c i = true) : (pat x).length ≤ z.length := by
  unfold fits at h
  split at h
  · cases h
  · omega
theorem step_due {xs : List R4} {z : Str} {c : Bool} {t : Int × Int} (fx : ∀ x ∈ xs, Fine x) (hz : z.length ≤ 15) (h : isStep xs z c t = true) : DueOk xs z t := by
  obtain ⟨h1, h2⟩ := isStep_in h
  have hp := fits_pos h2
  refine ⟨h1, ?_, fits_len h2, ⟨by omega, by omega⟩⟩
  rw [List.getD_eq_getElem?_getD, List.getElem?_eq_getElem (show t.1.toNat < xs.length by omega)]
  exact fx _ (List.getElem_mem _)
theorem step_sm {xs : List R4} {z : Str} {c : Bool} {t : Int × Int} (hn : xs.length ≤ 8) (hz : z.length ≤ 15) (h : isStep xs z c t = true) : SmP t.1 ∧ SmP t.2 := by
  obtain ⟨h1, h2⟩ := isStep_in h
  have hp := fits_pos h2
  exact ⟨⟨by omega, by omega⟩, ⟨by omega, by omega⟩⟩
theorem step_drop {xs : List R4} {z : Str} {c : Bool} {t : Int × Int} (h : isStep xs z c t = true) (h0 : 0 < t.1) : isStep (xs.eraseIdx 0) z c (t.1 - 1, t.2) = true := by
  obtain ⟨h1, h2⟩ := isStep_in h
  cases xs with
  | nil => simp at h1; omega
  | cons x xs =>
    unfold isStep
    rw [Bool.and_eq_true]
    have e : t.1.toNat = (t.1 - 1).toNat + 1 := by omega
    refine ⟨decide_eq_true ⟨by show 0 ≤ t.1 - 1; omega, ?_⟩, ?_⟩
    · show t.1 - 1 < ((xs.length : Nat) : Int)
      have := h1.2
      rw [List.length_cons] at this
      omega
    · rw [e] at h2
      show fits (xs.getD (t.1 - 1).toNat r0) z c t.2 = true
      rw [List.getD_cons_succ] at h2
      exact h2
theorem cut_rest {xs : List R4} (h : 1 ≤ xs.length) : cutL xs (some 1) none = xs.eraseIdx 0 := by
  unfold cutL
  rw [show (1 : Int) = ((1 : Nat) : Int) from rfl, HT.sIx_nat, HT.sIx_none, Nat.min_eq_left h, List.take_of_length_le (by simp)]
  cases xs with
  | nil => simp at h
  | cons x xs => rfl
theorem fl_s {K : PySem.W.Frag} {mg : Str → Option Value} {a : Ad} (T : Txt K mg a) : FldRp K (rText a) a.cText "signs" rStr (fun t => t.1) := ⟨T.fS, fun H v x ⟨p, e, ⟨dx, h⟩, _⟩ => ⟨p, dx, _, _, e, h, lkS, rfl⟩⟩
theorem fl_c {K : PySem.W.Frag} {mg : Str → Option Value} {a : Ad} (T : Txt K mg a) : FldRp K (rText a) a.cText "closed" rBool (fun t => t.2) := ⟨T.fC, fun H v x ⟨p, e, ⟨dx, h⟩, _⟩ => ⟨p, dx, _, _, e, h, lkC, rfl⟩⟩
/-- what stands, ahead of the loops -/
def GA (a : Ad) (s : Addr) (xs : List R4) (z : Str) (c : Bool) (ts : List (Int × Int)) (v12 v13 v17 v18 : Option Sl) : Gm :=
  [none, some (.pure rVal (.ref s)), none, some (.pure rBool c), none, some (.pure (rList rR4) xs), none, some (.pure rStr z), some (.pure (rBook a) xs), some (.pure (rText a) (z, c)), some (.pure (rList rPr) ts), some (.pure (rList rRow) (rows xs)), v12, v13, none, none, none, v17, v18, none]
def GC (a : Ad) (xs : List R4) (z : Str) (c : Bool) (ts : List (Int × Int)) (v12 v14 v15 v17 v18 : Option Sl) : Gm :=
  [none, none, none, some (.pure rBool c), none, some (.pure (rList rR4) xs), none, some (.pure rStr z), some (.pure (rBook a) (xs.eraseIdx 0)), some (.pure (rText a) (z, c)), some (.pure (rList rPr) ts), none, v12, none, v14, v15, none, v17, v18, none]
theorem book_item {a : Ad} {H : Hp} {us : List V} {xs : List R4} (h : RulesAt a H us xs) (hx : 1 ≤ xs.length) : ∃ o us' C dx fs, us = .ref o :: us' ∧ H o = some (.ins C dx fs) := by
  match us, xs, h with
  | u :: us, x :: xs, h =>
    obtain ⟨⟨o, rfl, dx, ho⟩, _⟩ := h
    exact ⟨o, us, _, dx, _, rfl, ho⟩
  | [], [], _ => simp at hx
theorem RulesAt.erase {a : Ad} {H : Hp} : ∀ {vs : List V} {xs : List R4} (i : Nat), RulesAt a H vs xs → RulesAt a H (vs.eraseIdx i) (xs.eraseIdx i)
  | [], [], i, _ => by simp [RulesAt]
  | _ :: _, _ :: _, 0, h => h.2
  | _ :: _, _ :: _, i + 1, h => ⟨h.1, RulesAt.erase i h.2⟩
  | [], _ :: _, _, h => h.elim
  | _ :: _, [], _, h => h.elim
theorem rules_put {a : Ad} {H1 : Hp} {D : Addr} {acc : List V} {b : HO} (hD : H1 D = some (.lst acc)) : ∀ {vs : List V} {xs : List R4}, RulesAt a H1 vs xs → RulesAt a (upd H1 D b) vs xs
  | [], [], _ => trivial
  | _ :: _, _ :: _, h => by
    obtain ⟨⟨o, rfl, dx, ho⟩, h2⟩ := h
    exact ⟨⟨o, rfl, dx, by rw [upd_ne (fun z => by rw [z, hD] at ho; cases ho)]; exact ho⟩, rules_put hD h2⟩
  | [], _ :: _, h => h.elim
  | _ :: _, [], h => h.elim
theorem ok_law {P : Program} {w : World} {K : PySem.W.Frag} {mg : Str → Option Value} {base : Heap} {a : Ad} {f : Addr} {fd : FuncData} (F : FnP K "law" "law" s_law f fd) (T : Txt K mg a) (G__law_refused : FnG P w K mg base 5 "_law_refused" (sp__law_refused a)) (G__law_tells : FnG P w K mg base 5 "_law_tells" (sp__law_tells a)) (G__law_due_of : FnG P w K mg base 3 "_law_due_of" (sp__law_due_of a)) (M_Book_drop : MeG P w K mg base 2 a.cBook "drop" (sp_Book_drop a)) (G__law_is_book : FnG P w K mg base 5 "_law_is_book" (sp__law_is_book a)) (G__law_strangers : FnG P w K mg base 2 "_law_strangers" (sp__law_strangers a)) (G__law_shifts : FnG P w K mg base 1 "_law_shifts" (sp__law_shifts a)) (Y_overlaps : GfG P w K mg base 5 "overlaps" (sp_overlaps a)) (G__law_next : FnG P w K mg base 1 "_law_next" (sp__law_next a)) (G__law_steps_of : FnG P w K mg base 2 "_law_steps_of" (sp__law_steps_of a)) (Ct_Text_1_closed : CtG P w K mg base 3 a.cText 1 ["closed"] (spCt_Text_1_closed a)) (G__law_book_of : FnG P w K mg base 8 "_law_book_of" (sp__law_book_of a)) (G__law_text_of : FnG P w K mg base 3 "_law_text_of" (sp__law_text_of a)) (G__law_rules_of : FnG P w K mg base 4 "_law_rules_of" (sp__law_rules_of a)) (G__law_letters_of : FnG P w K mg base 2 "_law_letters_of" (sp__law_letters_of a)) :
    FnOk P w K mg base (L2.CX P w) 9 f fd ["_law_script"] (sp_law K) := by
  refine F.ok sc_law (fun vs H Q E h => by obtain ⟨s0, ns, rfl, hS, q⟩ := h; rfl) (fun cdv A outer s H vs Q E hr h => ?_)
  refine ⟨_, (pss_cons (ps_set (i := 1) sc_law.nd rfl (Or.inl rfl) (pe_lst (pa_cons (pe_callTy (call_listU rfl) (by rfl) T.f_list (by decide +kernel) (pa_cons (pe_slice sl_U (pv 0) po_none (po_some pe_int)) pa_nil)) (pa_cons pe_int (pa_cons pe_int pa_nil)))))
    (pss_cons (ps_set (i := 2) sc_law.nd rfl (Or.inl rfl) (pe_callG G__law_next (hr.mono (by decide)) passN rfl (pa_cons (pv 1) (pa_cons pe_int pa_nil))))
    (pss_cons (ps_set (i := 3) sc_law.nd rfl (Or.inl rfl) (pe_cmpR (op_eqU hr) (pe_callG G__law_next (hr.mono (by decide)) passN rfl (pa_cons (pv 1) (pa_cons pe_int pa_nil))) pe_int (nomark _)))
    (pss_cons (ps_set (i := 4) sc_law.nd rfl (Or.inl rfl) (pe_callG G__law_letters_of (hr.mono (by decide)) passN rfl (pa_cons (pv 1) pa_nil)))
    (pss_cons (ps_set (i := 5) sc_law.nd rfl (Or.inl rfl) (pe_callG G__law_rules_of (hr.mono (by decide)) passN rfl (pa_cons (pv 1) (pa_cons (pv 4) pa_nil))))
    (pss_cons (ps_set (i := 6) sc_law.nd rfl (Or.inl rfl) (pe_ix ix_seq (pe_lst (pa_cons pe_int (pa_cons pe_int (pa_cons pe_int (pa_cons pe_int (pa_cons pe_int (pa_cons pe_int (pa_cons pe_int pa_nil)))))))) (pe_callG G__law_next (hr.mono (by decide)) passN rfl (pa_cons (pv 1) (pa_cons pe_int pa_nil))) (fun _ _ => rfl)))
    (Evl.pss_cut (ps_if (pt_cmpR (op_eqU hr) (pv 2) pe_int (nomark _)) (pss_one (ps_set (i := 6) sc_law.nd rfl (Or.inl rfl) (pe_op op_addU (pv 6) pe_int))) pss_nil)
    (pss_cons (ps_set (i := 7) sc_law.nd rfl (Or.inl rfl) (pe_callG G__law_text_of (hr.mono (by decide)) passN rfl (pa_cons (pv 1) (pa_cons (pv 4) (pa_cons (pv 5) (pa_cons (pe_callB (call_maxU rfl) (by rfl) T.f_max (by decide +kernel) (pa_cons (pv 6) (pa_cons (pe_callTy call_intU (by rfl) T.f_int (by decide +kernel) (pa_cons (pv 3) pa_nil)) pa_nil))) pa_nil))))))
    (pss_cons (ps_set (i := 8) sc_law.nd rfl (Or.inl rfl) (pe_callG G__law_book_of (hr.mono (by decide)) passN rfl (pa_cons (pv 5) pa_nil)))
    (pss_cons (ps_set (i := 9) sc_law.nd rfl (Or.inl rfl) (pe_mkG Ct_Text_1_closed (hr.mono (by decide)) passN (pe_glob (v := .ref a.cText) rfl T.g_Text rfl) (pa_cons (pv 7) pa_nil) (pk_cons (pv 3) pk_nil)))
    (pss_cons (ps_set (i := 10) sc_law.nd rfl (Or.inl rfl) (pe_callG G__law_steps_of (hr.mono (by decide)) passN rfl (pa_cons (pv 5) (pa_cons (pv 7) (pa_cons (pv 3) pa_nil)))))
    (Evl.pss_cut (ps_if (pt_cmpR op_gt (pe_callB call_lenU (by rfl) T.f_len (by decide +kernel) (pa_cons (pv 10) pa_nil)) pe_int (nomark _)) (pss_cons (ps_set (i := 16) sc_law.nd rfl (Or.inl rfl) (pe_callG G__law_next (hr.mono (by decide)) passN rfl (pa_cons (pv 1) (pa_cons (pe_op op_sub (pe_callB call_lenU (by rfl) T.f_len (by decide +kernel) (pa_cons (pv 10) pa_nil)) pe_int) pa_nil))))
    (pss_one (ps_set (i := 10) sc_law.nd rfl (Or.inl rfl) (pe_slice sl_U (pv 10) (po_some (pv 16)) (po_some (pe_op op_addU (pv 16) pe_int)))))) pss_nil)
    (pss_cons (ps_set (i := 11) sc_law.nd rfl (Or.inl rfl) (pe_listGen (pgen_fG Y_overlaps (hr.mono (by decide)) (by rfl) (pa_cons (pv 8) pa_nil)) (hr.mono (by decide)) (by rfl) T.f_list (by decide +kernel)))
    (pss_cons (ps_for (by first | exact po | exact PassesOwn.never | exact passes_of rfl) rfl (pi_list (pv 10)) (pg_name (i := 12) sc_law.nd rfl (Or.inl rfl)) (pss_one (ps_for (by first | exact po | exact PassesOwn.never | exact passes_of rfl) rfl (pi_list (pv 10)) (pg_name (i := 17) sc_law.nd rfl (Or.inl rfl)) (pss_cons (ps_set (i := 18) sc_law.nd rfl (Or.inl rfl) (pe_callG G__law_due_of (hr.mono (by decide)) passN rfl (pa_cons (pv 5) (pa_cons (pv 7) (pa_cons (pv 12) (pa_cons (pv 17) pa_nil))))))
    (pss_cons (ps_if (pt_not (pt_val (pe_callG G__law_tells (hr.mono (by decide)) passN rfl (pa_cons (pv 8) (pa_cons (pv 9) (pa_cons (pv 12) (pa_cons (pv 17) (pa_cons (pv 18) pa_nil)))))))) (pss_one (ps_ret pe_bl)) pss_nil)
    (pss_one (ps_if (PW.pt (pw_and (pt_not (pt_val (pv 3))) (pw_and1 (pt_not (pt_val (pe_callG G__law_shifts (hr.mono (by decide)) passN rfl (pa_cons (pv 11) (pa_cons (pv 12) (pa_cons (pv 17) (pa_cons (pv 18) pa_nil)))))))))) (pss_one (ps_ret pe_bl)) pss_nil)))))))
    (pss_cons (ps_set (i := 13) sc_law.nd rfl (Or.inl rfl) (pe_callG G__law_strangers (hr.mono (by decide)) passN rfl (pa_cons (pv 1) (pa_cons (pv 5) (pa_cons (pv 7) (pa_cons (pv 3) pa_nil))))))
    (pss_cons (ps_for (by first | exact po | exact PassesOwn.never | exact passes_of rfl) rfl (pi_list (pv 13)) (pg_name (i := 12) sc_law.nd rfl (Or.inl rfl)) (pss_cons (ps_for (by first | exact po | exact PassesOwn.never | exact passes_of rfl) rfl (pi_list (pe_op op_addU (pv 13) (pe_slice sl_U (pv 10) po_none (po_some pe_int)))) (pg_name (i := 17) sc_law.nd rfl (Or.inl rfl)) (pss_one (ps_if (pt_not (pt_val (pe_callG G__law_refused (hr.mono (by decide)) passN rfl (pa_cons (pv 8) (pa_cons (pv 9) (pa_cons (pv 12) (pa_cons (pv 17) (pa_cons pe_int pa_nil)))))))) (pss_one (ps_ret pe_bl)) pss_nil)))
    (pss_one (ps_for (by first | exact po | exact PassesOwn.never | exact passes_of rfl) rfl (pi_list (pe_slice sl_U (pv 10) po_none (po_some pe_int))) (pg_name (i := 17) sc_law.nd rfl (Or.inl rfl)) (pss_one (ps_if (pt_not (pt_val (pe_callG G__law_refused (hr.mono (by decide)) passN rfl (pa_cons (pv 8) (pa_cons (pv 9) (pa_cons (pv 17) (pa_cons (pv 12) (pa_cons pe_int pa_nil)))))))) (pss_one (ps_ret pe_bl)) pss_nil))))))
    (pss_cons (ps_if (pt_not (pt_val (pe_callG G__law_is_book (hr.mono (by decide)) passN rfl (pa_cons (pv 8) (pa_cons (pv 5) pa_nil))))) (pss_one (ps_ret pe_bl)) pss_nil)
    (pss_cons (ps_expr (pe_methG M_Book_drop (hr.mono (by decide)) passN (pv 8) (pa_cons pe_int pa_nil)))
    (pss_cons (ps_set (i := 14) sc_law.nd rfl (Or.inl rfl) (pe_slice sl_U (pv 5) (po_some pe_int) po_none))
    (pss_cons (ps_setLc (i := 15) (own := [("_law_step", 19)]) (g := gName 19) rfl sc_law.nd rfl rfl (sw_true rfl rfl rfl (by decide +kernel)) (pi_list (pv 10)) (blkOk_by (N := ["_law_script", "_law_state", "_law_kind", "_law_closed", "_law_signs", "_law_rules", "_law_many", "_law_shown", "_law_book", "_law_text", "_law_steps", "_law_rows", "_law_one", "_law_odd", "_law_rest", "_law_moved", "_law_at", "_law_two", "_law_due", "_law_step"]) (sc := defScope s_law) (by decide +kernel)) (fun _ _ _ _ _ => pg_name (i := 19) sc_law.nd rfl (Or.inl rfl)) (fun _ _ _ _ _ => pts_one (pt_cmpR op_gt (pe_ix (ix_seqk K rfl) (pv 19) pe_int (fun _ _ => rfl)) pe_int (nomark _))) (fun _ _ _ _ _ => (pe_tup (pa_cons (pe_op op_sub (pe_ix (ix_seqk K rfl) (pv 19) pe_int (fun _ _ => rfl)) pe_int) (pa_cons (pe_ix (ix_seqk K rfl) (pv 19) pe_int (fun _ _ => rfl)) pa_nil)))))
    (pss_cons (ps_for (by first | exact po | exact PassesOwn.never | exact passes_of rfl) rfl (pi_list (pe_slice sl_U (pv 15) po_none (po_some pe_int))) (pg_name (i := 12) sc_law.nd rfl (Or.inl rfl)) (pss_one (ps_for (by first | exact po | exact PassesOwn.never | exact passes_of rfl) rfl (pi_list (pe_slice sl_U (pv 15) (po_some (pe_un un_neg pe_int)) po_none)) (pg_name (i := 17) sc_law.nd rfl (Or.inl rfl)) (pss_cons (ps_set (i := 18) sc_law.nd rfl (Or.inl rfl) (pe_callG G__law_due_of (hr.mono (by decide)) passN rfl (pa_cons (pv 14) (pa_cons (pv 7) (pa_cons (pv 12) (pa_cons (pv 17) pa_nil))))))
    (pss_one (ps_if (pt_not (pt_val (pe_callG G__law_tells (hr.mono (by decide)) passN rfl (pa_cons (pv 8) (pa_cons (pv 9) (pa_cons (pv 12) (pa_cons (pv 17) (pa_cons (pv 18) pa_nil)))))))) (pss_one (ps_ret pe_bl)) pss_nil))))))
    (pss_cons (ps_if (pt_not (pt_val (pe_callG G__law_refused (hr.mono (by decide)) passN rfl (pa_cons (pv 8) (pa_cons (pv 9) (pa_cons (pe_tup (pa_cons (pe_callB call_lenU (by rfl) T.f_len (by decide +kernel) (pa_cons (pv 14) pa_nil)) (pa_cons pe_int pa_nil))) (pa_cons (pe_tup (pa_cons (pe_callB call_lenU (by rfl) T.f_len (by decide +kernel) (pa_cons (pv 14) pa_nil)) (pa_cons pe_int pa_nil))) (pa_cons pe_int pa_nil)))))))) (pss_one (ps_ret pe_bl)) pss_nil)
    (pss_one (ps_ret (pe_and (pe_cmpR (op_eqU hr) (pe_fld (pv 9) rfl) (pv 7) (nomark _)) (pe_one (pe_cmpR (op_eqU hr) (pe_fld (pv 9) rfl) (pv 3) (nomark _)))))))))))))))))))))))))))), ?_⟩
  obtain ⟨s0, ns, rfl, hS, q⟩ := h
  walk_at "xs"
  refine x_slL hS fun p1 H1 n1 e1 h1 => ?_
  walk_at "xs"
  refine x_listL (sql h1) fun p2 H2 n2 e2 h2 => ?_
  walk_at "xs"
  rename_i s H3 n3 e3 h3
  have s3 : St H3 s p2 := by
    obtain ⟨ms, hms⟩ := list_int ns none (some 63)
    rw [hms] at h2
    exact ⟨ms, 0, 0, h3, e3.keep h2, by omega, by omega⟩
  clear e1 e2 e3 h1 h2 h3 hS
  refine c_next s3 (by decide) fun kd H4 k1 k2 e4 s4 => ?_
  walk_at "xs"
  refine c_next s4 (by decide) fun cl H5 c1 c2 e5 s5 => ?_
  walk_at "xs"
  generalize decide (cl = 1) = c
  clear c1 c2 e4 e5 s3 s4
  refine ⟨s, p2, rfl, s5, fun g H6 hgb hg1 hg2 e6 s6 => ?_⟩
  walk_at "xs"
  refine ⟨s, p2, g, rfl, s6, hgb, by omega, fun r us xs H7 fx nd l1 l8 e7 s7 hr7 hus7 => ?_⟩
  have hR7 : Rs H7 r xs := ⟨us, hr7, hus7⟩
  clear hr7 hus7 e6 e7 s5 s6
  walk_at "xs"
  rename_i p8 H8 n8 e8 h8
  refine c_next (s7.le e8) (by decide) fun r9 H9 a1 a2 e9 s9 => ?_
  refine x_ixP (fun n => 0 ≤ n ∧ n ≤ 6) [5, 4, 6, 3, 2, 1, 0] (e9.keep h8 rfl) ⟨a1, a2⟩ (by decide) fun m0 hm0 => ?_
  have hR9 : Rs H9 r xs := (hR7.le e8).lw e9
  clear hR7 h8 e8 e9 s7 a1 a2
  walk_at "xs"
  refine x_cut (fun σ' H' => (∃ m, σ' = [some (V.ref s0), some (V.ref s), some (V.int kd), some (V.bl c), some (V.str g), some (V.ref r), some (V.int m), none, none, none, none, none, none, none, none, none, none, none, none, none] ∧ 0 ≤ m ∧ m ≤ 12) ∧ Le H9 H') ?_ ?_
  · refine x_if (b := decide (kd = 7)) (by walk_at "et") (fun hb H10 e10 => ?_) (fun hb H10 e10 => ?_)
    · walk_at "xs"
      exact ⟨⟨_, rfl, by omega, by omega⟩, e10⟩
    · walk_at "xs"
      exact ⟨⟨_, rfl, by omega, by omega⟩, e10⟩
  clear hm0
  rintro σ' H10 ⟨⟨m, rfl, hm1, hm2⟩, e10⟩
  have hR10 := hR9.le e10
  have s10 := s9.le e10
  clear e10 hR9 s9
  walk_at "xs"
  refine ⟨s, p2, g, r, xs, _, rfl, s10, hgb, by omega, hR10, fx, ⟨l1, l8⟩, by cases c <;> simp only [if_true, if_false, Bool.false_eq_true] <;> split <;> omega, fun z H11 hzb hzz e11 s11 => ?_⟩
  have hR11 := hR10.lw e11
  have hz15 : z.length ≤ 15 := by cases c <;> simp only [if_true, if_false, Bool.false_eq_true] at hzz <;> split at hzz <;> omega
  have gz : Good z c := ⟨hzb, by omega, fun hc h0 => by
    have h0 := empty_iff.mp h0
    subst hc
    simp only [if_true] at hzz
    split at hzz <;> omega⟩
  clear e11 hR10 s10 hzz hzb hm1 hm2
  walk_at "xs"
  refine ⟨r, xs, rfl, hR11, fx, nd, ⟨l1, l8⟩, fun b H12 e12 hb => ?_⟩
  have hR12 := hR11.le e12
  have s12 := s11.le e12
  clear hR11 s11 e12
  walk_at "xs"
  refine ⟨z, c, ⟨rfl, rfl⟩, gz, fun t H13 e13 ht => ?_⟩
  have hR13 := hR12.le e13
  have s13 := s12.le e13
  have hb13 := hb.le e13
  clear hR12 s12 e13 hb
  walk_at "xs"
  refine ⟨[], _, _, _, xs, z, c, rfl, hd0, h0n (rs_rp hR13), h0n rfl, h0n rfl, ⟨fx, l8, gz⟩, fun w H14 e14 hw => ?_⟩
  have hw := h0m hw
  have hR14 := hR13.le e14
  have s14 := s13.le e14
  have hb14 := hb13.le e14
  have ht14 := ht.le e14
  clear hR13 s13 hb13 ht e14
  obtain ⟨sp, ss, rfl, hsp, hss⟩ := hw
  have hsl : ss.length = (stepsTo xs z c z.length).length := hss.len
  have hsl2 := stepsTo_len xs z c z.length
  have hsl3 : z.length * xs.length ≤ 15 * 8 := Nat.mul_le_mul hz15 l8
  walk_at "xs"
  refine x_cut (fun σ' H' => ∃ sp ts v16, σ' = [some (V.ref s0), some (V.ref s), some (V.int kd), some (V.bl c), some (V.str g), some (V.ref r), some (V.int m), some (V.str z), some (V.ref b), some (V.ref t), some (V.ref sp), none, none, none, none, none, v16, none, none, none] ∧ (rList rPr).at_ H' (.ref sp) ts ∧ (∀ t ∈ ts, isStep xs z c t = true) ∧ ts.length ≤ 200 ∧ Lw H14 H' ∧ St H' s p2) ?_ ?_
  · refine x_if (b := decide (((ss.length : Nat) : Int) > 9)) (by walk_at "et") (fun hb5 H15 e15 => ?_) (fun hb5 H15 e15 => ?_)
    · have hb6 : (9 : Int) < (ss.length : Nat) := of_decide_eq_true hb5
      walk_at "xs"
      refine c_next (s14.le e15) (by omega) fun at_ H16 b1 b2 e16 s16 => ?_
      have hsp16 : H16 sp = some (.lst ss) := e16.keep (e15.keep hsp) (sh_prs hss)
      walk_at "xs"
      refine x_slL (sql hsp16) fun sp2 H17 n17 e17 h17 => ?_
      walk_at "xs"
      refine ⟨sp2, cutL (stepsTo xs z c z.length) (some at_) (some (at_ + 9)), _, rfl, ⟨sp2, _, rfl, h17, all_cut ((prs_lw e16 (hss.le e15)).le e17)⟩, fun t ht => (mem_steps (mem_cutL ht)).1, ?_, (e15.w.trans e16).trans e17.w, s16.le e17⟩
      have : (cutL (stepsTo xs z c z.length) (some at_) (some (at_ + 9))).length ≤ (stepsTo xs z c z.length).length := by
        unfold cutL
        rw [List.length_take, List.length_drop]; omega
      omega
    · walk_at "xs"
      exact ⟨sp, stepsTo xs z c z.length, _, rfl, ⟨sp, ss, rfl, e15.keep hsp, hss.le e15⟩, fun t ht => (mem_steps ht).1, by omega, e15.w, s14.le e15⟩
  clear hsp hss hsl hsl2 hsl3 hw
  clear ss sp
  rintro σ' H15 ⟨sp, ts, v16, rfl, hts, hst, htl, e15, s15⟩
  have hR15 := hR14.lw e15
  have hb15 := hb14.lw e15
  have ht15 := ht14.lw e15
  clear hR14 hb14 ht14 s14 e15
  walk_at "xs"
  refine x_gf ?_
  walk_at "xs"
  refine ⟨b, xs, rfl, fx, l8, hb15, fun ys H16 e16 hys => ?_⟩
  refine x_kLG fun rw_ H17 n17 e17 h17 => ?_
  have e := e16.trans e17
  have hrows : (rList rRow).at_ H17 (.ref rw_) (rows xs) := ⟨rw_, ys, rfl, h17, rows_all (hys.le e17)⟩
  have hR17 := hR15.le e
  have hb17 := hb15.le e
  have ht17 := ht15.le e
  have hts17 := (rList rPr).le e hts
  have s17 := s15.le e
  clear hR15 hb15 ht15 hts s15 hys h17 e16 e17 e
  have hrl : (rows xs).length ≤ 10000 := by have := rowsTo_len l8 xs.length; show (rowsTo xs xs.length).length ≤ 10000; omega
  have hdue : ∀ t ∈ ts, DueOk xs z t := fun t ht => step_due fx hz15 (hst t ht)
  have hsm : ∀ t ∈ ts, SmP t.1 ∧ SmP t.2 := fun t ht => step_sm l8 hz15 (hst t ht)
  have qT : ∀ {A : Hp} {v : V} {H' : Hp}, Le A H' → rBool.at_ (hid H' []) v true → Q v H' := fun _ hv => by cases hv; exact q _
  try dsimp only
  refine x_seq ?_
  have st0 := s_from (H := H17) (O := []) (σ := [some (V.ref s0), some (V.ref s), some (V.int kd), some (V.bl c), some (V.str g), some (V.ref r), some (V.int m), some (V.str z), some (V.ref b), some (V.ref t), some (V.ref sp), some (V.ref rw_), none, none, none, none, v16, none, none, none]) (Γ := GA a s xs z c ts none none none none) hd0
    ⟨trivial, rfl, trivial, rfl, trivial, h0n (rs_rp hR17), trivial, rfl, h0n ⟨b, rfl, hb17, fx, l8⟩, h0n ⟨t, rfl, ht17, gz⟩, h0n hts17, h0n hrows, trivial, trivial, trivial, trivial, by cases v16 <;> exact trivial, trivial, trivial, trivial, trivial⟩ rfl
  refine g_forL (r := rPr) (fun k Γ => ∃ v12 v17 v18, Γ = GA a s xs z c ts v12 none v17 v18) (p_var rfl) st0 ⟨_, _, _, rfl⟩ ?_ ?_
  · rintro B' k u Γk O' σ1 H18 hu ⟨v12, v17, v18, rfl⟩ st1
    have hum := List.mem_of_getElem? hu
    refine g_forL (r := rPr) (fun k Γ => ∃ v17 v18, Γ = GA a s xs z c ts (some (.pure rPr u)) none v17 v18) (p_var rfl) st1 ⟨_, _, rfl⟩ ?_ ?_
    · rintro B2 k2 v Γk O2 σ2 H19 hv ⟨v17, v18, rfl⟩ st2
      have hvm := List.mem_of_getElem? hv
      refine s_set (x := aDist xs z false u v) st2 (p_call4 (p_var rfl) (p_var rfl) (p_var rfl) (p_var rfl) ⟨hdue u hum, hdue v hvm, by omega⟩) fun σ3 H20 st3 => ?_
      refine s_ifN (b := !true) st3 (t_not (t_T (p_call5 (p_var rfl) (p_var rfl) (p_var rfl) (p_var rfl) (p_var rfl) ⟨⟨hst u hum, hst v hvm⟩, ⟨hsm u hum, hsm v hvm⟩, rfl⟩))) (fun hb => nomatch hb) fun _ H21 st4 => ?_
      refine g_if (b := !c && !(shiftsOk (rows xs) u v (aDist xs z false u v))) (t_and (t_not (t_T (p_var rfl))) fun _ => t_not (t_T (p_call4 (p_var rfl) (p_var rfl) (p_var rfl) (p_var rfl) ⟨hrl, rows_ok, fun z hz => kind_ok hz⟩))) st4 (fun hb => ?_) fun _ H22 st5 => ?_
      · exfalso
        cases c with
        | true => cases hb
        | false =>
          rw [shifts_true fx (hst u hum) (hst v hvm)] at hb
          cases hb
      · exact nx_mk ⟨_, _, rfl⟩ st5
    · rintro Γn O2 σ2 H19 ⟨v17, v18, rfl⟩ st2
      exact nx_mk ⟨_, _, _, rfl⟩ st2
  · rintro Γn O2 σ2 H18 ⟨v12, v17, v18, rfl⟩ st1
    have s18 := s17.le st1.al
    obtain ⟨a0, _, rfl, he1⟩ := env_any st1.env
    obtain ⟨a1, _, rfl, i1, he2⟩ := env_pure he1
    cases i1
    obtain ⟨a2, _, rfl, he3⟩ := env_any he2
    obtain ⟨a3, _, rfl, i3, he4⟩ := env_pure he3
    cases i3
    obtain ⟨a4, _, rfl, he5⟩ := env_any he4
    obtain ⟨a5, _, rfl, i5, he6⟩ := env_pure he5
    obtain ⟨r2, rfl, hR18⟩ := rs_of i5
    obtain ⟨a6, _, rfl, he7⟩ := env_any he6
    obtain ⟨a7, _, rfl, i7, he8⟩ := env_pure he7
    cases i7
    obtain ⟨a8, _, rfl, ⟨b2, rfl, hb18, _⟩, he9⟩ := env_pure he8
    obtain ⟨a9, _, rfl, ⟨t2, rfl, ht18, _⟩, he10⟩ := env_pure he9
    obtain ⟨a10, _, rfl, i10, he11⟩ := env_pure he10
    obtain ⟨a11, _, rfl, i11, he12⟩ := env_pure he11
    obtain ⟨a12, _, rfl, he13⟩ := env_any he12
    obtain ⟨a13, _, rfl, he14⟩ := env_any he13
    obtain ⟨a14, _, rfl, he15⟩ := env_any he14
    obtain ⟨a15, _, rfl, he16⟩ := env_any he15
    obtain ⟨a16, _, rfl, he17⟩ := env_any he16
    obtain ⟨a17, _, rfl, he18⟩ := env_any he17
    obtain ⟨a18, _, rfl, he19⟩ := env_any he18
    obtain ⟨a19, _, rfl, he20⟩ := env_any he19
    cases env_nil he20
    clear he1 he2 he3 he4 he5 he6 he7 he8 he9 he10 he11 he12 he13 he14 he15 he16 he17 he18 he19 he20 st1
    clear hR17 hb17 ht17 hts17 s17 hrows st0
    try dsimp only
    walk_at "xs"
    refine ⟨s, p2, r2, xs, z, c, rfl, s18, hR18, fx, ⟨l1, l8⟩, gz, hz15, fun po os H19 e19 s19 hos hol hodd => ?_⟩
    have hR19 := hR18.lw e19
    have hb19 := hb18.lw e19
    have ht19 := ht18.lw e19
    have hts19 := lprs_lw e19 i10
    clear hR18 hb18 ht18 i10 i11 s18 e19
    have hos2 : ∀ t ∈ os, SmP t.1 ∧ SmP t.2 := fun t ht => (hodd t ht).2
    have hos1 : ∀ t ∈ os, isStep xs z c t = false := fun t ht => (hodd t ht).1
    try dsimp only
    refine x_seq ?_
    have st0 := s_from (H := H19) (O := []) (σ := [a0, some (V.ref s), a2, some (V.bl c), a4, some (V.ref r2), a6, some (V.str z), some (V.ref b2), some (V.ref t2), some a10, some a11, a12, some (V.ref po), a14, a15, a16, a17, a18, a19]) (Γ := [none, none, none, some (.pure rBool c), none, some (.pure (rList rR4) xs), none, some (.pure rStr z), some (.pure (rBook a) xs), some (.pure (rText a) (z, c)), some (.pure (rList rPr) ts), none, none, some (.pure (rList rPr) os), none, none, none, none, none, none]) hd0
      ⟨by cases a0 <;> exact trivial, trivial, by cases a2 <;> exact trivial, rfl, by cases a4 <;> exact trivial, h0n (rs_rp hR19), by cases a6 <;> exact trivial, rfl, h0n ⟨b2, rfl, hb19, fx, l8⟩, h0n ⟨t2, rfl, ht19, gz⟩, h0n hts19, trivial, by cases a12 <;> exact trivial, h0n hos, by cases a14 <;> exact trivial, by cases a15 <;> exact trivial, by cases a16 <;> exact trivial, by cases a17 <;> exact trivial, by cases a18 <;> exact trivial, by cases a19 <;> exact trivial, trivial⟩ rfl
    have hc2 : (cutL ts none (some (2 : Int))).length ≤ ts.length := by
      unfold cutL
      rw [List.length_take, List.length_drop]; omega
    refine g_forL (r := rPr) (fun k Γ => ∃ v12 v17, Γ = [none, none, none, some (.pure rBool c), none, some (.pure (rList rR4) xs), none, some (.pure rStr z), some (.pure (rBook a) xs), some (.pure (rText a) (z, c)), some (.pure (rList rPr) ts), none, v12, some (.pure (rList rPr) os), none, none, none, v17, none, none]) (p_var rfl) st0 ⟨_, _, rfl⟩ ?_ ?_
    · rintro B' k u Γk O' σ1 H20 hu ⟨v12, v17, rfl⟩ st1
      have hum := List.mem_of_getElem? hu
      refine x_seq ?_
      refine g_forL (r := rPr) (fun k Γ => ∃ v17, Γ = [none, none, none, some (.pure rBool c), none, some (.pure (rList rR4) xs), none, some (.pure rStr z), some (.pure (rBook a) xs), some (.pure (rText a) (z, c)), some (.pure (rList rPr) ts), none, some (.pure rPr u), some (.pure (rList rPr) os), none, none, none, v17, none, none]) (q_op (p_var rfl) (q_sl (p_var rfl) o_none (o_some p_int) o_slL) (o_addL (by omega))) st1 ⟨_, rfl⟩ ?_ ?_
      · rintro B2 k2 v Γk O2 σ2 H21 hv ⟨v17, rfl⟩ st2
        have hvm := List.mem_of_getElem? hv
        have hvs : SmP v.1 ∧ SmP v.2 := (List.mem_append.mp hvm).elim (hos2 v) fun h => hsm v (mem_cutL h)
        refine g_if (b := !true) (t_not (t_T (p_call5 (p_var rfl) (p_var rfl) (p_var rfl) (p_var rfl) p_int ⟨⟨hos2 u hum, hvs⟩, .inl ⟨hos1 u hum, rfl⟩⟩))) st2 (fun hb => nomatch hb) fun _ H22 st3 => ?_
        exact nx_mk ⟨_, rfl⟩ st3
      · rintro Γn O2 σ2 H21 ⟨v17, rfl⟩ st2
        try dsimp only
        refine g_forL (r := rPr) (fun k Γ => ∃ v17, Γ = [none, none, none, some (.pure rBool c), none, some (.pure (rList rR4) xs), none, some (.pure rStr z), some (.pure (rBook a) xs), some (.pure (rText a) (z, c)), some (.pure (rList rPr) ts), none, some (.pure rPr u), some (.pure (rList rPr) os), none, none, none, v17, none, none]) (q_sl (p_var rfl) o_none (o_some p_int) o_slL) st2 ⟨_, rfl⟩ ?_ ?_
        · rintro B2 k2 v Γk O2 σ2 H21 hv ⟨v17, rfl⟩ st2
          have hvm := mem_cutL (List.mem_of_getElem? hv)
          refine g_if (b := !true) (t_not (t_T (p_call5 (p_var rfl) (p_var rfl) (p_var rfl) (p_var rfl) p_int ⟨⟨hsm v hvm, hos2 u hum⟩, .inr ⟨hst v hvm, hos1 u hum, rfl⟩⟩))) st2 (fun hb => nomatch hb) fun _ H22 st3 => ?_
          exact nx_mk ⟨_, rfl⟩ st3
        · rintro Γn O2 σ2 H21 ⟨v17, rfl⟩ st2
          exact nx_mk ⟨_, _, rfl⟩ st2
    · rintro Γn O2 σ2 H20 ⟨v12, v17, rfl⟩ st1
      try dsimp only
      refine s_ifN (b := !true) st1 (t_not (t_T (p_call2 (p_var rfl) (p_var rfl) rfl))) (fun hb => nomatch hb) fun _ H21 st2 => ?_
      obtain ⟨a0, _, rfl, he1⟩ := env_any st2.env
      obtain ⟨a1, _, rfl, he2⟩ := env_any he1
      obtain ⟨a2, _, rfl, he3⟩ := env_any he2
      obtain ⟨a3, _, rfl, i3, he4⟩ := env_pure he3
      cases i3
      obtain ⟨a4, _, rfl, he5⟩ := env_any he4
      obtain ⟨a5, _, rfl, i5, he6⟩ := env_pure he5
      obtain ⟨r3, rfl, hR21⟩ := rs_of i5
      obtain ⟨a6, _, rfl, he7⟩ := env_any he6
      obtain ⟨a7, _, rfl, i7, he8⟩ := env_pure he7
      cases i7
      obtain ⟨a8, _, rfl, ⟨b3, rfl, hb21, _⟩, he9⟩ := env_pure he8
      obtain ⟨a9, _, rfl, ⟨t3, rfl, ht21, _⟩, he10⟩ := env_pure he9
      obtain ⟨a10, _, rfl, i10, he11⟩ := env_pure he10
      obtain ⟨a11, _, rfl, he12⟩ := env_any he11
      obtain ⟨a12, _, rfl, he13⟩ := env_any he12
      obtain ⟨a13, _, rfl, he14⟩ := env_any he13
      obtain ⟨a14, _, rfl, he15⟩ := env_any he14
      obtain ⟨a15, _, rfl, he16⟩ := env_any he15
      obtain ⟨a16, _, rfl, he17⟩ := env_any he16
      obtain ⟨a17, _, rfl, he18⟩ := env_any he17
      obtain ⟨a18, _, rfl, he19⟩ := env_any he18
      obtain ⟨a19, _, rfl, he20⟩ := env_any he19
      cases env_nil he20
      clear he1 he2 he3 he4 he5 he6 he7 he8 he9 he10 he11 he12 he13 he14 he15 he16 he17 he18 he19 he20 st2 st1 st0 hR19 hb19 ht19 hts19 hos hodd hos1 hos2
      obtain ⟨dxb, lb, ub, hb1, hb2, hb3⟩ := hb21
      walk_at "xs"
      refine x_kMeth hb1 (lkM (by decide +kernel)) ?_
      walk_at "xs"
      refine ⟨b3, lb, ub, xs, 0, rfl, by omega, l8, ⟨dxb, hb1, hb2, hb3⟩, fun H22 u e22 hu => ?_⟩
      have hlb := e22.keep hb2
      have hbi := hb3.le e22
      obtain ⟨o1, us', C1, dx1, fs1, hub, ho1⟩ := book_item hbi l1
      -- the rules' list, the steps' list are other lists
      have hRl : r3 ≠ lb := fun z => by
        obtain ⟨ws, m1, m2⟩ := hR21.le e22
        rw [z, hlb] at m1
        cases m1
        rw [hub] at m2
        match xs, m2 with
        | x :: xs, m2 =>
          obtain ⟨⟨o2, e2, m3⟩, _⟩ := m2
          cases e2
          rw [ho1] at m3; cases m3
      have hts22 := (rList rPr).le e22 i10
      have hR22 : Rs (upd H22 lb (.lst (ub.eraseIdx (0 : Int).toNat))) r3 xs := by
        obtain ⟨ws, m1, m2⟩ := hR21.le e22
        exact ⟨ws, by rw [upd_ne hRl]; exact m1, R4s.put hlb m2⟩
      have hT22 : (rList rPr).at_ (upd H22 lb (.lst (ub.eraseIdx (0 : Int).toNat))) a10 ts := by
        obtain ⟨p, vs, rfl, m1, m2⟩ := hts22
        have hp : p ≠ lb := fun z => by
          rw [z, hlb] at m1
          cases m1
          rw [hub] at m2
          match ts, m2 with
          | x :: xs, m2 =>
            obtain ⟨⟨o2, w1, w2, e2, m3, _⟩, _⟩ := m2
            cases e2
            rw [ho1] at m3; cases m3
        exact ⟨p, vs, rfl, by rw [upd_ne hp]; exact m1, prs_put hlb m2⟩
      have hx22 : TextAt a (upd H22 lb (.lst (ub.eraseIdx (0 : Int).toNat))) t3 z c := by
        obtain ⟨dt, h⟩ := ht21.le e22
        exact ⟨dt, by rw [upd_ne (fun z => by rw [z, hlb] at h; cases h)]; exact h⟩
      have hk22 : BookAt a (upd H22 lb (.lst (ub.eraseIdx (0 : Int).toNat))) b3 (xs.eraseIdx 0) := ⟨dxb, lb, _, by rw [upd_ne (fun z => by have := e22.keep hb1; rw [z, hlb] at this; cases this)]; exact e22.keep hb1, upd_same, (rules_put hlb hbi).erase 0⟩
      generalize upd H22 lb (.lst (ub.eraseIdx (0 : Int).toNat)) = H23 at hR22 hT22 hx22 hk22
      have fx2 : ∀ x ∈ xs.eraseIdx 0, Fine x := fun x hx => fx x (List.mem_of_mem_eraseIdx hx)
      have l82 : (xs.eraseIdx 0).length ≤ 8 := by have := (List.eraseIdx_sublist xs 0).length_le; omega
      try dsimp only
      have st0 := s_from (H := H23) (O := []) (σ := [a0, a1, a2, some (V.bl c), a4, some (V.ref r3), a6, some (V.str z), some (V.ref b3), some (V.ref t3), some a10, a11, a12, a13, a14, a15, a16, a17, a18, a19]) (Γ := GC a xs z c ts none none none none none) hd0
        ⟨by cases a0 <;> exact trivial, by cases a1 <;> exact trivial, by cases a2 <;> exact trivial, rfl, by cases a4 <;> exact trivial, h0n (rs_rp hR22), by cases a6 <;> exact trivial, rfl, h0n ⟨b3, rfl, hk22, fx2, l82⟩, h0n ⟨t3, rfl, hx22, gz⟩, h0n hT22, by cases a11 <;> exact trivial, by cases a12 <;> exact trivial, by cases a13 <;> exact trivial, by cases a14 <;> exact trivial, by cases a15 <;> exact trivial, by cases a16 <;> exact trivial, by cases a17 <;> exact trivial, by cases a18 <;> exact trivial, by cases a19 <;> exact trivial, trivial⟩ rfl
      refine s_set (x := xs.eraseIdx 0) st0 (cut_rest l1 ▸ q_sl (p_var rfl) (o_some p_int) o_none o_slL) fun σ3 H24 st3 => ?_
      refine s_set (x := (ts.filter fun t => decide ((0 : Int) < t.1)).map fun t => (t.1 - 1, t.2)) st3 (n_lcLF (p_var rfl) (by omega) (fun t _ => t_T (q_op (q_op (p_var rfl) p_int o_20) p_int o_gt)) fun t _ _ => p_t2 (q_op (q_op (p_var rfl) p_int o_20) p_int o_sub) (q_op (p_var rfl) p_int o_21)) fun σ4 H25 st4 => ?_
      have hmv : ∀ t ∈ (ts.filter fun t => decide ((0 : Int) < t.1)).map (fun t => (t.1 - 1, t.2)), isStep (xs.eraseIdx 0) z c t = true := by
        intro t ht
        obtain ⟨t', ht', rfl⟩ := List.mem_map.mp ht
        obtain ⟨m1, m2⟩ := List.mem_filter.mp ht'
        exact step_drop (hst t' m1) (of_decide_eq_true m2)
      have hdu : ∀ t ∈ (ts.filter fun t => decide ((0 : Int) < t.1)).map (fun t => (t.1 - 1, t.2)), DueOk (xs.eraseIdx 0) z t := fun t ht => step_due fx2 hz15 (hmv t ht)
      have hsmv : ∀ t ∈ (ts.filter fun t => decide ((0 : Int) < t.1)).map (fun t => (t.1 - 1, t.2)), SmP t.1 ∧ SmP t.2 := fun t ht => step_sm l82 hz15 (hmv t ht)
      generalize (ts.filter fun t => decide ((0 : Int) < t.1)).map (fun t => (t.1 - 1, t.2)) = mv at st4 hmv hdu hsmv
      refine x_seq ?_
      refine g_forL (r := rPr) (fun k Γ => ∃ v12 v17 v18, Γ = GC a xs z c ts v12 (some (.pure (rList rR4) (xs.eraseIdx 0))) (some (.pure (rList rPr) mv)) v17 v18) (q_sl (p_var rfl) o_none (o_some p_int) o_slL) st4 ⟨_, _, _, rfl⟩ ?_ ?_
      · rintro B' k u Γk O' σ1 H18 hu ⟨v12, v17, v18, rfl⟩ st1
        have hum := mem_cutL (List.mem_of_getElem? hu)
        refine g_forL (r := rPr) (fun k Γ => ∃ v17 v18, Γ = GC a xs z c ts (some (.pure rPr u)) (some (.pure (rList rR4) (xs.eraseIdx 0))) (some (.pure (rList rPr) mv)) v17 v18) (q_sl (p_var rfl) (o_some (p_neg p_int)) o_none o_slL) st1 ⟨_, _, rfl⟩ ?_ ?_
        · rintro B2 k2 v Γk O2 σ2 H19 hv ⟨v17, v18, rfl⟩ st2
          have hvm := mem_cutL (List.mem_of_getElem? hv)
          refine s_set (x := aDist (xs.eraseIdx 0) z false u v) st2 (p_call4 (p_var rfl) (p_var rfl) (p_var rfl) (p_var rfl) ⟨hdu u hum, hdu v hvm, by omega⟩) fun σ3 H20 st3 => ?_
          refine g_if (b := !true) (t_not (t_T (p_call5 (p_var rfl) (p_var rfl) (p_var rfl) (p_var rfl) (p_var rfl) ⟨⟨hmv u hum, hmv v hvm⟩, ⟨hsmv u hum, hsmv v hvm⟩, rfl⟩))) st3 (fun hb => nomatch hb) fun _ H21 st4 => ?_
          exact nx_mk ⟨_, _, rfl⟩ st4
        · rintro Γn O2 σ2 H19 ⟨v17, v18, rfl⟩ st2
          exact nx_mk ⟨_, _, _, rfl⟩ st2
      · rintro Γn O2 σ2 H18 ⟨v12, v17, v18, rfl⟩ st1
        have hlr : SmP (((xs.eraseIdx 0).length : Nat) : Int) := ⟨by omega, by omega⟩
        have hz0 : SmP 0 := by decide
        try dsimp only
        refine s_ifN (b := !true) st1 (t_not (t_T (p_call5 (p_var rfl) (p_var rfl) (p_t2 (q_cb1 (p_var rfl) o_lenL) p_int) (p_t2 (q_cb1 (p_var rfl) o_lenL) p_int) p_int ⟨⟨⟨hlr, hz0⟩, ⟨hlr, hz0⟩⟩, .inl ⟨odd_num (fun h => by have := h.2; simp at this), rfl⟩⟩))) (fun hb => nomatch hb) fun _ H19 st2 => ?_
        refine s_ret (x := decide (z = z) && (c == c)) (y := true) st2 (p_and (q_op (p_fld (fl_s T) (p_var rfl)) (p_var rfl) o_eqS) fun _ => q_op (p_fld (fl_c T) (p_var rfl)) (p_var rfl) o_eqB) (by simp) fun v H' e hv => qT e hv
end K7
set_option maxHeartbeats 4000000
/-! K7Z: the end -/
namespace K7
open PySem PySem.Spec PyProof.Rows L2 MC
theorem raw0 {P : Program} {w : World} {K : Fr} {mg : Str → Option Value} {base : Heap} {CX : CXT} {k : Nat} {f : Addr} {fd : FuncData} {ps : List Str} {sp : Sp} (F : FnOk P w K mg base CX k f fd ps sp) (hb : Binds K fd ps []) : FnR P w K mg base CX k f sp :=
  (F.raw hb .nil).imp fun vs H Q E h => by rw [List.append_nil]; exact h
theorem fn_mute {P : Program} {w : World} {K : Fr} {mg : Str → Option Value} {base : Heap} {k : Nat} {f : Addr} {fd : FuncData} {ps : List Str} {sp : Sp} (F : FnOk P w K mg base (L2.CX P w) k f fd ps sp) (h : ∀ vs H Q E, sp vs H Q E → sp vs H Q XE0) : FnOk P w K mg base CX0 k f fd ps sp := by
  refine ⟨F.len, fun A outer s H args us vs Q E hr e0 hb r hsp => codeAny_mono (F.run A outer s H args us vs Q XE0 hr e0 hb r (h _ _ _ _ hsp)) fun r s' hq => ?_⟩
  match r, hq with
  | .error e, hq =>
    obtain ⟨_, _, _, _, _, _, _, _, _, _, _, _, z⟩ := hq
    exact z.elim
  | .ok (.ret u), hq => exact hq
  | .ok .next, hq => exact hq.elim
  | .ok .brk, hq => exact hq.elim
  | .ok .cont, hq => exact hq.elim
section
variable {P : Program} {w : World} {K : Fr} {h : Heap} {mg : Str → Option Value}
theorem exAt (c : exK K = true) (n : Nat) {b : Bool} (e : (exL K)[n]? = some b := by rfl) : b = true := List.all_eq_true.mp (He.ba c).1 b (List.mem_of_getElem? e)
theorem mem_kL (i : ExK) : i ∈ kL := by cases i <;> simp [kL]
theorem txt_of (X : K.In h) (G : h.Ns mainGlobals mg) (c : Says2 fileS faL dsL exK K) : Txt K mg (A K) := by
  have m := c.more
  have t1 := (He.ba (He.ba m).2).1
  have t2 := (He.ba (He.ba m).2).2
  have tab : ∀ i j, decide (PySem.W.exmOne K (.ref ((A K).x i)) (.ref ((A K).x j)) = some (decide (i = j))) = true ∧ decide (PySem.W.kitOne K (.ref ((A K).x i)) (.ref ((A K).x j)) = some (decide (i = j))) = true := fun i j =>
    He.ba (List.all_eq_true.mp (List.all_eq_true.mp t1 i (mem_kL i)) j (mem_kL j))
  have one := fun i => List.all_eq_true.mp t2 i (mem_kL i)
  have cls_Text : Cls K (A K).cText := He.cls_ok (c.fact 57 (f := .cls "Text") rfl)
  have cls_Rule : Cls K (A K).cRule := He.cls_ok (c.fact 58 (f := .cls "Rule") rfl)
  have cls_Book : Cls K (A K).cBook := He.cls_ok (c.fact 59 (f := .cls "Book") rfl)
  exact {
    f_ValueError := He.free_ok X G (c.fact 0 (f := .free "ValueError") rfl)
    f_abs := He.free_ok X G (c.fact 1 (f := .free "abs") rfl)
    f_any := He.free_ok X G (c.fact 2 (f := .free "any") rfl)
    f_bool := He.free_ok X G (c.fact 3 (f := .free "bool") rfl)
    f_enumerate := He.free_ok X G (c.fact 4 (f := .free "enumerate") rfl)
    f_int := He.free_ok X G (c.fact 5 (f := .free "int") rfl)
    f_isinstance := He.free_ok X G (c.fact 6 (f := .free "isinstance") rfl)
    f_iter := He.free_ok X G (c.fact 7 (f := .free "iter") rfl)
    f_len := He.free_ok X G (c.fact 8 (f := .free "len") rfl)
    f_list := He.free_ok X G (c.fact 9 (f := .free "list") rfl)
    f_max := He.free_ok X G (c.fact 10 (f := .free "max") rfl)
    f_min := He.free_ok X G (c.fact 11 (f := .free "min") rfl)
    f_range := He.free_ok X G (c.fact 12 (f := .free "range") rfl)
    f_str := He.free_ok X G (c.fact 13 (f := .free "str") rfl)
    f_tuple := He.free_ok X G (c.fact 15 (f := .free "tuple") rfl)
    g_ClerkError := He.glo_ok X G (c.fact 16 (f := .glo "ClerkError") rfl)
    g_BadRun := He.glo_ok X G (c.fact 17 (f := .glo "BadRun") rfl)
    g_NoRule := He.glo_ok X G (c.fact 18 (f := .glo "NoRule") rfl)
    g_Mismatch := He.glo_ok X G (c.fact 19 (f := .glo "Mismatch") rfl)
    g_Text := He.glo_ok X G (c.fact 20 (f := .glo "Text") rfl)
    g_Rule := He.glo_ok X G (c.fact 21 (f := .glo "Rule") rfl)
    g_Book := He.glo_ok X G (c.fact 22 (f := .glo "Book") rfl)
    g__FARTHEST := He.int_ok X G (c.fact 75 (f := .int "_FARTHEST" 4) rfl)
    fS := ⟨cls_Text, He.noat_ok (c.fact 60 (f := .noat "Text" "signs") rfl)⟩
    fC := ⟨cls_Text, He.noat_ok (c.fact 61 (f := .noat "Text" "closed") rfl)⟩
    fO := ⟨cls_Rule, He.noat_ok (c.fact 62 (f := .noat "Rule" "old") rfl)⟩
    fN := ⟨cls_Rule, He.noat_ok (c.fact 63 (f := .noat "Rule" "new") rfl)⟩
    fL := ⟨cls_Rule, He.noat_ok (c.fact 64 (f := .noat "Rule" "left") rfl)⟩
    fR := ⟨cls_Rule, He.noat_ok (c.fact 65 (f := .noat "Rule" "right") rfl)⟩
    fB := ⟨cls_Book, He.noat_ok (c.fact 66 (f := .noat "Book" "_rules") rfl)⟩
    cvT := cvIntB_ok (exAt m 6) (exAt m 9)
    cvB := cvIntB_ok (exAt m 8) (exAt m 10)
    insT := insB_ok cls_Text (exAt m 3)
    insR := insB_ok cls_Rule (exAt m 4)
    insB := insB_ok cls_Book (exAt m 5)
    kBB := of_decide_eq_true (exAt m 0)
    kRR := of_decide_eq_true (exAt m 1)
    nfR := exAt m 2
    exm := fun i j => of_decide_eq_true (tab i j).1
    kit := fun i j => of_decide_eq_true (tab i j).2
    kitE := fun i => of_decide_eq_true (He.ba (one i)).1
    kitV := fun i => of_decide_eq_true (He.ba (He.ba (one i)).2).1
    exT := fun i => excTB_ok (He.ba (He.ba (He.ba (one i)).2).2).1
    xf := fun i => xfB_ok (He.ba (He.ba (He.ba (He.ba (one i)).2).2).2).1
    nf := fun i => of_decide_eq_true (He.ba (He.ba (He.ba (He.ba (one i)).2).2).2).2 }
theorem law_of {base : Heap} {fd_law : FuncData} (F_law : FnP K "law" "law" s_law (He.ga K "law") fd_law) (X : K.In h) (G : h.Ns mainGlobals mg) (c : Says2 fileS faL dsL exK K) (hP : P.main.file = fileS) (hS : (P.main.scope.names.lookup ("super" : Str)).isSome = false) :
    FnOk P w K mg base CX0 9 (He.ga K "law") fd_law ["_law_script"] (sp_law K) := by
  have m := c.more
  have T := txt_of X G c
  have fP : ∀ {d : Df}, d.ok fileS K = true → d.ok P.main.file K = true := fun h => by rw [hP]; exact h
  have noSup : mg "super" = none := He.free_ok X G (c.fact 14 (f := .free "super") rfl)
  have cls_Text : Cls K (A K).cText := He.cls_ok (c.fact 57 (f := .cls "Text") rfl)
  have cls_Rule : Cls K (A K).cRule := He.cls_ok (c.fact 58 (f := .cls "Rule") rfl)
  have cls_Book : Cls K (A K).cBook := He.cls_ok (c.fact 59 (f := .cls "Book") rfl)
  obtain ⟨fd_BadRun, cc_BadRun, F_BadRun, kV_BadRun, doc_BadRun, pm_BadRun, an_BadRun, cdv_BadRun, ct_BadRun, ef_BadRun⟩ := Df.supF (P := P) (d := d_BadRun___init__) (c := "BadRun") (c.df 2 (d := d_BadRun___init__) rfl).1 (fP (c.df 2 (d := d_BadRun___init__) rfl).2) rfl rfl
  have S_BadRun := supCB_ok (P := P) (mg := mg) (exAt m 19) noSup hS
  have I_BadRun := specB_ok (exAt m 20)
  have b_BadRun : Binds K fd_BadRun ["self", "index"] [] := by
    rw [ef_BadRun]
    exact Binds.all fun us hl => match us, hl with | [_, _], _ => rfl
  have X_BadRun : ExG P w K mg base 1 "BadRun" (A K).cBadRun "index" := ⟨T.g_BadRun, S_BadRun.oex, _, _, _, ini_BadRun F_BadRun S_BadRun (T.nf .run), b_BadRun, I_BadRun.1.at_, beq_iff_eq.mp I_BadRun.1.fn⟩
  obtain ⟨fd_Mismatch, cc_Mismatch, F_Mismatch, kV_Mismatch, doc_Mismatch, pm_Mismatch, an_Mismatch, cdv_Mismatch, ct_Mismatch, ef_Mismatch⟩ := Df.supF (P := P) (d := d_Mismatch___init__) (c := "Mismatch") (c.df 1 (d := d_Mismatch___init__) rfl).1 (fP (c.df 1 (d := d_Mismatch___init__) rfl).2) rfl rfl
  have S_Mismatch := supCB_ok (P := P) (mg := mg) (exAt m 21) noSup hS
  have I_Mismatch := specB_ok (exAt m 22)
  have b_Mismatch : Binds K fd_Mismatch ["self", "at"] [] := by
    rw [ef_Mismatch]
    exact Binds.all fun us hl => match us, hl with | [_, _], _ => rfl
  have X_Mismatch : ExG P w K mg base 1 "Mismatch" (A K).cMismatch "at" := ⟨T.g_Mismatch, S_Mismatch.oex, _, _, _, ini_Mismatch F_Mismatch S_Mismatch (T.nf .place), b_Mismatch, I_Mismatch.1.at_, beq_iff_eq.mp I_Mismatch.1.fn⟩
  obtain ⟨fd_NoRule, cc_NoRule, F_NoRule, kV_NoRule, doc_NoRule, pm_NoRule, an_NoRule, cdv_NoRule, ct_NoRule, ef_NoRule⟩ := Df.supF (P := P) (d := d_NoRule___init__) (c := "NoRule") (c.df 0 (d := d_NoRule___init__) rfl).1 (fP (c.df 0 (d := d_NoRule___init__) rfl).2) rfl rfl
  have S_NoRule := supCB_ok (P := P) (mg := mg) (exAt m 23) noSup hS
  have I_NoRule := specB_ok (exAt m 24)
  have b_NoRule : Binds K fd_NoRule ["self", "number"] [] := by
    rw [ef_NoRule]
    exact Binds.all fun us hl => match us, hl with | [_, _], _ => rfl
  have X_NoRule : ExG P w K mg base 1 "NoRule" (A K).cNoRule "number" := ⟨T.g_NoRule, S_NoRule.oex, _, _, _, ini_NoRule F_NoRule S_NoRule (T.nf .none), b_NoRule, I_NoRule.1.at_, beq_iff_eq.mp I_NoRule.1.fn⟩
  obtain ⟨fd__places, F__places⟩ := Df.funD (d := d__places) (c.df 3 (d := d__places) rfl).1 (c.df 3 (d := d__places) rfl).2 rfl
  have b__places : Binds K fd__places ["rule", "at"] [] := F__places.bindsN fun _ _ _ _ _ _ us hl => match us, hl with | [_, _], _ => rfl
  have K__places : FnOk P w K mg base (L2.CX P w) 1 _ fd__places ["rule", "at"] (sp__places (A K)) := ok__places F__places T 
  have G__places : FnG P w K mg base 1 "_places" (sp__places (A K)) := ⟨_, raw0 K__places b__places, (He.glo_ok X G (c.fact 23 (f := .glo "_places") rfl)), F__places.kp⟩
  obtain ⟨fd__meet, F__meet⟩ := Df.funD (d := d__meet) (c.df 5 (d := d__meet) rfl).1 (c.df 5 (d := d__meet) rfl).2 rfl
  have b__meet : Binds K fd__meet ["one", "other"] [] := F__meet.bindsN fun _ _ _ _ _ _ us hl => match us, hl with | [_, _], _ => rfl
  have K__meet : FnOk P w K mg base (L2.CX P w) 1 _ fd__meet ["one", "other"] (sp__meet (A K)) := ok__meet F__meet T 
  have G__meet : FnG P w K mg base 1 "_meet" (sp__meet (A K)) := ⟨_, raw0 K__meet b__meet, (He.glo_ok X G (c.fact 25 (f := .glo "_meet") rfl)), F__meet.kp⟩
  obtain ⟨fd_is_sign, F_is_sign⟩ := Df.funD (d := d_is_sign) (c.df 11 (d := d_is_sign) rfl).1 (c.df 11 (d := d_is_sign) rfl).2 rfl
  have b_is_sign : Binds K fd_is_sign ["word"] [] := F_is_sign.bindsN fun _ _ _ _ _ _ us hl => match us, hl with | [_], _ => rfl
  have K_is_sign : FnOk P w K mg base (L2.CX P w) 1 _ fd_is_sign ["word"] (sp_is_sign (A K)) := ok_is_sign F_is_sign T 
  have G_is_sign : FnG P w K mg base 1 "is_sign" (sp_is_sign (A K)) := ⟨_, raw0 K_is_sign b_is_sign, (He.glo_ok X G (c.fact 31 (f := .glo "is_sign") rfl)), F_is_sign.kp⟩
  obtain ⟨fd_Text___len__, F_Text___len__⟩ := Df.funD (d := d_Text___len__) (c.df 14 (d := d_Text___len__) rfl).1 (c.df 14 (d := d_Text___len__) rfl).2 rfl
  have b_Text___len__ : Binds K fd_Text___len__ ["self"] [] := F_Text___len__.bindsN fun _ _ _ _ _ _ us hl => match us, hl with | [_], _ => rfl
  have K_Text___len__ : FnOk P w K mg base (L2.CX P w) 1 _ fd_Text___len__ ["self"] (sp_Text___len__ (A K)) := ok_Text___len__ F_Text___len__ T 
  have O_Text___len__ : OpG P w K mg base 1 (A K).cText "__len__" (sp_Text___len__ (A K)) := ⟨_, _, _, K_Text___len__, b_Text___len__, (specB_ok (exAt m 11)).1, (specB_ok (exAt m 11)).2⟩
  obtain ⟨fd__split_line, F__split_line⟩ := Df.funD (d := d__split_line) (c.df 16 (d := d__split_line) rfl).1 (c.df 16 (d := d__split_line) rfl).2 rfl
  have b__split_line : Binds K fd__split_line ["line"] [] := F__split_line.bindsN fun _ _ _ _ _ _ us hl => match us, hl with | [_], _ => rfl
  have K__split_line : FnOk P w K mg base (L2.CX P w) 1 _ fd__split_line ["line"] (sp__split_line (A K)) := ok__split_line F__split_line T 
  have G__split_line : FnG P w K mg base 1 "_split_line" (sp__split_line (A K)) := ⟨_, raw0 K__split_line b__split_line, (He.glo_ok X G (c.fact 34 (f := .glo "_split_line") rfl)), F__split_line.kp⟩
  obtain ⟨fd_Rule_pattern, F_Rule_pattern⟩ := Df.funD (d := d_Rule_pattern) (c.df 19 (d := d_Rule_pattern) rfl).1 (c.df 19 (d := d_Rule_pattern) rfl).2 rfl
  have b_Rule_pattern : Binds K fd_Rule_pattern ["self"] [] := F_Rule_pattern.bindsN fun _ _ _ _ _ _ us hl => match us, hl with | [_], _ => rfl
  have K_Rule_pattern : FnOk P w K mg base (L2.CX P w) 1 _ fd_Rule_pattern ["self"] (sp_Rule_pattern (A K)) := ok_Rule_pattern F_Rule_pattern T 
  have P_Rule_pattern : PrG P w K mg base 1 (A K).cRule "pattern" (sp_Rule_pattern (A K)) := ⟨cls_Rule, _, _, _, _, propB_ok (exAt m 14), K_Rule_pattern, b_Rule_pattern⟩
  obtain ⟨fd_Rule___eq__, F_Rule___eq__⟩ := Df.funD (d := d_Rule___eq__) (c.df 20 (d := d_Rule___eq__) rfl).1 (c.df 20 (d := d_Rule___eq__) rfl).2 rfl
  have b_Rule___eq__ : Binds K fd_Rule___eq__ ["self", "other"] [] := F_Rule___eq__.bindsN fun _ _ _ _ _ _ us hl => match us, hl with | [_, _], _ => rfl
  have K_Rule___eq__ : FnOk P w K mg base (L2.CX P w) 1 _ fd_Rule___eq__ ["self", "other"] (sp_Rule___eq__ (A K)) := ok_Rule___eq__ F_Rule___eq__ T 
  have O_Rule___eq__ : OpG P w K mg base 1 (A K).cRule "__eq__" (sp_Rule___eq__ (A K)) := ⟨_, _, _, K_Rule___eq__, b_Rule___eq__, (specB_ok (exAt m 16)).1, (specB_ok (exAt m 16)).2⟩
  obtain ⟨fd_Rule___str__, F_Rule___str__⟩ := Df.funD (d := d_Rule___str__) (c.df 21 (d := d_Rule___str__) rfl).1 (c.df 21 (d := d_Rule___str__) rfl).2 rfl
  have b_Rule___str__ : Binds K fd_Rule___str__ ["self"] [] := F_Rule___str__.bindsN fun _ _ _ _ _ _ us hl => match us, hl with | [_], _ => rfl
  have K_Rule___str__ : FnOk P w K mg base (L2.CX P w) 1 _ fd_Rule___str__ ["self"] (sp_Rule___str__ (A K)) := ok_Rule___str__ F_Rule___str__ T 
  have O_Rule___str__ : OpG P w K mg base 1 (A K).cRule "__str__" (sp_Rule___str__ (A K)) := ⟨_, _, _, K_Rule___str__, b_Rule___str__, (specB_ok (exAt m 17)).1, (specB_ok (exAt m 17)).2⟩
  obtain ⟨fd_Book___len__, F_Book___len__⟩ := Df.funD (d := d_Book___len__) (c.df 25 (d := d_Book___len__) rfl).1 (c.df 25 (d := d_Book___len__) rfl).2 rfl
  have b_Book___len__ : Binds K fd_Book___len__ ["self"] [] := F_Book___len__.bindsN fun _ _ _ _ _ _ us hl => match us, hl with | [_], _ => rfl
  have K_Book___len__ : FnOk P w K mg base (L2.CX P w) 1 _ fd_Book___len__ ["self"] (sp_Book___len__ (A K)) := ok_Book___len__ F_Book___len__ T 
  have O_Book___len__ : OpG P w K mg base 1 (A K).cBook "__len__" (sp_Book___len__ (A K)) := ⟨_, _, _, K_Book___len__, b_Book___len__, (specB_ok (exAt m 13)).1, (specB_ok (exAt m 13)).2⟩
  obtain ⟨fd_Book___iter__, F_Book___iter__⟩ := Df.funD (d := d_Book___iter__) (c.df 26 (d := d_Book___iter__) rfl).1 (c.df 26 (d := d_Book___iter__) rfl).2 rfl
  have b_Book___iter__ : Binds K fd_Book___iter__ ["self"] [] := F_Book___iter__.bindsN fun _ _ _ _ _ _ us hl => match us, hl with | [_], _ => rfl
  have K_Book___iter__ := it_Book (P := P) (w := w) (base := base) F_Book___iter__ T
  have IT_Book : ItG P w K mg base 1 (A K).cBook "_rules" := ⟨cls_Book, He.noat_ok (c.fact 66 (f := .noat "Book" "_rules") rfl), _, _, _, K_Book___iter__, b_Book___iter__, (specB_ok (exAt m 15)).1⟩
  obtain ⟨fd_Book__check_number, F_Book__check_number⟩ := Df.funD (d := d_Book__check_number) (c.df 27 (d := d_Book__check_number) rfl).1 (c.df 27 (d := d_Book__check_number) rfl).2 rfl
  have b_Book__check_number : Binds K fd_Book__check_number ["self", "number"] [] := F_Book__check_number.bindsN fun _ _ _ _ _ _ us hl => match us, hl with | [_, _], _ => rfl
  have K_Book__check_number : FnOk P w K mg base (L2.CX P w) 1 _ fd_Book__check_number ["self", "number"] (sp_Book__check_number (A K)) := ok_Book__check_number F_Book__check_number T 
  have M_Book__check_number : MeG P w K mg base 1 (A K).cBook "_check_number" (sp_Book__check_number (A K)) := ⟨cls_Book, _, raw0 K_Book__check_number b_Book__check_number, (He.meth_ok (c.fact 67 (f := .meth "Book" "_check_number") rfl))⟩
  obtain ⟨fd__law_next, F__law_next⟩ := Df.funD (d := d__law_next) (c.df 32 (d := d__law_next) rfl).1 (c.df 32 (d := d__law_next) rfl).2 rfl
  have b__law_next : Binds K fd__law_next ["_law_state", "_law_many"] [] := F__law_next.bindsN fun _ _ _ _ _ _ us hl => match us, hl with | [_, _], _ => rfl
  have K__law_next : FnOk P w K mg base (L2.CX P w) 1 _ fd__law_next ["_law_state", "_law_many"] (sp__law_next (A K)) := ok__law_next F__law_next T 
  have G__law_next : FnG P w K mg base 1 "_law_next" (sp__law_next (A K)) := ⟨_, raw0 K__law_next b__law_next, (He.glo_ok X G (c.fact 36 (f := .glo "_law_next") rfl)), F__law_next.kp⟩
  obtain ⟨fd__law_whole, F__law_whole⟩ := Df.funD (d := d__law_whole) (c.df 33 (d := d__law_whole) rfl).1 (c.df 33 (d := d__law_whole) rfl).2 rfl
  have b__law_whole : Binds K fd__law_whole ["_law_told"] [] := F__law_whole.bindsN fun _ _ _ _ _ _ us hl => match us, hl with | [_], _ => rfl
  have E__law_whole : FnEG P w K mg base 1 "_law_whole" (sE__law_whole (A K)) := ⟨_, _, _, okE__law_whole F__law_whole T, (He.glo_ok X G (c.fact 37 (f := .glo "_law_whole") rfl)), F__law_whole.kp, b__law_whole⟩
  obtain ⟨fd__law_form_of, F__law_form_of⟩ := Df.funD (d := d__law_form_of) (c.df 39 (d := d__law_form_of) rfl).1 (c.df 39 (d := d__law_form_of) rfl).2 rfl
  have b__law_form_of : Binds K fd__law_form_of ["_law_rule"] [] := F__law_form_of.bindsN fun _ _ _ _ _ _ us hl => match us, hl with | [_], _ => rfl
  have K__law_form_of : FnOk P w K mg base (L2.CX P w) 1 _ fd__law_form_of ["_law_rule"] (sp__law_form_of (A K)) := ok__law_form_of F__law_form_of T 
  have G__law_form_of : FnG P w K mg base 1 "_law_form_of" (sp__law_form_of (A K)) := ⟨_, raw0 K__law_form_of b__law_form_of, (He.glo_ok X G (c.fact 43 (f := .glo "_law_form_of") rfl)), F__law_form_of.kp⟩
  obtain ⟨fd__law_fits, F__law_fits⟩ := Df.funD (d := d__law_fits) (c.df 41 (d := d__law_fits) rfl).1 (c.df 41 (d := d__law_fits) rfl).2 rfl
  have b__law_fits : Binds K fd__law_fits ["_law_rule", "_law_shown", "_law_closed", "_law_at"] [] := F__law_fits.bindsN fun _ _ _ _ _ _ us hl => match us, hl with | [_, _, _, _], _ => rfl
  have K__law_fits : FnOk P w K mg base (L2.CX P w) 1 _ fd__law_fits ["_law_rule", "_law_shown", "_law_closed", "_law_at"] (sp__law_fits (A K)) := ok__law_fits F__law_fits T 
  have G__law_fits : FnG P w K mg base 1 "_law_fits" (sp__law_fits (A K)) := ⟨_, raw0 K__law_fits b__law_fits, (He.glo_ok X G (c.fact 45 (f := .glo "_law_fits") rfl)), F__law_fits.kp⟩
  obtain ⟨fd__law_places, F__law_places⟩ := Df.funD (d := d__law_places) (c.df 44 (d := d__law_places) rfl).1 (c.df 44 (d := d__law_places) rfl).2 rfl
  have b__law_places : Binds K fd__law_places ["_law_rule", "_law_many", "_law_at"] [] := F__law_places.bindsN fun _ _ _ _ _ _ us hl => match us, hl with | [_, _, _], _ => rfl
  have K__law_places : FnOk P w K mg base (L2.CX P w) 1 _ fd__law_places ["_law_rule", "_law_many", "_law_at"] (sp__law_places (A K)) := ok__law_places F__law_places T 
  have G__law_places : FnG P w K mg base 1 "_law_places" (sp__law_places (A K)) := ⟨_, raw0 K__law_places b__law_places, (He.glo_ok X G (c.fact 48 (f := .glo "_law_places") rfl)), F__law_places.kp⟩
  obtain ⟨fd__law_meet, F__law_meet⟩ := Df.funD (d := d__law_meet) (c.df 45 (d := d__law_meet) rfl).1 (c.df 45 (d := d__law_meet) rfl).2 rfl
  have b__law_meet : Binds K fd__law_meet ["_law_one", "_law_two"] [] := F__law_meet.bindsN fun _ _ _ _ _ _ us hl => match us, hl with | [_, _], _ => rfl
  have K__law_meet : FnOk P w K mg base (L2.CX P w) 1 _ fd__law_meet ["_law_one", "_law_two"] (sp__law_meet (A K)) := ok__law_meet F__law_meet T 
  have G__law_meet : FnG P w K mg base 1 "_law_meet" (sp__law_meet (A K)) := ⟨_, raw0 K__law_meet b__law_meet, (He.glo_ok X G (c.fact 49 (f := .glo "_law_meet") rfl)), F__law_meet.kp⟩
  obtain ⟨fd__law_shifts, F__law_shifts⟩ := Df.funD (d := d__law_shifts) (c.df 50 (d := d__law_shifts) rfl).1 (c.df 50 (d := d__law_shifts) rfl).2 rfl
  have b__law_shifts : Binds K fd__law_shifts ["_law_rows", "_law_one", "_law_two", "_law_kind"] [] := F__law_shifts.bindsN fun _ _ _ _ _ _ us hl => match us, hl with | [_, _, _, _], _ => rfl
  have K__law_shifts : FnOk P w K mg base (L2.CX P w) 1 _ fd__law_shifts ["_law_rows", "_law_one", "_law_two", "_law_kind"] (sp__law_shifts (A K)) := ok__law_shifts F__law_shifts T 
  have G__law_shifts : FnG P w K mg base 1 "_law_shifts" (sp__law_shifts (A K)) := ⟨_, raw0 K__law_shifts b__law_shifts, (He.glo_ok X G (c.fact 54 (f := .glo "_law_shifts") rfl)), F__law_shifts.kp⟩
  obtain ⟨fd__kind, F__kind⟩ := Df.funD (d := d__kind) (c.df 6 (d := d__kind) rfl).1 (c.df 6 (d := d__kind) rfl).2 rfl
  have b__kind : Binds K fd__kind ["first", "second"] [] := F__kind.bindsN fun _ _ _ _ _ _ us hl => match us, hl with | [_, _], _ => rfl
  have K__kind : FnOk P w K mg base (L2.CX P w) 2 _ fd__kind ["first", "second"] (sp__kind (A K)) := ok__kind F__kind T (G__meet := G__meet)
  have G__kind : FnG P w K mg base 2 "_kind" (sp__kind (A K)) := ⟨_, raw0 K__kind b__kind, (He.glo_ok X G (c.fact 26 (f := .glo "_kind") rfl)), F__kind.kp⟩
  obtain ⟨fd__check_signs, F__check_signs⟩ := Df.funD (d := d__check_signs) (c.df 12 (d := d__check_signs) rfl).1 (c.df 12 (d := d__check_signs) rfl).2 rfl
  have b__check_signs : Binds K fd__check_signs ["signs"] [] := F__check_signs.bindsN fun _ _ _ _ _ _ us hl => match us, hl with | [_], _ => rfl
  have K__check_signs : FnOk P w K mg base (L2.CX P w) 2 _ fd__check_signs ["signs"] (sp__check_signs (A K)) := ok__check_signs F__check_signs T (G_is_sign := G_is_sign)
  have G__check_signs : FnG P w K mg base 2 "_check_signs" (sp__check_signs (A K)) := ⟨_, raw0 K__check_signs b__check_signs, (He.glo_ok X G (c.fact 32 (f := .glo "_check_signs") rfl)), F__check_signs.kp⟩
  obtain ⟨fd_Book___getitem__, F_Book___getitem__⟩ := Df.funD (d := d_Book___getitem__) (c.df 28 (d := d_Book___getitem__) rfl).1 (c.df 28 (d := d_Book___getitem__) rfl).2 rfl
  have b_Book___getitem__ : Binds K fd_Book___getitem__ ["self", "number"] [] := F_Book___getitem__.bindsN fun _ _ _ _ _ _ us hl => match us, hl with | [_, _], _ => rfl
  have K_Book___getitem__ : FnOk P w K mg base (L2.CX P w) 2 _ fd_Book___getitem__ ["self", "number"] (sp_Book___getitem__ (A K)) := ok_Book___getitem__ F_Book___getitem__ T (M_Book__check_number := M_Book__check_number)
  have O_Book___getitem__ : OpG P w K mg base 2 (A K).cBook "__getitem__" (sp_Book___getitem__ (A K)) := ⟨_, _, _, K_Book___getitem__, b_Book___getitem__, (specB_ok (exAt m 12)).1, (specB_ok (exAt m 12)).2⟩
  obtain ⟨fd_Book_add, F_Book_add⟩ := Df.funD (d := d_Book_add) (c.df 29 (d := d_Book_add) rfl).1 (c.df 29 (d := d_Book_add) rfl).2 rfl
  have b_Book_add : Binds K fd_Book_add ["self", "rule"] [] := F_Book_add.bindsN fun _ _ _ _ _ _ us hl => match us, hl with | [_, _], _ => rfl
  have K_Book_add : FnOk P w K mg base (L2.CX P w) 2 _ fd_Book_add ["self", "rule"] (sp_Book_add (A K)) := ok_Book_add F_Book_add T (O_Rule___eq__ := O_Rule___eq__)
  have M_Book_add : MeG P w K mg base 2 (A K).cBook "add" (sp_Book_add (A K)) := ⟨cls_Book, _, raw0 K_Book_add b_Book_add, (He.meth_ok (c.fact 68 (f := .meth "Book" "add") rfl))⟩
  obtain ⟨fd_Book_drop, F_Book_drop⟩ := Df.funD (d := d_Book_drop) (c.df 30 (d := d_Book_drop) rfl).1 (c.df 30 (d := d_Book_drop) rfl).2 rfl
  have b_Book_drop : Binds K fd_Book_drop ["self", "number"] [] := F_Book_drop.bindsN fun _ _ _ _ _ _ us hl => match us, hl with | [_, _], _ => rfl
  have K_Book_drop : FnOk P w K mg base (L2.CX P w) 2 _ fd_Book_drop ["self", "number"] (sp_Book_drop (A K)) := ok_Book_drop F_Book_drop T (M_Book__check_number := M_Book__check_number)
  have M_Book_drop : MeG P w K mg base 2 (A K).cBook "drop" (sp_Book_drop (A K)) := ⟨cls_Book, _, raw0 K_Book_drop b_Book_drop, (He.meth_ok (c.fact 69 (f := .meth "Book" "drop") rfl))⟩
  obtain ⟨fd__law_letters_of, F__law_letters_of⟩ := Df.funD (d := d__law_letters_of) (c.df 34 (d := d__law_letters_of) rfl).1 (c.df 34 (d := d__law_letters_of) rfl).2 rfl
  have b__law_letters_of : Binds K fd__law_letters_of ["_law_state"] [] := F__law_letters_of.bindsN fun _ _ _ _ _ _ us hl => match us, hl with | [_], _ => rfl
  have K__law_letters_of : FnOk P w K mg base (L2.CX P w) 2 _ fd__law_letters_of ["_law_state"] (sp__law_letters_of (A K)) := ok__law_letters_of F__law_letters_of T (G__law_next := G__law_next)
  have G__law_letters_of : FnG P w K mg base 2 "_law_letters_of" (sp__law_letters_of (A K)) := ⟨_, raw0 K__law_letters_of b__law_letters_of, (He.glo_ok X G (c.fact 38 (f := .glo "_law_letters_of") rfl)), F__law_letters_of.kp⟩
  obtain ⟨fd__law_word_of, F__law_word_of⟩ := Df.funD (d := d__law_word_of) (c.df 35 (d := d__law_word_of) rfl).1 (c.df 35 (d := d__law_word_of) rfl).2 rfl
  have b__law_word_of : Binds K fd__law_word_of ["_law_state", "_law_signs", "_law_size", "_law_shift"] [] := F__law_word_of.bindsN fun _ _ _ _ _ _ us hl => match us, hl with | [_, _, _, _], _ => rfl
  have K__law_word_of : FnOk P w K mg base (L2.CX P w) 2 _ fd__law_word_of ["_law_state", "_law_signs", "_law_size", "_law_shift"] (sp__law_word_of (A K)) := ok__law_word_of F__law_word_of T (G__law_next := G__law_next)
  have G__law_word_of : FnG P w K mg base 2 "_law_word_of" (sp__law_word_of (A K)) := ⟨_, raw0 K__law_word_of b__law_word_of, (He.glo_ok X G (c.fact 39 (f := .glo "_law_word_of") rfl)), F__law_word_of.kp⟩
  obtain ⟨fd__law_steps_of, F__law_steps_of⟩ := Df.funD (d := d__law_steps_of) (c.df 42 (d := d__law_steps_of) rfl).1 (c.df 42 (d := d__law_steps_of) rfl).2 rfl
  have b__law_steps_of : Binds K fd__law_steps_of ["_law_rules", "_law_shown", "_law_closed"] [] := F__law_steps_of.bindsN fun _ _ _ _ _ _ us hl => match us, hl with | [_, _, _], _ => rfl
  have K__law_steps_of : FnOk P w K mg base (L2.CX P w) 2 _ fd__law_steps_of ["_law_rules", "_law_shown", "_law_closed"] (sp__law_steps_of (A K)) := ok__law_steps_of F__law_steps_of T (G__law_fits := G__law_fits)
  have G__law_steps_of : FnG P w K mg base 2 "_law_steps_of" (sp__law_steps_of (A K)) := ⟨_, raw0 K__law_steps_of b__law_steps_of, (He.glo_ok X G (c.fact 46 (f := .glo "_law_steps_of") rfl)), F__law_steps_of.kp⟩
  obtain ⟨fd__law_kind_of, F__law_kind_of⟩ := Df.funD (d := d__law_kind_of) (c.df 46 (d := d__law_kind_of) rfl).1 (c.df 46 (d := d__law_kind_of) rfl).2 rfl
  have b__law_kind_of : Binds K fd__law_kind_of ["_law_one", "_law_two"] [] := F__law_kind_of.bindsN fun _ _ _ _ _ _ us hl => match us, hl with | [_, _], _ => rfl
  have K__law_kind_of : FnOk P w K mg base (L2.CX P w) 2 _ fd__law_kind_of ["_law_one", "_law_two"] (sp__law_kind_of (A K)) := ok__law_kind_of F__law_kind_of T (G__law_meet := G__law_meet)
  have G__law_kind_of : FnG P w K mg base 2 "_law_kind_of" (sp__law_kind_of (A K)) := ⟨_, raw0 K__law_kind_of b__law_kind_of, (He.glo_ok X G (c.fact 50 (f := .glo "_law_kind_of") rfl)), F__law_kind_of.kp⟩
  obtain ⟨fd__law_strangers, F__law_strangers⟩ := Df.funD (d := d__law_strangers) (c.df 51 (d := d__law_strangers) rfl).1 (c.df 51 (d := d__law_strangers) rfl).2 rfl
  have b__law_strangers : Binds K fd__law_strangers ["_law_state", "_law_rules", "_law_shown", "_law_closed"] [] := F__law_strangers.bindsN fun _ _ _ _ _ _ us hl => match us, hl with | [_, _, _, _], _ => rfl
  have K__law_strangers : FnOk P w K mg base (L2.CX P w) 2 _ fd__law_strangers ["_law_state", "_law_rules", "_law_shown", "_law_closed"] (sp__law_strangers (A K)) := ok__law_strangers F__law_strangers T (G__law_next := G__law_next) (G__law_fits := G__law_fits)
  have G__law_strangers : FnG P w K mg base 2 "_law_strangers" (sp__law_strangers (A K)) := ⟨_, raw0 K__law_strangers b__law_strangers, (He.glo_ok X G (c.fact 55 (f := .glo "_law_strangers") rfl)), F__law_strangers.kp⟩
  obtain ⟨fd__places_in, F__places_in⟩ := Df.funD (d := d__places_in) (c.df 4 (d := d__places_in) rfl).1 (c.df 4 (d := d__places_in) rfl).2 rfl
  have b__places_in : Binds K fd__places_in ["text", "rule", "at"] [] := F__places_in.bindsN fun _ _ _ _ _ _ us hl => match us, hl with | [_, _, _], _ => rfl
  have K__places_in : FnOk P w K mg base (L2.CX P w) 3 _ fd__places_in ["text", "rule", "at"] (sp__places_in (A K)) := ok__places_in F__places_in T (O_Text___len__ := O_Text___len__) (G__places := G__places)
  have G__places_in : FnG P w K mg base 3 "_places_in" (sp__places_in (A K)) := ⟨_, raw0 K__places_in b__places_in, (He.glo_ok X G (c.fact 24 (f := .glo "_places_in") rfl)), F__places_in.kp⟩
  obtain ⟨fd__needed, F__needed⟩ := Df.funD (d := d__needed) (c.df 8 (d := d__needed) rfl).1 (c.df 8 (d := d__needed) rfl).2 rfl
  have b__needed : Binds K fd__needed ["rule", "at", "place"] [] := F__needed.bindsN fun _ _ _ _ _ _ us hl => match us, hl with | [_, _, _], _ => rfl
  have K__needed : FnOk P w K mg base (L2.CX P w) 3 _ fd__needed ["rule", "at", "place"] (sp__needed (A K)) := ok__needed F__needed T (P_Rule_pattern := P_Rule_pattern)
  have G__needed : FnG P w K mg base 3 "_needed" (sp__needed (A K)) := ⟨_, raw0 K__needed b__needed, (He.glo_ok X G (c.fact 28 (f := .glo "_needed") rfl)), F__needed.kp⟩
  obtain ⟨fd_Text___init__, F_Text___init__⟩ := Df.funD (d := d_Text___init__) (c.df 13 (d := d_Text___init__) rfl).1 (c.df 13 (d := d_Text___init__) rfl).2 rfl
  have K_Text___init__ : FnOk P w K mg base (L2.CX P w) 3 _ fd_Text___init__ ["self", "signs", "closed"] (sp_Text___init__ (A K)) := ok_Text___init__ F_Text___init__ T (G__check_signs := G__check_signs)
  have Mk_Text : Mk K (A K).cText (He.ma K (He.ga K "Text") "__init__") := He.mkr_ok (c.fact 72 (f := .mkr "Text") rfl)
  have Ct_Text_1_closed := ct_Text_1_closed F_Text___init__ K_Text___init__ Mk_Text
  obtain ⟨fd__check_part, F__check_part⟩ := Df.funD (d := d__check_part) (c.df 15 (d := d__check_part) rfl).1 (c.df 15 (d := d__check_part) rfl).2 rfl
  have b__check_part : Binds K fd__check_part ["part", "signs", "least", "most"] [] := F__check_part.bindsN fun _ _ _ _ _ _ us hl => match us, hl with | [_, _, _, _], _ => rfl
  have K__check_part : FnOk P w K mg base (L2.CX P w) 3 _ fd__check_part ["part", "signs", "least", "most"] (sp__check_part (A K)) := ok__check_part F__check_part T (G__check_signs := G__check_signs)
  have G__check_part : FnG P w K mg base 3 "_check_part" (sp__check_part (A K)) := ⟨_, raw0 K__check_part b__check_part, (He.glo_ok X G (c.fact 33 (f := .glo "_check_part") rfl)), F__check_part.kp⟩
  obtain ⟨fd_Rule_fits, F_Rule_fits⟩ := Df.funD (d := d_Rule_fits) (c.df 22 (d := d_Rule_fits) rfl).1 (c.df 22 (d := d_Rule_fits) rfl).2 rfl
  have b_Rule_fits : Binds K fd_Rule_fits ["self", "text", "at"] [] := F_Rule_fits.bindsN fun _ _ _ _ _ _ us hl => match us, hl with | [_, _, _], _ => rfl
  have K_Rule_fits : FnOk P w K mg base (L2.CX P w) 3 _ fd_Rule_fits ["self", "text", "at"] (sp_Rule_fits (A K)) := ok_Rule_fits F_Rule_fits T (P_Rule_pattern := P_Rule_pattern) (O_Text___len__ := O_Text___len__)
  have M_Rule_fits : MeG P w K mg base 3 (A K).cRule "fits" (sp_Rule_fits (A K)) := ⟨cls_Rule, _, raw0 K_Rule_fits b_Rule_fits, (He.meth_ok (c.fact 71 (f := .meth "Rule" "fits") rfl))⟩
  obtain ⟨fd_Book___init__, F_Book___init__⟩ := Df.funD (d := d_Book___init__) (c.df 23 (d := d_Book___init__) rfl).1 (c.df 23 (d := d_Book___init__) rfl).2 rfl
  have K_Book___init__ := ok_Book___init__ (P := P) (w := w) (base := base) F_Book___init__ T (M_Book_add := M_Book_add)
  have Mk_Book : Mk K (A K).cBook (He.ma K (He.ga K "Book") "__init__") := He.mkr_ok (c.fact 74 (f := .mkr "Book") rfl)
  have R_Book := r_Book K_Book___init__ Mk_Book
  obtain ⟨fd__law_rule_of, F__law_rule_of⟩ := Df.funD (d := d__law_rule_of) (c.df 36 (d := d__law_rule_of) rfl).1 (c.df 36 (d := d__law_rule_of) rfl).2 rfl
  have b__law_rule_of : Binds K fd__law_rule_of ["_law_state", "_law_signs", "_law_k"] [] := F__law_rule_of.bindsN fun _ _ _ _ _ _ us hl => match us, hl with | [_, _, _], _ => rfl
  have K__law_rule_of : FnOk P w K mg base (L2.CX P w) 3 _ fd__law_rule_of ["_law_state", "_law_signs", "_law_k"] (sp__law_rule_of (A K)) := ok__law_rule_of F__law_rule_of T (G__law_word_of := G__law_word_of) (G__law_next := G__law_next)
  have G__law_rule_of : FnG P w K mg base 3 "_law_rule_of" (sp__law_rule_of (A K)) := ⟨_, raw0 K__law_rule_of b__law_rule_of, (He.glo_ok X G (c.fact 40 (f := .glo "_law_rule_of") rfl)), F__law_rule_of.kp⟩
  obtain ⟨fd__law_text_of, F__law_text_of⟩ := Df.funD (d := d__law_text_of) (c.df 38 (d := d__law_text_of) rfl).1 (c.df 38 (d := d__law_text_of) rfl).2 rfl
  have b__law_text_of : Binds K fd__law_text_of ["_law_state", "_law_signs", "_law_rules", "_law_many"] [] := F__law_text_of.bindsN fun _ _ _ _ _ _ us hl => match us, hl with | [_, _, _, _], _ => rfl
  have K__law_text_of : FnOk P w K mg base (L2.CX P w) 3 _ fd__law_text_of ["_law_state", "_law_signs", "_law_rules", "_law_many"] (sp__law_text_of (A K)) := ok__law_text_of F__law_text_of T (G__law_next := G__law_next) (G__law_word_of := G__law_word_of)
  have G__law_text_of : FnG P w K mg base 3 "_law_text_of" (sp__law_text_of (A K)) := ⟨_, raw0 K__law_text_of b__law_text_of, (He.glo_ok X G (c.fact 42 (f := .glo "_law_text_of") rfl)), F__law_text_of.kp⟩
  obtain ⟨fd__law_due_of, F__law_due_of⟩ := Df.funD (d := d__law_due_of) (c.df 48 (d := d__law_due_of) rfl).1 (c.df 48 (d := d__law_due_of) rfl).2 rfl
  have b__law_due_of : Binds K fd__law_due_of ["_law_rules", "_law_shown", "_law_one", "_law_two"] [] := F__law_due_of.bindsN fun _ _ _ _ _ _ us hl => match us, hl with | [_, _, _, _], _ => rfl
  have K__law_due_of : FnOk P w K mg base (L2.CX P w) 3 _ fd__law_due_of ["_law_rules", "_law_shown", "_law_one", "_law_two"] (sp__law_due_of (A K)) := ok__law_due_of F__law_due_of T (G__law_kind_of := G__law_kind_of) (G__law_places := G__law_places)
  have G__law_due_of : FnG P w K mg base 3 "_law_due_of" (sp__law_due_of (A K)) := ⟨_, raw0 K__law_due_of b__law_due_of, (He.glo_ok X G (c.fact 52 (f := .glo "_law_due_of") rfl)), F__law_due_of.kp⟩
  obtain ⟨fd_disturbance, F_disturbance⟩ := Df.funD (d := d_disturbance) (c.df 7 (d := d_disturbance) rfl).1 (c.df 7 (d := d_disturbance) rfl).2 rfl
  have b_disturbance : Binds K fd_disturbance ["book", "text", "first", "second"] [] := F_disturbance.bindsN fun _ _ _ _ _ _ us hl => match us, hl with | [_, _, _, _], _ => rfl
  have K_disturbance : FnOk P w K mg base (L2.CX P w) 4 _ fd_disturbance ["book", "text", "first", "second"] (sp_disturbance (A K)) := ok_disturbance F_disturbance T (G__kind := G__kind) (G__places_in := G__places_in) (O_Book___getitem__ := O_Book___getitem__) (M_Rule_fits := M_Rule_fits) (X_BadRun := X_BadRun) (X_Mismatch := X_Mismatch) (O_Book___len__ := O_Book___len__) (X_NoRule := X_NoRule)
  have G_disturbance : FnG P w K mg base 4 "disturbance" (sp_disturbance (A K)) := ⟨_, raw0 K_disturbance b_disturbance, (He.glo_ok X G (c.fact 27 (f := .glo "disturbance") rfl)), F_disturbance.kp⟩
  obtain ⟨fd__overlap, F__overlap⟩ := Df.funD (d := d__overlap) (c.df 9 (d := d__overlap) rfl).1 (c.df 9 (d := d__overlap) rfl).2 rfl
  have b__overlap : Binds K fd__overlap ["one", "other", "shift"] [] := F__overlap.bindsN fun _ _ _ _ _ _ us hl => match us, hl with | [_, _, _], _ => rfl
  have K__overlap : FnOk P w K mg base (L2.CX P w) 4 _ fd__overlap ["one", "other", "shift"] (sp__overlap (A K)) := ok__overlap F__overlap T (G__needed := G__needed) (G__kind := G__kind) (G__places := G__places)
  have G__overlap : FnG P w K mg base 4 "_overlap" (sp__overlap (A K)) := ⟨_, raw0 K__overlap b__overlap, (He.glo_ok X G (c.fact 29 (f := .glo "_overlap") rfl)), F__overlap.kp⟩
  obtain ⟨fd_Rule___init__, F_Rule___init__⟩ := Df.funD (d := d_Rule___init__) (c.df 18 (d := d_Rule___init__) rfl).1 (c.df 18 (d := d_Rule___init__) rfl).2 rfl
  have K_Rule___init__ : FnOk P w K mg base (L2.CX P w) 4 _ fd_Rule___init__ ["self", "old", "new", "left", "right"] (sp_Rule___init__ (A K)) := ok_Rule___init__ F_Rule___init__ T (G__check_part := G__check_part)
  have Mk_Rule : Mk K (A K).cRule (He.ma K (He.ga K "Rule") "__init__") := He.mkr_ok (c.fact 73 (f := .mkr "Rule") rfl)
  have Ct_Rule_4 := ct_Rule_4 F_Rule___init__ K_Rule___init__ Mk_Rule
  obtain ⟨fd_Book_written, F_Book_written⟩ := Df.funD (d := d_Book_written) (c.df 31 (d := d_Book_written) rfl).1 (c.df 31 (d := d_Book_written) rfl).2 rfl
  have b_Book_written : Binds K fd_Book_written ["self"] [] := F_Book_written.bindsN fun _ _ _ _ _ _ us hl => match us, hl with | [_], _ => rfl
  have K_Book_written : FnOk P w K mg base (L2.CX P w) 4 _ fd_Book_written ["self"] (sp_Book_written (A K)) := ok_Book_written F_Book_written T (O_Rule___str__ := O_Rule___str__)
  have M_Book_written : MeG P w K mg base 4 (A K).cBook "written" (sp_Book_written (A K)) := ⟨cls_Book, _, raw0 K_Book_written b_Book_written, (He.meth_ok (c.fact 70 (f := .meth "Book" "written") rfl))⟩
  obtain ⟨fd__law_rules_of, F__law_rules_of⟩ := Df.funD (d := d__law_rules_of) (c.df 37 (d := d__law_rules_of) rfl).1 (c.df 37 (d := d__law_rules_of) rfl).2 rfl
  have b__law_rules_of : Binds K fd__law_rules_of ["_law_state", "_law_signs"] [] := F__law_rules_of.bindsN fun _ _ _ _ _ _ us hl => match us, hl with | [_, _], _ => rfl
  have K__law_rules_of : FnOk P w K mg base (L2.CX P w) 4 _ fd__law_rules_of ["_law_state", "_law_signs"] (sp__law_rules_of (A K)) := ok__law_rules_of F__law_rules_of T (G__law_next := G__law_next) (G__law_rule_of := G__law_rule_of)
  have G__law_rules_of : FnG P w K mg base 4 "_law_rules_of" (sp__law_rules_of (A K)) := ⟨_, raw0 K__law_rules_of b__law_rules_of, (He.glo_ok X G (c.fact 41 (f := .glo "_law_rules_of") rfl)), F__law_rules_of.kp⟩
  obtain ⟨fd_overlaps, F_overlaps⟩ := Df.funD (d := d_overlaps) (c.df 10 (d := d_overlaps) rfl).1 (c.df 10 (d := d_overlaps) rfl).2 rfl
  have b_overlaps : Binds K fd_overlaps ["book"] [] := F_overlaps.bindsN fun _ _ _ _ _ _ us hl => match us, hl with | [_], _ => rfl
  have K_overlaps : GFn P w K mg base 5 _ fd_overlaps ["book"] (sp_overlaps (A K)) := ok_overlaps F_overlaps T (G__overlap := G__overlap) (IT_Book := IT_Book) (O_Book___len__ := O_Book___len__)
  have Y_overlaps : GfG P w K mg base 5 "overlaps" (sp_overlaps (A K)) := ⟨_, _, _, K_overlaps, (He.glo_ok X G (c.fact 30 (f := .glo "overlaps") rfl)), F_overlaps.kp, b_overlaps⟩
  obtain ⟨fd__law_is_book, F__law_is_book⟩ := Df.funD (d := d__law_is_book) (c.df 43 (d := d__law_is_book) rfl).1 (c.df 43 (d := d__law_is_book) rfl).2 rfl
  have b__law_is_book : Binds K fd__law_is_book ["_law_book", "_law_rules"] [] := F__law_is_book.bindsN fun _ _ _ _ _ _ us hl => match us, hl with | [_, _], _ => rfl
  have K__law_is_book : FnOk P w K mg base (L2.CX P w) 5 _ fd__law_is_book ["_law_book", "_law_rules"] (sp__law_is_book (A K)) := ok__law_is_book F__law_is_book T (M_Book_written := M_Book_written) (IT_Book := IT_Book) (O_Rule___str__ := O_Rule___str__) (G__law_form_of := G__law_form_of) (O_Book___len__ := O_Book___len__)
  have G__law_is_book : FnG P w K mg base 5 "_law_is_book" (sp__law_is_book (A K)) := ⟨_, raw0 K__law_is_book b__law_is_book, (He.glo_ok X G (c.fact 47 (f := .glo "_law_is_book") rfl)), F__law_is_book.kp⟩
  obtain ⟨fd__law_refused, F__law_refused⟩ := Df.funD (d := d__law_refused) (c.df 47 (d := d__law_refused) rfl).1 (c.df 47 (d := d__law_refused) rfl).2 rfl
  have b__law_refused : Binds K fd__law_refused ["_law_book", "_law_text", "_law_one", "_law_two", "_law_due"] [] := F__law_refused.bindsN fun _ _ _ _ _ _ us hl => match us, hl with | [_, _, _, _, _], _ => rfl
  have K__law_refused : FnOk P w K mg base (L2.CX P w) 5 _ fd__law_refused ["_law_book", "_law_text", "_law_one", "_law_two", "_law_due"] (sp__law_refused (A K)) := ok__law_refused F__law_refused T (G_disturbance := G_disturbance) (E__law_whole := E__law_whole)
  have G__law_refused : FnG P w K mg base 5 "_law_refused" (sp__law_refused (A K)) := ⟨_, raw0 K__law_refused b__law_refused, (He.glo_ok X G (c.fact 51 (f := .glo "_law_refused") rfl)), F__law_refused.kp⟩
  obtain ⟨fd__law_tells, F__law_tells⟩ := Df.funD (d := d__law_tells) (c.df 49 (d := d__law_tells) rfl).1 (c.df 49 (d := d__law_tells) rfl).2 rfl
  have b__law_tells : Binds K fd__law_tells ["_law_book", "_law_text", "_law_one", "_law_two", "_law_due"] [] := F__law_tells.bindsN fun _ _ _ _ _ _ us hl => match us, hl with | [_, _, _, _, _], _ => rfl
  have K__law_tells : FnOk P w K mg base (L2.CX P w) 5 _ fd__law_tells ["_law_book", "_law_text", "_law_one", "_law_two", "_law_due"] (sp__law_tells (A K)) := ok__law_tells F__law_tells T (G_disturbance := G_disturbance)
  have G__law_tells : FnG P w K mg base 5 "_law_tells" (sp__law_tells (A K)) := ⟨_, raw0 K__law_tells b__law_tells, (He.glo_ok X G (c.fact 53 (f := .glo "_law_tells") rfl)), F__law_tells.kp⟩
  obtain ⟨fd__read_rule, F__read_rule⟩ := Df.funD (d := d__read_rule) (c.df 17 (d := d__read_rule) rfl).1 (c.df 17 (d := d__read_rule) rfl).2 rfl
  have b__read_rule : Binds K fd__read_rule ["line", "number"] [] := F__read_rule.bindsN fun _ _ _ _ _ _ us hl => match us, hl with | [_, _], _ => rfl
  have K__read_rule : FnOk P w K mg base (L2.CX P w) 6 _ fd__read_rule ["line", "number"] (sp__read_rule (A K)) := ok__read_rule F__read_rule T (Ct_Rule_4 := Ct_Rule_4) (G__split_line := G__split_line)
  have G__read_rule : FnG P w K mg base 6 "_read_rule" (sp__read_rule (A K)) := ⟨_, raw0 K__read_rule b__read_rule, (He.glo_ok X G (c.fact 35 (f := .glo "_read_rule") rfl)), F__read_rule.kp⟩
  obtain ⟨fd_Book_read, F_Book_read⟩ := Df.funD (d := d_Book_read) (c.df 24 (d := d_Book_read) rfl).1 (c.df 24 (d := d_Book_read) rfl).2 rfl
  have b_Book_read : Binds K fd_Book_read ["cls", "written"] [] := F_Book_read.bindsN fun _ _ _ _ _ _ us hl => match us, hl with | [_, _], _ => rfl
  have K_Book_read : FnOk P w K mg base (L2.CX P w) 7 _ fd_Book_read ["cls", "written"] (sp_Book_read (A K)) := ok_Book_read F_Book_read T (R_Book := R_Book) (G__read_rule := G__read_rule)
  have C_Book_read : CmG P w K mg base 7 (A K).cBook "read" (sp_Book_read (A K)) := ⟨_, _, _, creadB_ok (exAt m 8), cmetB_ok (exAt m 18), raw0 K_Book_read b_Book_read⟩
  obtain ⟨fd__law_book_of, F__law_book_of⟩ := Df.funD (d := d__law_book_of) (c.df 40 (d := d__law_book_of) rfl).1 (c.df 40 (d := d__law_book_of) rfl).2 rfl
  have b__law_book_of : Binds K fd__law_book_of ["_law_rules"] [] := F__law_book_of.bindsN fun _ _ _ _ _ _ us hl => match us, hl with | [_], _ => rfl
  have K__law_book_of : FnOk P w K mg base (L2.CX P w) 8 _ fd__law_book_of ["_law_rules"] (sp__law_book_of (A K)) := ok__law_book_of F__law_book_of T (C_Book_read := C_Book_read) (G__law_form_of := G__law_form_of)
  have G__law_book_of : FnG P w K mg base 8 "_law_book_of" (sp__law_book_of (A K)) := ⟨_, raw0 K__law_book_of b__law_book_of, (He.glo_ok X G (c.fact 44 (f := .glo "_law_book_of") rfl)), F__law_book_of.kp⟩
  have K_law : FnOk P w K mg base (L2.CX P w) 9 _ fd_law ["_law_script"] (sp_law K) := ok_law F_law T (G__law_refused := G__law_refused) (G__law_tells := G__law_tells) (G__law_due_of := G__law_due_of) (M_Book_drop := M_Book_drop) (G__law_is_book := G__law_is_book) (G__law_strangers := G__law_strangers) (G__law_shifts := G__law_shifts) (Y_overlaps := Y_overlaps) (G__law_next := G__law_next) (G__law_steps_of := G__law_steps_of) (Ct_Text_1_closed := Ct_Text_1_closed) (G__law_book_of := G__law_book_of) (G__law_text_of := G__law_text_of) (G__law_rules_of := G__law_rules_of) (G__law_letters_of := G__law_letters_of)
  exact fn_mute K_law fun vs H Q E h => h
theorem law_fd (c : Says2 fileS faL dsL exK K) : ∃ fd, FnP K "law" "law" s_law (He.ga K "law") fd := Df.funD (d := d_law) (c.df 52 (d := d_law) rfl).1 (c.df 52 (d := d_law) rfl).2 rfl
end
open HandSHeadRun PySem.W in
theorem run (w : World) : RunEq R (view R.prog [58]) hk ob 20000 loose w := by
  intro os
  have a := t2 w os
  have b := t3 w os
  have c := t4 w os
  have c0 := t5_0 w os
  have c1 := t5_1 w os
  have c2 := t5_2 w os
  revert a b c c0 c1 c2
  generalize endF (stepQ (denQ tabQ) R.prog w) 20000 R.prog w os = x
  intro a b c c0 c1 c2
  cases x with
  | none => cases a
  | some s =>
    have a := Option.some.inj a
    have b := Option.some.inj b
    have c := Option.some.inj c
    have c0 : dsL0.map (fun d => fnV2 (frT2 (HandSHeadRun.getT s)) (d.adr (frT2 (HandSHeadRun.getT s)))) = dsL0.map Df.val := Option.some.inj c0
    have c1 : dsL1.map (fun d => fnV2 (frT2 (HandSHeadRun.getT s)) (d.adr (frT2 (HandSHeadRun.getT s)))) = dsL1.map Df.val := Option.some.inj c1
    have c2 : dsL2.map (fun d => fnV2 (frT2 (HandSHeadRun.getT s)) (d.adr (frT2 (HandSHeadRun.getT s)))) = dsL2.map Df.val := Option.some.inj c2
    have e : (ob s).2 = dsL.map Df.val := by
      show dsL.map (fun d => fnV2 (frT2 (HandSHeadRun.getT s)) (d.adr (frT2 (HandSHeadRun.getT s)))) = dsL.map Df.val
      unfold dsL
      simp only [List.map_append]
      rw [c0, c1, c2]
    show some _ = some _
    exact congrArg some (Prod.ext a (Prod.ext b (Prod.ext c e)))
end K7
open PySem PySem.W PySem.Calls PyProof.Rows
theorem PySem.Challenge.cw_manyclerks_k07_overlaps_of_all_texts_holds : PySem.Challenge.rw_manyclerks_k07_overlaps_of_all_texts.Holds := by
  w_on; o_law
  refine HandSHeadRun.head_any (r := OpenLaw.row PySem.Challenge.rw_manyclerks_k07_overlaps_of_all_texts) (q := view (OpenLaw.row PySem.Challenge.rw_manyclerks_k07_overlaps_of_all_texts).prog [58]) (H := K7.hk) (ob := K7.ob) (M := 20000) (loose := K7.loose) (d := HandSHeadRun.topDef (OpenLaw.row PySem.Challenge.rw_manyclerks_k07_overlaps_of_all_texts).prog 58) (kwd := []) K7.ob_eq
    (by kernel_rfl) (fun s => by kernel_rfl) K7.run (by kernel_rfl) (by kernel_rfl) (by kernel_rfl) (by rfl) (by first | assumption | decide +kernel) (by decide +kernel) ⟨rfl, rfl, rfl, rfl, rfl, by decide +kernel⟩ ?hw ?hc
  case hw => w_witness2
  case hc =>
    refine L2.walk_ofE (l := PySem.Challenge.rw_manyclerks_k07_overlaps_of_all_texts) (n := 63) (k := 9) (x := "_law_script") (CX := L2.CX0) rfl (by decide) (by kernel_rfl) ⟨rfl, by decide, by decide⟩ ?F (fun _ _ _ _ z => z)
    intro w mg fa h Y G hmg0
    obtain ⟨K, KX, c⟩ := Y
    have hmg : mg ("law" : PySem.Str) = some (.ref fa) := by
      have e : (HandSHeadRun.topDef (OpenLaw.row PySem.Challenge.rw_manyclerks_k07_overlaps_of_all_texts).prog 58).name = ("law" : PySem.Str) := by kernel_rfl
      rw [← e]
      exact hmg0
    have e2 := hmg.symm.trans (He.glo_ok KX G (c.fact 56 (f := .glo "law") rfl))
    cases e2
    obtain ⟨fd, F⟩ := K7.law_fd c
    exact ⟨K, fd, K7.sp_law K, KX, fun s v => F.bindsA (ps := ["_law_script"]) (fun _ _ _ _ _ _ us hl => match us, hl with | [_], _ => rfl) s [v] rfl, fun H a ns hl _ hS => ⟨a, ns, rfl, hS, fun _ => rfl⟩, fun base _ _ => K7.law_of F KX G c rfl (by decide +kernel)⟩
