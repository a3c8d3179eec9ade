import PyProof.Rows.All
import Wide.All
import OpenK.AllK
import Wide.FinOn
import HandS.ForMost
import HandS.ForExc
import HandS.ExcCtx
import HandS.ExcInit
import HandS.ExcField
import HandS.ExcIs
import HandS.HotCalls
import KE.KExcSuper
import HandS.CallSlots
import HandS.Defaults
import KE.KExcIs
import HandS.Wide
import HandS.WideMore
import HandS.IsInst
import HandS.Property
import HandS.Flow
import OpenK.KOps
import HandS.Evl
import HandS.Style
import HandS.More
import HandS.OwnEq
import HandS.TupSets
import PySem.Challenge.RW_onecopy_k32_one_arrival
set_option Elab.async false
set_option linter.all false
set_option maxRecDepth 100000
set_option maxHeartbeats 4000000
/-! The exceptions of the package: an own class whose initialiser begins with super().__init__(..). -/
namespace OC
open PySem PySem.Spec PySem.Calls PyProof.Rows PySem.W L2

/-- the scope of such a method: its names by slot, parameters first, and the captured class -/
structure SupScope (N ps : List Str) (sc : Scope) : Prop where
  kind : sc.kind = .function
  co : sc.isCoroutine = false
  gen : sc.isGenerator = false
  nd : N.Nodup
  pre : N.take ps.length = ps
  par : ∀ x ∈ ps, sc.names.lookup x = some .local
  nocell : ∀ y ∈ sc.names, y.2 ≠ .cell
  free : ∀ y ∈ sc.names, y.2 = .free → y.1 = "__class__"
  noN : ("__class__" : Str) ∉ N
  sup : sc.names.lookup ("super" : Str) = some .globalImplicit
  cls : sc.names.lookup ("__class__" : Str) = some .free

/-- the context of the method's body -/
def cxK (CX : CXT) (P : Program) (w : World) (K : PySem.W.Frag) (mg : Str → Option Value) (base : Heap) (N : List Str) (qual : Str) (scope : Scope) (f : Addr) (cd : Value) (cc : Addr) (A : Around) (outer : List Env) (s : Shared) (H : Hp) (E : XK) : Cx where
  prog := P
  w := w
  K := K
  mg := mg
  base := base
  A := A.deeper (ksEnv qual scope s.heap.objs.size f cd cc)
  N := N
  s_0 := s
  H_0 := H
  env := ksEnv qual scope s.heap.objs.size f cd cc
  outer := outer
  stack := ksEnv qual scope s.heap.objs.size f cd cc :: outer
  ex := []
  calm := true
  fn := fun x => !decide (x = "__class__")
  pn := []
  xe := fun e s' => wpAny (model P w) (A.deeper (ksEnv qual scope s.heap.objs.size f cd cc)) (leaving (ksEnv qual scope s.heap.objs.size f cd cc) e) (fun _ s'' => CX outer H s E e s'') (fun e' s'' => CX outer H s E e' s'') s'

section
variable {CX : CXT} {P : Program} {w : World} {K : PySem.W.Frag} {mg : Str → Option Value} {base : Heap} {N ps : List Str} {qual : Str} {scope : Scope} {f cc : Addr} {cd : Value} {A : Around} {outer : List Env} {s : Shared} {H : Hp} {E : XK} {us : List Value} {vs : List V}

theorem lookup_rev_zip {P : List Str} {us : List Value} {i : Nat} {x : Str} {v : Value} (nd : P.Nodup) (hl : P.length = us.length) (h1 : P[i]? = some x) (h2 : us[i]? = some v) : (P.zip us).reverse.lookup x = some v := by
  have key : ∀ (l : List (Str × Value)), (l.map (·.1)).Nodup → (x, v) ∈ l → l.lookup x = some v := by
    intro l
    induction l with
    | nil => intro _ h; cases h
    | cons p r ih =>
      intro hn hm
      rw [List.map_cons, List.nodup_cons] at hn
      rcases List.mem_cons.mp hm with e | hm
      · subst e; simp [List.lookup]
      · have hne : ¬ x = p.1 := fun e => hn.1 (by rw [← e]; exact List.mem_map_of_mem (f := (·.1)) hm)
        have hb : (x == p.1) = false := by simpa using hne
        show (match x == p.1 with | true => _ | false => _) = _
        rw [hb]
        exact ih hn.2 hm
  refine key _ ?_ ?_
  · rw [List.map_reverse, (List.reverse_perm _).nodup_iff]
    have : (P.zip us).map (·.1) = P := List.map_fst_zip (Nat.le_of_eq hl)
    rw [this]
    exact nd
  · rw [List.mem_reverse]
    have : (P.zip us)[i]? = some (x, v) := by
      rw [List.getElem?_zip_eq_some]
      exact ⟨h1, h2⟩
    exact List.mem_of_getElem? this

theorem inv_startK (S : SupScope N ps scope) (hd : A.handled = none) (e0 : Env0 P w K mg base A outer s H) (hl : vs.length = ps.length) (r : Vals vs us) {D : Addr} {cl : Value} {cld : Option Addr} {csl : Array (Option Value)}
    (hcell : K.lookup cc = some ⟨cl, cld, .cell (some (.ref D)), csl⟩) {h1 : Heap} {tk : Nat}
    (hns : h1.Ns s.heap.objs.size (fun x => (ps.zip us).reverse.lookup x)) (hk : ∀ b o, s.heap.get? b = some o → h1.get? b = some o) :
    Inv (cxK CX P w K mg base N qual scope f cd cc A outer s H E) [] (L2.start N vs) H { s with heap := h1, toks := tk } := by
  have KX : K.In s.heap := e0.mod.kin.keeps fun b o e => (e0.bs b o e).1
  have hcb : base.get? cc = some ⟨cl, cld, .cell (some (.ref D)), csl⟩ := e0.mod.kin _ _ hcell
  have hcs := e0.bs cc _ hcb
  have cellE : ∀ x c, ([(("__class__" : Str), cc)] : List (Str × Addr)).lookup x = some c → x = "__class__" ∧ c = cc := fun x c e => by
    by_cases hx : x = "__class__"
    · subst hx
      simp [List.lookup] at e
      exact ⟨rfl, e.symm⟩
    · have hb : (x == ("__class__" : Str)) = false := by simpa using hx
      simp [List.lookup, hb] at e
  have noA : ∀ b : Addr, b ∉ (cxK CX P w K mg base N qual scope f cd cc A outer s H E).ex := fun b z => absurd (show b ∈ ([] : List Addr) from z) (by simp)
  refine ⟨⟨e0.mod, S.kind, rfl, rfl, Nat.le_refl _, fun y z c h1 h2 => ?_, fun y hy => ?_, fun y c hf h => ?_, fun _ => hd, Around.frames_deeper e0.frames, .inr ⟨rfl, rfl⟩, fun b z => absurd z (noA b), e0.bs, e0.bsz, fun b _ _ => noA b, fun b z => absurd z (noA b), e0.funs, e0.frf⟩,
    rfl, e0.bare, Un.kept hk, ⟨_, hns, fun i y v h1 h2 h3 => ?_⟩, fun y c h => ?_, e0.hok.fresh (Nat.le_refl _), fun y c h => ?_, fun p hp => absurd (show p ∈ ([] : List (Addr × Obj)) from hp) (by simp), e0.hok.kept hk, ?_⟩
  · exact (cellE y c h1).1.trans (cellE z c h2).1.symm
  · have hy : scope.names.lookup y = some .cell ∨ scope.names.lookup y = some .free := hy
    rcases hy with hy | hy
    · exact absurd rfl (S.nocell _ (PySem.mem_of_lookup hy))
    · have e := S.free _ (PySem.mem_of_lookup hy) rfl
      have e : y = "__class__" := e
      subst e
      exact ⟨cc, by show List.lookup _ [_] = _; simp [List.lookup]⟩
  · have e := (cellE y c h).1
    subst e
    exact absurd (show (!decide (("__class__" : Str) = "__class__")) = true from hf) (by simp)
  · have hi : i < vs.length := by
      unfold L2.start at h2
      by_cases hi : i < vs.length
      · exact hi
      · rw [List.getElem?_append_right (by simpa using hi)] at h2
        rw [List.getElem?_replicate] at h2
        split at h2 <;> cases h2
    have ha : vs[i]? = some v := by
      unfold L2.start at h2
      rw [List.getElem?_append_left (by simpa using hi), List.getElem?_map] at h2
      cases e : vs[i]? with
      | none => rw [e] at h2; cases h2
      | some a => rw [e] at h2; cases h2; rfl
    obtain ⟨u, hu, rv⟩ := r.get ha
    have hp : ps[i]? = some y := by
      rw [← S.pre, List.getElem?_take_of_lt (by omega)]; exact h1
    have ndP : ps.Nodup := by rw [← S.pre]; exact S.nd.sublist (List.take_sublist _ _)
    exact ⟨u, rv, .inl ⟨S.par y (List.mem_of_getElem? hp), lookup_rev_zip ndP (by rw [← hl, r.length]) hp hu⟩⟩
  · obtain ⟨rfl, rfl⟩ := cellE y c h
    exact ⟨_, _, hk _ _ hcs.1, rfl⟩
  · obtain ⟨rfl, rfl⟩ := cellE y c h
    exact hcs.2
  · unfold L2.start
    have hpl : ps.length ≤ N.length := by have := congrArg List.length S.pre; rw [List.length_take] at this; omega
    show _ = N.length
    rw [List.length_append, List.length_map, List.length_replicate]
    omega
end

/-- what the written part says of super() in a method that closes over the class D, for an instance of C -/
structure SupOk (P : Program) (K : PySem.W.Frag) (mg : Str → Option Value) (C D cc cda : Addr) : Prop where
  code : ∃ ccl cdd vs ccs file tf, K.lookup cda = some ⟨ccl, cdd, .fields vs, ccs⟩ ∧ vs[2]? = some (.str file tf) ∧ ((P.main.file : Str) == file) = true
  cell : ∃ cl cld csl, K.lookup cc = some ⟨cl, cld, .cell (some (.ref D)), csl⟩
  clsD : ∃ cdD, clsIn K D = some cdD
  sub : mroIn K C (.ref D) = some true
  sup : mg "super" = none
  top : (P.main.scope.names.lookup ("super" : Str)).isSome = false
  opq : nsIn K cStatics "thirdparty.any" = some none

section
variable {P : Program} {w : World} {K : PySem.W.Frag} {mg : Str → Option Value} {base : Heap} {C D cc cda f : Addr}
variable {X : Cx} {pins : List (Addr × Obj)} {σ : L2.St} {H : Hp} {s : Shared}
theorem cls_at {h : Heap} (X0 : K.In h) {cdD : ClassData} (hD : clsIn K D = some cdD) : ∃ oD, h.get? D = some oD ∧ oD.data = .cls cdD := by
  unfold clsIn at hD
  split at hD
  · rename_i c d cd' sl ho
    cases hD
    exact ⟨_, X0 _ _ ho, rfl⟩
  · cases hD

/-- super() evaluated as the base of an attribute: a new object of type super stands -/
theorem super_base {name qual : Str} {params : Arguments} {body : List Stmt} {scope : Scope} {dV kV doc pm ct oc : Value} {an od : Option Addr} {osl : Array (Option Value)} {L : Addr} {p0 p1 : Pos} {attr : Str} {whole : Sem Value} {ar : Arg} {A : Around} {E : Value → Shared → Prop} {x : Addr} {ox : Obj} {m : Str → Option Value} {mb : Str → Option Value} {Q : Value → Shared → Prop}
    (T : SupOk P K mg C D cc cda) (X0 : K.In s.heap) (hg : s.heap.Ns mainGlobals mg) (hb : s.heap.Ns builtinsNs mb) (hbb : mb "super" = some (.type "super"))
    (lk : K.lookup f = some ⟨oc, od, .func (ksFn name qual params body scope dV kV doc pm an (.ref cda) ct cc), osl⟩) (hp : (params.posonlyargs ++ params.args).head? = some ar)
    (hks : scope.names.lookup ("super" : Str) = some .globalImplicit) (hkc : scope.names.lookup ("__class__" : Str) = some .free) (hka : scope.names.lookup ar.arg = some .local) (hk : scope.kind = .function)
    (hns : s.heap.Ns L m) (hv : m ar.arg = some (.ref x)) (hx : s.heap.get? x = some ox) (hxc : ox.cls = .ref C) (hnc : ∀ c, ox.data ≠ .cls c) (hat : (attr == ("__class__" : Str)) = false)
    (hq : ∀ h' so, h'.get? so = some (ks_superObj D x C) → (∀ y o, s.heap.get? y = some o → h'.get? y = some o) → s.heap.objs.size ≤ so → Q (.ref so) { s with heap := h' }) :
    _root_.PySem.wpAt (model P w) A (.func body (ksEnv qual scope L f (.ref cda) cc)) (attributeBase (.Call (.Name "super" p0) [] [] p1) attr (ksEnv qual scope L f (.ref cda) cc) whole) Q E s := by
  obtain ⟨ccl, cdd, vs, ccs, file, tf, hcode, hvs, hfile⟩ := T.code
  obtain ⟨cl, cld, csl, hcell⟩ := T.cell
  obtain ⟨cdD, hD⟩ := T.clsD
  obtain ⟨oD, hD1, hD2⟩ := cls_at X0 hD
  obtain ⟨hh, g, d, t, os⟩ := s
  refine ks_wpAt_super_base (env := ksEnv qual scope L f (.ref cda) cc) hks hkc hat rfl (X0 _ _ lk) rfl hp rfl (X0 _ _ hcode) rfl hvs hfile T.top ?_
  refine ks_loadName_global hk hks (loadGlobal_builtin (env := ksEnv qual scope L f (.ref cda) cc) hg T.sup hb hbb ⟨rfl, ?_⟩)
  refine wpAny_loadName_free hk hkc rfl ⟨_, X0 _ _ hcell, rfl⟩ ?_
  refine wpAny_loadName_local hk hka hns hv ?_
  refine ks_wpAny_isType_cls hD1 hD2 ⟨rfl, ?_⟩
  exact ks_wpAny_call_super hD1 hD2 hx hxc hnc (looks_mroIn X0 T.sub) (fun h' e k => hq h' _ e k (Nat.le_refl _))

/-- super().__init__ where the next class of the order that has one is ValueError: called with us -/
theorem mw_call {A : Around} {E : Value → Shared → Prop} {u a : Addr} {us : List Value} {Q : Value → Shared → Prop} (T : OexC X.K C) (I : Inv X pins σ H s) (hu : s.heap.get? u = some (kxs_mw "ValueError.__init__" a)) (e : H a = some (exo a C none)) (hl : us.length ≤ sizeLine)
    (h : ∀ s', Inv X pins σ H s' → Q .none s') : wpAny (model X.prog X.w) A (call (.ref u) us) Q E s := by
  obtain ⟨nm, q, N, bs, bm, sn, sub, ab, col, dd, k0, k1, k2, k3, k5, hC, hbm⟩ := T.cls
  obtain ⟨t1, ho⟩ := exo_at I.hok e
  obtain ⟨hp, g, d, t, os⟩ := s
  refine wpAny_call (codeAny_of_tree ?_)
  show wpAny _ A.in1 (callAny (.ref u) ⟨us, []⟩) _ _ _
  simp only [callAny]
  refine wpAny_bind (wpAny_load hu ?_)
  simp only [kxs_mw, show (Value.type "method-wrapper" == Value.type "method" || Value.type "method-wrapper" == Value.type "builtin_function_or_method" || Value.type "method-wrapper" == Value.type "method-wrapper") = true by decide, if_true]
  refine KFB.if_so (by decide) ?_
  refine wpAny_bind (check_bound_init F.excBase_ValueError.toExcCallFacts (I.kIn _ _ hC) ho rfl ?_)
  refine wpAny_bind (wpAny_pure (wpAny_pure ?_))
  refine ⟨plainId_quiet F.excBase_ValueError.init.plain _, codeAny_builtin F.excBase_ValueError.initEntry ?_⟩
  refine exc_init_tree (cls := .ref C) (t0 := t1) (dv := none) (c2 := .none) (c3 := .none) (b4 := .bool false) ho hl fun h' k hx _ => ?_
  have J := I.write (t' := t) (x := a) (e := a) (o := exo a C none) (by rw [e]; exact True.intro) (.inl rfl) k ⟨_, hx⟩ (exo_ok hx)
  have eu : upd H a (exo a C none) = H := by
    funext b
    by_cases hb : b = a
    · rw [hb, upd_same, e]
    · rw [upd_ne hb]
  rw [eu] at J
  exact h _ J
end

section
variable {CX : CXT} {P : Program} {w : World} {K : PySem.W.Frag} {mg : Str → Option Value} {base : Heap} {k : Nat} {f C D cc cda : Addr} {name qual : Str} {params : Arguments} {rest : List Stmt} {scope : Scope} {dV kV doc pm ct oc : Value} {an od : Option Addr}
    {osl : Array (Option Value)} {N ps : List Str} {sp : Sp} {p0 p1 p2 p3 p4 : Pos} {e : Expr} {es : List Expr} {ar : Arg}
/-- THE RULE: the initialiser of an own exception class that begins with super().__init__(..), ValueError's -/
theorem fn_supV (lk : K.lookup f = some ⟨oc, od, .func (ksFn name qual params (.Expr (.Call (.Attribute (.Call (.Name "super" p0) [] [] p1) "__init__" p2) (e :: es) [] p3) p4 :: rest) scope dV kV doc pm an (.ref cda) ct cc), osl⟩)
    (hcd : codeIn K (.ref cda) qual = true) (S : SupScope N ps scope) (T : SupOk P K mg C D cc cda) (hp : (params.posonlyargs ++ params.args).head? = some ar) (h0 : ps.head? = some ar.arg) (tx : OexC K C)
    (tgt : ks_superIn K C D "__init__" = some (some (.builtin "ValueError.__init__"))) (subV : subIn K (.ref C) (.type "ValueError") = some true)
    (len : ∀ vs H Q E, sp vs H Q E → vs.length = ps.length)
    (hbody : ∀ (A : Around) (outer : List Env) (s : Shared) (H : Hp) (vs : List V) (Q : VK) (E : XK), Room k (A.deeper (ksEnv qual scope s.heap.objs.size f (.ref cda) cc)) → sp vs H Q E →
      ∃ (a : Addr) (ta : TA) (t : TS), vs.head? = some (.ref a) ∧ H a = some (exo a C none) ∧ PA (cxK CX P w K mg base N qual scope f (.ref cda) cc A outer s H E) (e :: es) ta ∧ PSs (cxK CX P w K mg base N qual scope f (.ref cda) cc A outer s H E) rest t ∧
        ta (L2.start N vs) H fun ws H1 => ws.length ≤ 1000 ∧ H1 a = some (exo a C none) ∧ t { nx := fun _ H' => Q .non H', rt := Q } (L2.start N vs) H1)
    (hst : ∀ env : Env, starEach (e :: es) env = (false, eval e env) :: starEach es env := by intro _; rfl) (hpl : ∀ env : Env, (backTo p3 (starEach es env)).any (·.1) = false := by intro _; rfl)
    (hia : ∀ L : Addr, interactive (ksEnv qual scope L f (.ref cda) cc) = false := by intro _; rfl)
    (hsw : ∀ L : Addr, swapsWith (.Call (.Attribute (.Call (.Name "super" p0) [] [] p1) "__init__" p2) (e :: es) [] p3) none p4.line (ksEnv qual scope L f (.ref cda) cc) = pure false := by intro _; rfl)
    (hev : ∀ L : Addr, ∃ pl : Sem Bool, eval (.Call (.Attribute (.Call (.Name "super" p0) [] [] p1) "__init__" p2) (e :: es) [] p3) (ksEnv qual scope L f (.ref cda) cc) = (do
      let ov ← attributeBase (.Call (.Name "super" p0) [] [] p1) "__init__" (ksEnv qual scope L f (.ref cda) cc) (eval (.Call (.Name "super" p0) [] [] p1) (ksEnv qual scope L f (.ref cda) cc))
      standAt p2.atName
      let (g, first) ← holding [ov] (getMethod ov "__init__" pl)
      callWith p3 g first (backTo p3 (starEach (e :: es) (ksEnv qual scope L f (.ref cda) cc))) []) := by intro _; exact ⟨_, rfl⟩) :
    FnOk P w K mg base CX (k + 1) f (ksFn name qual params (.Expr (.Call (.Attribute (.Call (.Name "super" p0) [] [] p1) "__init__" p2) (e :: es) [] p3) p4 :: rest) scope dV kV doc pm an (.ref cda) ct cc) ps sp := by
  refine ⟨len, fun A outer s H args us vs Q E hr e0 hb r hsp => ?_⟩
  have hl := len _ _ _ _ hsp
  have KX : K.In s.heap := e0.mod.kin.keeps fun b o e => (e0.bs b o e).1
  have lim : s.heap.NoLimit := e0.mod.nolimit.keeps fun b o e => (e0.bs b o e).1
  obtain ⟨cl, cld, csl, hcell⟩ := T.cell
  refine ks_codeAny_call_defAt (fd := ksFn name qual params _ scope dV kV doc pm an (.ref cda) ct cc) (binds := ps.zip us) hr.depth (KX _ _ lk) rfl lim (codeRec_of KX hcd) rfl hb S.nocell (fun x hx => S.par _ (List.of_mem_zip hx).1) (fun h₁ hns hk => ?_) S.co S.gen S.kind
  obtain ⟨a, ta, t, ha0, hae, hpa, hpss, hq⟩ := hbody A outer s H vs Q E (hr.deeper _) hsp
  have I : Inv (cxK CX P w K mg base N qual scope f (.ref cda) cc A outer s H E) [] (L2.start N vs) H { s with heap := h₁, toks := s.toks + (ps.zip us).length } := inv_startK S hr.hd e0 hl r hcell hns hk
  obtain ⟨t1, hao⟩ := exo_at I.hok hae
  obtain ⟨mb, hmb, hbb⟩ := e0.mod.blt
  have kb : ∀ b o, base.get? b = some o → h₁.get? b = some o := fun b o z => hk b o (e0.bs b o z).1
  have ps0 : ps[0]? = some ar.arg := by rw [← List.head?_eq_getElem?]; exact h0
  have hself : (ps.zip us).reverse.lookup ar.arg = some (.ref a) := by
    have hv0 : vs[0]? = some (.ref a) := by rw [← List.head?_eq_getElem?]; exact ha0
    obtain ⟨u, hu, ru⟩ := r.get hv0
    cases ru
    refine lookup_rev_zip (by rw [← S.pre]; exact S.nd.sublist (List.take_sublist _ _)) (by rw [← hl, r.length]) ps0 hu
  show _root_.PySem.wpAt _ _ _ _ _ _ _
  refine ks_wpAt_execs_cons (ks_wpAt_Expr_any ?_ (hia _) (hsw _))
  obtain ⟨pl, hev1⟩ := hev s.heap.objs.size
  refine ks_wpAt_MethodCall (pl := pl) ?_ hev1
  refine super_base (x := a) (C := C) T (KX.keeps hk) (e0.mod.glob.at fun o z => kb _ _ z) (hmb.at fun o z => kb _ _ z) (by rw [hbb _ (by decide +kernel)]; first | rfl | boot_by_name | kernel_rfl) lk hp S.sup S.cls (S.par _ (List.mem_of_getElem? ps0)) S.kind hns hself hao rfl (fun c z => by cases z) (by decide +kernel) fun h2 so hso k2 hsz => ?_
  obtain ⟨nm, qq, NN, bs, bm, sn, sub, ab, col, dd, k0, k1, k2', k3, k5, hC, hbm⟩ := tx.cls
  have X2 : K.In h2 := (KX.keeps hk).keeps k2
  have hcl : ∃ cd, clsIn K C = some cd := by unfold clsIn; rw [hC]; exact ⟨_, rfl⟩
  obtain ⟨cd, hcl⟩ := hcl
  have J2 : InstAt h2 a { cls := .ref C, data := .fields #[.ref t1, .none, .none, .none, .bool false, .none] } C none := ⟨k2 _ _ hao, rfl, rfl, trivial⟩
  have tg2 := tgt
  unfold ks_superIn at tg2
  rw [hcl, Option.bind_some] at tg2
  have I2 := I.kept (h' := h2) (t' := s.toks + (ps.zip us).length) k2
  refine kxs_getMethod kxs_ValueError hso (looks_opaque X2 T.opq) (l₀ := cd.mro) (fun A Q E s k q => wpAny_bind ((looks_clsIn X2 hcl) A _ E s k (wpAny_pure q))) rfl X2 tg2 (J2.type.andThen (looks_subIn X2 subV)) (ks_ne X2 J2 hcl) (by decide +kernel) ?_
  have kp : ∀ b o, h2.get? b = some o → (h2.push (kxs_mw "ValueError.__init__" a)).get? b = some o := fun b o z => Heap.get?_push_of_some _ z
  have I3 := I2.kept (h' := h2.push (kxs_mw "ValueError.__init__" a)) (t' := s.toks + (ps.zip us).length + 1) kp
  have hu : (h2.push (kxs_mw "ValueError.__init__" a)).get? h2.objs.size = some (kxs_mw "ValueError.__init__" a) := Heap.get?_push_size _ rfl
  have I4 : Inv (cxK CX P w K mg base N qual scope f (.ref cda) cc A outer s H E) [(h2.objs.size, kxs_mw "ValueError.__init__" a)] (L2.start N vs) H _ := I3.pins_of fun p hp => by
    have e : p = (h2.objs.size, kxs_mw "ValueError.__init__" a) := by simpa using hp
    subst e
    refine ⟨hu, I2.hok.fresh (Nat.le_refl _), Nat.ne_of_gt I2.lt, I2.nofs (Nat.le_refl _), fun v z => by cases z⟩
  show wpAny _ _ (callWith p3 (.ref h2.objs.size) [] (backTo p3 (starEach (e :: es) (ksEnv qual scope s.heap.objs.size f (.ref cda) cc))) []) _ _ _
  rw [hst]
  refine kxs_callWith (i := "ValueError.__init__") (x := a) (by show (false || (backTo p3 (starEach es _)).any (·.1)) = false; rw [hpl]; rfl) ?_
  refine evalArgs_plain ?_
  have run1 := hpa.run p3 _ _ _ _ _ I4 hq
  have hst1 : starEach (e :: es) (cxK CX P w K mg base N qual scope f (.ref cda) cc A outer s H E).env = (false, eval e (cxK CX P w K mg base N qual scope f (.ref cda) cc A outer s H E).env) :: starEach es (cxK CX P w K mg base N qual scope f (.ref cda) cc A outer s H E).env := hst _
  rw [hst1] at run1
  refine thn run1 fun us1 s5 ⟨ws, H1, I5, rv, hz, hx1, q1⟩ => ⟨(I5.pin _ (List.mem_append_right _ List.mem_cons_self)).1, ?_⟩
  have hlen : us1.length ≤ sizeLine := by
    rw [← Paired.length rv, sizeLine_eq]
    omega
  refine mw_call tx I5 (I5.pin _ (List.mem_append_right _ List.mem_cons_self)).1 hx1 hlen fun s6 I6 => ?_
  refine wpAt_of_wpAny ?_
  refine wpAny_mono (hpss.run _ s6 _ H1 _ I6 q1) (fun fl s' hs => ?_) fun e s' hs => hs
  have fin : ∀ {σ' : L2.St} {H' : Hp} {v : V} {u : Value}, Inv (cxK CX P w K mg base N qual scope f (.ref cda) cc A outer s H E) [(h2.objs.size, kxs_mw "ValueError.__init__" a)] σ' H' s' → RelV v u → Q v H' → CE outer P w H s Q u s' :=
    fun {σ' H' v u} J rv q => ⟨v, H', J.os, J.bare, J.base, J.hok, rv, q⟩
  cases fl with
  | ret u =>
    obtain ⟨v, σ', H', J, rv, q⟩ := hs
    exact fin J rv q
  | next =>
    obtain ⟨σ', H', J, q⟩ := hs
    exact fin (v := V.non) (u := Value.none) J rfl q
  | brk =>
    obtain ⟨_, _, _, q⟩ := hs
    exact False.elim q
  | cont =>
    obtain ⟨_, _, _, q⟩ := hs
    exact False.elim q
end
end OC

set_option maxHeartbeats 4000000
/-! Calls whose errors are wished for at the caller's slots; own errors made, asked and read; calls where an error is handled. -/
namespace OC
open PySem PySem.Spec PySem.Calls PyProof.Rows PySem.W L2 L2H

/-- a def (or method) of the text as it stands behind the top, whatever its defaults -/
structure FunG (K : PySem.W.Frag) (x qual : Str) (st : Stmt) (f : Addr) (fd : FuncData) : Prop where
  ex : ∃ (oc : Value) (od : Option Addr) (dV kV doc pm : Value) (an : Option Addr) (cdv ct : Value) (osl : Array (Option Value)),
    fd = PySem.W.fnOf x qual (defArgs st) (defBody st) (defScope st) dV kV doc pm an cdv ct ∧ K.lookup f = some ⟨oc, od, .func fd, osl⟩ ∧ PySem.W.codeIn K cdv qual = true
  kp : PySem.W.keepIn K (.ref f) = true
theorem FunG.of {K : PySem.W.Frag} {x qual : Str} {st : Stmt} {f : Addr} {fd : FuncData} (F : Fun K x qual st f fd) : FunG K x qual st f fd := by
  obtain ⟨oc, od, kV, doc, pm, an, cdv, ct, osl, e, l, c⟩ := F.ex
  exact ⟨⟨oc, od, .none, kV, doc, pm, an, cdv, ct, osl, e, l, c⟩, F.kp⟩
/-! ### a def that may raise -/
abbrev WOf (E : XK) : WX := fun cls d _ H => E cls d H
section
variable {P : Program} {w : World} {K : PySem.W.Frag} {mg : Str → Option Value} {base : Heap}
theorem okN {x qual : Str} {st : Stmt} {f : Addr} {fd : FuncData} {N ps : List Str} {k : Nat} {sp : Sp} (F : FunG K x qual st f fd) (S : FnScope N ps (defScope st)) (len : ∀ vs H Q E, sp vs H Q E → vs.length = ps.length)
    (hbody : ∀ (cdv : Value) (A : Around) (outer : List Env) (s : Shared) (H : Hp) (vs : List V) (Q : VK) (E : XK), Room k (A.deeper (envOfC qual (defScope st) s.heap.objs.size f cdv)) →
      L2N.Takes (cxOf (L2N.CX P w) P w K mg base N qual (defScope st) f cdv A outer s H E) (WOf E) → PassesOwn (model P w) (A.deeper (envOfC qual (defScope st) s.heap.objs.size f cdv)) (envOfC qual (defScope st) s.heap.objs.size f cdv) (cxOf (L2N.CX P w) P w K mg base N qual (defScope st) f cdv A outer s H E).xe →
      sp vs H Q E →
      ∃ t, PSs (cxOf (L2N.CX P w) P w K mg base N qual (defScope st) f cdv A outer s H E) (defBody st) t ∧ t { nx := fun _ H' => Q .non H', rt := Q } (L2.start N vs) H) :
    FnOk P w K mg base (L2N.CX P w) (k + 1) f fd ps sp := by
  obtain ⟨oc, od, dV, kV, doc, pm, an, cdv, ct, osl, rfl, lk, hcd⟩ := F.ex
  refine fn_of lk hcd S len fun A outer s H vs Q E hr hsp => hbody cdv A outer s H vs Q E hr ?_ ?_ hsp
  · exact L2N.takes_of rfl rfl rfl rfl
  · exact passes_of rfl
end

/-! ### calls -/
section
variable {X : Cx} {CX : CXT} {k : Nat} {f C : Addr} {fd : FuncData} {ps : List Str} {sp : Sp} {dvs : List V} {ds : List Value} {E : L2.St → XK} {x m : Str} {p pos apos : Pos} {e o : Expr} {es : List Expr} {ta : TE} {t : TA}
theorem pe_cl0 (Fk : FnOk X.prog X.w X.K X.mg X.base CX k f fd ps sp) (hr : Room k X.A) (hg : Gl X x) (hm : X.mg x = some (.ref f)) (hk : PySem.W.keepIn X.K (.ref f) = true) (hb : Binds X.K fd ps ds) (hd : Vals dvs ds) (hx : ∀ σ, PassesAt CX X σ (E σ))
    (hdb : (x == ("__debug__" : Str)) = false := by decide) : PE X (.Call (.Name x p) [] [] pos) (tCallSD sp dvs E tNil) := by
  refine ⟨fun pins s σ H Q I h => ?_⟩
  refine wpAny_Call_Name_kw (ld_glob I hg hm ?_ hdb)
  exact PySem.W.callWith_K0 I.kIn hk (run_fnSD (us := []) Fk hr hb hd (hx σ) I .nil h)
def tMe (C : Addr) (m : Str) (sp : Sp) (dvs : List V) (E : L2.St → XK) (ta : TE) (t : TA) : TE := fun σ H Q => ta σ H fun x H1 => ∃ a dx fs, x = .ref a ∧ H1 a = some (.ins C dx fs) ∧ fs.lookup m = none ∧ t σ H1 fun vs H2 => sp (x :: (vs ++ dvs)) H2 Q (E σ)
theorem pe_me {pl : Sem Bool} (he : PE X o ta) (c : Cls X.K C) (hm : Meth X.K C m f) (Fk : FnOk X.prog X.w X.K X.mg X.base CX k f fd ps sp) (hr : Room k X.A) (hb : Binds X.K fd ps ds) (hd : Vals dvs ds) (hx : ∀ σ, PassesAt CX X σ (E σ)) (ha : PA X (e :: es) t)
    (hst : starEach (e :: es) X.env = (false, eval e X.env) :: starEach es X.env := by rfl) (hpl : (backTo pos (starEach es X.env)).any (·.1) = false := by rfl)
    (ht : eval (.Call (.Attribute o m apos) (e :: es) [] pos) X.env = (do
      let ov ← eval o X.env
      standAt apos.atName
      let (f, first) ← holding [ov] (getMethod ov m pl)
      callWith pos f first (backTo pos (starEach (e :: es) X.env)) (backToKw pos (keywordEach [] X.env))) := by rfl) :
    PE X (.Call (.Attribute o m apos) (e :: es) [] pos) (tMe C m sp dvs E ta t) := by
  refine ⟨fun pins s σ H Q I h => ?_⟩
  refine PySem.W.methodCall_KW (pl := pl) (thn (he.run pins s σ H _ I h) fun u s1 ⟨x, H1, I1, rx, a, dx, fs, ex, ea, l, q⟩ => ?_) ht
  subst ex
  obtain rfl : u = Value.ref a := rx
  refine getmeth_ok I1 ea c hm l ?_
  refine PySem.W.callWith_K (first := [.ref a]) (h₀ := X.base) I.ok.mod.kin hm.kp (thn (ha.run pos pins s1 σ H1 _ I1 q) fun us s2 ⟨vs, H2, I2, r, q2⟩ => ⟨I2.kIn, ?_⟩) hst hpl
  exact run_fnSD (us := .ref a :: us) (vs := .ref a :: vs) Fk hr hb hd (hx σ) I2 (.cons rfl r) q2
theorem pe_me0 {pl : Sem Bool} (he : PE X o ta) (c : Cls X.K C) (hm : Meth X.K C m f) (Fk : FnOk X.prog X.w X.K X.mg X.base CX k f fd ps sp) (hr : Room k X.A) (hb : Binds X.K fd ps ds) (hd : Vals dvs ds) (hx : ∀ σ, PassesAt CX X σ (E σ))
    (ht : eval (.Call (.Attribute o m apos) [] [] pos) X.env = (do
      let ov ← eval o X.env
      standAt apos.atName
      let (f, first) ← holding [ov] (getMethod ov m pl)
      callWith pos f first (backTo pos (starEach [] X.env)) (backToKw pos (keywordEach [] X.env))) := by rfl) :
    PE X (.Call (.Attribute o m apos) [] [] pos) (tMe C m sp dvs E ta tNil) := by
  refine ⟨fun pins s σ H Q I h => ?_⟩
  refine PySem.W.methodCall_KW (pl := pl) (thn (he.run pins s σ H _ I h) fun u s1 ⟨x, H1, I1, rx, a, dx, fs, ex, ea, l, q⟩ => ?_) ht
  subst ex
  obtain rfl : u = Value.ref a := rx
  refine getmeth_ok I1 ea c hm l ?_
  exact PySem.W.callWith_K0 (first := [.ref a]) I1.kIn hm.kp (run_fnSD (us := [.ref a]) (vs := [.ref a]) Fk hr hb hd (hx σ) I1 (.cons rfl .nil) q)
def tMk (C : Addr) (sp : Sp) (dvs : List V) (E : L2.St → XK) (t : TA) : TE := fun σ H Q => t σ H fun vs H1 => ∀ x dx, H1 x = none → H1 dx = none → dx ≠ x →
  sp (.ref x :: (vs ++ dvs)) (upd (upd H1 dx (.own x)) x (.ins C dx [])) (fun v H2 => v = .non ∧ Q (.ref x) H2) (E σ)
theorem run_mk {pins : List (Addr × Obj)} {σ : L2.St} {H : Hp} {s : Shared} {Q : VK} {us : List Value} {vs : List V} (M : Mk X.K C f) (Fk : FnOk X.prog X.w X.K X.mg X.base CX k f fd ps sp) (hr : Room (k + 1) X.A) (hb : Binds X.K fd ps ds) (hd : Vals dvs ds)
    (hx : ∀ σ, PassesAt CX X σ (E σ)) (I : Inv X pins σ H s) (r : Vals vs us)
    (h : ∀ x dx, H x = none → H dx = none → dx ≠ x → sp (.ref x :: (vs ++ dvs)) (upd (upd H dx (.own x)) x (.ins C dx [])) (fun v H2 => v = .non ∧ Q (.ref x) H2) (E σ)) :
    wpAny (model X.prog X.w) X.A (call (.ref C) us) (EP X pins σ Q) X.xe s := by
  have hq := h (s.heap.objs.size + 1) s.heap.objs.size (I.hok.fresh (Nat.le_succ _)) (I.hok.fresh (Nat.le_refl _)) (Nat.ne_of_lt (Nat.lt_succ_self _))
  have I2 := Inv.made (C := C) I
  have r2 : Vals (V.ref (s.heap.objs.size + 1) :: (vs ++ dvs)) (Value.ref (s.heap.objs.size + 1) :: (us ++ ds)) := .cons rfl (r.append hd)
  have hl : (Value.ref (s.heap.objs.size + 1) :: us ++ ds).length = ps.length := by
    have e := r2.length
    rw [Fk.len _ _ _ _ hq] at e
    exact e.symm
  refine wpAny_call (make_map (f := f) I.kIn M.makes M.init (beq_iff_eq.mp M.fn) (codeAny_mono (Fk.run _ X.stack _ _ ⟨Value.ref (s.heap.objs.size + 1) :: us, []⟩ (Value.ref (s.heap.objs.size + 1) :: (us ++ ds)) _ _ (E σ) (hr.make C us [])
    (I2.env0.make C us []) (hb _ (Value.ref (s.heap.objs.size + 1) :: us) I2.kIn hl) r2 hq) fun r s' hq' => ?_))
  cases r with
  | error e => exact hx σ pins _ _ e s' I2 hq'
  | ok fl =>
    cases fl with
    | ret u =>
      obtain ⟨v, H', I3, rv, ev, q3⟩ := I2.after hq'
      subst ev
      exact ⟨rv, ⟨V.ref (s.heap.objs.size + 1), H', I3, rfl, q3⟩⟩
    | next => exact False.elim hq'
    | brk => exact False.elim hq'
    | cont => exact False.elim hq'
theorem pe_mk (M : Mk X.K C f) (Fk : FnOk X.prog X.w X.K X.mg X.base CX k f fd ps sp) (hr : Room (k + 1) X.A) (hg : Gl X x) (hm : X.mg x = some (.ref C)) (hb : Binds X.K fd ps ds) (hd : Vals dvs ds) (hx : ∀ σ, PassesAt CX X σ (E σ))
    (ha : PA X (e :: es) t) (hdb : (x == ("__debug__" : Str)) = false := by decide) (he : starEach (e :: es) X.env = (false, eval e X.env) :: starEach es X.env := by rfl) (hpl : (backTo pos (starEach es X.env)).any (·.1) = false := by rfl) :
    PE X (.Call (.Name x p) (e :: es) [] pos) (tMk C sp dvs E t) := by
  refine ⟨fun pins s σ H Q I h => ?_⟩
  refine wpAny_Call_Name_kw (ld_glob I hg hm ?_ hdb)
  refine PySem.W.callWith_K (h₀ := X.base) I.ok.mod.kin M.kp (thn (ha.run pos pins s σ H _ I h) fun us s1 ⟨vs, H1, I1, r, q⟩ => ⟨I1.kIn, ?_⟩) he hpl
  exact run_mk M Fk hr hb hd hx I1 r q
theorem pe_mk0 (M : Mk X.K C f) (Fk : FnOk X.prog X.w X.K X.mg X.base CX k f fd ps sp) (hr : Room (k + 1) X.A) (hg : Gl X x) (hm : X.mg x = some (.ref C)) (hb : Binds X.K fd ps ds) (hd : Vals dvs ds) (hx : ∀ σ, PassesAt CX X σ (E σ))
    (hdb : (x == ("__debug__" : Str)) = false := by decide) : PE X (.Call (.Name x p) [] [] pos) (tMk C sp dvs E tNil) := by
  refine ⟨fun pins s σ H Q I h => ?_⟩
  refine wpAny_Call_Name_kw (ld_glob I hg hm ?_ hdb)
  exact PySem.W.callWith_K0 I.kIn M.kp (run_mk (us := []) M Fk hr hb hd hx I .nil h)
end

/-! ### raise X(e, ..), X an own error over ValueError with an initialiser -/
section
variable {X : Cx} {e : Expr} {es : List Expr} {ta : TA} {p pos : Pos}
theorem pmk_oexN {CX : CXT} {x : Str} {C fI : Addr} {k : Nat} {fd : FuncData} {ps : List Str} {sp : Sp} {ds : List Value} {dvs : List V} (T : OexC X.K C) (iC : PySem.W.findIn X.K (.ref C) "__init__" = some (some (.ref fI))) (tI : PySem.W.typeIn X.K (.ref fI) = some (.type "function"))
    (F1 : FnOk X.prog X.w X.K X.mg X.base CX k fI fd ps sp) (hr : Room (k + 1) X.A) (hb : Binds X.K fd ps ds) (hd : Vals dvs ds) (hx : Passes CX X (fun _ _ _ => False)) (hg : Gl X x) (hm : X.mg x = some (.ref C)) (ha : PA X (e :: es) ta)
    (hdb : (x == ("__debug__" : Str)) = false := by decide) (he : starEach (e :: es) X.env = (false, eval e X.env) :: starEach es X.env := by rfl) (hpl : (backTo pos (starEach es X.env)).any (·.1) = false := by rfl) :
    L2N.PMk X (.Call (.Name x p) (e :: es) [] pos) (tMkO C sp dvs ta) := by
  intro pins s σ H Q I h
  obtain ⟨nm, q, N, bs, bm, sn, sub, ab, col, dd, k0, k1, k2, k3, k5, hC, hbm⟩ := T.cls
  refine wpAny_Call_Name_kw (ld_glob I hg hm ?_ hdb)
  refine PySem.W.callWith_K (h₀ := X.base) I.ok.mod.kin T.kC (thn (ha.run pos pins s σ H _ I h) fun us s1 ⟨vs, H1, I1, r1, hz, q1⟩ => ⟨I1.kIn, ?_⟩) he hpl
  show wpAny _ _ (call (.ref C) us) _ _ _
  obtain ⟨hp, g, dr, tk, os⟩ := s1
  have hsz : hp.objs.size ≤ hp.objs.size + 1 := Nat.le_succ _
  have hn : H1 (hp.objs.size + 1) = none := I1.hok.fresh hsz
  have hq := q1 (hp.objs.size + 1) hn
  have kk : ∀ b o, hp.get? b = some o → ((hp.push (PySem.W.kdv_tup us)).push (PySem.HandSPX.excO C hp.objs.size)).get? b = some o := fun b o e => Heap.get?_push_of_some _ (Heap.get?_push_of_some _ e)
  have hget : ((hp.push (PySem.W.kdv_tup us)).push (PySem.HandSPX.excO C hp.objs.size)).get? (hp.objs.size + 1) = some (PySem.HandSPX.excO C hp.objs.size) := by heap_get
  have I2 : Inv X pins σ (upd H1 (hp.objs.size + 1) (exo (hp.objs.size + 1) C none)) ⟨(hp.push (PySem.W.kdv_tup us)).push (PySem.HandSPX.excO C hp.objs.size), g, dr, tk, os⟩ :=
    I1.laid (t' := tk) (a := hp.objs.size + 1) (o := exo (hp.objs.size + 1) C none) (h' := (hp.push (PySem.W.kdv_tup us)).push (PySem.HandSPX.excO C hp.objs.size)) kk hsz (exo_ok hget)
  have r2 : Vals (V.ref (hp.objs.size + 1) :: (vs ++ dvs)) (Value.ref (hp.objs.size + 1) :: (us ++ ds)) := .cons rfl (r1.append hd)
  have hl : (Value.ref (hp.objs.size + 1) :: us ++ ds).length = ps.length := by
    have e := r2.length
    rw [F1.len _ _ _ _ hq] at e
    exact e.symm
  have hus : us.length ≤ sizeLine := by
    rw [← Paired.length r1, sizeLine_eq]
    omega
  refine wpAny_call (PySem.HandSPX.call_own F.excBase_ValueError (fun Y => PySem.HandSPX.refsVE_contains Y bm hbm) (I1.kIn _ _ hC) (PySem.W.looks_findIn I1.kIn iC) (fun self => PySem.W.bind_fn I1.kIn self tI) hus
    (codeAny_mono (F1.run _ X.stack _ _ ⟨Value.ref (hp.objs.size + 1) :: us, []⟩ (Value.ref (hp.objs.size + 1) :: (us ++ ds)) _ _ (fun _ _ _ => False) (hr.make C us []) (I2.env0.make C us []) (hb _ (Value.ref (hp.objs.size + 1) :: us) I2.kIn hl) r2 hq) fun r s' hq' => ?_))
  cases r with
  | error er => exact hx pins σ _ _ er s' I2 hq'
  | ok fl =>
    cases fl with
    | ret u =>
      obtain ⟨v, H2, os2, bare2, un2, hok2, rv, ev, d, fs, ea, ed, hd1, q2⟩ := hq'
      subst ev
      obtain ⟨h2, g2, d2, t2, os'⟩ := s'
      obtain ⟨t0, G, J, kG, ge, hoe, na⟩ := mk_end0 (d2 := d2) (t2 := t2) I1 hsz kk un2 hok2 os2 bare2 ea ed hd1
      exact ⟨rv, hp.objs.size + 1, _, _, ⟨G, g2, d2, t2, os'⟩, _, .ref C, some d, rfl, J, kG, ge, hoe, ⟨rfl, rfl, fun vs e => by cases e; rfl⟩, rfl, rfl, na, rfl, bare2, raises_own T.exC T.tyC, q2⟩
    | next => exact False.elim hq'
    | brk => exact False.elim hq'
    | cont => exact False.elim hq'
end

/-! ### the handled error: isinstance, its fields -/
def rIsX (K : PySem.W.Frag) (a : Addr) (cls : Value) (d : Option Addr) : List V → Hp → VK → Prop := fun xs H Q => ∃ (D : Addr) (dd : Addr) (fs : List (Str × V)) (c : V) (cv : Value) (b : Bool),
  cls = .ref D ∧ d = some dd ∧ H dd = some (.xd fs) ∧ ExcC K D ∧ xs = [.ref a, c] ∧ (∀ u, RelV c u → u = cv) ∧ PySem.W.kitOne K (.ref D) cv = some b ∧ Q (.bl b) H
theorem inst_of {X : Cx} {pins : List (Addr × Obj)} {σ : L2.St} {H : Hp} {s : Shared} {a D dd : Addr} {oe : Obj} {fs : List (Str × V)} (I : Inv X pins σ H s) (hin : (a, oe) ∈ X.pn) (hz : Zc (.ref D) (some dd) oe) (hf : ∃ vs, oe.data = .fields vs) (ea : H dd = some (.xd fs)) :
    ∃ od, PySem.W.InstAt s.heap a oe D (some od) ∧ ∀ n v, fs.lookup n = some v → ∃ u, PySem.W.lookIn n od = some (some u) ∧ RelV v u := by
  obtain ⟨ha, _⟩ := I.pin (a, oe) (List.mem_append_left _ hin)
  obtain ⟨vs, hd⟩ := hf
  have hx : ObjOk X.prog X.w H s.heap dd (.xd fs) := I.hok dd _ ea
  obtain ⟨mA, hns, hr⟩ := hx
  obtain ⟨od, ho, hl⟩ := lookIn_ns hns
  refine ⟨od, ⟨ha, hz.1, by unfold PySem.W.notCls; rw [hd] <;> rfl, by rw [hz.2]; exact ho⟩, fun n v l => ?_⟩
  obtain ⟨u, hu, ru⟩ := RelO.some_of (v := v) (o := mA n) (by rw [← l]; exact hr n)
  exact ⟨u, by rw [hl, hu], ru⟩
theorem call_isX {X : Cx} {a : Addr} {oe : Obj} {cls : Value} {d : Option Addr} (hin : (a, oe) ∈ X.pn) (hz : Zc cls d oe) (hf : ∃ vs, oe.data = .fields vs) : CallR X (.builtin "isinstance") (rIsX X.K a cls d) := by
  intro pins s σ H xs us Q I r h
  obtain ⟨D, dd, fs, c, cv, b, rfl, rfl, ea, C, rfl, hcv, e, q⟩ := h
  cases r with
  | cons rx rr =>
    cases rr with
    | cons rt rr =>
      cases rr
      cases rx
      have ec := hcv _ rt
      subst ec
      obtain ⟨od, J, _⟩ := inst_of I hin hz hf ea
      have hcl : (clsIn X.K D).isSome = true := by
        obtain ⟨cd, hc, _⟩ := any_some C.hd
        rw [hc]; rfl
      exact PySem.W.kia_one (PySem.W.kitx_exc (od := some od) hcl C.hg C.hk C.hs C.ha C.hn C.ht C.hm) I.kIn J e (fun z => nomatch z) fun tk => ⟨.bl b, H, I.kept (t' := tk) fun _ _ z => z, rfl, q⟩
def tXF (K : PySem.W.Frag) (a : Addr) (cls : Value) (d : Option Addr) (f : Str) (te : TE) : TE := fun σ H Q => te σ H fun x H1 => ∃ (D dd : Addr) (fs : List (Str × V)) (v : V), x = .ref a ∧ cls = .ref D ∧ d = some dd ∧ H1 dd = some (.xd fs) ∧ XfC K D ∧ PySem.W.findIn K (.ref D) f = some none ∧ fs.lookup f = some v ∧ Q v H1
theorem pe_xF {X : Cx} {a : Addr} {oe : Obj} {cls : Value} {d : Option Addr} {e : Expr} {te : TE} {pos : Pos} {n : Str} (hin : (a, oe) ∈ X.pn) (hz : Zc cls d oe) (hf : ∃ vs, oe.data = .fields vs) (he : PE X e te)
    (hb : attributeBase e n X.env (eval e X.env) = eval e X.env := by rfl) : PE X (.Attribute e n pos) (tXF X.K a cls d n te) := by
  refine ⟨fun pins s σ H Q I h => ?_⟩
  refine attr_of hb (thn (he.run pins s σ H _ I h) fun u s1 hh => ?_)
  obtain ⟨x, H1, I1, rx, D, dd, fs, v, ex, ec, ed, ea, T, hno, l, q⟩ := hh
  subst ex
  obtain rfl : u = Value.ref a := rx
  subst ec
  subst ed
  obtain ⟨od, J, hl⟩ := inst_of I1 hin hz hf ea
  obtain ⟨u, hu, ru⟩ := hl n v l
  exact HandSPX.exc_get I1.kIn J T.ga T.gg T.exC (PySem.W.findObj_own T.hdC hno rfl hu) (handed_of ru) ⟨v, H1, I1.tok _, ru, q⟩

/-! ### a def called where an error is handled; it may be handed the error -/
structure FnX (P : Program) (w : World) (K : PySem.W.Frag) (mg : Str → Option Value) (base : Heap) (CX : CXT) (k : Nat) (f : Addr) (fd : FuncData) (ps : List Str) (sp : Addr → Value → Option Addr → Sp) : Prop where
  len : ∀ a c d vs H Q E, sp a c d vs H Q E → vs.length = ps.length
  run : ∀ (A : Around) (outer : List Env) (s : Shared) (H : Hp) (args : Args) (us : List Value) (vs : List V) (Q : VK) (E : XK) (p : Addr × Obj) (cls : Value) (d : Option Addr), RoomH k A → Hot1 A p → PinOk outer H s p → L2N.Zn cls d p.2 → Env0 P w K mg base A outer s H →
    BindsTo s fd args (ps.zip us) → Vals vs us → sp p.1 cls d vs H Q E → codeAny (model P w) A (.call (.ref f) args) (CR CX outer P w H s Q E) s
section
variable {P : Program} {w : World} {K : PySem.W.Frag} {mg : Str → Option Value} {base : Heap}
theorem fn_ofX {CX : CXT} {k : Nat} {f : Addr} {name qual : Str} {params : Arguments} {body : List Stmt} {scope : Scope} {dV kV doc pm cdv ct oc : Value} {an od : Option Addr}
    {osl : Array (Option Value)} {N ps : List Str} {sp : Addr → Value → Option Addr → Sp} (lk : K.lookup f = some ⟨oc, od, .func (PySem.W.fnOf name qual params body scope dV kV doc pm an cdv ct), osl⟩) (hcd : PySem.W.codeIn K cdv qual = true) (S : FnScope N ps scope)
    (len : ∀ a c d vs H Q E, sp a c d vs H Q E → vs.length = ps.length)
    (hbody : ∀ (A : Around) (outer : List Env) (s : Shared) (H : Hp) (vs : List V) (Q : VK) (E : XK) (p : Addr × Obj) (cls : Value) (d : Option Addr), Hot1 A p → L2N.Zn cls d p.2 → RoomH k (A.deeper (envOfC qual scope s.heap.objs.size f cdv)) → sp p.1 cls d vs H Q E →
      ∃ t, PSs (cxH CX P w K mg base N qual scope f cdv A outer s H E p) body t ∧ t { nx := fun _ H' => Q .non H', rt := Q } (L2.start N vs) H) :
    FnX P w K mg base CX (k + 1) f (PySem.W.fnOf name qual params body scope dV kV doc pm an cdv ct) ps sp := by
  refine ⟨len, fun A outer s H args us vs Q E p cls d hr hot hpin hz e0 hb r hsp => ?_⟩
  have hl := len _ _ _ _ _ _ _ hsp
  have KX : K.In s.heap := e0.mod.kin.keeps fun b o e => (e0.bs b o e).1
  have lim : s.heap.NoLimit := e0.mod.nolimit.keeps fun b o e => (e0.bs b o e).1
  have hkind : ∀ y ∈ ps.zip us, scope.names.lookup y.1 = some .local ∨ (scope.names.lookup y.1 = some .cell ∧ ((cellsFrom (s.heap.objs.size + 1) scope.names []).lookup y.1).isSome = true) := fun ⟨n, v⟩ hy => by
    rcases S.par n (List.of_mem_zip hy).1 with q | q
    · exact .inl q
    · exact .inr ⟨q, PySem.W.cellsFrom_some _ _ _ (.inl q)⟩
  refine codeAny_call_function hr.depth (KX _ _ lk) rfl S.co S.gen rfl (PySem.W.codeRec_of KX hcd) (hb _ _ _ _ ?_)
  refine wpAny_newFunctionEnv_cells S.kind hkind fun env he s1 x => ?_
  subst he
  refine ⟨lim.keeps x.toInCall.keep, codeAny_func ?_⟩
  obtain ⟨t, ht, hq⟩ := hbody A outer s H vs Q E p cls d hot hz (hr.deeper _) hsp
  have I : Inv (cxH CX P w K mg base N qual scope f cdv A outer s H E p) [] (L2.start N vs) H s1 := inv_startH S hpin e0 hl r x
  refine wpAny_mono (ht.run [] s1 (L2.start N vs) H _ I hq) (fun fl s' hs => ?_) fun e s' hs => hs
  have fin : ∀ {σ' : L2.St} {H' : Hp} {v : V} {u : Value}, Inv (cxH CX P w K mg base N qual scope f cdv A outer s H E p) [] σ' H' s' → RelV v u → Q v H' → CE outer P w H s Q u s' :=
    fun {σ' H' v u} J rv q => ⟨v, H', J.os, J.bare, J.base, J.hok, rv, q⟩
  cases fl with
  | ret u =>
    obtain ⟨v, σ', H', J, rv, q⟩ := hs
    exact fin J rv q
  | next =>
    obtain ⟨σ', H', J, q⟩ := hs
    exact fin (v := V.non) (u := Value.none) J rfl q
  | brk =>
    obtain ⟨_, _, _, q⟩ := hs
    exact False.elim q
  | cont =>
    obtain ⟨_, _, _, q⟩ := hs
    exact False.elim q
/-- as okN, for a def called where an error is handled; nothing may be raised in it -/
theorem okX {x qual : Str} {st : Stmt} {f : Addr} {fd : FuncData} {N ps : List Str} {k : Nat} {sp : Addr → Value → Option Addr → Sp} (Fk : FunG K x qual st f fd) (S : FnScope N ps (defScope st)) (len : ∀ a c d vs H Q E, sp a c d vs H Q E → vs.length = ps.length)
    (hbody : ∀ (cdv : Value) (A : Around) (outer : List Env) (s : Shared) (H : Hp) (vs : List V) (Q : VK) (E : XK) (a : Addr) (oe : Obj) (cls : Value) (d : Option Addr), Hot1 A (a, oe) → L2N.Zn cls d oe → (∃ vs, oe.data = .fields vs) → RoomH k (A.deeper (envOfC qual (defScope st) s.heap.objs.size f cdv)) → sp a cls d vs H Q E →
      ∃ t, PSs (cxH (L2N.CX P w) P w K mg base N qual (defScope st) f cdv A outer s H E (a, oe)) (defBody st) t ∧ t { nx := fun _ H' => Q .non H', rt := Q } (L2.start N vs) H) :
    FnX P w K mg base (L2N.CX P w) (k + 1) f fd ps sp := by
  obtain ⟨oc, od, dV, kV, doc, pm, an, cdv, ct, osl, rfl, lk, hcd⟩ := Fk.ex
  refine fn_ofX lk hcd S len fun A outer s H vs Q E p cls d hot hz hr hsp => hbody cdv A outer s H vs Q E p.1 p.2 cls d hot hz ?_ hr hsp
  obtain ⟨_, vs, e, _⟩ := hot
  exact ⟨vs, e⟩
end
section
variable {X : Cx} {CX : CXT} {k : Nat} {f a : Addr} {oe : Obj} {cls : Value} {d : Option Addr} {fd : FuncData} {ps : List Str} {sp : Addr → Value → Option Addr → Sp} {E : L2.St → XK} {x : Str} {q pos : Pos} {e : Expr} {es : List Expr} {t : TA}
theorem pe_clX (Fk : FnX X.prog X.w X.K X.mg X.base CX k f fd ps sp) (hr : RoomH k X.A) (hot : Hot1 X.A (a, oe)) (hin : (a, oe) ∈ X.pn) (hz : L2N.Zn cls d oe) (hg : Gl X x) (hm : X.mg x = some (.ref f)) (hk : PySem.W.keepIn X.K (.ref f) = true) (hb : Binds X.K fd ps []) (hx : ∀ σ, PassesAt CX X σ (E σ))
    (ha : PA X (e :: es) t) (hdb : (x == ("__debug__" : Str)) = false := by decide) (he : starEach (e :: es) X.env = (false, eval e X.env) :: starEach es X.env := by rfl) (hpl : (backTo pos (starEach es X.env)).any (·.1) = false := by rfl) :
    PE X (.Call (.Name x q) (e :: es) [] pos) (tCallSD (sp a cls d) [] E t) := by
  refine ⟨fun pins s σ H Q I h => ?_⟩
  refine wpAny_Call_Name_kw (ld_glob I hg hm ?_ hdb)
  refine PySem.W.callWith_K (h₀ := X.base) I.ok.mod.kin hk (thn (ha.run pos pins s σ H _ I h) fun us s1 ⟨vs, H1, I1, r, q1⟩ => ⟨I1.kIn, ?_⟩) he hpl
  have q1 : sp a cls d (vs ++ []) H1 Q (E σ) := q1
  rw [List.append_nil] at q1
  have hl : us.length = ps.length := by rw [← r.length]; exact Fk.len _ _ _ _ _ _ _ q1
  have b := hb s1 us I1.kIn (by rw [List.append_nil]; exact hl)
  rw [List.append_nil] at b
  have P1 := I1.pin (a, oe) (List.mem_append_left _ hin)
  have hpin : PinOk X.stack H1 s1 (a, oe) := ⟨P1.1, P1.2.1, fun hm => (List.mem_cons.mp (I1.stkSub a hm)).elim P1.2.2.1 P1.2.2.2.1, P1.2.2.2.2⟩
  refine wpAny_call (codeAny_mono (Fk.run X.A X.stack s1 H1 ⟨us, []⟩ us vs Q (E σ) (a, oe) cls d hr hot hpin hz I1.env0 b r q1) fun r s' hq => ?_)
  cases r with
  | error e => exact hx σ pins H1 s1 e s' I1 hq
  | ok fl =>
    cases fl with
    | ret u => exact I1.after hq
    | next => exact False.elim hq
    | brk => exact False.elim hq
    | cont => exact False.elim hq
end
/-- where nothing is raised -/
theorem passN {X : Cx} : ∀ σ : L2.St, PassesAt (L2N.CX X.prog X.w) X σ E0 := fun _ _ _ _ _ _ _ h => by
  obtain ⟨_, _, _, _, _, _, _, _, _, _, _, _, z⟩ := h
  exact z.elim
theorem hot_suite {X : Cx} {a : Addr} {oe : Obj} {cls : Value} {d : Option Addr} {pn : List (Addr × Obj)} (hz : L2N.Zn cls d oe) (hf : ∃ vs, oe.data = .fields vs) : Hot1 (X.suite a pn).A (a, oe) := by
  obtain ⟨vs, e⟩ := hf
  exact ⟨rfl, vs, e, hz.2.2 vs e⟩
end OC

set_option maxHeartbeats 4000000
/-! A heap told by pieces: what stands at each address that matters, each address once. -/
namespace OC
open PySem PySem.Spec PyProof.Rows L2

abbrev Cell := Addr × HO
abbrev Chunk := List Cell
/-- one object -/
def pt (a : Addr) (o : HO) : Chunk := [(a, o)]
structure Has (H : Hp) (L : List Chunk) : Prop where
  at_ : ∀ e ∈ L.flatten, H e.1 = some e.2
  nd : (L.flatten.map (·.1)).Nodup
/-- tuples: they never change, and may be shared -/
abbrev Tups := List (Addr × List V)
def HasT (H : Hp) (T : Tups) : Prop := ∀ e ∈ T, H e.1 = some (.tup e.2)
/-- P holds of every heap that looks so -/
def Go (T : Tups) (L : List Chunk) (P : Hp → Prop) : Prop := ∀ H, Has H L → HasT H T → P H

/-- the piece F a g among the pieces L; R the others -/
class Pull {G : Type} (F : Addr → G → Chunk) (L : List Chunk) (a : Addr) (g : outParam G) (R : outParam (List Chunk)) : Prop where
  perm : L.flatten.Perm (F a g ++ R.flatten)
instance Pull.tail {G : Type} {F : Addr → G → Chunk} {c : Chunk} {L : List Chunk} {a : Addr} {g : G} {R : List Chunk} [p : Pull F L a g R] : Pull F (c :: L) a g (c :: R) where
  perm := by
    rw [List.flatten_cons, List.flatten_cons]
    refine (List.Perm.append_left c p.perm).trans ?_
    rw [← List.append_assoc, ← List.append_assoc]
    exact List.Perm.append_right _ List.perm_append_comm
instance Pull.head {G : Type} {F : Addr → G → Chunk} {a : Addr} {g : G} {R : List Chunk} : Pull F (F a g :: R) a g R where
  perm := by rw [List.flatten_cons]
/-- a tuple that is known -/
class Kn (T : Tups) (a : Addr) (xs : outParam (List V)) : Prop where
  mem : (a, xs) ∈ T
instance Kn.tail {T : Tups} {a : Addr} {xs : List V} {e : Addr × List V} [k : Kn T a xs] : Kn (e :: T) a xs := ⟨.tail _ k.mem⟩
instance Kn.head {T : Tups} {a : Addr} {xs : List V} : Kn ((a, xs) :: T) a xs := ⟨.head _⟩
/-- more tuples -/
class Mo (T T' : Tups) : Prop where
  sub : ∀ e ∈ T, e ∈ T'
instance Mo.tail {T T' : Tups} {e : Addr × List V} [m : Mo T T'] : Mo T (e :: T') := ⟨fun x h => .tail _ (m.sub x h)⟩
instance Mo.refl {T : Tups} : Mo T T := ⟨fun _ h => h⟩
theorem Mo.trans {T1 T2 T3 : Tups} (a : Mo T1 T2) (b : Mo T2 T3) : Mo T1 T3 := ⟨fun e h => b.sub e (a.sub e h)⟩

section
variable {H : Hp} {T T' : Tups} {L R : List Chunk} {P Q : Hp → Prop} {a : Addr} {o o' : HO}
theorem Has.perm {L' : List Chunk} (h : Has H L) (p : L.flatten.Perm L'.flatten) : Has H L' :=
  ⟨fun e he => h.at_ e (p.mem_iff.mpr he), (p.map _).nodup_iff.mp h.nd⟩
theorem Has.pull {G : Type} {F : Addr → G → Chunk} {g : G} (h : Has H L) [p : Pull F L a g R] : Has H (F a g :: R) := h.perm (by rw [List.flatten_cons]; exact p.perm)
theorem Has.get (h : Has H L) [p : Pull pt L a o R] : H a = some o := (h.pull (F := pt) (a := a) (g := o) (R := R)).at_ (a, o) (by rw [List.flatten_cons]; exact List.mem_append_left _ List.mem_cons_self)
theorem Has.tail {c : Chunk} (h : Has H (c :: L)) : Has H L := ⟨fun e he => h.at_ e (by rw [List.flatten_cons]; exact List.mem_append_right _ he), by
  have z := h.nd
  rw [List.flatten_cons, List.map_append] at z
  exact (List.nodup_append.mp z).2.1⟩
theorem Has.upd (h : Has H L) [p : Pull pt L a o R] : Has (upd H a o') (pt a o' :: R) := by
  have h1 := h.pull (F := pt) (a := a) (g := o) (R := R)
  have nd := h1.nd
  rw [List.flatten_cons, List.map_append] at nd
  have nd2 := List.nodup_append.mp nd
  refine ⟨fun e he => ?_, ?_⟩
  · rw [List.flatten_cons] at he
    rcases List.mem_append.mp he with he | he
    · have e2 : e = (a, o') := by simpa [pt] using he
      subst e2
      exact upd_same
    · have ne : e.1 ≠ a := fun z => nd2.2.2 a (by simp [pt]) e.1 (List.mem_map_of_mem he) z.symm
      rw [upd_ne ne]
      exact h1.at_ e (by rw [List.flatten_cons]; exact List.mem_append_right _ he)
  · rw [List.flatten_cons, List.map_append]
    exact nd
theorem Has.new (h : Has H L) (n : H a = none) : Has (L2.upd H a o) (pt a o :: L) := by
  have ne : ∀ e ∈ L.flatten, e.1 ≠ a := fun e he z => by
    have := h.at_ e he
    rw [z, n] at this
    cases this
  refine ⟨fun e he => ?_, ?_⟩
  · rw [List.flatten_cons] at he
    rcases List.mem_append.mp he with he | he
    · have e2 : e = (a, o) := by simpa [pt] using he
      subst e2
      exact upd_same
    · rw [upd_ne (ne e he)]
      exact h.at_ e he
  · rw [List.flatten_cons, List.map_append]
    show (a :: (L.flatten.map (·.1))).Nodup
    rw [List.nodup_cons]
    refine ⟨fun hm => ?_, h.nd⟩
    obtain ⟨e, he, z⟩ := List.mem_map.mp hm
    exact ne e he z
theorem Has.fresh (h : Has H L) (n : H a = none) : Has (L2.upd H a o) L := (h.new n).tail
theorem HasT.upd (t : HasT H T) (h : H a = some o) (ho : ∀ xs, o ≠ .tup xs) : HasT (upd H a o') T := fun e he => by
  have ne : e.1 ≠ a := fun z => by
    have q := t e he
    rw [z, h] at q
    exact ho _ (Option.some.inj q)
  rw [upd_ne ne]
  exact t e he
theorem HasT.new (t : HasT H T) (n : H a = none) : HasT (L2.upd H a o) T := fun e he => by
  have ne : e.1 ≠ a := fun z => by
    have q := t e he
    rw [z, n] at q
    cases q
  rw [upd_ne ne]
  exact t e he
theorem HasT.more [m : Mo T' T] (t : HasT H T) : HasT H T' := fun e he => t e (m.sub e he)
theorem HasT.get {xs : List V} (t : HasT H T) [k : Kn T a xs] : H a = some (.tup xs) := t _ k.mem

/-! ### how a heap goes on -/
theorem Go.mono (h : Go T L P) (k : ∀ H, P H → Q H) : Go T L Q := fun H a b => k H (h H a b)
theorem Go.lift [Mo T T'] (h : Go T L P) : Go T' L P := fun H a b => h H a b.more
theorem Go.drop {c : Chunk} (h : Go T L P) : Go T (c :: L) P := fun H a b => h H a.tail b
theorem Go.pull {G : Type} {F : Addr → G → Chunk} {g : G} [p : Pull F L a g R] (h : Go T (F a g :: R) P) : Go T L P := fun H x t => h H x.pull t
theorem Go.perm {L' : List Chunk} (h : Go T L' P) (p : L.flatten.Perm L'.flatten) : Go T L P := fun H x t => h H (x.perm p) t
theorem Go.upd (a : Addr) (o' : HO) {o : HO} [p : Pull pt L a o R] (ho : ∀ xs, o ≠ .tup xs) (h : Go T (pt a o' :: R) P) : Go T L (fun H => P (upd H a o')) := fun H x t =>
  h _ (x.upd (o := o)) (t.upd (x.get (a := a) (o := o) (R := R)) ho)
theorem Go.new {o : Addr → HO} {P : Addr → Hp → Prop} (h : ∀ a, Go T (pt a (o a) :: L) (P a)) : Go T L (fun H => ∀ p, H p = none → P p (L2.upd H p (o p))) := fun H x t p n => h p _ (x.new n) (t.new n)
theorem Go.newT {xs : List V} {P : Addr → Hp → Prop} (h : ∀ a, Go ((a, xs) :: T) L (P a)) : Go T L (fun H => ∀ p, H p = none → P p (L2.upd H p (.tup xs))) := fun H x t p n => h p _ (x.fresh n) fun e he => by
  rcases List.mem_cons.mp he with rfl | he
  · exact upd_same
  · exact t.new n e he
theorem Go.get {o : HO} [p : Pull pt L a o R] (h : H a = some o → Go T L P) (x : Has H L) : Go T L P := h x.get
end

/-! ### the same pieces in another order, some left out -/
class PullC (L : List Chunk) (c : Chunk) (R : outParam (List Chunk)) : Prop where
  perm : L.flatten.Perm (c ++ R.flatten)
instance PullC.tail {c d : Chunk} {L R : List Chunk} [p : PullC L c R] : PullC (d :: L) c (d :: R) where
  perm := by
    rw [List.flatten_cons, List.flatten_cons]
    refine (List.Perm.append_left d p.perm).trans ?_
    rw [← List.append_assoc, ← List.append_assoc]
    exact List.Perm.append_right _ List.perm_append_comm
instance PullC.head {c : Chunk} {R : List Chunk} : PullC (c :: R) c R where
  perm := by rw [List.flatten_cons]
class Ent (L L' : List Chunk) : Prop where
  ex : ∃ D, L.flatten.Perm (L'.flatten ++ D)
instance Ent.drop {c : Chunk} {L R : List Chunk} [e : Ent L R] : Ent (c :: L) R where
  ex := by
    obtain ⟨D, p⟩ := e.ex
    refine ⟨c ++ D, ?_⟩
    rw [List.flatten_cons]
    refine (List.Perm.append_left c p).trans ?_
    rw [← List.append_assoc, ← List.append_assoc]
    exact List.Perm.append_right _ List.perm_append_comm
instance Ent.cons {c : Chunk} {L L1 L' : List Chunk} [q : PullC L c L1] [e : Ent L1 L'] : Ent L (c :: L') where
  ex := by
    obtain ⟨D, p⟩ := e.ex
    refine ⟨D, q.perm.trans ?_⟩
    rw [List.flatten_cons, List.append_assoc]
    exact List.Perm.append_left c p
instance Ent.refl {L : List Chunk} : Ent L L := ⟨[], by rw [List.append_nil]⟩
theorem Has.ent {H : Hp} {L L' : List Chunk} (h : Has H L) [e : Ent L L'] : Has H L' := by
  obtain ⟨D, p⟩ := e.ex
  refine ⟨fun e he => h.at_ e (p.mem_iff.mpr (List.mem_append_left _ he)), ?_⟩
  have nd := (p.map (·.1)).nodup_iff.mp h.nd
  rw [List.map_append] at nd
  exact (List.nodup_append.mp nd).1
theorem Go.ent {T : Tups} {L L' : List Chunk} {P : Hp → Prop} [e : Ent L L'] (h : Go T L' P) : Go T L P := fun H x t => h H x.ent t
theorem Go.entT {T T' : Tups} {L L' : List Chunk} {P : Hp → Prop} (h : Go T' L' P) [e : Ent L L'] [m : Mo T' T] : Go T L P := fun H x t => h H x.ent t.more
/-! ### pieces may be read as lists -/
class RdL (L : List Chunk) (a : Addr) (xs : outParam (List V)) : Prop where
  rd : ∀ H, Has H L → Rd H a (.lst xs)
instance (priority := low) {L : List Chunk} {c : Chunk} {a : Addr} {xs : List V} [r : RdL L a xs] : RdL (c :: L) a xs := ⟨fun H h => r.rd H h.tail⟩
instance {L R : List Chunk} {a : Addr} {o : Obj} {xs : List V} [p : Pull pt L a (.frz o (.lst xs)) R] : RdL L a xs := ⟨fun H h => .inr ⟨o, h.get⟩⟩
instance {L R : List Chunk} {a : Addr} {xs : List V} [p : Pull pt L a (.lst xs) R] : RdL L a xs := ⟨fun H h => .inl h.get⟩

/-! ### σ -/
class SetAt (σ : L2.St) (i : Nat) (v : Option V) (σ' : outParam L2.St) : Prop where
  eq : σ.set i v = σ'
instance {x v : Option V} {σ : L2.St} : SetAt (x :: σ) 0 v (v :: σ) := ⟨rfl⟩
instance {x v : Option V} {σ σ' : L2.St} {i : Nat} [s : SetAt σ i v σ'] : SetAt (x :: σ) (i + 1) v (x :: σ') := ⟨by rw [List.set_cons_succ, s.eq]⟩

class LkAt (σ : L2.St) (i : Nat) (v : outParam V) : Prop where
  eq : σ[i]? = some (some v)
instance {v : V} {σ : L2.St} : LkAt (some v :: σ) 0 v := ⟨rfl⟩
instance {x : Option V} {v : V} {σ : L2.St} {i : Nat} [s : LkAt σ i v] : LkAt (x :: σ) (i + 1) v := ⟨by rw [List.getElem?_cons_succ, s.eq]⟩
/-! ### places in written lists -/
class AtN (xs : List V) (n : Nat) (v : outParam V) : Prop where
  eq : xs[n]? = some v
instance {v : V} {xs : List V} : AtN (v :: xs) 0 v := ⟨rfl⟩
instance {x v : V} {xs : List V} {n : Nat} [s : AtN xs n v] : AtN (x :: xs) (n + 1) v := ⟨by rw [List.getElem?_cons_succ, s.eq]⟩
class SetN (xs : List V) (n : Nat) (v : V) (xs' : outParam (List V)) : Prop where
  eq : xs.set n v = xs'
  lt : n < xs.length
instance {x v : V} {xs : List V} : SetN (x :: xs) 0 v (v :: xs) := ⟨rfl, Nat.zero_lt_succ _⟩
instance {x v : V} {xs xs' : List V} {n : Nat} [s : SetN xs n v xs'] : SetN (x :: xs) (n + 1) v (x :: xs') := ⟨by rw [List.set_cons_succ, s.eq], Nat.succ_lt_succ s.lt⟩
class AtI (xs : List V) (i : Int) (v : outParam V) : Prop where
  eq : atI xs i = some v
theorem ixN_nat {m n : Nat} (h : n < m) : ixN m (n : Int) = some n := by
  unfold ixN
  rw [if_pos (Int.natCast_nonneg n), if_pos (by omega)]
  rfl
theorem atI_of {xs : List V} {n : Nat} {v : V} (h : xs[n]? = some v) : atI xs (n : Int) = some v := by
  unfold atI
  rw [ixN_nat (List.getElem?_eq_some_iff.mp h).1, Option.bind_some, h]
instance {xs : List V} {n : Nat} {v : V} [s : AtN xs n v] : AtI xs (no_index (OfNat.ofNat n)) v := ⟨atI_of s.eq⟩
class SetI (xs : List V) (i : Int) (v : V) (xs' : outParam (List V)) : Prop where
  eq : ∃ k, ixN xs.length i = some k ∧ xs.set k v = xs'
instance {xs xs' : List V} {n : Nat} {v : V} [s : SetN xs n v xs'] : SetI xs (no_index (OfNat.ofNat n)) v xs' := ⟨⟨n, ixN_nat s.lt, s.eq⟩⟩
/-! ### attributes -/
class Att (K : PySem.W.Frag) (C : Addr) (f : Str) : Prop where
  cls : Cls K C
  no : NoAttr K C f
class FldAt (fs : List (Str × V)) (f : Str) (v : outParam V) : Prop where
  eq : fs.lookup f = some v
class PutAt (fs : List (Str × V)) (f : Str) (v : V) (fs' : outParam (List (Str × V))) : Prop where
  eq : putF f v fs = fs'
  lt : fs.length < 1000
class NoFld (fs : List (Str × V)) (f : Str) : Prop where
  eq : fs.lookup f = none

section
variable {K : PySem.W.Frag} {T : Tups} {L R R2 : List Chunk} {σ σ' : L2.St} {Q : VK} {ta tb tc te : TE} {tr t : TA} {a b : Addr} {v x y : V} {i j : Int} {D : Ends} {D' : L2.St → Hp → Prop}

/-! ### what is only nesting -/
theorem go_op {r : L2.R2} (h : Go T L fun H => ta σ H fun x H1 => tb σ H1 fun y H2 => r x y H2 Q) : Go T L fun H => tOp r ta tb σ H Q := h
theorem go_un {r : V → Hp → VK → Prop} (h : Go T L fun H => ta σ H fun x H1 => r x H1 Q) : Go T L fun H => tUn r ta σ H Q := h
theorem go_c (h : Go T L fun H => Q v H) : Go T L fun H => tC v σ H Q := h
theorem go_nil {Q : List V → Hp → Prop} (h : Go T L fun H => Q [] H) : Go T L fun H => tNil σ H Q := h
theorem go_cons {Q : List V → Hp → Prop} (h : Go T L fun H => ta σ H fun x H1 => tr σ H1 fun xs H2 => Q (x :: xs) H2) : Go T L fun H => tCons ta tr σ H Q := h
theorem go_cb {r : List V → Hp → VK → Prop} (h : Go T L fun H => t σ H fun vs H1 => r vs H1 Q) : Go T L fun H => tCB r t σ H Q := h
theorem go_seq {t u : TS} (h : Go T L fun H => t { D with nx := u D } σ H) : Go T L fun H => tSeq t u D σ H := h
theorem go_next (h : Go T L fun H => D.nx σ H) : Go T L fun H => tNext D σ H := h
theorem go_brk (h : Go T L fun H => D.bk σ H) : Go T L fun H => tBreak D σ H := h
theorem go_ct (h : Go T L fun H => D.ct σ H) : Go T L fun H => tCont D σ H := h
theorem go_drop (h : Go T L fun H => te σ H fun _ H1 => D.nx σ H1) : Go T L fun H => tDrop te D σ H := h
theorem go_ret (h : Go T L fun H => te σ H D.rt) : Go T L fun H => tRet te D σ H := h
theorem go_retN (h : Go T L fun H => D.rt .non H) : Go T L fun H => tRetN D σ H := h
theorem go_ifs {c : TT} {t u : TS} (h : Go T L fun H => c σ H fun b H1 => if b = true then t D σ H1 else u D σ H1) : Go T L fun H => tIfS c t u D σ H := h
theorem go_asg {g : TG} (h : Go T L fun H => te σ H fun x H1 => g x σ H1 D.nx) : Go T L fun H => tAsg te g D σ H := h
theorem go_ife {c : TT} (h : Go T L fun H => c σ H fun b H1 => if b = true then ta σ H1 Q else tb σ H1 Q) : Go T L fun H => tIf c ta tb σ H Q := h
theorem go_tB {Q : Bool → Hp → Prop} (h : Go T L fun H => te σ H fun x H1 => ∃ c, x = .bl c ∧ Q c H1) : Go T L fun H => tB te σ H Q := h
theorem go_tT {Q : Bool → Hp → Prop} (h : Go T L fun H => te σ H fun x H1 => ∃ c, x = .bl c ∧ Q c H1) : Go T L fun H => tTest te σ H Q := h
theorem go_not {c : TT} {Q : Bool → Hp → Prop} (h : Go T L fun H => c σ H fun c H1 => Q (!c) H1) : Go T L fun H => tNot c σ H Q := h
theorem go_and {c d : TT} {Q : Bool → Hp → Prop} (h : Go T L fun H => c σ H fun b H1 => if b = true then d σ H1 Q else Q false H1) : Go T L fun H => tAnd c d σ H Q := h
theorem go_or {c d : TT} {Q : Bool → Hp → Prop} (h : Go T L fun H => c σ H fun b H1 => if b = true then Q true H1 else d σ H1 Q) : Go T L fun H => tOr c d σ H Q := h
theorem go_andV (h : Go T L fun H => ta σ H fun x H1 => ∃ c, x = .bl c ∧ if c = true then tb σ H1 Q else Q (.bl false) H1) : Go T L fun H => tAndV ta tb σ H Q := h
theorem go_orV (h : Go T L fun H => ta σ H fun x H1 => ∃ c, x = .bl c ∧ if c = true then Q (.bl true) H1 else tb σ H1 Q) : Go T L fun H => tOrV ta tb σ H Q := h
theorem go_notV (h : Go T L fun H => ta σ H fun x H1 => ∃ c, x = .bl c ∧ Q (.bl (!c)) H1) : Go T L fun H => tNotV ta σ H Q := h
def rNewU (xs : List V) (Q : VK) (H : Hp) : Prop := xs.length ≤ sizeLine ∧ ∀ p, H p = none → Q (.ref p) (upd H p (.tup xs))
def rNewL (xs : List V) (Q : VK) (H : Hp) : Prop := xs.length ≤ sizeLine ∧ ∀ p, H p = none → Q (.ref p) (upd H p (.lst xs))
theorem go_tup (h : Go T L fun H => t σ H fun xs H1 => rNewU xs Q H1) : Go T L fun H => tTup t σ H Q := h
theorem go_lst (h : Go T L fun H => t σ H fun xs H1 => rNewL xs Q H1) : Go T L fun H => tLst t σ H Q := h
theorem go_par {i j : Nat} (h : Go T L fun H => t σ H fun vs H1 => ∃ v w, vs = [v, w] ∧ D.nx ((σ.set i (some v)).set j (some w)) H1) : Go T L fun H => tPar i j t D σ H := h
def rFld (K : PySem.W.Frag) (f : Str) (x : V) (H : Hp) (Q : VK) : Prop := ∃ a C dx fs v, x = .ref a ∧ H a = some (.ins C dx fs) ∧ Cls K C ∧ NoAttr K C f ∧ fs.lookup f = some v ∧ Q v H
theorem go_fld0 {f : Str} (h : Go T L fun H => ta σ H fun x H1 => rFld K f x H1 Q) : Go T L fun H => tFld K ta f σ H Q := h
def rSFld (K : PySem.W.Frag) (f : Str) (y x : V) (H : Hp) (N : Hp → Prop) : Prop := ∃ a C dx fs, x = .ref a ∧ H a = some (.ins C dx fs) ∧ Cls K C ∧ NoAttr K C f ∧ fs.length < 1000 ∧ N (upd H a (.ins C dx (putF f y fs)))
theorem go_sfld0 {f : Str} {tv : TE} (h : Go T L fun H => tv σ H fun y H1 => ta σ H1 fun x H2 => rSFld K f y x H2 fun H3 => D.nx σ H3) : Go T L fun H => sFld K ta tv f D σ H := h
theorem go_gsub {to ti : TE} {ts : TSet} {N : L2.St → Hp → Prop} (h : Go T L fun H => to σ H fun o H1 => ti σ H1 fun i H2 => ts o i v H2 fun H3 => N σ H3) : Go T L fun H => gSub to ti ts v σ H N := h
theorem go_bm0 {S : String} {r : V → List V → Hp → VK → Prop} (h : Go T L fun H => ta σ H fun x H1 => tyV K S x H1 ∧ r x [] H1 Q) : Go T L fun H => tBM0 K S r ta σ H Q := h
theorem go_bm {S : String} {r : V → List V → Hp → VK → Prop} (h : Go T L fun H => ta σ H fun x H1 => tyV K S x H1 ∧ t σ H1 fun xs H2 => r x xs H2 Q) : Go T L fun H => tBM K S r ta t σ H Q := h
theorem go_call {sp : Sp} {dvs : List V} {E : L2.St → XK} (h : Go T L fun H => t σ H fun vs H1 => sp (vs ++ dvs) H1 Q (E σ)) : Go T L fun H => tCallSD sp dvs E t σ H Q := h
def rMe (C : Addr) (m : Str) (tr : TA) (sp : Sp) (dvs : List V) (E : L2.St → XK) (σ : L2.St) (x : V) (H1 : Hp) (Q : VK) : Prop := ∃ a dx fs, x = .ref a ∧ H1 a = some (.ins C dx fs) ∧ fs.lookup m = none ∧ tr σ H1 fun vs H2 => sp (x :: (vs ++ dvs)) H2 Q (E σ)
theorem go_me0 {C : Addr} {m : Str} {sp : Sp} {dvs : List V} {E : L2.St → XK} (h : Go T L fun H => ta σ H fun x H1 => rMe C m t sp dvs E σ x H1 Q) : Go T L fun H => tMe C m sp dvs E ta t σ H Q := h

/-! ### the leaves -/
theorem go_var {i : Nat} (e : σ[i]? = some (some v)) (h : Go T L fun H => Q v H) : Go T L fun H => tVar i σ H Q := fun H x t => ⟨v, e, h H x t⟩
theorem go_varc {i : Nat} [s : LkAt σ i v] (h : Go T L fun H => Q v H) : Go T L fun H => tVar i σ H Q := fun H x t => ⟨v, s.eq, h H x t⟩
theorem go_name {i : Nat} {N : L2.St → Hp → Prop} [s : SetAt σ i (some v) σ'] (h : Go T L fun H => N σ' H) : Go T L fun H => gName i v σ H N := fun H x t => by
  show N (σ.set i (some v)) H
  rw [s.eq]
  exact h H x t
theorem go_parE {i j : Nat} {v w : V} {N : L2.St → Hp → Prop} {σ1 : L2.St} [s : SetAt σ i (some v) σ1] [s2 : SetAt σ1 j (some w) σ'] (h : Go T L fun H => N σ' H) : Go T L fun H => ∃ v' w', [v, w] = [v', w'] ∧ N ((σ.set i (some v')).set j (some w')) H := fun H x t => by
  refine ⟨v, w, rfl, ?_⟩
  rw [s.eq, s2.eq]
  exact h H x t
theorem go_bl {c : Bool} {N : Bool → Hp → Prop} (h : Go T L fun H => N c H) : Go T L fun H => ∃ k, V.bl c = .bl k ∧ N k H := fun H x t => ⟨c, rfl, h H x t⟩
theorem go_ifT {c : Bool} {A B : Hp → Prop} (e : c = true) (h : Go T L A) : Go T L fun H => if c = true then A H else B H := fun H x t => by
  show (if c = true then A H else B H)
  rw [if_pos e]
  exact h H x t
theorem go_ifF {c : Bool} {A B : Hp → Prop} (e : c = false) (h : Go T L B) : Go T L fun H => if c = true then A H else B H := fun H x t => by
  show (if c = true then A H else B H)
  rw [if_neg (by rw [e]; exact Bool.false_ne_true)]
  exact h H x t
theorem go_if {c : Bool} {A B : Hp → Prop} (h1 : c = true → Go T L A) (h2 : c = false → Go T L B) : Go T L fun H => if c = true then A H else B H := by
  cases hc : c with
  | true => exact go_ifT rfl (h1 hc)
  | false => exact go_ifF rfl (h2 hc)
/-- a test that is a proposition's truth -/
theorem go_dT {p : Prop} [Decidable p] {A B : Hp → Prop} (e : p) (h : Go T L A) : Go T L fun H => if decide p = true then A H else B H := go_ifT (decide_eq_true e) h
theorem go_dF {p : Prop} [Decidable p] {A B : Hp → Prop} (e : ¬ p) (h : Go T L B) : Go T L fun H => if decide p = true then A H else B H := go_ifF (decide_eq_false e) h
theorem go_nT {p : Prop} [Decidable p] {A B : Hp → Prop} (e : ¬ p) (h : Go T L A) : Go T L fun H => if (!decide p) = true then A H else B H := go_ifT (by rw [decide_eq_false e]; rfl) h
theorem go_nF {p : Prop} [Decidable p] {A B : Hp → Prop} (e : p) (h : Go T L B) : Go T L fun H => if (!decide p) = true then A H else B H := go_ifF (by rw [decide_eq_true e]; rfl) h
theorem go_d {p : Prop} [Decidable p] {A B : Hp → Prop} (h1 : p → Go T L A) (h2 : ¬ p → Go T L B) : Go T L fun H => if decide p = true then A H else B H := by
  by_cases e : p
  · exact go_dT e (h1 e)
  · exact go_dF e (h2 e)
theorem go_n {p : Prop} [Decidable p] {A B : Hp → Prop} (h1 : ¬ p → Go T L A) (h2 : p → Go T L B) : Go T L fun H => if (!decide p) = true then A H else B H := by
  by_cases e : p
  · exact go_nF e (h2 e)
  · exact go_nT e (h1 e)
/-- numbers -/
theorem go_I0 {g : Int → Int → V} (h : Go T L fun H => Q (g i j) H) : Go T L fun H => rI0 g (.int i) (.int j) H Q := fun H x t => ⟨i, j, rfl, rfl, h H x t⟩
theorem go_I {C : Int → Int → Prop} {g : Int → Int → V} (c : C i j) (h : Go T L fun H => Q (g i j) H) : Go T L fun H => rI C g (.int i) (.int j) H Q := fun H x t => ⟨i, j, rfl, rfl, c, h H x t⟩
theorem go_U {g : Int → V} (h : Go T L fun H => Q (g i) H) : Go T L fun H => rU g (.int i) H Q := fun H x t => ⟨i, rfl, h H x t⟩
theorem go_eqI (h : Go T L fun H => Q (.bl (decide (i = j))) H) : Go T L fun H => L2.rEq (.int i) (.int j) H Q := fun H x t => ⟨rfl, by rw [show decide (V.int i = V.int j) = decide (i = j) by rw [dec_int, Bool.beq_eq_decide_eq]]; exact h H x t⟩
theorem go_neI (h : Go T L fun H => Q (.bl (!decide (i = j))) H) : Go T L fun H => L2.rNe (.int i) (.int j) H Q := fun H x t => ⟨rfl, by rw [show decide (V.int i = V.int j) = decide (i = j) by rw [dec_int, Bool.beq_eq_decide_eq]]; exact h H x t⟩
theorem go_eqS (e : scal x y = true) (h : Go T L fun H => Q (.bl (decide (x = y))) H) : Go T L fun H => L2.rEq x y H Q := fun H a b => ⟨e, h H a b⟩
theorem go_neS (e : scal x y = true) (h : Go T L fun H => Q (.bl (!decide (x = y))) H) : Go T L fun H => L2.rNe x y H Q := fun H a b => ⟨e, h H a b⟩
theorem go_isN (h : Go T L fun H => Q (.bl (decide (x = .non))) H) : Go T L fun H => V.non = .non ∧ Q (.bl (decide (x = .non))) H := fun H a b => ⟨rfl, h H a b⟩
theorem go_notN (h : Go T L fun H => Q (.bl (!decide (x = .non))) H) : Go T L fun H => V.non = .non ∧ Q (.bl (!decide (x = .non))) H := fun H a b => ⟨rfl, h H a b⟩
/-- a side that must hold -/
theorem go_side {p : Prop} {N : Hp → Prop} (e : p) (h : Go T L N) : Go T L fun H => p ∧ N H := fun H x t => ⟨e, h H x t⟩
/-- objects -/
theorem go_fld {C dx : Addr} {fs : List (Str × V)} {f : Str} [Pull pt L a (.ins C dx fs) R] (c : Cls K C) (n : NoAttr K C f) (l : fs.lookup f = some v) (h : Go T L fun H => Q v H) : Go T L fun H => rFld K f (.ref a) H Q := fun H x t =>
  ⟨a, C, dx, fs, v, rfl, x.get, c, n, l, h H x t⟩
theorem go_sfld {C dx : Addr} {fs fs' : List (Str × V)} {f : Str} {N : Hp → Prop} [Pull pt L a (.ins C dx fs) R] (c : Cls K C) (n : NoAttr K C f) (z : fs.length < 1000) (e : putF f y fs = fs') (h : Go T (pt a (.ins C dx fs') :: R) N) : Go T L fun H => rSFld K f y (.ref a) H N := fun H x t => by
  subst e
  exact ⟨a, C, dx, fs, rfl, x.get, c, n, z, Go.upd a _ (fun xs z => by cases z) h H x t⟩
theorem go_me {C dx : Addr} {fs : List (Str × V)} {m : Str} {sp : Sp} {dvs : List V} {E : L2.St → XK} [Pull pt L a (.ins C dx fs) R] (l : fs.lookup m = none) (h : Go T L fun H => t σ H fun vs H2 => sp (.ref a :: (vs ++ dvs)) H2 Q (E σ)) : Go T L fun H => rMe C m t sp dvs E σ (.ref a) H Q :=
  fun H x t => ⟨a, dx, fs, rfl, x.get, l, h H x t⟩
theorem go_fldc {C dx : Addr} {fs : List (Str × V)} {f : Str} [Pull pt L a (.ins C dx fs) R] [t : Att K C f] [l : FldAt fs f v] (h : Go T L fun H => Q v H) : Go T L fun H => rFld K f (.ref a) H Q := go_fld t.cls t.no l.eq h
theorem go_sfldc {C dx : Addr} {fs fs' : List (Str × V)} {f : Str} {N : Hp → Prop} [Pull pt L a (.ins C dx fs) R] [t : Att K C f] [l : PutAt fs f y fs'] (h : Go T (pt a (.ins C dx fs') :: R) N) : Go T L fun H => rSFld K f y (.ref a) H N := go_sfld t.cls t.no l.lt l.eq h
theorem go_mec {C dx : Addr} {fs : List (Str × V)} {m : Str} {sp : Sp} {dvs : List V} {E : L2.St → XK} [Pull pt L a (.ins C dx fs) R] [l : NoFld fs m] (h : Go T L fun H => t σ H fun vs H2 => sp (.ref a :: (vs ++ dvs)) H2 Q (E σ)) : Go T L fun H => rMe C m t sp dvs E σ (.ref a) H Q := go_me l.eq h
def rMkC (C : Addr) (sp : Sp) (dvs : List V) (E : XK) (vs : List V) (H : Hp) (Q : VK) : Prop := ∀ x dx, H x = none → H dx = none → dx ≠ x → sp (.ref x :: (vs ++ dvs)) (L2.upd (L2.upd H dx (.own x)) x (.ins C dx [])) (fun v H2 => v = .non ∧ Q (.ref x) H2) E
theorem go_mk {C : Addr} {sp : Sp} {dvs : List V} {E : L2.St → XK} (h : Go T L fun H => t σ H fun vs H1 => rMkC C sp dvs (E σ) vs H1 Q) : Go T L fun H => tMk C sp dvs E t σ H Q := h
theorem go_mkE {C : Addr} {sp : Sp} {dvs vs : List V} {E : XK} (h : ∀ x dx, Go T (pt x (.ins C dx []) :: L) fun H => sp (.ref x :: (vs ++ dvs)) H (fun v H2 => v = .non ∧ Q (.ref x) H2) E) : Go T L fun H => rMkC C sp dvs E vs H Q := fun H a b x dx nx nd ne =>
  h x dx _ ((a.fresh nd).new (by rw [upd_ne ne.symm]; exact nx)) ((b.new nd).new (by rw [upd_ne ne.symm]; exact nx))
theorem go_mkR {N : Hp → Prop} (h : Go T L N) : Go T L fun H => V.non = .non ∧ N H := fun H a b => ⟨rfl, h H a b⟩
/-- lists -/
theorem go_ixL {xs : List V} [r : RdL L a xs] (e : atI xs i = some v) (h : Go T L fun H => Q v H) : Go T L fun H => rIxL K (.ref a) (.int i) H Q := fun H x t => ⟨a, xs, i, v, rfl, rfl, .inl (r.rd H x), e, h H x t⟩
theorem go_ixT {xs : List V} [k : Kn T a xs] (e : atI xs i = some v) (h : Go T L fun H => Q v H) : Go T L fun H => rIxT K (.ref a) (.int i) H Q := fun H x t => ⟨a, xs, i, v, rfl, rfl, .inl (.inl t.get), e, h H x t⟩
theorem go_setL {xs xs' : List V} {k : Nat} {N : Hp → Prop} [Pull pt L a (.lst xs) R] (e : ixN xs.length i = some k) (e2 : xs.set k v = xs') (h : Go T (pt a (.lst xs') :: R) N) : Go T L fun H => rSetL (.ref a) (.int i) v H N := fun H x t => by
  subst e2
  exact ⟨a, xs, i, k, rfl, rfl, x.get, e, Go.upd a _ (fun xs z => by cases z) h H x t⟩
theorem go_setLc {xs xs' : List V} {N : Hp → Prop} [Pull pt L a (.lst xs) R] [s : SetI xs i v xs'] (h : Go T (pt a (.lst xs') :: R) N) : Go T L fun H => rSetL (.ref a) (.int i) v H N := by
  obtain ⟨k, e1, e2⟩ := s.eq
  exact go_setL e1 e2 h
theorem go_newL {xs : List V} (z : xs.length ≤ sizeLine) (h : ∀ p, Go T (pt p (.lst xs) :: L) fun H => Q (.ref p) H) : Go T L fun H => rNewL xs Q H := fun H x t => ⟨z, Go.new (P := fun p H => Q (.ref p) H) h H x t⟩
theorem go_newU {xs : List V} (z : xs.length ≤ sizeLine) (h : ∀ p, Go ((p, xs) :: T) L fun H => Q (.ref p) H) : Go T L fun H => rNewU xs Q H := fun H x t => ⟨z, Go.newT (P := fun p H => Q (.ref p) H) h H x t⟩
theorem go_tyL {xs : List V} {N : Hp → Prop} [r : RdL L a xs] (h : Go T L N) : Go T L fun H => tyV K "list" (.ref a) H ∧ N H := fun H x t => ⟨.inl ⟨rfl, xs, .inl (r.rd H x)⟩, h H x t⟩
theorem go_app {xs : List V} [Pull pt L a (.lst xs) R] (z : xs.length < sizeLine) (h : Go T (pt a (.lst (xs ++ [y])) :: R) fun H => Q .non H) : Go T L fun H => rAppend (.ref a) [y] H Q := fun H x t => ⟨a, xs, y, rfl, rfl, x.get, z, Go.upd a _ (fun xs z => by cases z) h H x t⟩
theorem go_ext {xs ys : List V} [Pull pt L a (.lst xs) R] [Pull pt L b (.lst ys) R2] (z : xs.length + ys.length ≤ sizeLine) (h : Go T (pt a (.lst (xs ++ ys)) :: R) fun H => Q .non H) : Go T L fun H => rExtend (.ref a) [.ref b] H Q := fun H x t =>
  ⟨a, b, xs, ys, rfl, rfl, x.get, x.get, z, Go.upd a _ (fun xs z => by cases z) h H x t⟩
theorem go_rep {xs : List V} [Pull pt L a (.lst xs) R] (z1 : -(2 ^ 63) ≤ i) (z2 : i < 2 ^ 63) (z : xs.length * i.toNat ≤ sizeLine) (h : ∀ p, Go T (pt p (.lst ((List.replicate i.toNat xs).flatten)) :: L) fun H => Q (.ref p) H) : Go T L fun H => rRep (.ref a) (.int i) H Q := fun H x t =>
  ⟨a, i, xs, rfl, rfl, x.get, z1, z2, z, Go.new h H x t⟩
theorem go_catL {xs ys : List V} [Pull pt L a (.lst xs) R] [Pull pt L b (.lst ys) R2] (z : xs.length + ys.length ≤ sizeLine) (h : ∀ p, Go T (pt p (.lst (xs ++ ys)) :: L) fun H => Q (.ref p) H) : Go T L fun H => rCat (.ref a) (.ref b) H Q := fun H x t =>
  ⟨a, b, xs, ys, rfl, rfl, x.get, x.get, z, Go.new h H x t⟩
/-- built-ins by name -/
theorem go_lenL {xs : List V} [r : RdL L a xs] (h : Go T L fun H => Q (.int xs.length) H) : Go T L fun H => ∃ p ys, [V.ref a] = [.ref p] ∧ (SqL K H p ys ∨ SqT K H p ys) ∧ Q (.int ys.length) H := fun H x t => ⟨a, xs, rfl, .inl (.inl (r.rd H x)), h H x t⟩
theorem go_lenU {xs : List V} [k : Kn T a xs] (h : Go T L fun H => Q (.int xs.length) H) : Go T L fun H => ∃ p ys, [V.ref a] = [.ref p] ∧ (SqL K H p ys ∨ SqT K H p ys) ∧ Q (.int ys.length) H := fun H x t => ⟨a, xs, rfl, .inr (.inl (.inl t.get)), h H x t⟩
def rListC (K : PySem.W.Frag) : List V → Hp → VK → Prop := fun xs H Q => ∃ p ys, xs = [.ref p] ∧ (SqL K H p ys ∨ SqT K H p ys) ∧ ∀ l, H l = none → Q (.ref l) (upd H l (.lst ys))
def rTupC (K : PySem.W.Frag) : List V → Hp → VK → Prop := fun xs H Q => ∃ a ys, xs = [.ref a] ∧ ((SqL K H a ys ∧ ∀ l, H l = none → Q (.ref l) (upd H l (.tup ys))) ∨ (SqT K H a ys ∧ Q (.ref a) H))
theorem go_list {xs : List V} [r : RdL L a xs] (h : ∀ l, Go T (pt l (.lst xs) :: L) fun H => Q (.ref l) H) : Go T L fun H => rListC K [.ref a] H Q := fun H x t => ⟨a, xs, rfl, .inl (.inl (r.rd H x)), Go.new (P := fun p H => Q (.ref p) H) h H x t⟩
theorem go_listU {xs : List V} [k : Kn T a xs] (h : ∀ l, Go T (pt l (.lst xs) :: L) fun H => Q (.ref l) H) : Go T L fun H => rListC K [.ref a] H Q := fun H x t => ⟨a, xs, rfl, .inr (.inl (.inl t.get)), Go.new (P := fun p H => Q (.ref p) H) h H x t⟩
theorem go_tupl {xs : List V} [r : RdL L a xs] (h : ∀ l, Go ((l, xs) :: T) L fun H => Q (.ref l) H) : Go T L fun H => rTupC K [.ref a] H Q := fun H x t => ⟨a, xs, rfl, .inl ⟨.inl (r.rd H x), Go.newT (P := fun p H => Q (.ref p) H) h H x t⟩⟩
/-- slices of lists -/
theorem go_nopart {N : Option Int → Hp → Prop} (h : Go T L fun H => N none H) : Go T L fun H => tNoPart σ H N := h
def rPart (x : V) (N : Option Int → Hp → Prop) (H : Hp) : Prop := ∃ i, x = .int i ∧ N (some i) H
theorem go_part {N : Option Int → Hp → Prop} (h : Go T L fun H => te σ H fun x H1 => rPart x N H1) : Go T L fun H => tPart te σ H N := h
theorem go_sli {N : Option Int → Hp → Prop} (h : Go T L fun H => N (some i) H) : Go T L fun H => rPart (.int i) N H := fun H x t => ⟨i, rfl, h H x t⟩
theorem go_sl0 {r : V → Option Int → Option Int → Hp → VK → Prop} {tl th : TO} (h : Go T L fun H => te σ H fun x H1 => tl σ H1 fun l H2 => th σ H2 fun u H3 => r x l u H3 Q) : Go T L fun H => tSl r te tl th σ H Q := h
theorem go_slL {xs : List V} {lo hi : Option Int} [r : RdL L a xs] (h : ∀ p, Go T (pt p (.lst (cutV xs lo hi)) :: L) fun H => Q (.ref p) H) : Go T L fun H => rSlL K (.ref a) lo hi H Q := fun H x t => ⟨a, xs, rfl, .inl (r.rd H x), Go.new h H x t⟩
end
end OC

set_option maxHeartbeats 4000000
/-! Words for calls of defs, methods, classes; operators that serve several kinds of values; their answers over a heap told by pieces. -/
namespace OC
open PySem PySem.Spec PySem.Calls PyProof.Rows L2
theorem _root_.L2H.RoomH.units {k : Nat} {A : Around} (r : L2H.RoomH k A) : A.units + 64 < cLine := by have := r.un; omega

/-! ### a def, a method, a class of the text, with its promise -/
section
variable (P : Program) (w : World) (K : PySem.W.Frag) (mg : Str → Option Value) (base : Heap)
structure FnD (x : Str) (k : Nat) (ps : List Str) (dvs : List V) (sp : Sp) : Prop where
  ex : ∃ f fd ds, FnOk P w K mg base (L2N.CX P w) k f fd ps sp ∧ mg x = some (.ref f) ∧ PySem.W.keepIn K (.ref f) = true ∧ Binds K fd ps ds ∧ Vals dvs ds
structure MeD (C : Addr) (m : Str) (k : Nat) (ps : List Str) (dvs : List V) (sp : Sp) : Prop where
  ex : ∃ f fd ds, FnOk P w K mg base (L2N.CX P w) k f fd ps sp ∧ Meth K C m f ∧ Binds K fd ps ds ∧ Vals dvs ds
structure MkD (C : Addr) (x : Str) (k : Nat) (ps : List Str) (dvs : List V) (sp : Sp) : Prop where
  ex : ∃ f fd ds, FnOk P w K mg base (L2N.CX P w) k f fd ps sp ∧ Mk K C f ∧ mg x = some (.ref C) ∧ Binds K fd ps ds ∧ Vals dvs ds
/-- an own error class, made and raised -/
structure RsD (C : Addr) (x : Str) (k : Nat) (ps : List Str) (dvs : List V) (sp : Sp) : Prop where
  ex : ∃ f fd ds, FnOk P w K mg base (L2N.CX P w) k f fd ps sp ∧ OexC K C ∧ PySem.W.findIn K (.ref C) "__init__" = some (some (.ref f)) ∧ PySem.W.typeIn K (.ref f) = some (.type "function") ∧ mg x = some (.ref C) ∧ Binds K fd ps ds ∧ Vals dvs ds
/-- a def as the top has made it -/
structure Tx (x qual : Str) (st : Stmt) (ps : List Str) (dvs : List V) : Prop where
  ex : ∃ f fd ds, FunG K x qual st f fd ∧ mg x = some (.ref f) ∧ Binds K fd ps ds ∧ Vals dvs ds
structure TxM (C : Addr) (x qual : Str) (st : Stmt) (ps : List Str) (dvs : List V) : Prop where
  ex : ∃ f fd ds, FunG K x qual st f fd ∧ Meth K C x f ∧ Binds K fd ps ds ∧ Vals dvs ds
structure TxI (C : Addr) (x qual : Str) (st : Stmt) (ps : List Str) (dvs : List V) : Prop where
  ex : ∃ f fd ds, FunG K "__init__" qual st f fd ∧ Mk K C f ∧ mg x = some (.ref C) ∧ Binds K fd ps ds ∧ Vals dvs ds
end
theorem FnD.mono {P : Program} {w : World} {K : PySem.W.Frag} {mg : Str → Option Value} {base : Heap} {x : Str} {j k : Nat} {ps : List Str} {dvs : List V} {sp : Sp} (D : FnD P w K mg base x j ps dvs sp) (h : j ≤ k) : FnD P w K mg base x k ps dvs sp := by
  obtain ⟨f, fd, ds, a, b⟩ := D.ex
  exact ⟨f, fd, ds, a.mono h, b⟩
section
variable {X : Cx} {k : Nat} {C : Addr} {ps : List Str} {sp : Sp} {dvs : List V} {E : L2.St → XK} {x m : Str} {p pos apos : Pos} {e o : Expr} {es : List Expr} {ta : TE} {t : TA}
theorem pe_clD (D : FnD X.prog X.w X.K X.mg X.base x k ps dvs sp) (hr : Room k X.A) (hg : Gl X x) (hx : ∀ σ, PassesAt (L2N.CX X.prog X.w) X σ (E σ))
    (ha : PA X (e :: es) t) (hdb : (x == ("__debug__" : Str)) = false := by decide) (he : starEach (e :: es) X.env = (false, eval e X.env) :: starEach es X.env := by rfl) (hpl : (backTo pos (starEach es X.env)).any (·.1) = false := by rfl) :
    PE X (.Call (.Name x p) (e :: es) [] pos) (tCallSD sp dvs E t) := by
  obtain ⟨f, fd, ds, Fk, hm, hk, hb, hd⟩ := D.ex
  exact pe_callSD Fk hr hg hm hk hb hd hx ha hdb he hpl
theorem pe_clD0 (D : FnD X.prog X.w X.K X.mg X.base x k ps dvs sp) (hr : Room k X.A) (hg : Gl X x) (hx : ∀ σ, PassesAt (L2N.CX X.prog X.w) X σ (E σ)) (hdb : (x == ("__debug__" : Str)) = false := by decide) : PE X (.Call (.Name x p) [] [] pos) (tCallSD sp dvs E tNil) := by
  obtain ⟨f, fd, ds, Fk, hm, hk, hb, hd⟩ := D.ex
  exact pe_cl0 Fk hr hg hm hk hb hd hx hdb
theorem pe_meD {pl : Sem Bool} (he : PE X o ta) (c : Cls X.K C) (D : MeD X.prog X.w X.K X.mg X.base C m k ps dvs sp) (hr : Room k X.A) (hx : ∀ σ, PassesAt (L2N.CX X.prog X.w) X σ (E σ)) (ha : PA X (e :: es) t)
    (hst : starEach (e :: es) X.env = (false, eval e X.env) :: starEach es X.env := by rfl) (hpl : (backTo pos (starEach es X.env)).any (·.1) = false := by rfl)
    (ht : eval (.Call (.Attribute o m apos) (e :: es) [] pos) X.env = (do
      let ov ← eval o X.env
      standAt apos.atName
      let (f, first) ← holding [ov] (getMethod ov m pl)
      callWith pos f first (backTo pos (starEach (e :: es) X.env)) (backToKw pos (keywordEach [] X.env))) := by rfl) :
    PE X (.Call (.Attribute o m apos) (e :: es) [] pos) (tMe C m sp dvs E ta t) := by
  obtain ⟨f, fd, ds, Fk, hm, hb, hd⟩ := D.ex
  exact pe_me he c hm Fk hr hb hd hx ha hst hpl ht
theorem pe_meD0 {pl : Sem Bool} (he : PE X o ta) (c : Cls X.K C) (D : MeD X.prog X.w X.K X.mg X.base C m k ps dvs sp) (hr : Room k X.A) (hx : ∀ σ, PassesAt (L2N.CX X.prog X.w) X σ (E σ))
    (ht : eval (.Call (.Attribute o m apos) [] [] pos) X.env = (do
      let ov ← eval o X.env
      standAt apos.atName
      let (f, first) ← holding [ov] (getMethod ov m pl)
      callWith pos f first (backTo pos (starEach [] X.env)) (backToKw pos (keywordEach [] X.env))) := by rfl) :
    PE X (.Call (.Attribute o m apos) [] [] pos) (tMe C m sp dvs E ta tNil) := by
  obtain ⟨f, fd, ds, Fk, hm, hb, hd⟩ := D.ex
  exact pe_me0 he c hm Fk hr hb hd hx ht
theorem pe_mkD (D : MkD X.prog X.w X.K X.mg X.base C x k ps dvs sp) (hr : Room (k + 1) X.A) (hg : Gl X x) (hx : ∀ σ, PassesAt (L2N.CX X.prog X.w) X σ (E σ))
    (ha : PA X (e :: es) t) (hdb : (x == ("__debug__" : Str)) = false := by decide) (he : starEach (e :: es) X.env = (false, eval e X.env) :: starEach es X.env := by rfl) (hpl : (backTo pos (starEach es X.env)).any (·.1) = false := by rfl) :
    PE X (.Call (.Name x p) (e :: es) [] pos) (tMk C sp dvs E t) := by
  obtain ⟨f, fd, ds, Fk, M, hm, hb, hd⟩ := D.ex
  exact pe_mk M Fk hr hg hm hb hd hx ha hdb he hpl
theorem pe_mkD0 (D : MkD X.prog X.w X.K X.mg X.base C x k ps dvs sp) (hr : Room (k + 1) X.A) (hg : Gl X x) (hx : ∀ σ, PassesAt (L2N.CX X.prog X.w) X σ (E σ)) (hdb : (x == ("__debug__" : Str)) = false := by decide) : PE X (.Call (.Name x p) [] [] pos) (tMk C sp dvs E tNil) := by
  obtain ⟨f, fd, ds, Fk, M, hm, hb, hd⟩ := D.ex
  exact pe_mk0 M Fk hr hg hm hb hd hx hdb
theorem passZ {X : Cx} : Passes (L2N.CX X.prog X.w) X (fun _ _ _ => False) := fun _ _ _ _ _ _ _ h => by
  obtain ⟨_, _, _, _, _, _, _, _, _, _, _, _, z⟩ := h
  exact z.elim
theorem pmk_D (D : RsD X.prog X.w X.K X.mg X.base C x k ps dvs sp) (hr : Room (k + 1) X.A) (hg : Gl X x) (ha : PA X (e :: es) t)
    (hdb : (x == ("__debug__" : Str)) = false := by decide) (he : starEach (e :: es) X.env = (false, eval e X.env) :: starEach es X.env := by rfl) (hpl : (backTo pos (starEach es X.env)).any (·.1) = false := by rfl) :
    L2N.PMk X (.Call (.Name x p) (e :: es) [] pos) (tMkO C sp dvs t) := by
  obtain ⟨f, fd, ds, Fk, ox, iC, tI, hm, hb, hd⟩ := D.ex
  exact pmk_oexN ox iC tI Fk hr hb hd passZ hg hm ha hdb he hpl
/-- e.f, a property -/
theorem pe_propD {p' g : Addr} {f : Str} {fd : FuncData} {ds : List Value} (he : PE X e ta) (c : Cls X.K C) (hp : PropOf X.K C f p' g) (Fk : FnOk X.prog X.w X.K X.mg X.base (L2N.CX X.prog X.w) k g fd ps sp) (hr : Room (k + 1) X.A) (hb : Binds X.K fd ps ds) (hd : Vals dvs ds)
    (hab : attributeBase e f X.env (eval e X.env) = eval e X.env := by rfl) : PE X (.Attribute e f pos) (tProp C sp dvs E0 ta) := pe_prop he c hp Fk hr hb hd (fun _ _ _ _ _ _ _ h => by
  obtain ⟨_, _, _, _, _, _, _, _, _, _, _, _, z⟩ := h
  exact z.elim) hab
/-- e.f = v, a property with a setter that may raise -/
structure SetOf (K : PySem.W.Frag) (C : Addr) (f : Str) (p g : Addr) : Prop where
  tak : PySem.W.takerIn K C f = some (some (.ref p))
  typ : PySem.W.typeIn K (.ref p) = some (.type "property")
  rec_ : ∃ a rest, PySem.W.recIn K p "property" = some (a :: .ref g :: rest)
def tSetP (C : Addr) (sp : Sp) (E : L2.St → XK) (tv to : TE) : TS := fun D σ H => tv σ H fun y H1 => to σ H1 fun x H2 => ∃ a dx fs, x = .ref a ∧ H2 a = some (.ins C dx fs) ∧ sp [.ref a, y] H2 (fun _ H3 => D.nx σ H3) (E σ)
theorem ps_setP {p' g : Addr} {f : Str} {fd : FuncData} {tv : TE} {v : Expr} (ho : PE X o ta) (hv : PE X v tv) (c : Cls X.K C) (hp : SetOf X.K C f p' g) (Fk : FnOk X.prog X.w X.K X.mg X.base (L2N.CX X.prog X.w) k g fd ps sp) (hr : Room (k + 2) X.A) (hb : Binds X.K fd ps []) (hx : ∀ σ, PassesAt (L2N.CX X.prog X.w) X σ (E σ))
    (hs : swapsWith v (some (.Attribute o f apos)) pos.line X.env = pure false := by rfl) : PS X (.Assign [.Attribute o f apos] v pos) (tSetP C sp E tv ta) := by
  refine ⟨fun pins s σ H D I h => ?_⟩
  refine plainObj_wpAny_Assign_Attribute (thn (hv.run pins s σ H _ I h) fun yv s1 ⟨y, H1, I1, r1, q1⟩ => thn (ho.run pins s1 σ H1 _ I1 q1) fun u s2 ⟨x, H2, I2, r2, a, dx, fs, ex, ea, q⟩ => ?_) hs
  subst ex
  obtain rfl : u = Value.ref a := r2
  obtain ⟨mA, O, _, _, _, _⟩ := ins_get I2.hok ea
  obtain ⟨od, J, _⟩ := O.look
  obtain ⟨a0, rest, hrec⟩ := hp.rec_
  have hl : ([Value.ref a, yv] ++ ([] : List Value)).length = ps.length := by
    rw [← Fk.len _ _ _ _ q]
    rfl
  have I3 := I2.tok (s2.toks + 1)
  refine PySem.W.set_plain I2.kIn J c.sa (PySem.W.osa_descr (s := { s2 with toks := s2.toks + 1 }) PySem.W.KF.slot_pset I2.kIn J c.po hp.tak hp.typ (PySem.W.prop_set (s := { s2 with toks := s2.toks + 1 }) I2.kIn hrec ?_))
  have hr2 : Room k X.A.in1.in1 := hr.in1.in1
  have b := hb { s2 with toks := s2.toks + 1 } [.ref a, yv] I2.kIn hl
  refine codeAny_mono (Fk.run _ X.stack _ H2 ⟨[.ref a, yv], []⟩ [.ref a, yv] [.ref a, y] _ (E σ) ?_ ?_ (by simpa using b) (.cons rfl (.cons r1 .nil)) q) fun r s' hq => ?_
  · exact hr2
  · exact I3.env0.in1.in1
  · cases r with
    | error er => exact hx σ pins H2 { s2 with toks := s2.toks + 1 } er s' I3 hq
    | ok fl =>
      cases fl with
      | ret u =>
        obtain ⟨v', H', I4, rv, q3⟩ := I3.after hq
        exact ⟨σ, H', I4, q3⟩
      | next => exact False.elim hq
      | brk => exact False.elim hq
      | cont => exact False.elim hq
end
end OC

set_option maxHeartbeats 4000000
namespace OC
open PySem PySem.Spec PySem.Calls PyProof.Rows L2

/-! ### operators for several kinds -/
section
variable {X : Cx} {K : PySem.W.Frag} {T : Tups} {L R R2 : List Chunk} {σ : L2.St} {Q : VK} {a b : Addr} {v x y : V} {i j : Int}
def rAddS : L2.R2 := fun x y H Q => ∃ i j, x = .str i ∧ y = .str j ∧ i.length + j.length ≤ sizeLine ∧ Q (.str (i ++ j)) H
def rAddI : L2.R2 := rI0 fun i j => .int (i + j)
def rAdd3 : L2.R2 := fun x y H Q => rAddI x y H Q ∨ (rCat x y H Q ∨ rAddS x y H Q)
theorem opAdd : OpR X (binaryOp .Add) rAdd3 := op_add.or (op_cat.or op_add_str)
def rMulI : L2.R2 := rI CMul fun i j => .int (i * j)
def rMul2 : L2.R2 := fun x y H Q => rMulI x y H Q ∨ rRep x y H Q
theorem opMul : OpR X (binaryOp .Mult) rMul2 := op_mul.or op_rep
def rEq2 (K : PySem.W.Frag) : L2.R2 := fun x y H Q => L2.rEq x y H Q ∨ rEqD K x y H Q
def rNe2 (K : PySem.W.Frag) : L2.R2 := fun x y H Q => L2.rNe x y H Q ∨ rNeD K x y H Q
theorem opEq (hu : X.A.units + 64 < cLine) : OpR X (compareOp .Eq) (rEq2 X.K) := op_eq.or (op_eqD hu)
theorem opNe (hu : X.A.units + 64 < cLine) : OpR X (compareOp .NotEq) (rNe2 X.K) := op_ne.or (op_neD hu)
theorem callOr {f : Value} {r r' : List V → Hp → VK → Prop} (h : CallR X f r) (h' : CallR X f r') : CallR X f (fun xs H Q => r xs H Q ∨ r' xs H Q) := fun pins s σ H xs us Q I rv q => q.elim (fun z => h pins s σ H xs us Q I rv z) fun z => h' pins s σ H xs us Q I rv z
def rLenS (K : PySem.W.Frag) : List V → Hp → VK → Prop := fun xs H Q => ∃ p ys, xs = [.ref p] ∧ (SqL K H p ys ∨ SqT K H p ys) ∧ Q (.int ys.length) H
def rLenT : List V → Hp → VK → Prop := fun xs H Q => ∃ z, xs = [.str z] ∧ z.length ≤ sizeLine ∧ Q (.int z.length) H
def rLen2 (K : PySem.W.Frag) : List V → Hp → VK → Prop := fun xs H Q => rLenS K xs H Q ∨ rLenT xs H Q
theorem callList : CallR X (.type "list") (rListC X.K) := call_list_of
theorem callTuple : CallR X (.type "tuple") (rTupC X.K) := call_tuple_of
theorem callLen : CallR X (.builtin "len") (rLen2 X.K) := callOr call_len_seq call_len_str

def rIntC : List V → Hp → VK → Prop := fun xs H Q => (∃ i, xs = [.int i] ∧ Q (.int i) H) ∨ ∃ k, xs = [.bl k] ∧ Q (.int (if k then 1 else 0)) H
def rAbsC : List V → Hp → VK → Prop := fun xs H Q => ∃ i, xs = [.int i] ∧ Q (.int (if i < 0 then -i else i)) H
def rMaxC : List V → Hp → VK → Prop := fun xs H Q => ∃ i j, xs = [.int i, .int j] ∧ Q (.int (if j > i then j else i)) H
def rMinC : List V → Hp → VK → Prop := fun xs H Q => ∃ i j, xs = [.int i, .int j] ∧ Q (.int (if j < i then j else i)) H
def rIsN : L2.R2 := fun x y H Q => y = .non ∧ Q (.bl (decide (x = .non))) H
def rNotN : L2.R2 := fun x y H Q => y = .non ∧ Q (.bl (!decide (x = .non))) H
theorem callInt : CallR X (.type "int") rIntC := call_int1
theorem callAbs : CallR X (.builtin "abs") rAbsC := call_abs
theorem callMax (hc : X.calm = true) : CallR X (.builtin "max") rMaxC := call_max2 hc
theorem callMin (hc : X.calm = true) : CallR X (.builtin "min") rMinC := call_min2 hc
theorem opIsN : OpR X (compareOp .Is) rIsN := op_isN
theorem opNotN : OpR X (compareOp .IsNot) rNotN := op_notN
theorem go_isN2 (h : Go T L fun H => Q (.bl (decide (x = .non))) H) : Go T L fun H => rIsN x .non H Q := fun H a b => ⟨rfl, h H a b⟩
theorem go_notN2 (h : Go T L fun H => Q (.bl (!decide (x = .non))) H) : Go T L fun H => rNotN x .non H Q := fun H a b => ⟨rfl, h H a b⟩
theorem go_int (h : Go T L fun H => Q (.int i) H) : Go T L fun H => rIntC [.int i] H Q := fun H x t => .inl ⟨i, rfl, h H x t⟩
theorem go_intB {k : Bool} (h : Go T L fun H => Q (.int (if k then 1 else 0)) H) : Go T L fun H => rIntC [.bl k] H Q := fun H x t => .inr ⟨k, rfl, h H x t⟩
theorem go_abs (h : Go T L fun H => Q (.int (if i < 0 then -i else i)) H) : Go T L fun H => rAbsC [.int i] H Q := fun H x t => ⟨i, rfl, h H x t⟩
theorem go_min2 (h : Go T L fun H => Q (.int (if j < i then j else i)) H) : Go T L fun H => rMinC [.int i, .int j] H Q := fun H x t => ⟨i, j, rfl, h H x t⟩
theorem go_max2 (h : Go T L fun H => Q (.int (if j > i then j else i)) H) : Go T L fun H => rMaxC [.int i, .int j] H Q := fun H x t => ⟨i, j, rfl, h H x t⟩
theorem go_addI (h : Go T L fun H => Q (.int (i + j)) H) : Go T L fun H => rAdd3 (.int i) (.int j) H Q := fun H a b => .inl ⟨i, j, rfl, rfl, h H a b⟩
theorem go_addL {xs ys : List V} [Pull pt L a (.lst xs) R] [Pull pt L b (.lst ys) R2] (z : xs.length + ys.length ≤ sizeLine) (h : ∀ p, Go T (pt p (.lst (xs ++ ys)) :: L) fun H => Q (.ref p) H) : Go T L fun H => rAdd3 (.ref a) (.ref b) H Q := fun H x t => .inr (.inl (go_catL z h H x t))
theorem go_addS {s t : Str} (z : s.length + t.length ≤ sizeLine) (h : Go T L fun H => Q (.str (s ++ t)) H) : Go T L fun H => rAdd3 (.str s) (.str t) H Q := fun H a b => .inr (.inr ⟨s, t, rfl, rfl, z, h H a b⟩)
theorem go_mulI (c : CMul i j) (h : Go T L fun H => Q (.int (i * j)) H) : Go T L fun H => rMul2 (.int i) (.int j) H Q := fun H a b => .inl ⟨i, j, rfl, rfl, c, h H a b⟩
theorem go_mulL {xs ys : List V} [Pull pt L a (.lst xs) R] (z1 : -(2 ^ 63) ≤ i) (z2 : i < 2 ^ 63) (z : xs.length * i.toNat ≤ sizeLine) (e : (List.replicate i.toNat xs).flatten = ys) (h : ∀ p, Go T (pt p (.lst ys) :: L) fun H => Q (.ref p) H) : Go T L fun H => rMul2 (.ref a) (.int i) H Q := fun H x t => by
  subst e
  exact .inr (go_rep z1 z2 z h H x t)
theorem go_mul1 [Pull pt L a (.lst [v]) R] (z1 : -(2 ^ 63) ≤ i) (z2 : i < 2 ^ 63) (z : i.toNat ≤ sizeLine) (h : ∀ p, Go T (pt p (.lst (List.replicate i.toNat v)) :: L) fun H => Q (.ref p) H) : Go T L fun H => rMul2 (.ref a) (.int i) H Q :=
  go_mulL (xs := [v]) z1 z2 (by rw [List.length_singleton, Nat.one_mul]; exact z) List.flatten_replicate_singleton h
theorem go_eq2I (h : Go T L fun H => Q (.bl (decide (i = j))) H) : Go T L fun H => rEq2 K (.int i) (.int j) H Q := fun H a b => .inl (go_eqI h H a b)
theorem go_ne2I (h : Go T L fun H => Q (.bl (!decide (i = j))) H) : Go T L fun H => rNe2 K (.int i) (.int j) H Q := fun H a b => .inl (go_neI h H a b)
theorem go_eq2S (e : scal x y = true) (h : Go T L fun H => Q (.bl (decide (x = y))) H) : Go T L fun H => rEq2 K x y H Q := fun H a b => .inl (go_eqS e h H a b)
theorem go_ne2S (e : scal x y = true) (h : Go T L fun H => Q (.bl (!decide (x = y))) H) : Go T L fun H => rNe2 K x y H Q := fun H a b => .inl (go_neS e h H a b)
theorem go_len2L {xs : List V} [r : RdL L a xs] (h : Go T L fun H => Q (.int xs.length) H) : Go T L fun H => rLen2 K [.ref a] H Q := fun H x t => .inl ⟨a, xs, rfl, .inl (.inl (r.rd H x)), h H x t⟩
theorem go_len2U {xs : List V} [k : Kn T a xs] (h : Go T L fun H => Q (.int xs.length) H) : Go T L fun H => rLen2 K [.ref a] H Q := fun H x t => .inl ⟨a, xs, rfl, .inr (.inl (.inl t.get)), h H x t⟩
theorem go_len2S {s : Str} (z : s.length ≤ sizeLine) (h : Go T L fun H => Q (.int s.length) H) : Go T L fun H => rLen2 K [.str s] H Q := fun H x t => .inr ⟨s, rfl, z, h H x t⟩
theorem go_sqL {xs : List V} [r : RdL L a xs] (e : atI xs i = some v) (h : Go T L fun H => Q v H) : Go T L fun H => rIx K (.ref a) (.int i) H Q := fun H x t => .inl (go_ixL e h H x t)
theorem go_sqT {xs : List V} [k : Kn T a xs] (e : atI xs i = some v) (h : Go T L fun H => Q v H) : Go T L fun H => rIx K (.ref a) (.int i) H Q := fun H x t => .inr (.inl (go_ixT e h H x t))
theorem go_sqLc {xs : List V} [r : RdL L a xs] [e : AtI xs i v] (h : Go T L fun H => Q v H) : Go T L fun H => rIx K (.ref a) (.int i) H Q := go_sqL e.eq h
theorem go_sqTc {xs : List V} [k : Kn T a xs] [e : AtI xs i v] (h : Go T L fun H => Q v H) : Go T L fun H => rIx K (.ref a) (.int i) H Q := go_sqT e.eq h
theorem go_sqS {s : Str} {c : Nat} (z : s.length ≤ sizeLine) (e : atI s.cps.toList i = some c) (h : Go T L fun H => Q (.str ⟨#[c]⟩) H) : Go T L fun H => rIx K (.str s) (.int i) H Q := fun H x t => .inr (.inr ⟨s, i, c, rfl, rfl, z, e, h H x t⟩)
end

/-! ### the same rules, the written part named -/
section
variable {X : Cx} {K : PySem.W.Frag}
theorem callLenK (hK : X.K = K := by rfl) : CallR X (.builtin "len") (rLen2 K) := hK ▸ callLen
theorem callListK (hK : X.K = K := by rfl) : CallR X (.type "list") (rListC K) := hK ▸ callList
theorem callTupleK (hK : X.K = K := by rfl) : CallR X (.type "tuple") (rTupC K) := hK ▸ callTuple
theorem callIsiK (hK : X.K = K := by rfl) : CallR X (.builtin "isinstance") (rIsi K) := hK ▸ call_isi
theorem ixSeqK (hK : X.K = K := by rfl) : IxR X (rIx K) := hK ▸ ix_seq
theorem slListK (hK : X.K = K := by rfl) : SlR X (rSlL K) := hK ▸ sl_list
theorem opEqK (hu : X.A.units + 64 < cLine) (hK : X.K = K := by rfl) : OpR X (compareOp .Eq) (rEq2 K) := hK ▸ opEq hu
theorem opNeK (hu : X.A.units + 64 < cLine) (hK : X.K = K := by rfl) : OpR X (compareOp .NotEq) (rNe2 K) := hK ▸ opNe hu
theorem pe_fldK {e : Expr} {ta : TE} {f : Str} {pos : Pos} (he : PE X e ta) (hK : X.K = K := by rfl) (hb : attributeBase e f X.env (eval e X.env) = eval e X.env := by rfl) : PE X (.Attribute e f pos) (tFld K ta f) := hK ▸ pe_fld he hb
end
/-! ### sep.join(list of texts) -/
section
variable {X : Cx} {K : PySem.W.Frag} {T : Tups} {L : List Chunk} {σ : L2.St} {Q : VK} {a : Addr} {to te : TE}
def rJoinC (K : PySem.W.Frag) : V → List V → Hp → VK → Prop := fun x xs H Q => ∃ a p, ∃ ys : List Str, x = .str a ∧ xs = [.ref p] ∧ (SqL K H p (ys.map V.str) ∨ SqT K H p (ys.map V.str)) ∧ (ys.map (·.length)).sum + ys.length * a.length ≤ 16777216 ∧ Q (.str (Txt.join a ys)) H
theorem pe_joinC {o e : Expr} {apos pos : Pos} (ho : PE X o to) (he : PE X e te) (hs : starEach [e] X.env = [(false, eval e X.env)] := by rfl) (hbase : attributeBase o "join" X.env (eval o X.env) = eval o X.env := by rfl) (hline : (apos.endLine == pos.line) = true := by rfl) (hK : X.K = K := by rfl) :
    PE X (.Call (.Attribute o "join" apos) [e] [] pos) (tM1 (rJoinC K) to te) := hK ▸ pe_join ho he hs hbase hline
def rStrS (r : V → List V → Hp → VK → Prop) (σ : L2.St) (te : TE) (x : V) (H1 : Hp) (Q : VK) : Prop := (∃ a, x = .str a) ∧ te σ H1 fun y H2 => r x [y] H2 Q
theorem go_m1 {r : V → List V → Hp → VK → Prop} (h : Go T L fun H => to σ H fun x H1 => rStrS r σ te x H1 Q) : Go T L fun H => tM1 r to te σ H Q := h
theorem go_strS {r : V → List V → Hp → VK → Prop} {s : Str} (h : Go T L fun H => te σ H fun y H2 => r (.str s) [y] H2 Q) : Go T L fun H => rStrS r σ te (.str s) H Q := fun H x t => ⟨⟨s, rfl⟩, h H x t⟩
theorem go_join {s : Str} {ys : List Str} [r : RdL L a (ys.map V.str)] (z : (ys.map (·.length)).sum + ys.length * s.length ≤ 16777216) (h : Go T L fun H => Q (.str (Txt.join s ys)) H) : Go T L fun H => rJoinC K (.str s) [.ref a] H Q := fun H x t => ⟨s, a, ys, rfl, rfl, .inl (.inl (r.rd H x)), z, h H x t⟩
end
/-! ### len(o), o of an own class with __len__ -/
section
variable {X : Cx} {k : Nat} {C : Addr} {ps : List Str} {sp : Sp} {dvs : List V}
def rLenO (C : Addr) (sp : Sp) : List V → Hp → VK → Prop := fun xs H Q => ∃ a dx fs, xs = [.ref a] ∧ H a = some (.ins C dx fs) ∧ sp [.ref a] H (fun v H' => ∃ n : Int, v = .int n ∧ 0 ≤ n ∧ n < 2 ^ 63 ∧ Q (.int n) H') E0
theorem call_lenO (D : MeD X.prog X.w X.K X.mg X.base C "__len__" k ps [] sp) (hr : Room (k + 1) X.A) : CallR X (.builtin "len") (rLenO C sp) := by
  intro pins s σ H xs us Q I rv ⟨a, dx, fs, ex, ea, q⟩
  subst ex
  obtain ⟨u, rfl, ru⟩ := vals1 rv
  obtain rfl : u = Value.ref a := ru
  obtain ⟨f, fd, ds, Fk, hm, hb, hd⟩ := D.ex
  cases hd
  obtain ⟨mA, O, _, _, _, _⟩ := ins_get I.hok ea
  obtain ⟨od, J, _⟩ := O.look
  obtain ⟨m, fr⟩ := I.fr
  have hl : ([Value.ref a] ++ ([] : List Value)).length = ps.length := by rw [← Fk.len _ _ _ _ q]; rfl
  have b := hb s [.ref a] I.kIn hl
  refine PySem.W.len_K fr I.ok.mod.kin J hm.at_ hm.fn (wpAny_call (codeAny_mono (Fk.run X.A.in1 X.stack s H ⟨[.ref a], []⟩ [.ref a] [.ref a] _ E0 hr.in1 I.env0.in1 (by simpa using b) (.cons rfl .nil) q) fun r s' hq => ?_))
  cases r with
  | error er => exact passN σ pins H s er s' I hq
  | ok fl =>
    cases fl with
    | ret u =>
      obtain ⟨v, H', I4, rv4, n, rfl, h0, h1, q4⟩ := I.after hq
      obtain ⟨t, rfl⟩ := rv4
      exact ⟨⟨h0, h1⟩, .int n, H', I4.tok _, ⟨_, rfl⟩, q4⟩
    | next => exact False.elim hq
    | brk => exact False.elim hq
    | cont => exact False.elim hq
end

/-! ### isinstance -/
class KitB (a b : String) (r : outParam Bool) : Prop where
  eq : kitB a b = some r
instance : KitB "NoneType" "bool" false := ⟨by decide +kernel⟩
instance : KitB "NoneType" "int" false := ⟨by decide +kernel⟩
instance : KitB "NoneType" "str" false := ⟨by decide +kernel⟩
instance : KitB "NoneType" "list" false := ⟨by decide +kernel⟩
instance : KitB "NoneType" "tuple" false := ⟨by decide +kernel⟩
instance : KitB "bool" "bool" true := ⟨by decide +kernel⟩
instance : KitB "bool" "int" true := ⟨by decide +kernel⟩
instance : KitB "bool" "str" false := ⟨by decide +kernel⟩
instance : KitB "bool" "list" false := ⟨by decide +kernel⟩
instance : KitB "bool" "tuple" false := ⟨by decide +kernel⟩
instance : KitB "int" "bool" false := ⟨by decide +kernel⟩
instance : KitB "int" "int" true := ⟨by decide +kernel⟩
instance : KitB "int" "str" false := ⟨by decide +kernel⟩
instance : KitB "int" "list" false := ⟨by decide +kernel⟩
instance : KitB "int" "tuple" false := ⟨by decide +kernel⟩
instance : KitB "str" "bool" false := ⟨by decide +kernel⟩
instance : KitB "str" "int" false := ⟨by decide +kernel⟩
instance : KitB "str" "str" true := ⟨by decide +kernel⟩
instance : KitB "str" "list" false := ⟨by decide +kernel⟩
instance : KitB "str" "tuple" false := ⟨by decide +kernel⟩
instance : KitB "list" "bool" false := ⟨by decide +kernel⟩
instance : KitB "list" "int" false := ⟨by decide +kernel⟩
instance : KitB "list" "str" false := ⟨by decide +kernel⟩
instance : KitB "list" "list" true := ⟨by decide +kernel⟩
instance : KitB "list" "tuple" false := ⟨by decide +kernel⟩
instance : KitB "tuple" "bool" false := ⟨by decide +kernel⟩
instance : KitB "tuple" "int" false := ⟨by decide +kernel⟩
instance : KitB "tuple" "str" false := ⟨by decide +kernel⟩
instance : KitB "tuple" "list" false := ⟨by decide +kernel⟩
instance : KitB "tuple" "tuple" true := ⟨by decide +kernel⟩
/-- the type of a value, over a heap told by pieces -/
class TyC (T : Tups) (L : List Chunk) (x : V) (t : outParam String) : Prop where
  ty : ∀ K H, Has H L → HasT H T → TyX K H x (.type t)
instance {T : Tups} {L : List Chunk} : TyC T L .non "NoneType" := ⟨fun _ _ _ _ => .base .non⟩
instance {T : Tups} {L : List Chunk} {b : Bool} : TyC T L (.bl b) "bool" := ⟨fun _ _ _ _ => .base (.bl b)⟩
instance {T : Tups} {L : List Chunk} {i : Int} : TyC T L (.int i) "int" := ⟨fun _ _ _ _ => .base (.int i)⟩
instance {T : Tups} {L : List Chunk} {s : Str} : TyC T L (.str s) "str" := ⟨fun _ _ _ _ => .base (.str s)⟩
instance {T : Tups} {L : List Chunk} {a : Addr} {xs : List V} [k : Kn T a xs] : TyC T L (.ref a) "tuple" := ⟨fun _ _ _ t => .base (.tup t.get)⟩
instance {T : Tups} {L : List Chunk} {a : Addr} {xs : List V} [r : RdL L a xs] : TyC T L (.ref a) "list" := ⟨fun _ H x _ => (r.rd H x).elim (fun e => .base (.lst e)) fun ⟨_, e⟩ => .base (.frz e)⟩
theorem go_isi {K : PySem.W.Frag} {T : Tups} {L : List Chunk} {Q : VK} {x : V} {t n : String} {r : Bool} [ty : TyC T L x t] [k : KitB t n r] (h : Go T L fun H => Q (.bl r) H) : Go T L fun H => rIsi K [x, .ty n] H Q := fun H a b =>
  ⟨x, .ty n, .type t, .type n, r, rfl, .ty n, ty.ty K H a b, kit_ty k.eq, h H a b⟩

/-! ### raise -/
section
variable {K : PySem.W.Frag} {T : Tups} {L : List Chunk} {σ : L2.St} {W : WX} {C : Addr} {sp : Sp} {dvs : List V} {ta : TA} {D : Ends} {N : XK}
theorem go_raise {t : L2.St → Hp → XK → Prop} (h : Go T L fun H => t σ H fun cls d H' => W cls d σ H') : Go T L fun H => (fun (_ : Ends) (σ : L2.St) (H : Hp) => t σ H fun cls d H' => W cls d σ H') D σ H := h
def rMkO (C : Addr) (sp : Sp) (dvs vs : List V) (H : Hp) (Q : XK) : Prop := vs.length ≤ 1000 ∧ ∀ a, H a = none → sp (.ref a :: (vs ++ dvs)) (upd H a (exo a C none))
  (fun v H2 => v = .non ∧ ∃ (d : Addr) (fs : List (Str × V)), H2 a = some (exo a C (some d)) ∧ H2 d = some (exd d fs) ∧ H d = none ∧ Q (.ref C) (some d) (upd (del H2 a) d (.xd fs))) (fun _ _ _ => False)
theorem go_tmkO {Q : XK} (h : Go T L fun H => ta σ H fun vs H1 => rMkO C sp dvs vs H1 Q) : Go T L fun H => tMkO C sp dvs ta σ H Q := h
/-- the promise of an own error's initialiser: nothing but the fields is said -/
def spErr (C : Addr) (n : Nat) (g : List V → List (Str × V)) : Sp := fun vs H Q _ => ∃ (a : Addr) (ws : List V), vs = .ref a :: ws ∧ ws.length = n ∧ H a = some (exo a C none) ∧
  ∀ dx, H dx = none → dx ≠ a → Q .non (upd (upd H dx (exd dx (g ws))) a (exo a C (some dx)))
/-- how a raised error is wished for: its dict stands as a new piece -/
def Rs (T : Tups) (L : List Chunk) (N : XK) (C : Addr) (fs : List (Str × V)) : Prop := ∀ d, Go T (pt d (.xd fs) :: L) fun H => N (.ref C) (some d) H
theorem go_mkO {n : Nat} {g : List V → List (Str × V)} {vs : List V} (hn : vs.length = n) (hz : vs.length ≤ 1000) (h : Rs T L N C (g vs)) : Go T L fun H => rMkO C (spErr C n g) [] vs H N := fun H x t => by
  refine ⟨hz, fun a na => ⟨a, vs ++ [], rfl, by rw [List.append_nil]; exact hn, upd_same, fun dx nd ne => ⟨rfl, dx, g (vs ++ []), upd_same, ?_, ?_, ?_⟩⟩⟩
  · rw [upd_ne ne, upd_same]
  · rw [upd_ne ne] at nd
    exact nd
  · have nd' : H dx = none := by rw [upd_ne ne] at nd; exact nd
    have e : upd (del (upd (upd (upd H a (exo a C none)) dx (exd dx (g (vs ++ [])))) a (exo a C (some dx))) a) dx (.xd (g (vs ++ []))) = upd H dx (.xd (g vs)) := by
      funext b
      by_cases h1 : b = dx
      · subst h1
        rw [upd_same, upd_same, List.append_nil]
      · rw [upd_ne h1, upd_ne h1]
        by_cases h2 : b = a
        · subst h2
          rw [del_same, na]
        · rw [del_ne h2, upd_ne h2, upd_ne h1, upd_ne h2]
    rw [e]
    exact h dx _ (x.new nd') (t.new nd')
end
theorem go_start {T : Tups} {L : List Chunk} {H : Hp} {P : Hp → Prop} (hs : Has H L) (ht : HasT H T) (h : Go T L P) : P H := h H hs ht
theorem sz100 {n : Nat} (h : n ≤ 1000000) : n ≤ sizeLine := Nat.le_trans h (by decide)
theorem sz100l {n : Nat} (h : n < 1000000) : n < sizeLine := Nat.lt_of_lt_of_le h (by decide)
theorem div9 {i j : Int} (h : 0 < j) (hb : j < 2 ^ 100) : CDivW i j := wide_div (b := 100) h (by omega) (by decide) (by decide)
theorem mul9 {i j : Int} (h1 : -(2 ^ 64) < i) (h2 : i < 2 ^ 64) : CMul i j := .inl ⟨h1, h2⟩
theorem mul8 {i j : Int} (h1 : -(2 ^ 64) < j) (h2 : j < 2 ^ 64) : CMul i j := .inr ⟨h1, h2⟩
end OC

set_option maxHeartbeats 4000000
/-! Loops and comprehensions over a heap told by pieces. -/
namespace OC
open PySem PySem.Spec PyProof.Rows L2
/-- what holds between two turns: of the slots, the tuples, the pieces -/
abbrev LI := Nat → L2.St → Tups → List Chunk → Prop
def At (I : LI) (i : Nat) (σ : L2.St) (H : Hp) : Prop := ∃ T L, I i σ T L ∧ Has H L ∧ HasT H T
def rFor (J : It) (g : TG) (tb : TS) (D : Ends) (σ : L2.St) (H1 : Hp) : Prop := ∃ W : Nat → Nat → L2.St → Hp → Prop, (∃ m, W 0 m σ H1) ∧ ∀ i m σ H, W i m σ H →
  (J.stop i H ∧ D.nx σ H) ∨ (J.go i H ∧ ∃ N : L2.St → Hp → Prop, (∀ σ' H', N σ' H' → ∃ m', m' < m ∧ W (i + 1) m' σ' H') ∧ ∀ x H', J.yld i H x H' → g x σ H' fun σ2 H2 => tb { D with nx := N, ct := N, bk := D.nx } σ2 H2)
section
variable {K : PySem.W.Frag} {T : Tups} {L : List Chunk} {σ : L2.St} {Q : VK} {D : Ends} {g : TG} {tb : TS} {ta : TA} {te tl : TE} {tt : TT} {a : Addr} {xs : List V} {i j lo : Int} {n : Nat} {vs : List Nat} {tc : TT}
theorem go_at {I : LI} {m : Nat} (h : I m σ T L) : Go T L fun H => At I m σ H := fun H x t => ⟨T, L, h, x, t⟩
theorem go_at' {I : LI} {m : Nat} {T' : Tups} {L' : List Chunk} (h : I m σ T' L') [Ent L L'] [Mo T' T] : Go T L fun H => At I m σ H := fun H x t => ⟨T', L', h, x.ent, t.more⟩
theorem go_for1 (h : Go T L fun H => ta σ H fun vs H1 => ∃ j : Int, vs = [.int j] ∧ -(2 ^ 62) ≤ j ∧ j < 2 ^ 62 ∧ rFor (Itr 0 j.toNat) g tb D σ H1) : Go T L fun H => tFor (iRng1 ta) g tb D σ H := h
theorem go_for2 (h : Go T L fun H => ta σ H fun vs H1 => ∃ i j : Int, vs = [.int i, .int j] ∧ (-(2 ^ 62) ≤ i ∧ i < 2 ^ 62 ∧ -(2 ^ 62) ≤ j ∧ j < 2 ^ 62) ∧ rFor (Itr i (j - i).toNat) g tb D σ H1) : Go T L fun H => tFor (iRng2 ta) g tb D σ H := h
theorem go_forL (h : Go T L fun H => tl σ H fun x H1 => ∃ a, x = .ref a ∧ (∃ xs, SqL K H1 a xs) ∧ rFor (Itl K a) g tb D σ H1) : Go T L fun H => tFor (iList K tl) g tb D σ H := h
theorem go_forU (h : Go T L fun H => tl σ H fun x H1 => ∃ a, x = .ref a ∧ (∃ xs, SqT K H1 a xs) ∧ rFor (Itt K a) g tb D σ H1) : Go T L fun H => tFor (iTup K tl) g tb D σ H := h
theorem go_rg1 (h1 : -(2 ^ 62) ≤ j) (h2 : j < 2 ^ 62) (h : Go T L fun H => rFor (Itr 0 j.toNat) g tb D σ H) : Go T L fun H => ∃ k : Int, [V.int j] = [.int k] ∧ -(2 ^ 62) ≤ k ∧ k < 2 ^ 62 ∧ rFor (Itr 0 k.toNat) g tb D σ H := fun H x t => ⟨j, rfl, h1, h2, h H x t⟩
theorem go_rg2 (hb : -(2 ^ 62) ≤ i ∧ i < 2 ^ 62 ∧ -(2 ^ 62) ≤ j ∧ j < 2 ^ 62) (h : Go T L fun H => rFor (Itr i (j - i).toNat) g tb D σ H) : Go T L fun H => ∃ a b : Int, [V.int i, V.int j] = [.int a, .int b] ∧ (-(2 ^ 62) ≤ a ∧ a < 2 ^ 62 ∧ -(2 ^ 62) ≤ b ∧ b < 2 ^ 62) ∧ rFor (Itr a (b - a).toNat) g tb D σ H := fun H x t => ⟨i, j, rfl, hb, h H x t⟩
theorem go_ovL [r : RdL L a xs] (h : Go T L fun H => rFor (Itl K a) g tb D σ H) : Go T L fun H => ∃ b, V.ref a = .ref b ∧ (∃ xs, SqL K H b xs) ∧ rFor (Itl K b) g tb D σ H := fun H x t => ⟨a, rfl, ⟨xs, .inl (r.rd H x)⟩, h H x t⟩
theorem go_ovU [k : Kn T a xs] (h : Go T L fun H => rFor (Itt K a) g tb D σ H) : Go T L fun H => ∃ b, V.ref a = .ref b ∧ (∃ xs, SqT K H b xs) ∧ rFor (Itt K b) g tb D σ H := fun H x t => ⟨a, rfl, ⟨xs, .inl (.inl t.get)⟩, h H x t⟩
/-- over a range -/
theorem go_range (I : LI) (h0 : I 0 σ T L) (hs : ∀ i σ T L, i < n → I i σ T L → Go T L fun H => g (.int (lo + i)) σ H fun σ2 H2 => tb { nx := At I (i + 1), rt := D.rt, bk := D.nx, ct := At I (i + 1) } σ2 H2) (hd : ∀ σ T L, I n σ T L → Go T L fun H => D.nx σ H) :
    Go T L fun H => rFor (Itr lo n) g tb D σ H := fun H x t =>
  for_range (At I) ⟨T, L, h0, x, t⟩ (fun i σ H hi ⟨T, L, h, x, t⟩ => hs i σ T L hi h H x t) (fun σ H ⟨T, L, h, x, t⟩ => hd σ T L h H x t)
/-- over a list that stands still -/
theorem go_over (I : LI) (h0 : I 0 σ T L) (hl : ∀ i σ T L, I i σ T L → RdL L a xs) (hs : ∀ i v σ T L, xs[i]? = some v → I i σ T L → Go T L fun H => g v σ H fun σ2 H2 => tb { nx := At I (i + 1), rt := D.rt, bk := D.nx, ct := At I (i + 1) } σ2 H2) (hd : ∀ σ T L, I xs.length σ T L → Go T L fun H => D.nx σ H) :
    Go T L fun H => rFor (Itl K a) g tb D σ H := fun H x t =>
  for_list (K := K) (a := a) (xs := xs) (At I) ⟨T, L, h0, x, t⟩ (fun i σ H _ ⟨T, L, h, x, t⟩ => .inl ((hl i σ T L h).rd H x)) (fun i v σ H hi ⟨T, L, h, x, t⟩ => hs i v σ T L hi h H x t) (fun σ H ⟨T, L, h, x, t⟩ => hd σ T L h H x t)
theorem go_overU (I : LI) (h0 : I 0 σ T L) (hl : ∀ i σ T L, I i σ T L → Kn T a xs) (hs : ∀ i v σ T L, xs[i]? = some v → I i σ T L → Go T L fun H => g v σ H fun σ2 H2 => tb { nx := At I (i + 1), rt := D.rt, bk := D.nx, ct := At I (i + 1) } σ2 H2) (hd : ∀ σ T L, I xs.length σ T L → Go T L fun H => D.nx σ H) :
    Go T L fun H => rFor (Itt K a) g tb D σ H := fun H x t =>
  for_tup (K := K) (a := a) (xs := xs) (At I) ⟨T, L, h0, x, t⟩ (fun i σ H _ ⟨T, L, h, x, t⟩ => .inl (.inl (t _ (hl i σ T L h).mem))) (fun i v σ H hi ⟨T, L, h, x, t⟩ => hs i v σ T L hi h H x t) (fun σ H ⟨T, L, h, x, t⟩ => hd σ T L h H x t)
/-- while: I by a number that falls -/
theorem go_while (I : LI) (m0 : Nat) (h0 : I m0 σ T L) (hs : ∀ m σ T L, I m σ T L → Go T L fun H => tc σ H fun b H1 => if b = true then tb { nx := fun σ' H' => ∃ m', m' < m ∧ At I m' σ' H', rt := D.rt, bk := D.nx, ct := fun σ' H' => ∃ m', m' < m ∧ At I m' σ' H' } σ H1 else D.nx σ H1)
    (mono : ∀ σ H (Q Q' : Bool → Hp → Prop), (∀ b H1, Q b H1 → Q' b H1) → tc σ H Q → tc σ H Q') : Go T L fun H => tWhile tc tb D σ H := fun H x t => by
  refine ⟨At I, ⟨m0, T, L, h0, x, t⟩, ?_⟩
  rintro m σ H ⟨T, L, h, x, t⟩
  refine mono σ H _ _ (fun b H1 q => ?_) (hs m σ T L h H x t)
  cases b with
  | true => exact ⟨_, fun σ' H' z => z, q⟩
  | false => exact q
theorem go_wend {I : LI} {m k : Nat} {T' : Tups} {L' : List Chunk} (h : I k σ T' L') (hk : k < m) [Ent L L'] [Mo T' T] : Go T L fun H => ∃ m', m' < m ∧ At I m' σ H := fun H x t => ⟨k, hk, T', L', h, x.ent, t.more⟩
/-- a statement, then the rest, with a word between them -/
theorem go_cut {t u : TS} (I : L2.St → Tups → List Chunk → Prop) (h : Go T L fun H => t { nx := At (fun _ => I) 0, rt := D.rt, bk := D.bk, ct := D.ct } σ H) (k : ∀ σ T L, I σ T L → Go T L fun H => u D σ H) : Go T L fun H => Evl.tCut t u D σ H := fun H x y =>
  ⟨At (fun _ => I) 0, h H x y, fun σ' H' ⟨T', L', i, x', y'⟩ => k σ' T' L' i H' x' y'⟩
/-! ### comprehensions -/
abbrev CI := Nat → Tups → List Chunk → List V → Prop
/-- behind a turn: the list at Dl has one item more, or not -/
def AtC (I : CI) (Dl : Addr) (i : Nat) (H : Hp) : Prop := ∃ T L acc, I i T L acc ∧ Has H (pt Dl (.lst acc) :: L) ∧ HasT H T
def rItem (I : CI) (Dl : Addr) (i : Nat) (y : V) (H : Hp) : Prop := ∃ acc, H Dl = some (.lst acc) ∧ acc.length < sizeLine ∧ AtC I Dl i (upd H Dl (.lst (acc ++ [y])))
theorem go_item {I : CI} {Dl : Addr} {m : Nat} {y : V} {acc : List V} {R : List Chunk} [p : Pull pt L Dl (.lst acc) R] (z : acc.length < sizeLine) (h : I m T R (acc ++ [y])) : Go T L fun H => rItem I Dl m y H := fun H x t =>
  ⟨acc, x.get, z, T, R, acc ++ [y], h, x.upd (o := .lst acc), t.upd (x.get (a := Dl) (o := .lst acc) (R := R)) fun xs z => by cases z⟩
theorem go_item' {I : CI} {Dl : Addr} {m : Nat} {y : V} {acc : List V} {R R' : List Chunk} {T' : Tups} [p : Pull pt L Dl (.lst acc) R] (z : acc.length < sizeLine) (h : I m T' R' (acc ++ [y])) [e : Ent R R'] [Mo T' T] : Go T L fun H => rItem I Dl m y H := fun H x t => by
  have x2 := x.upd (o := .lst acc) (a := Dl) (o' := .lst (acc ++ [y])) (R := R)
  exact ⟨acc, x.get, z, T', R', acc ++ [y], h, x2.ent, (t.upd (x.get (a := Dl) (o := .lst acc) (R := R)) fun xs z => by cases z).more⟩
theorem go_skip {I : CI} {Dl : Addr} {m : Nat} {acc : List V} {R : List Chunk} [p : Pull pt L Dl (.lst acc) R] (h : I m T R acc) : Go T L fun H => AtC I Dl m H := fun H x t => ⟨T, R, acc, h, x.pull (F := pt) (g := .lst acc), t⟩
def rLc (J : It) (g : TG) (tt : TT) (te : TE) (vs : List Nat) (σ : L2.St) (Q : VK) (H1 : Hp) : Prop := ∀ D, H1 D = none → ∃ W : Nat → Nat → Hp → Prop, (∃ m, W 0 m (upd H1 D (.lst []))) ∧ ∀ i m H, W i m H →
  (J.stop i H ∧ Q (.ref D) H) ∨ (J.go i H ∧ ∃ Nx : Hp → Prop, (∀ H', Nx H' → ∃ m', m' < m ∧ W (i + 1) m' H') ∧ ∀ x H', J.yld i H x H' → g x (wipe σ vs) H' fun σ2 H2 => wipe σ2 vs = wipe σ vs ∧ tt σ2 H2 fun b H3 =>
    if b = true then te σ2 H3 fun y H4 => ∃ acc, H4 D = some (.lst acc) ∧ acc.length < sizeLine ∧ Nx (upd H4 D (.lst (acc ++ [y]))) else Nx H3)
theorem go_lc1 (h : Go T L fun H => ta σ H fun us H1 => ∃ j : Int, us = [.int j] ∧ -(2 ^ 62) ≤ j ∧ j < 2 ^ 62 ∧ rLc (Itr 0 j.toNat) g tt te vs σ Q H1) : Go T L fun H => tLc (iRng1 ta) g tt te vs σ H Q := h
theorem go_lc2 (h : Go T L fun H => ta σ H fun us H1 => ∃ i j : Int, us = [.int i, .int j] ∧ (-(2 ^ 62) ≤ i ∧ i < 2 ^ 62 ∧ -(2 ^ 62) ≤ j ∧ j < 2 ^ 62) ∧ rLc (Itr i (j - i).toNat) g tt te vs σ Q H1) : Go T L fun H => tLc (iRng2 ta) g tt te vs σ H Q := h
theorem go_lcL (h : Go T L fun H => tl σ H fun x H1 => ∃ a, x = .ref a ∧ (∃ xs, SqL K H1 a xs) ∧ rLc (Itl K a) g tt te vs σ Q H1) : Go T L fun H => tLc (iList K tl) g tt te vs σ H Q := h
theorem go_rc1 (h1 : -(2 ^ 62) ≤ j) (h2 : j < 2 ^ 62) (h : Go T L fun H => rLc (Itr 0 j.toNat) g tt te vs σ Q H) : Go T L fun H => ∃ k : Int, [V.int j] = [.int k] ∧ -(2 ^ 62) ≤ k ∧ k < 2 ^ 62 ∧ rLc (Itr 0 k.toNat) g tt te vs σ Q H := fun H x t => ⟨j, rfl, h1, h2, h H x t⟩
theorem go_rc2 (hb : -(2 ^ 62) ≤ i ∧ i < 2 ^ 62 ∧ -(2 ^ 62) ≤ j ∧ j < 2 ^ 62) (h : Go T L fun H => rLc (Itr i (j - i).toNat) g tt te vs σ Q H) : Go T L fun H => ∃ a b : Int, [V.int i, V.int j] = [.int a, .int b] ∧ (-(2 ^ 62) ≤ a ∧ a < 2 ^ 62 ∧ -(2 ^ 62) ≤ b ∧ b < 2 ^ 62) ∧ rLc (Itr a (b - a).toNat) g tt te vs σ Q H := fun H x t => ⟨i, j, rfl, hb, h H x t⟩
theorem go_ocL [r : RdL L a xs] (h : Go T L fun H => rLc (Itl K a) g tt te vs σ Q H) : Go T L fun H => ∃ b, V.ref a = .ref b ∧ (∃ xs, SqL K H b xs) ∧ rLc (Itl K b) g tt te vs σ Q H := fun H x t => ⟨a, rfl, ⟨xs, .inl (r.rd H x)⟩, h H x t⟩
theorem go_wipe {N : Hp → Prop} {σ σ1 : L2.St} (e : wipe σ vs = σ1) (h : Go T L N) : Go T L fun H => wipe σ vs = σ1 ∧ N H := fun H x t => ⟨e, h H x t⟩
theorem go_yes {Q : Bool → Hp → Prop} (h : Go T L fun H => Q true H) : Go T L fun H => tYes σ H Q := h
theorem go_lcr {σw : L2.St} (hw : wipe σ vs = σw) (I : CI) (h0 : I 0 T L []) (hs : ∀ i T L acc Dl, i < n → I i T L acc → Go T (pt Dl (.lst acc) :: L) fun H => g (.int (lo + i)) σw H fun σ2 H2 => wipe σ2 vs = σw ∧ tt σ2 H2 fun b H3 => if b = true then te σ2 H3 fun y H4 => rItem I Dl (i + 1) y H4 else AtC I Dl (i + 1) H3)
    (hd : ∀ T L acc Dl, I n T L acc → Go T (pt Dl (.lst acc) :: L) fun H => Q (.ref Dl) H) : Go T L fun H => rLc (Itr lo n) g tt te vs σ Q H := fun H x t Dl nD => by
  subst hw
  exact lc_range (AtC I Dl) ⟨T, L, [], h0, x.new nD, t.new nD⟩ (fun i H hi ⟨T, L, acc, h, x, t⟩ => hs i T L acc Dl hi h H x t) (fun H ⟨T, L, acc, h, x, t⟩ => hd T L acc Dl h H x t)
theorem go_lcl {σw : L2.St} (hw : wipe σ vs = σw) (I : CI) (h0 : I 0 T L []) (hl : ∀ i T L acc, I i T L acc → RdL L a xs) (hs : ∀ i v T L acc Dl, xs[i]? = some v → I i T L acc → Go T (pt Dl (.lst acc) :: L) fun H => g v σw H fun σ2 H2 => wipe σ2 vs = σw ∧ tt σ2 H2 fun b H3 => if b = true then te σ2 H3 fun y H4 => rItem I Dl (i + 1) y H4 else AtC I Dl (i + 1) H3)
    (hd : ∀ T L acc Dl, I xs.length T L acc → Go T (pt Dl (.lst acc) :: L) fun H => Q (.ref Dl) H) : Go T L fun H => rLc (Itl K a) g tt te vs σ Q H := fun H x t Dl nD => by
  subst hw
  exact lc_list (K := K) (a := a) (xs := xs) (AtC I Dl) ⟨T, L, [], h0, x.new nD, t.new nD⟩ (fun i H _ ⟨T, L, acc, h, x, t⟩ => .inl ((hl i T L acc h).rd H x.tail)) (fun i v H hi ⟨T, L, acc, h, x, t⟩ => hs i v T L acc Dl hi h H x t) (fun H ⟨T, L, acc, h, x, t⟩ => hd T L acc Dl h H x t)
end
end OC

set_option maxHeartbeats 4000000
namespace OC
open PySem PySem.Spec PyProof.Rows L2
/-! ### properties, len(o), own errors -/
section
variable (P : Program) (w : World) (K : PySem.W.Frag) (mg : Str → Option Value) (base : Heap)
structure PrD (C : Addr) (f : Str) (k : Nat) (sp : Sp) : Prop where
  ex : ∃ p g fd, PropOf K C f p g ∧ FnOk P w K mg base (L2N.CX P w) k g fd ["self"] sp ∧ Binds K fd ["self"] []
structure StD (C : Addr) (f : Str) (k : Nat) (ps : List Str) (sp : Sp) : Prop where
  ex : ∃ p g fd, SetOf K C f p g ∧ FnOk P w K mg base (L2N.CX P w) k g fd ps sp ∧ Binds K fd ps []
structure TxP (C : Addr) (f qual : Str) (st : Stmt) : Prop where
  ex : ∃ p g fd, PropOf K C f p g ∧ FunG K f qual st g fd ∧ Binds K fd ["self"] []
structure TxS (C : Addr) (f qual : Str) (st : Stmt) (ps : List Str) : Prop where
  ex : ∃ p g fd, SetOf K C f p g ∧ FunG K f qual st g fd ∧ Binds K fd ps []
/-- an own error class as the top has made it -/
structure TxE (C : Addr) (x qual : Str) (st : Stmt) (ps : List Str) : Prop where
  ex : ∃ f oc od dV kV doc pm an cda cc ct osl fd, fd = PySem.W.ksFn "__init__" qual (defArgs st) (defBody st) (defScope st) dV kV doc pm an (.ref cda) ct cc ∧ K.lookup f = some ⟨oc, od, .func fd, osl⟩ ∧ PySem.W.codeIn K (.ref cda) qual = true ∧
    SupOk P K mg C C cc cda ∧ PySem.W.ks_superIn K C C "__init__" = some (some (.builtin "ValueError.__init__")) ∧ Binds K fd ps [] ∧ PySem.W.findIn K (.ref C) "__init__" = some (some (.ref f)) ∧ PySem.W.typeIn K (.ref f) = some (.type "function")
  oex : OexC K C
  subV : PySem.W.subIn K (.ref C) (.type "ValueError") = some true
  g : mg x = some (.ref C)
end
section
variable {X : Cx} {k : Nat} {C : Addr} {ps : List Str} {sp : Sp} {E : L2.St → XK} {x m f : Str} {p pos apos : Pos} {e o v : Expr} {ta tv : TE} {T : Tups} {L R : List Chunk} {σ : L2.St} {Q : VK} {a dx : Addr} {fs : List (Str × V)} {y : V} {D : Ends}
theorem pe_prD (he : PE X e ta) (c : Cls X.K C) (D : PrD X.prog X.w X.K X.mg X.base C f k sp) (hr : Room (k + 1) X.A) (hab : attributeBase e f X.env (eval e X.env) = eval e X.env := by rfl) : PE X (.Attribute e f pos) (tProp C sp [] E0 ta) := by
  obtain ⟨p, g, fd, hp, Fk, hb⟩ := D.ex
  exact pe_propD he c hp Fk hr hb .nil hab
theorem ps_stD (ho : PE X o ta) (hv : PE X v tv) (c : Cls X.K C) (D : StD X.prog X.w X.K X.mg X.base C f k ps sp) (hr : Room (k + 2) X.A) (hx : ∀ σ, PassesAt (L2N.CX X.prog X.w) X σ (E σ))
    (hs : swapsWith v (some (.Attribute o f apos)) pos.line X.env = pure false := by rfl) : PS X (.Assign [.Attribute o f apos] v pos) (tSetP C sp E tv ta) := by
  obtain ⟨p, g, fd, hp, Fk, hb⟩ := D.ex
  exact ps_setP ho hv c hp Fk hr hb hx hs
def rProp (C : Addr) (sp : Sp) (x : V) (H : Hp) (Q : VK) : Prop := ∃ a dx fs, x = .ref a ∧ H a = some (.ins C dx fs) ∧ sp [.ref a] H Q E0
theorem go_prop0 (h : Go T L fun H => ta σ H fun x H1 => rProp C sp x H1 Q) : Go T L fun H => tProp C sp [] E0 ta σ H Q := h
theorem go_prop [Pull pt L a (.ins C dx fs) R] (h : Go T L fun H => sp [.ref a] H Q E0) : Go T L fun H => rProp C sp (.ref a) H Q := fun H x t => ⟨a, dx, fs, rfl, x.get, h H x t⟩
def rSetP (C : Addr) (sp : Sp) (E : XK) (y x : V) (H : Hp) (N : Hp → Prop) : Prop := ∃ a dx fs, x = .ref a ∧ H a = some (.ins C dx fs) ∧ sp [.ref a, y] H (fun _ H3 => N H3) E
theorem go_setP0 (h : Go T L fun H => tv σ H fun y H1 => ta σ H1 fun x H2 => rSetP C sp (E σ) y x H2 fun H3 => D.nx σ H3) : Go T L fun H => tSetP C sp E tv ta D σ H := h
theorem go_setP {E : XK} {N : Hp → Prop} [Pull pt L a (.ins C dx fs) R] (h : Go T L fun H => sp [.ref a, y] H (fun _ H3 => N H3) E) : Go T L fun H => rSetP C sp E y (.ref a) H N := fun H x t => ⟨a, dx, fs, rfl, x.get, h H x t⟩
def rLenN (Q : VK) (v : V) (H' : Hp) : Prop := ∃ n : Int, v = .int n ∧ 0 ≤ n ∧ n < 2 ^ 63 ∧ Q (.int n) H'
theorem go_lenO [Pull pt L a (.ins C dx fs) R] (h : Go T L fun H => sp [.ref a] H (rLenN Q) E0) : Go T L fun H => rLenO C sp [.ref a] H Q := fun H x t => ⟨a, dx, fs, rfl, x.get, h H x t⟩
theorem go_lenE {n : Nat} (hn : n < 2 ^ 62) (h : Go T L fun H => Q (.int n) H) : Go T L fun H => rLenN Q (.int n) H := fun H x t => ⟨n, rfl, by omega, by omega, h H x t⟩
end
end OC

set_option maxHeartbeats 4000000
/-! Defs called where an error is handled: their words; the clause. -/
namespace OC
open PySem PySem.Spec PyProof.Rows L2 L2H
structure FxD (P : Program) (w : World) (K : PySem.W.Frag) (mg : Str → Option Value) (base : Heap) (x : Str) (k : Nat) (ps : List Str) (sp : Addr → Value → Option Addr → Sp) : Prop where
  ex : ∃ f fd, FnX P w K mg base (L2N.CX P w) k f fd ps sp ∧ mg x = some (.ref f) ∧ PySem.W.keepIn K (.ref f) = true ∧ Binds K fd ps []
section
variable {X : Cx} {k : Nat} {a : Addr} {oe : Obj} {cls : Value} {d : Option Addr} {ps : List Str} {sp : Addr → Value → Option Addr → Sp} {E : L2.St → XK} {x : Str} {q pos : Pos} {e : Expr} {es : List Expr} {t : TA}
theorem pe_clXD (D : FxD X.prog X.w X.K X.mg X.base x k ps sp) (hr : RoomH k X.A) (hot : Hot1 X.A (a, oe)) (hin : (a, oe) ∈ X.pn) (hz : L2N.Zn cls d oe) (hg : Gl X x) (hx : ∀ σ, PassesAt (L2N.CX X.prog X.w) X σ (E σ))
    (ha : PA X (e :: es) t) (hdb : (x == ("__debug__" : Str)) = false := by decide) (he : starEach (e :: es) X.env = (false, eval e X.env) :: starEach es X.env := by rfl) (hpl : (backTo pos (starEach es X.env)).any (·.1) = false := by rfl) :
    PE X (.Call (.Name x q) (e :: es) [] pos) (tCallSD (sp a cls d) [] E t) := by
  obtain ⟨f, fd, Fk, hm, hk, hb⟩ := D.ex
  exact pe_clX Fk hr hot hin hz hg hm hk hb hx ha hdb he hpl
end
section
variable {K : PySem.W.Frag} {T : Tups} {L R : List Chunk} {σ σ' : L2.St} {Q : VK} {a b dd Dc : Addr} {cls : Value} {d : Option Addr} {te : TE} {D : Ends} {fs : List (Str × V)} {v : V} {f : Str}
theorem go_isX {c : V} {cv : Value} {r : Bool} [Pull pt L dd (.xd fs) R] (C : ExcC K Dc) (hc : ∀ u, RelV c u → u = cv) (e : PySem.W.kitOne K (.ref Dc) cv = some r) (h : Go T L fun H => Q (.bl r) H) : Go T L fun H => rIsX K a (.ref Dc) (some dd) [.ref a, c] H Q := fun H x t =>
  ⟨Dc, dd, fs, c, cv, r, rfl, rfl, x.get, C, rfl, hc, e, h H x t⟩
def rXF (K : PySem.W.Frag) (a : Addr) (cls : Value) (d : Option Addr) (f : Str) (x : V) (H1 : Hp) (Q : VK) : Prop := ∃ (D dd : Addr) (fs : List (Str × V)) (v : V), x = .ref a ∧ cls = .ref D ∧ d = some dd ∧ H1 dd = some (.xd fs) ∧ XfC K D ∧ PySem.W.findIn K (.ref D) f = some none ∧ fs.lookup f = some v ∧ Q v H1
theorem go_xF0 (h : Go T L fun H => te σ H fun x H1 => rXF K a cls d f x H1 Q) : Go T L fun H => tXF K a cls d f te σ H Q := h
theorem go_xF [Pull pt L dd (.xd fs) R] (C : XfC K Dc) (n : PySem.W.findIn K (.ref Dc) f = some none) (l : fs.lookup f = some v) (h : Go T L fun H => Q v H) : Go T L fun H => rXF K a (.ref Dc) (some dd) f (.ref a) H Q := fun H x t =>
  ⟨Dc, dd, fs, v, rfl, rfl, rfl, x.get, C, n, l, h H x t⟩
theorem go_wAs {c : Value} {i : Nat} {ts : Addr → Value → Option Addr → TS} {Wout : WX} (e : PySem.W.exmOne K cls c = some true)
    (h : ∀ a, Go T L fun H => ts a cls d { nx := fun σ' H' => D.nx (σ'.set i none) H', rt := D.rt, bk := fun σ' H' => D.bk (σ'.set i none) H', ct := fun σ' H' => D.ct (σ'.set i none) H' } (σ.set i (some (.ref a))) H) : Go T L fun H => wAs K c i ts Wout D cls d σ H := fun H x t =>
  ⟨true, e, fun _ a _ => h a H x t, fun q => Bool.noConfusion q⟩
theorem go_eqD {x y : V} {p q : PyData} {r : Bool} (h1 : ∀ H, Has H L → HasT H T → Dp K H x p) (h2 : ∀ H, Has H L → HasT H T → Dp K H y q) (s1 : SeqAt.shaped p = true) (s2 : SeqAt.shaped q = true) (e : PyData.eqv p q = r) (h : Go T L fun H => Q (.bl r) H) : Go T L fun H => rEq2 K x y H Q := fun H a b => by
  subst e
  exact .inr ⟨p, q, h1 H a b, h2 H a b, s1, s2, h H a b⟩
theorem bl_all {H : Hp} : ∀ bs : List Bool, DpAll K H (bs.map V.bl) (bs.map PyData.bool)
  | [] => .nil
  | b :: r => .cons (.bl b) (bl_all r)
theorem go_eqBL {xs ys : List Bool} {p q : Addr} {r : Bool} [r1 : RdL L p (xs.map V.bl)] [r2 : RdL L q (ys.map V.bl)] (s1 : SeqAt.shaped (.list (xs.map PyData.bool)) = true) (s2 : SeqAt.shaped (.list (ys.map PyData.bool)) = true) (e : PyData.eqv (.list (xs.map PyData.bool)) (.list (ys.map PyData.bool)) = r) (h : Go T L fun H => Q (.bl r) H) : Go T L fun H => rEq2 K (.ref p) (.ref q) H Q :=
  go_eqD (fun H x t => .lst (.inl (r1.rd H x)) (bl_all xs)) (fun H x t => .lst (.inl (r2.rd H x)) (bl_all ys)) s1 s2 e h
end
end OC

set_option maxHeartbeats 4000000
/-! The script; what the top has made, fact by fact. -/
namespace OC
open PySem PySem.Spec PySem.Calls PyProof.Rows L2
theorem go_slLK {K : PySem.W.Frag} {T : Tups} {L : List Chunk} {Q : VK} {a : Addr} {xs : List V} {lo hi : Option Int} (r : ∀ H, Has H L → SqL K H a xs) (h : ∀ p, Go T (pt p (.lst (cutV xs lo hi)) :: L) fun H => Q (.ref p) H) : Go T L fun H => rSlL K (.ref a) lo hi H Q := fun H x t => ⟨a, xs, rfl, r H x, Go.new h H x t⟩
theorem has_one {H : Hp} {a : Addr} {o : HO} (h : H a = some o) : Has H [pt a o] := ⟨fun e he => by
  have z : e = (a, o) := by simpa [pt] using he
  subst z
  exact h, by simp [pt]⟩
theorem has_nil {H : Hp} : Has H [] := ⟨fun e he => (by cases he), .nil⟩
theorem script_at {K : PySem.W.Frag} {H : Hp} {a : Addr} {xs : List V} (h : SqL K H a xs) : ∃ L : List Chunk, Has H L ∧ ∀ H', Has H' L → SqL K H' a xs := by
  rcases h with (h | ⟨o, h⟩) | h
  · exact ⟨_, has_one h, fun H' x => .inl (.inl x.get)⟩
  · exact ⟨_, has_one h, fun H' x => .inl (.inr ⟨o, x.get⟩)⟩
  · exact ⟨[], has_nil, fun H' x => .inr h⟩
section
variable {P : Program} {K : PySem.W.Frag} {h : Heap} {mg : Str → Option Value} {C f g p cda cc : Addr} {x c qual : Str} {st : Stmt} {ps : List Str} {oc dV kV dc pm cd ct a0 : Value} {od an : Option Addr} {sl : Array (Option Value)} {rest : List Value}
/-- how such a def binds what it is called with -/
abbrev B0 (x qual : Str) (st : Stmt) (ps : List Str) : Prop := ∀ (kV doc pm : Value) (an : Option Addr) (cdv ct : Value) (us : List Value), us.length = ps.length → bindArgs (PySem.W.fnOf x qual (defArgs st) (defBody st) (defScope st) .none kV doc pm an cdv ct) ⟨us, []⟩ = pure (ps.zip us)
abbrev BE (qual : Str) (st : Stmt) (ps : List Str) : Prop := ∀ (kV doc pm : Value) (an : Option Addr) (cdv ct : Value) (cc : Addr) (us : List Value), us.length = ps.length → bindArgs (PySem.W.ksFn "__init__" qual (defArgs st) (defBody st) (defScope st) .none kV doc pm an cdv ct cc) ⟨us, []⟩ = pure (ps.zip us)
abbrev B1 (x qual : Str) (st : Stmt) (ps : List Str) (m n j : Nat) : Prop := ∀ (T : Addr) (kV doc pm : Value) (an : Option Addr) (cdv ct : Value) (us its : List Value), us.length = n → its.length = m →
  ∃ k, bindArgs (PySem.W.fnOf x qual (defArgs st) (defBody st) (defScope st) (.ref T) kV doc pm an cdv ct) ⟨us, []⟩ = seqItems? (.ref T) >>= k ∧ k (some its.toArray) = pure (ps.zip (us ++ its.drop j))
theorem funG_mk (l : K.lookup f = some ⟨oc, od, .func (PySem.W.fnOf x qual (defArgs st) (defBody st) (defScope st) dV kV dc pm an cd ct), sl⟩) (cc : PySem.W.codeIn K cd qual = true) (k : PySem.W.keepIn K (.ref f) = true) : FunG K x qual st f (PySem.W.fnOf x qual (defArgs st) (defBody st) (defScope st) dV kV dc pm an cd ct) :=
  ⟨⟨oc, od, dV, kV, dc, pm, an, cd, ct, sl, rfl, l, cc⟩, k⟩
theorem tx_mk (X : K.In h) (G : h.Ns mainGlobals mg) (a : PySem.W.nsIn K mainGlobals x = some (some (.ref f))) (l : K.lookup f = some ⟨oc, od, .func (PySem.W.fnOf x qual (defArgs st) (defBody st) (defScope st) .none kV dc pm an cd ct), sl⟩) (cc : PySem.W.codeIn K cd qual = true) (k : PySem.W.keepIn K (.ref f) = true) (b : B0 x qual st ps) : Tx K mg x qual st ps [] :=
  ⟨⟨f, _, [], funG_mk l cc k, PySem.W.mg_of X G a, .all (b _ _ _ _ _ _), .nil⟩⟩
theorem txm_mk (a : PySem.W.findIn K (.ref C) x = some (some (.ref f))) (i : PySem.W.isFn K (.ref f) = true) (l : K.lookup f = some ⟨oc, od, .func (PySem.W.fnOf x qual (defArgs st) (defBody st) (defScope st) .none kV dc pm an cd ct), sl⟩) (cc : PySem.W.codeIn K cd qual = true) (k : PySem.W.keepIn K (.ref f) = true) (b : B0 x qual st ps) : TxM K C x qual st ps [] :=
  ⟨⟨f, _, [], funG_mk l cc k, ⟨a, i, k⟩, .all (b _ _ _ _ _ _), .nil⟩⟩
theorem txi_mk (X : K.In h) (G : h.Ns mainGlobals mg) (aC : PySem.W.nsIn K mainGlobals c = some (some (.ref C))) (mk : PySem.W.makesIn K C = true) (a : PySem.W.findIn K (.ref C) "__init__" = some (some (.ref f))) (i : PySem.W.isFn K (.ref f) = true) (kC : PySem.W.keepIn K (.ref C) = true)
    (l : K.lookup f = some ⟨oc, od, .func (PySem.W.fnOf "__init__" qual (defArgs st) (defBody st) (defScope st) .none kV dc pm an cd ct), sl⟩) (cc : PySem.W.codeIn K cd qual = true) (k : PySem.W.keepIn K (.ref f) = true) (b : B0 "__init__" qual st ps) : TxI K mg C c qual st ps [] :=
  ⟨⟨f, _, [], funG_mk l cc k, ⟨mk, a, i, kC⟩, PySem.W.mg_of X G aC, .all (b _ _ _ _ _ _), .nil⟩⟩
theorem txi1_mk {Td : Addr} {cT : Value} {dT : Option Addr} {its : List Value} {nT : Nat} {sT : Array (Option Value)} (dvs : List V) (n j : Nat) (X : K.In h) (G : h.Ns mainGlobals mg) (aC : PySem.W.nsIn K mainGlobals c = some (some (.ref C))) (mk : PySem.W.makesIn K C = true) (a : PySem.W.findIn K (.ref C) "__init__" = some (some (.ref f))) (i : PySem.W.isFn K (.ref f) = true) (kC : PySem.W.keepIn K (.ref C) = true)
    (l : K.lookup f = some ⟨oc, od, .func (PySem.W.fnOf "__init__" qual (defArgs st) (defBody st) (defScope st) (.ref Td) kV dc pm an cd ct), sl⟩) (cc : PySem.W.codeIn K cd qual = true) (k : PySem.W.keepIn K (.ref f) = true) (lT : K.lookup Td = some ⟨cT, dT, .seq its.toArray nT, sT⟩) (vT : Vals dvs its) (hd : dvs ≠ []) (hn : n + (dvs.length - j) = ps.length) (b : B1 "__init__" qual st ps dvs.length n j) : TxI K mg C c qual st ps (dvs.drop j) := by
  have F : FunD K "__init__" qual (defArgs st) (defBody st) (defScope st) dvs [] f _ := ⟨⟨oc, od, .ref Td, kV, dc, pm, an, cd, ct, sl, rfl, l, cc, .inr ⟨hd, Td, _, its, nT, rfl, lT, rfl, vT⟩, .inl rfl⟩, k⟩
  obtain ⟨ds, r, B⟩ := F.binds1 n j hd hn b
  exact ⟨⟨f, _, ds, funG_mk l cc k, ⟨mk, a, i, kC⟩, PySem.W.mg_of X G aC, B, r⟩⟩
theorem txm1_mk {Td : Addr} {cT : Value} {dT : Option Addr} {its : List Value} {nT : Nat} {sT : Array (Option Value)} (dvs : List V) (n j : Nat) (a : PySem.W.findIn K (.ref C) x = some (some (.ref f))) (i : PySem.W.isFn K (.ref f) = true)
    (l : K.lookup f = some ⟨oc, od, .func (PySem.W.fnOf x qual (defArgs st) (defBody st) (defScope st) (.ref Td) kV dc pm an cd ct), sl⟩) (cc : PySem.W.codeIn K cd qual = true) (k : PySem.W.keepIn K (.ref f) = true) (lT : K.lookup Td = some ⟨cT, dT, .seq its.toArray nT, sT⟩) (vT : Vals dvs its) (hd : dvs ≠ []) (hn : n + (dvs.length - j) = ps.length) (b : B1 x qual st ps dvs.length n j) : TxM K C x qual st ps (dvs.drop j) := by
  have F : FunD K x qual (defArgs st) (defBody st) (defScope st) dvs [] f _ := ⟨⟨oc, od, .ref Td, kV, dc, pm, an, cd, ct, sl, rfl, l, cc, .inr ⟨hd, Td, _, its, nT, rfl, lT, rfl, vT⟩, .inl rfl⟩, k⟩
  obtain ⟨ds, r, B⟩ := F.binds1 n j hd hn b
  exact ⟨⟨f, _, ds, funG_mk l cc k, ⟨a, i, k⟩, B, r⟩⟩
theorem txp_mk (a : PySem.W.findIn K (.ref C) x = some (some (.ref p))) (gt : PySem.W.specialIn K (.ref p) "__get__" = some (some (.builtin "property.__get__"))) (tk : PySem.W.takesIn K (.ref p) = some true) (r : PySem.W.recIn K p "property" = some (.ref g :: rest))
    (l : K.lookup g = some ⟨oc, od, .func (PySem.W.fnOf x qual (defArgs st) (defBody st) (defScope st) .none kV dc pm an cd ct), sl⟩) (cc : PySem.W.codeIn K cd qual = true) (k : PySem.W.keepIn K (.ref g) = true) (b : B0 x qual st ["self"]) : TxP K C x qual st :=
  ⟨⟨p, g, _, ⟨a, gt, tk, rest, r⟩, funG_mk l cc k, .all (b _ _ _ _ _ _)⟩⟩
theorem txs_mk (a : PySem.W.takerIn K C x = some (some (.ref p))) (ty : PySem.W.typeIn K (.ref p) = some (.type "property")) (r : PySem.W.recIn K p "property" = some (a0 :: .ref g :: rest))
    (l : K.lookup g = some ⟨oc, od, .func (PySem.W.fnOf x qual (defArgs st) (defBody st) (defScope st) .none kV dc pm an cd ct), sl⟩) (cc : PySem.W.codeIn K cd qual = true) (k : PySem.W.keepIn K (.ref g) = true) (b : B0 x qual st ps) : TxS K C x qual st ps :=
  ⟨⟨p, g, _, ⟨a, ty, a0, rest, r⟩, funG_mk l cc k, .all (b _ _ _ _ _ _)⟩⟩
theorem noat_mk {f : Str} (h : PySem.W.findIn K (.ref C) f = some none) : NoAttr K C f := h
theorem cls_mk (pg : PySem.W.plainGet K C Str.empty = true) (hd : PySem.W.hasDictIn K C = true) (po : PySem.W.plainOver K C = true) (sa : PySem.W.findIn K (.ref C) "__setattr__" = some (some (.builtin "object.__setattr__"))) : Cls K C := ⟨pg, hd, po, sa⟩
theorem oex_mk {nm q : Str} {N : Addr} {bs bm : List Value} {sn : List Str} {sub : List Value} {ab : Bool} {col : Option Bool} {dd : Option Addr} {k0 k1 k2 k3 k5 : Option Value}
    (xL : K.lookup C = some (excClassObj nm q C N bs bm true sn sub ab col dd k0 k1 k2 k3 k5 "ValueError.__new__")) (hbm : PySem.HandSPX.refsVE bm = true) (sa : PySem.W.findIn K (.ref C) "__setattr__" = some (some (.builtin "object.__setattr__")))
    (eC : PySem.W.subIn K (.ref C) (.type "BaseException") = some true) (tC : PySem.W.typeIn K (.ref C) = some (.type "type")) (kC : PySem.W.keepIn K (.ref C) = true) : OexC K C :=
  ⟨⟨nm, q, N, bs, bm, sn, sub, ab, col, dd, k0, k1, k2, k3, k5, xL, hbm⟩, sa, eC, tC, kC⟩
theorem sup_mk {ccl : Value} {cdd : Option Addr} {vs : Array Value} {ccs : Array (Option Value)} {file : Str} {tf : Addr} {cl : Value} {cld : Option Addr} {csl : Array (Option Value)} {cdD : ClassData} (X : K.In h) (G : h.Ns mainGlobals mg)
    (lc : K.lookup cda = some ⟨ccl, cdd, .fields vs, ccs⟩) (hv : vs[2]? = some (.str file tf)) (hf : ((P.main.file : Str) == file) = true) (le : K.lookup cc = some ⟨cl, cld, .cell (some (.ref C)), csl⟩) (hD : PySem.W.clsIn K C = some cdD) (sub : PySem.W.mroIn K C (.ref C) = some true)
    (sup : PySem.W.nsIn K mainGlobals "super" = some none) (top : (P.main.scope.names.lookup ("super" : Str)).isSome = false) (opq : PySem.W.nsIn K cStatics "thirdparty.any" = some none) : SupOk P K mg C C cc cda :=
  ⟨⟨ccl, cdd, vs, ccs, file, tf, lc, hv, hf⟩, ⟨cl, cld, csl, le⟩, ⟨cdD, hD⟩, sub, PySem.W.mg_none_of X G sup, top, opq⟩
theorem txe_mk (X : K.In h) (G : h.Ns mainGlobals mg) (aC : PySem.W.nsIn K mainGlobals c = some (some (.ref C))) (a : PySem.W.findIn K (.ref C) "__init__" = some (some (.ref f))) (tI : PySem.W.typeIn K (.ref f) = some (.type "function"))
    (l : K.lookup f = some ⟨oc, od, .func (PySem.W.ksFn "__init__" qual (defArgs st) (defBody st) (defScope st) .none kV dc pm an (.ref cda) ct cc), sl⟩) (ccc : PySem.W.codeIn K (.ref cda) qual = true) (S : SupOk P K mg C C cc cda) (tg : PySem.W.ks_superIn K C C "__init__" = some (some (.builtin "ValueError.__init__")))
    (O : OexC K C) (sV : PySem.W.subIn K (.ref C) (.type "ValueError") = some true) (b : BE qual st ps) : TxE P K mg C c qual st ps :=
  ⟨⟨f, oc, od, .none, kV, dc, pm, an, cda, cc, ct, sl, _, rfl, l, ccc, S, tg, .all (b _ _ _ _ _ _ _), a, tI⟩, O, sV, PySem.W.mg_of X G aC⟩
theorem excC_mk (hg : PySem.W.findIn K (.ref C) "__getattribute__" = some (some (.builtin "BaseException.__getattribute__"))) (hk : PySem.W.findIn K (.ref C) "__getattr__" = some none) (hs : PySem.W.subIn K (.ref C) (.type "BaseException") = some true) (hd : PySem.W.hasDictIn K C = true)
    (ha : PySem.W.findIn K (.ref C) "__class__" = some (some (.builtin "object.__class__"))) (hn : PySem.W.specialIn K (.builtin "object.__class__") "__get__" = some (some (.builtin "getset_descriptor.__get__"))) (ht : PySem.W.takesIn K (.builtin "object.__class__") = some true) (hm : PySem.W.mroIn K C (.type "object") = some true) : ExcC K C ∧ XfC K C := ⟨⟨hg, hk, hs, hd, ha, hn, ht, hm⟩, ⟨hg, hk, hs, hd⟩⟩
end
end OC

set_option maxHeartbeats 4000000
/-! Lists of lists as one piece; enumerate; tuple targets; chains; in; count. -/
namespace OC
open PySem PySem.Spec PyProof.Rows L2
/-! ### rows -/
def rowsC (as : List Addr) (rows : List (List V)) : Chunk := List.zipWith (fun a r => (a, HO.lst r)) as rows
theorem rows_at : ∀ {as : List Addr} {rows : List (List V)} {i : Nat} {a : Addr} {r : List V}, as[i]? = some a → rows[i]? = some r → ∃ X : Chunk, ∀ r', (rowsC as (rows.set i r')).Perm (pt a (.lst r') ++ X)
  | [], _, _, _, _, h, _ => by cases h
  | _ :: _, [], _, _, _, _, h => by cases h
  | b :: as, s :: rows, 0, a, r, h1, h2 => by
    cases h1
    cases h2
    exact ⟨rowsC as rows, fun r' => .refl _⟩
  | b :: as, s :: rows, i + 1, a, r, h1, h2 => by
    obtain ⟨X, hX⟩ := rows_at (as := as) (rows := rows) (i := i) h1 h2
    exact ⟨(b, HO.lst s) :: X, fun r' => ((hX r').cons (b, HO.lst s)).trans (List.Perm.swap _ _ _)⟩
theorem set_same : ∀ {rows : List (List V)} {i : Nat} {r : List V}, rows[i]? = some r → rows.set i r = rows
  | [], _, _, h => by cases h
  | _ :: _, 0, _, h => by cases h; rfl
  | s :: rows, i + 1, r, h => by rw [List.set_cons_succ, set_same (rows := rows) h]
theorem rows_snoc {as : List Addr} {rows : List (List V)} (h : as.length = rows.length) {a : Addr} {r : List V} : rowsC (as ++ [a]) (rows ++ [r]) = rowsC as rows ++ pt a (.lst r) := by
  unfold rowsC
  rw [List.zipWith_append h]
  rfl
section
variable {K : PySem.W.Frag} {T : Tups} {L R : List Chunk} {σ σ' : L2.St} {Q : VK} {D : Ends} {g : TG} {tb : TS} {ta tb' tc : TE} {te tl : TE} {tt : TT} {a p : Addr} {as : List Addr} {rows : List (List V)} {xs r : List V} {i j : Nat} {x y v : V} {t : TA}
theorem rows_get {H : Hp} (h : Has H L) [q : PullC L (rowsC as rows) R] (h1 : as[i]? = some a) (h2 : rows[i]? = some r) : H a = some (.lst r) := by
  obtain ⟨X, hX⟩ := rows_at h1 h2
  have p1 := hX r
  rw [set_same h2] at p1
  refine h.at_ (a, .lst r) (q.perm.mem_iff.mpr (List.mem_append_left _ (p1.mem_iff.mpr ?_)))
  exact List.mem_cons_self
theorem rd_rows [q : PullC L (rowsC as rows) R] (h1 : as[i]? = some a) (h2 : rows[i]? = some r) : RdL L a r := ⟨fun H h => .inl (rows_get h h1 h2)⟩
theorem go_rows_app [q : PullC L (rowsC as rows) R] (h1 : as[i]? = some a) (h2 : rows[i]? = some r) (z : r.length < sizeLine) (h : Go T (rowsC as (rows.set i (r ++ [y])) :: R) fun H => Q .non H) : Go T L fun H => rAppend (.ref a) [y] H Q := fun H x t => by
  obtain ⟨X, hX⟩ := rows_at h1 h2
  have p1 := hX r
  rw [set_same h2] at p1
  have e := rows_get x h1 h2
  have x2 : Has H (pt a (.lst r) :: X :: R) := x.perm (q.perm.trans (by
    rw [List.flatten_cons, List.flatten_cons, ← List.append_assoc]
    exact List.Perm.append_right _ p1))
  have x3 := x2.upd (o := .lst r) (a := a) (o' := .lst (r ++ [y])) (R := X :: R)
  refine ⟨a, r, y, rfl, rfl, e, z, h _ (x3.perm ?_) (t.upd e fun xs z => by cases z)⟩
  rw [List.flatten_cons, List.flatten_cons, List.flatten_cons, ← List.append_assoc]
  exact List.Perm.append_right _ (hX (r ++ [y])).symm
theorem go_rows_nil {N : Hp → Prop} (h : Go T (rowsC [] [] :: L) N) : Go T L N := h.perm (.of_eq rfl)
theorem go_ext_rows {b : Addr} [q1 : Pull pt L b (.lst xs) R] {R2 : List Chunk} [q : PullC L (rowsC as rows) R2] (h1 : as[i]? = some a) (h2 : rows[i]? = some r) (z : xs.length + r.length ≤ sizeLine) (h : Go T (pt b (.lst (xs ++ r)) :: R) fun H => Q .non H) : Go T L fun H => rExtend (.ref b) [.ref a] H Q := fun H x t =>
  ⟨b, a, xs, r, rfl, rfl, x.get, rows_get x h1 h2, z, Go.upd b _ (fun xs z => by cases z) h H x t⟩
/-- a new row at the end -/
theorem go_rows_new (hl : as.length = rows.length) {N : Hp → Prop} (h : Go T (rowsC (as ++ [a]) (rows ++ [r]) :: L) N) : Go T (pt a (.lst r) :: rowsC as rows :: L) N := h.perm (by
  rw [List.flatten_cons, List.flatten_cons, List.flatten_cons, rows_snoc hl, ← List.append_assoc]
  exact List.Perm.append_right _ List.perm_append_comm)
/-! ### enumerate -/
def rEnum (K : PySem.W.Frag) (vs : List V) (H1 : Hp) (R : It → Hp → Prop) : Prop := ∃ a xs, vs = [.ref a] ∧ SqL K H1 a xs ∧ R (Ite K a) H1
theorem go_forE (h : Go T L fun H => t σ H fun vs H1 => rEnum K vs H1 fun J H1 => rFor J g tb D σ H1) : Go T L fun H => tFor (iEnum K t) g tb D σ H := h
theorem go_lcE {vs : List Nat} (h : Go T L fun H => t σ H fun us H1 => rEnum K us H1 fun J H1 => rLc J g tt te vs σ Q H1) : Go T L fun H => tLc (iEnum K t) g tt te vs σ H Q := h
theorem go_ren {N : It → Hp → Prop} [r : RdL L a xs] (h : Go T L fun H => N (Ite K a) H) : Go T L fun H => rEnum K [.ref a] H N := fun H x t => ⟨a, xs, rfl, .inl (r.rd H x), h H x t⟩
theorem sql_inj {H : Hp} {xs ys : List V} (h1 : H a = some (.lst xs)) (h2 : SqL K H a ys) (hn : ∀ o, H a ≠ some (.frz o (.lst ys))) (hk : ∀ o, K.lookup a = some o → H a = none) : xs = ys := by
  rcases h2 with (h2 | ⟨o, h2⟩) | ⟨o, _, _, h2, _⟩
  · rw [h1] at h2
    cases h2
    rfl
  · exact absurd h2 (hn o)
  · rw [hk o h2] at h1
    cases h1
/-- over enumerate of a list that stands still: the pair is a new tuple -/
theorem go_enum (I : LI) (h0 : I 0 σ T L) (hl : ∀ i σ T L, I i σ T L → RdL L a xs)
    (hs : ∀ i v σ T L q, xs[i]? = some v → I i σ T L → Go ((q, [.int (i : Nat), v]) :: T) L fun H => g (.ref q) σ H fun σ2 H2 => tb { nx := At I (i + 1), rt := D.rt, bk := D.nx, ct := At I (i + 1) } σ2 H2) (hd : ∀ σ T L, I xs.length σ T L → Go T L fun H => D.nx σ H) :
    Go T L fun H => rFor (Ite K a) g tb D σ H := fun H x t => by
  refine ⟨fun i m σ H => m = xs.length - i ∧ i ≤ xs.length ∧ At I i σ H, ⟨xs.length, rfl, Nat.zero_le _, T, L, h0, x, t⟩, ?_⟩
  rintro i m σ H ⟨rfl, hi, T1, L1, h, x1, t1⟩
  have rd := (hl i σ T1 L1 h).rd H x1
  by_cases hlt : i < xs.length
  · refine .inr ⟨⟨xs, xs[i], .inl rd, List.getElem?_eq_getElem hlt⟩, At I (i + 1), fun σ' H' q => ⟨xs.length - (i + 1), by omega, rfl, hlt, q⟩, ?_⟩
    rintro x' H' ⟨q, y, rfl, nq, rfl, hy⟩
    have e := hy xs (.inl rd)
    exact hs i y σ T1 L1 q e h _ (x1.fresh nq) fun e he => by
      rcases List.mem_cons.mp he with rfl | he
      · exact upd_same
      · exact t1.new nq e he
  · have e : i = xs.length := by omega
    subst e
    exact .inl ⟨⟨xs, .inl rd, Nat.le_refl _⟩, hd σ T1 L1 h H x1 t1⟩
theorem go_lce {σw : L2.St} {vs : List Nat} (hw : wipe σ vs = σw) (I : CI) (h0 : I 0 T L []) (hl : ∀ i T L acc, I i T L acc → RdL L a xs)
    (hs : ∀ i v T L acc Dl q, xs[i]? = some v → I i T L acc → Go ((q, [.int (i : Nat), v]) :: T) (pt Dl (.lst acc) :: L) fun H => g (.ref q) σw H fun σ2 H2 => wipe σ2 vs = σw ∧ tt σ2 H2 fun b H3 => if b = true then te σ2 H3 fun y H4 => rItem I Dl (i + 1) y H4 else AtC I Dl (i + 1) H3)
    (hd : ∀ T L acc Dl, I xs.length T L acc → Go T (pt Dl (.lst acc) :: L) fun H => Q (.ref Dl) H) : Go T L fun H => rLc (Ite K a) g tt te vs σ Q H := fun H x t Dl nD => by
  subst hw
  refine ⟨fun i m H => m = xs.length - i ∧ i ≤ xs.length ∧ AtC I Dl i H, ⟨xs.length, rfl, Nat.zero_le _, T, L, [], h0, x.new nD, t.new nD⟩, ?_⟩
  rintro i m H ⟨rfl, hi, T1, L1, acc, h, x1, t1⟩
  have rd := (hl i T1 L1 acc h).rd H x1.tail
  by_cases hlt : i < xs.length
  · refine .inr ⟨⟨xs, xs[i], .inl rd, List.getElem?_eq_getElem hlt⟩, AtC I Dl (i + 1), fun H' q => ⟨xs.length - (i + 1), by omega, rfl, hlt, q⟩, ?_⟩
    rintro x' H' ⟨q, y, rfl, nq, rfl, hy⟩
    have e := hy xs (.inl rd)
    exact hs i y T1 L1 acc Dl q e h _ (x1.fresh nq) fun e he => by
      rcases List.mem_cons.mp he with rfl | he
      · exact upd_same
      · exact t1.new nq e he
  · have e : i = xs.length := by omega
    subst e
    exact .inl ⟨⟨xs, .inl rd, Nat.le_refl _⟩, hd T1 L1 acc Dl h H x1 t1⟩
/-! ### a tuple taken apart -/
def rTupT (K : PySem.W.Frag) (n : Nat) (u : TGs) (σ : L2.St) (v : V) (H : Hp) (N : L2.St → Hp → Prop) : Prop := ∃ a xs, v = .ref a ∧ SqT K H a xs ∧ xs.length = n ∧ u xs σ H N
theorem go_gtup {n : Nat} {u : TGs} {N : L2.St → Hp → Prop} [k : Kn T a xs] (e : xs.length = n) (h : Go T L fun H => u xs σ H N) : Go T L fun H => gTup K n u (.ref a) σ H N := fun H x t => ⟨a, xs, rfl, .inl (.inl t.get), e, h H x t⟩
theorem go_gcons {u : TGs} {N : L2.St → Hp → Prop} (h : Go T L fun H => g v σ H fun σ' H' => u xs σ' H' N) : Go T L fun H => gCons g u (v :: xs) σ H N := fun H x t => ⟨v, xs, rfl, h H x t⟩
theorem go_gnil {N : L2.St → Hp → Prop} (h : Go T L fun H => N σ H) : Go T L fun H => gNil [] σ H N := fun H x t => ⟨rfl, h H x t⟩
/-! ### chains -/
def rCh (r' : L2.R2) (tc : TE) (σ : L2.St) (y : V) (Q : VK) (z : V) (H3 : Hp) : Prop := ∃ k, z = .bl k ∧ (if k = true then tc σ H3 fun w' H4 => r' y w' H4 Q else Q (.bl false) H3)
theorem go_chain {r r' : L2.R2} (h : Go T L fun H => ta σ H fun x H1 => tb' σ H1 fun y H2 => r x y H2 (rCh r' tc σ y Q)) : Go T L fun H => tChain r r' ta tb' tc σ H Q := h
theorem go_ch {r' : L2.R2} {c : Bool} (h : Go T L fun H => if c = true then tc σ H fun w' H4 => r' y w' H4 Q else Q (.bl false) H) : Go T L fun H => rCh r' tc σ y Q (.bl c) H := fun H x t => ⟨c, rfl, h H x t⟩
/-! ### in, count, insert, [::-1] -/
end
section
variable {X : Cx} {K : PySem.W.Frag} {T : Tups} {L R : List Chunk} {σ : L2.St} {Q : VK} {a : Addr} {xs : List V} {x y : V} {te : TE} {o e : Expr} {es : List Expr} {to : TE} {t : TA}
theorem opInK (hK : X.K = K := by rfl) : OpR X (compareOp .In) (rIn K false) := hK ▸ op_in_seq
theorem opNotInK (hK : X.K = K := by rfl) : OpR X (compareOp .NotIn) (rIn K true) := hK ▸ op_notIn_seq
theorem go_in [r : RdL L a xs] (f1 : flatV x = true) (f2 : xs.all flatV = true) (h : Go T L fun H => Q (.bl (inV x xs)) H) : Go T L fun H => rIn K false x (.ref a) H Q := fun H y t => ⟨a, xs, rfl, .inl (.inl (r.rd H y)), f1, f2, h H y t⟩
theorem go_notin [r : RdL L a xs] (f1 : flatV x = true) (f2 : xs.all flatV = true) (h : Go T L fun H => Q (.bl (!inV x xs)) H) : Go T L fun H => rIn K true x (.ref a) H Q := fun H y t => ⟨a, xs, rfl, .inl (.inl (r.rd H y)), f1, f2, h H y t⟩
theorem flat_ints (ns : List Int) : (ns.map V.int).all flatV = true := List.all_eq_true.mpr fun x hx => by
  obtain ⟨z, _, rfl⟩ := List.mem_map.mp hx
  rfl
theorem in_ints (k : Int) : ∀ ns : List Int, inV (.int k) (ns.map V.int) = decide (k ∈ ns)
  | [] => by simp [inV]
  | n :: r => by
    have ih := in_ints k r
    unfold inV at ih ⊢
    rw [List.map_cons, List.any_cons, ih]
    show ((n == k) || decide (k ∈ r)) = decide (k ∈ n :: r)
    by_cases h : n = k
    · subst h
      simp
    · simp [h, Ne.symm h]
theorem go_inI {ns : List Int} {k : Int} [r : RdL L a (ns.map V.int)] (h : Go T L fun H => Q (.bl (decide (k ∈ ns))) H) : Go T L fun H => rIn K false (.int k) (.ref a) H Q := go_in rfl (flat_ints ns) (by rw [in_ints]; exact h)
theorem go_notinI {ns : List Int} {k : Int} [r : RdL L a (ns.map V.int)] (h : Go T L fun H => Q (.bl (!decide (k ∈ ns))) H) : Go T L fun H => rIn K true (.int k) (.ref a) H Q := go_notin rfl (flat_ints ns) (by rw [in_ints]; exact h)
/-- count of flat values -/
def rCntV (K : PySem.W.Frag) : V → List V → Hp → VK → Prop := fun x vs H Q => ∃ (p : Addr) (xs : List V) (y : V), x = .ref p ∧ vs = [y] ∧ SqL K H p xs ∧ flatV y = true ∧ xs.all flatV = true ∧ Q (.int ((xs.countP (fun z => eqV z y) : Nat) : Int)) H
theorem cnt_eqU {x : V} : ∀ {xs : List V} {us : List Value}, Vals xs us → xs.all flatV = true → us.countP (eqU x) = xs.countP fun y => eqV y x
  | _, _, .nil, _ => rfl
  | y :: xs, u :: us, .cons r t, f => by
    rw [List.all_cons, Bool.and_eq_true] at f
    rw [List.countP_cons, List.countP_cons, eqU_of r f.1, cnt_eqU t f.2]
theorem mt_countV : MtR X "list.count" (rCntV X.K) := by
  intro pins s σ H x vs v us Q I rx rxs h
  obtain ⟨p, xs, y, rfl, rfl, hs, fy, fs, q⟩ := h
  cases rx
  obtain ⟨u, rfl, ru⟩ := rxs.one
  obtain ⟨its, rv, ⟨⟨cls, dd, data, sl⟩, n, ho, hc, hdn, hd⟩, hlen⟩ := I.list hs
  simp only at hc hd
  subst hc hd
  refine call_meets PySem.F.slot_list_count ⟨_, ho, rfl⟩ PySem.F.entry_list_count (PySem.F.args_list_count_2 _ _)
    (SeqAt.list_countAt p its.toArray n dd sl u (eqU y)) ⟨ho, fun z hz => mem_eqAt ru fy rv fs z (by simpa using hz), ?_⟩
  refine ⟨.int ((xs.countP (fun z => eqV z y) : Nat) : Int), H, I.tok _, ⟨s.toks, ?_⟩, q⟩
  show Value.int ((its.toArray.toList.countP (eqU y) : Nat) : Int) s.toks = _
  rw [← cnt_eqU rv fs]
theorem mt_countVK (hK : X.K = K := by rfl) : MtR X "list.count" (rCntV K) := hK ▸ mt_countV
def rIns : V → List V → Hp → VK → Prop := fun x vs H Q => ∃ (l : Addr) (xs : List V) (i : Int) (y : V), x = .ref l ∧ vs = [.int i, y] ∧ H l = some (.lst xs) ∧ xs.length < sizeLine ∧ 0 ≤ i ∧ i < 2 ^ 63 ∧ Q .non (upd H l (.lst (xs.take i.toNat ++ [y] ++ xs.drop i.toNat)))
theorem mtInsert : MtR X "list.insert" rIns := mt_insert
theorem go_ins {i : Int} [Pull pt L a (.lst xs) R] (z : xs.length < sizeLine) (h0 : 0 ≤ i) (h1 : i < 2 ^ 63) (h : Go T (pt a (.lst (xs.take i.toNat ++ [y] ++ xs.drop i.toNat)) :: R) fun H => Q .non H) : Go T L fun H => rIns (.ref a) [.int i, y] H Q := fun H x t =>
  ⟨a, xs, i, y, rfl, rfl, x.get, z, h0, h1, Go.upd a _ (fun xs z => by cases z) h H x t⟩
theorem pe_revLK {k : Nat} {p1 p2 p3 pos : Pos} (he : PE X e te) (hK : X.K = K := by rfl) : PE X (.Subscript e (.Slice none none (some (.UnaryOp .USub (.Constant (.int 1) k p1) p2)) p3) pos) (tRevL K te) := hK ▸ pe_revL he
def rRev (K : PySem.W.Frag) (x : V) (H1 : Hp) (Q : VK) : Prop := ∃ a xs, x = .ref a ∧ SqL K H1 a xs ∧ ∀ p, H1 p = none → Q (.ref p) (upd H1 p (.lst xs.reverse))
theorem go_rev0 (h : Go T L fun H => te σ H fun x H1 => rRev K x H1 Q) : Go T L fun H => tRevL K te σ H Q := h
theorem go_rev [r : RdL L a xs] (h : ∀ p, Go T (pt p (.lst xs.reverse) :: L) fun H => Q (.ref p) H) : Go T L fun H => rRev K (.ref a) H Q := fun H x t => ⟨a, xs, rfl, .inl (r.rd H x), Go.new h H x t⟩
def PV : Option Int → V
  | none => .non
  | some i => .int i
theorem flat_pv (os : List (Option Int)) : (os.map PV).all flatV = true := List.all_eq_true.mpr fun x hx => by
  obtain ⟨z, _, rfl⟩ := List.mem_map.mp hx
  cases z <;> rfl
theorem cnt_pv (k : Int) : ∀ os : List (Option Int), (os.map PV).countP (fun z => eqV z (.int k)) = os.count (some k)
  | [] => rfl
  | none :: r => by
    rw [List.map_cons, List.countP_cons, List.count_cons, cnt_pv k r]
    rfl
  | some n :: r => by
    rw [List.map_cons, List.countP_cons, List.count_cons, cnt_pv k r]
    show List.count (some k) r + (if (n == k) = true then 1 else 0) = List.count (some k) r + (if (some n == some k) = true then 1 else 0)
    rfl
theorem go_cntO {os : List (Option Int)} {k : Int} [r : RdL L a (os.map PV)] (h : Go T L fun H => Q (.int (os.count (some k) : Nat)) H) : Go T L fun H => rCntV K (.ref a) [.int k] H Q := fun H x t => ⟨a, os.map PV, .int k, rfl, rfl, .inl (r.rd H x), rfl, flat_pv os, by rw [cnt_pv]; exact h H x t⟩
end
section
variable {X : Cx} {K : PySem.W.Frag} {to : TE} {t : TA} {o e : Expr} {es : List Expr} {T name id : String} {r : V → List V → Hp → VK → Prop} {apos cpos : Pos}
theorem pe_bm0K (pa : PlainAttrs T) (slot : Slot T name id) (hty : typeOf (.builtin id) = pure (.type "method_descriptor")) (hm : MtR X id r) (ho : PE X o to) (hK : X.K = K := by rfl)
    (hbase : attributeBase o name X.env (eval o X.env) = eval o X.env := by rfl) (hline : (apos.endLine == cpos.line) = true := by rfl) : PE X (.Call (.Attribute o name apos) [] [] cpos) (tBM0 K T r to) := hK ▸ pe_bm0 pa slot hty hm ho hbase hline
theorem pe_bmK (pa : PlainAttrs T) (slot : Slot T name id) (hty : typeOf (.builtin id) = pure (.type "method_descriptor")) (hm : MtR X id r) (ho : PE X o to) (ha : PA X (e :: es) t) (hK : X.K = K := by rfl)
    (hbase : attributeBase o name X.env (eval o X.env) = eval o X.env := by rfl)
    (hfew : ((backTo cpos (starEach (e :: es) X.env)).all (fun x => !x.1) && (backToKw cpos (keywordEach [] X.env)).all (fun x => x.1.isSome)
      && decide ((e :: es).length + ([] : List Keyword).length + (if ([] : List Keyword).isEmpty then 0 else 1) < 30)) = true := by rfl)
    (hline : (apos.endLine == cpos.line) = true := by rfl) (hs : starEach (e :: es) X.env = (false, eval e X.env) :: starEach es X.env := by rfl) (hplain : (backTo cpos (starEach es X.env)).any (·.1) = false := by rfl) :
    PE X (.Call (.Attribute o name apos) (e :: es) [] cpos) (tBM K T r to t) := hK ▸ pe_bm pa slot hty hm ho ha hbase hfew hline hs hplain
theorem pg_tupK {es : List Expr} {k : Nat} {t : TGs} {n : Nat} {pos : Pos} (hc : X.calm = true) (h : PGs X es t) (hK : X.K = K := by rfl)
    (hn : (assignEach es X.env).length = n := by rfl) (hst : (assignEach es X.env).findIdx? (·.1) = none := by rfl) : PG X (.Tuple es k pos) (gTup K n t) := hK ▸ pg_tup hc h hn hst
end
end OC

set_option maxHeartbeats 4000000
/-! Own objects: ==, isinstance, methods of objects kept in closed pieces. -/
namespace OC
open PySem PySem.Spec PyProof.Rows L2
def rBool (Q : VK) (v : V) (H' : Hp) : Prop := ∃ k, v = .bl k ∧ Q (.bl k) H'
def rEqO (C : Addr) (sp : Sp) : L2.R2 := fun x y H Q => ∃ a b dx dy fs gs, x = .ref a ∧ y = .ref b ∧ H a = some (.ins C dx fs) ∧ H b = some (.ins C dy gs) ∧ sp [.ref a, .ref b] H (rBool Q) E0
section
variable {X : Cx} {k : Nat} {C : Addr} {ps : List Str} {sp : Sp}
theorem opEqO (D : MeD X.prog X.w X.K X.mg X.base C "__eq__" k ps [] sp) (hr : Room k X.A) : OpR X (compareOp .Eq) (rEqO C sp) := by
  intro pins s σ H x y v u Q I rx ry h
  obtain ⟨a, b, dx, dy, fs, gs, rfl, rfl, ha, hb', q⟩ := h
  obtain ⟨f, fd, ds, Fk, hm, hb, hd⟩ := D.ex
  cases hd
  cases rx
  cases ry
  obtain ⟨mA, J, _⟩ := ins_get I.hok ha
  obtain ⟨mB, J', _⟩ := ins_get I.hok hb'
  obtain ⟨od, J, _⟩ := J.look
  obtain ⟨od', J', _⟩ := J'.look
  obtain ⟨m, hF⟩ := I.fr
  show wpAny (model X.prog X.w) X.A (richCompare .Eq (.ref a) (.ref b)) (EP X pins σ Q) X.xe s
  refine PySem.W.cmp_K (op := .Eq) (tb := .ref C) (hr.mono (Nat.zero_le k)).units0 hF I.ok.mod.kin J J'.type (by simp [PySem.W.notFirst]) hm.at_ hm.fn ?_
  have hl := Fk.len _ _ _ _ q
  refine wpAny_call (codeAny_mono (Fk.run X.A X.stack s H ⟨[.ref a, .ref b], []⟩ [.ref a, .ref b] [.ref a, .ref b] _ E0 hr I.env0 (by
    have := hb s [.ref a, .ref b] I.kIn (by simpa using hl)
    simpa using this) (.cons rfl (.cons rfl .nil)) q) fun r s' hq => ?_)
  cases r with
  | error e => exact passN σ pins H s e s' I hq
  | ok fl =>
    cases fl with
    | ret w =>
      obtain ⟨z, H', I', rz, n, rfl, q4⟩ := I.after hq
      cases rz
      exact ⟨.bl n, H', I', rfl, q4⟩
    | next => exact False.elim hq
    | brk => exact False.elim hq
    | cont => exact False.elim hq
end
section
variable {K : PySem.W.Frag} {T : Tups} {L R R1 R2 : List Chunk} {σ : L2.St} {Q : VK} {a b C dx dy : Addr} {fs gs : List (Str × V)} {sp : Sp} {t : TA} {dvs : List V} {E : L2.St → XK} {m : Str}
/-- what stands at an address, whatever the pieces -/
class InsA (L : List Chunk) (a : Addr) (C : outParam Addr) (fs : outParam (List (Str × V))) : Prop where
  at_ : ∀ H, Has H L → ∃ dx, H a = some (.ins C dx fs)
instance InsA.tail {c : Chunk} [i : InsA L a C fs] : InsA (c :: L) a C fs := ⟨fun H h => i.at_ H h.tail⟩
instance InsA.head : InsA (pt a (.ins C dx fs) :: L) a C fs := ⟨fun H h => ⟨dx, h.at_ (a, .ins C dx fs) (by exact List.mem_cons_self)⟩⟩
theorem go_eqO [i1 : InsA L a C fs] [i2 : InsA L b C gs] (h : Go T L fun H => sp [.ref a, .ref b] H (rBool Q) E0) : Go T L fun H => rEqO C sp (.ref a) (.ref b) H Q := fun H x t => by
  obtain ⟨dx, e1⟩ := i1.at_ H x
  obtain ⟨dy, e2⟩ := i2.at_ H x
  exact ⟨a, b, dx, dy, fs, gs, rfl, rfl, e1, e2, h H x t⟩
theorem go_rbool {k : Bool} (h : Go T L fun H => Q (.bl k) H) : Go T L fun H => rBool Q (.bl k) H := fun H x t => ⟨k, rfl, h H x t⟩
theorem go_mecA [i : InsA L a C fs] [l : NoFld fs m] (h : Go T L fun H => t σ H fun vs H2 => sp (.ref a :: (vs ++ dvs)) H2 Q (E σ)) : Go T L fun H => rMe C m t sp dvs E σ (.ref a) H Q := fun H x t => by
  obtain ⟨dx, e⟩ := i.at_ H x
  exact ⟨a, dx, fs, rfl, e, l.eq, h H x t⟩
class InsC (K : PySem.W.Frag) (C : Addr) : Prop where
  cl : Cls K C
  ha : PySem.W.findIn K (.ref C) "__class__" = some (some (.builtin "object.__class__"))
  hn : PySem.W.specialIn K (.builtin "object.__class__") "__get__" = some (some (.builtin "getset_descriptor.__get__"))
  htk : PySem.W.takesIn K (.builtin "object.__class__") = some true
  hm : PySem.W.mroIn K C (.type "object") = some true
theorem kit_self {v : Value} : PySem.W.kitOne K v v = some true := by
  unfold PySem.W.kitOne
  rw [if_pos (beq_self_eq_true v)]
theorem go_isiO [i : InsA L a C fs] [c : InsC K C] (h : Go T L fun H => Q (.bl true) H) : Go T L fun H => rIsi K [.ref a, .ref C] H Q := fun H x t => by
  obtain ⟨dx, e⟩ := i.at_ H x
  exact ⟨.ref a, .ref C, .ref C, .ref C, true, rfl, .own C, .base (.ins e c.cl c.ha c.hn c.htk c.hm), kit_self, h H x t⟩
end
end OC

set_option maxHeartbeats 4000000
/-! == of lists of numbers (None among them). -/
namespace OC
open PySem PySem.Spec PyProof.Rows L2
def dP : Option Int → PyData
  | none => .none
  | some i => .int i
theorem lay_dP : ∀ os : List (Option Int), PyData.canLayAll0 (os.map dP) = true
  | [] => rfl
  | none :: r => by
    have ih := lay_dP r
    simp only [List.map, dP, PyData.canLayAll0, PyData.canLay0, ih, Bool.and_self]
  | some i :: r => by
    have ih := lay_dP r
    simp only [List.map, dP, PyData.canLayAll0, PyData.canLay0, ih, Bool.and_self]
theorem depth_dP : ∀ os : List (Option Int), PyData.depthAll (os.map dP) ≤ 1
  | [] => by simp [PyData.depthAll]
  | none :: r => by
    have ih := depth_dP r
    simp only [List.map, dP, PyData.depthAll, PyData.depth]
    omega
  | some i :: r => by
    have ih := depth_dP r
    simp only [List.map, dP, PyData.depthAll, PyData.depth]
    omega
theorem shaped_dP (os : List (Option Int)) : SeqAt.shaped (.list (os.map dP)) = true := by
  unfold SeqAt.shaped
  rw [Bool.and_eq_true]
  refine ⟨by simp only [PyData.canLay0]; exact lay_dP os, decide_eq_true ?_⟩
  have := depth_dP os
  simp only [PyData.depth]
  omega
theorem eqv_dP : ∀ xs ys : List (Option Int), PyData.eqvAll (xs.map dP) (ys.map dP) = decide (xs = ys)
  | [], [] => by simp [PyData.eqvAll]
  | [], _ :: _ => by simp [PyData.eqvAll]
  | _ :: _, [] => by simp [PyData.eqvAll]
  | a :: r, b :: s => by
    have ih := eqv_dP r s
    rw [List.map_cons, List.map_cons]
    unfold PyData.eqvAll
    rw [ih]
    cases a with
    | none => cases b with
      | none => simp [dP, PyData.eqv]
      | some j => simp [dP, PyData.eqv]
    | some i => cases b with
      | none => simp [dP, PyData.eqv]
      | some j =>
        simp [dP, PyData.eqv]
        rw [Bool.beq_eq_decide_eq]
theorem dp_all {K : PySem.W.Frag} {H : Hp} : ∀ os : List (Option Int), DpAll K H (os.map PV) (os.map dP)
  | [] => .nil
  | none :: r => .cons .non (dp_all r)
  | some i :: r => .cons (.int i) (dp_all r)
section
variable {K : PySem.W.Frag} {T : Tups} {L : List Chunk} {Q : VK} {a b : Addr} {xs ys : List (Option Int)} {ns ms : List Int}
theorem go_eqPS [r1 : RdL L a (xs.map PV)] [r2 : RdL L b (ys.map PV)] (h : Go T L fun H => Q (.bl (decide (xs = ys))) H) : Go T L fun H => rEq2 K (.ref a) (.ref b) H Q :=
  go_eqD (fun H x t => .lst (.inl (r1.rd H x)) (dp_all xs)) (fun H x t => .lst (.inl (r2.rd H x)) (dp_all ys)) (shaped_dP xs) (shaped_dP ys) (by unfold PyData.eqv; exact eqv_dP xs ys) h
theorem go_nePS [r1 : RdL L a (xs.map PV)] [r2 : RdL L b (ys.map PV)] (h : Go T L fun H => Q (.bl (!decide (xs = ys))) H) : Go T L fun H => rNe2 K (.ref a) (.ref b) H Q := fun H x t =>
  .inr ⟨_, _, .lst (.inl (r1.rd H x)) (dp_all xs), .lst (.inl (r2.rd H x)) (dp_all ys), shaped_dP xs, shaped_dP ys, by
    rw [show PyData.eqv (.list (xs.map dP)) (.list (ys.map dP)) = decide (xs = ys) by unfold PyData.eqv; exact eqv_dP xs ys]
    exact h H x t⟩
theorem ints_pv (ns : List Int) : ns.map V.int = (ns.map some).map PV := by
  rw [List.map_map]
  rfl
theorem some_inj {ns ms : List Int} : decide (ns.map some = ms.map some) = decide (ns = ms) := by
  by_cases h : ns = ms
  · subst h
    rw [decide_eq_true rfl, decide_eq_true rfl]
  · have h2 : ¬ ns.map some = ms.map some := fun z => h (by
      have q := congrArg (List.map fun (o : Option Int) => o.getD 0) z
      rw [List.map_map, List.map_map, show (fun (o : Option Int) => o.getD 0) ∘ some = id from rfl, List.map_id, List.map_id] at q
      exact q)
    rw [decide_eq_false h, decide_eq_false h2]
theorem go_eqIS [r1 : RdL L a (ns.map V.int)] [r2 : RdL L b (ms.map V.int)] (h : Go T L fun H => Q (.bl (decide (ns = ms))) H) : Go T L fun H => rEq2 K (.ref a) (.ref b) H Q := by
  haveI : RdL L a ((ns.map some).map PV) := by rw [← ints_pv]; exact r1
  haveI : RdL L b ((ms.map some).map PV) := by rw [← ints_pv]; exact r2
  exact go_eqPS (xs := ns.map some) (ys := ms.map some) (by rw [some_inj]; exact h)
theorem go_neIS [r1 : RdL L a (ns.map V.int)] [r2 : RdL L b (ms.map V.int)] (h : Go T L fun H => Q (.bl (!decide (ns = ms))) H) : Go T L fun H => rNe2 K (.ref a) (.ref b) H Q := by
  haveI : RdL L a ((ns.map some).map PV) := by rw [← ints_pv]; exact r1
  haveI : RdL L b ((ms.map some).map PV) := by rw [← ints_pv]; exact r2
  exact go_nePS (xs := ns.map some) (ys := ms.map some) (by rw [some_inj]; exact h)
variable {C : Addr} {fs : List (Str × V)} {f : Str} {v : V}
theorem go_fldA [i : InsA L a C fs] [t : Att K C f] [l : FldAt fs f v] (h : Go T L fun H => Q v H) : Go T L fun H => rFld K f (.ref a) H Q := fun H x y => by
  obtain ⟨dx, e⟩ := i.at_ H x
  exact ⟨a, C, dx, fs, v, rfl, e, t.cls, t.no, l.eq, h H x y⟩
end
end OC

set_option maxHeartbeats 4000000
/-! len(set(list of numbers)). -/
namespace OC
open PySem PySem.Spec PyProof.Rows L2
def metL (ns : List Int) (i : Nat) : List Int := firstMet (fun i => ns.getD i 0) i
def dlen (ns : List Int) : Nat := (metL ns ns.length).length
theorem metL_succ {ns : List Int} {i : Nat} : metL ns (i + 1) = step_dedup (metL ns i) (ns.getD i 0) := firstMet_succ _ _
theorem metL_le {ns : List Int} (i : Nat) : (metL ns i).length ≤ i := firstMet_length_le _ _
theorem met_full {ns : List Int} : ∀ i, (metL ns (i + 1)).length = i + 1 → (metL ns i).length = i := fun i h => by
  have h1 := metL_le (ns := ns) i
  rw [metL_succ] at h
  unfold step_dedup at h
  split at h
  · omega
  · rw [List.length_append, List.length_singleton] at h
    omega
theorem met_take {ns : List Int} : ∀ i, i ≤ ns.length → (metL ns i).length = i → metL ns i = ns.take i ∧ (ns.take i).Nodup
  | 0, _, _ => ⟨rfl, .nil⟩
  | i + 1, hi, h => by
    obtain ⟨e, nd⟩ := met_take i (by omega) (met_full i h)
    have hlt : i < ns.length := hi
    have eg : ns.getD i 0 = ns[i] := by rw [List.getD_eq_getElem?_getD, List.getElem?_eq_getElem hlt]; rfl
    rw [metL_succ, e, eg] at h ⊢
    unfold step_dedup at h ⊢
    by_cases q : ((ns.take i).any fun x => x == ns[i]) = true
    · rw [if_pos q, List.length_take] at h
      omega
    · rw [if_neg q, List.take_succ_eq_append_getElem hlt]
      refine ⟨rfl, List.nodup_append.mpr ⟨nd, List.nodup_cons.mpr ⟨List.not_mem_nil, .nil⟩, fun a ha b hb z => ?_⟩⟩
      rw [List.mem_singleton] at hb
      subst hb
      subst z
      exact q (List.any_eq_true.mpr ⟨_, ha, beq_self_eq_true _⟩)
theorem dlen_nd {ns : List Int} (h : ns.Nodup) : dlen ns = ns.length := by
  unfold dlen metL
  rw [firstMet_nodup ns h ns.length (Nat.le_refl _), List.take_length]
theorem dlen_le {ns : List Int} : dlen ns ≤ ns.length := metL_le _
theorem nd_dlen {ns : List Int} (h : ¬ dlen ns < ns.length) : ns.Nodup := by
  have := dlen_le (ns := ns)
  have := (met_take (ns := ns) ns.length (Nat.le_refl _) (by unfold dlen at *; omega)).2
  rwa [List.take_length] at this
section
variable {X : Cx} {K : PySem.W.Frag}
def tLenS (K : PySem.W.Frag) (ta : TE) : TE := fun σ H Q => ta σ H fun x H1 => ∃ (l : Addr) (ns : List Int), x = V.ref l ∧ SqL K H1 l (ns.map V.int) ∧ ns.length < 1000 ∧ Q (.int (dlen ns : Nat)) H1
theorem pe_lenS {a : Expr} {ta : TE} {p p2 q pos : Pos} (hc : X.calm = true) (hg : Gl X "len") (hm : X.mg "len" = none) (hg2 : Gl X "set") (hm2 : X.mg "set" = none) (ha : PE X a ta)
    (na : starEach [a] X.env = (false, eval a X.env) :: starEach [] X.env := by rfl) : PE X (.Call (.Name "len" p) [.Call (.Name "set" p2) [a] [] q] [] pos) (tLenS X.K ta) := by
  refine ⟨fun pins s σ H Q I h => ?_⟩
  refine Call_ (ld_blt I hg hm PySem.boot_len ?_)
  refine PyProof.Rows.callWith_builtin1 (PyProof.Rows.args_cons ?_ rfl) rfl rfl
  refine Call_ (ld_blt I hg2 hm2 PyProof.Rows.boot_set ?_)
  refine PyProof.Rows.callWith_type1 (PyProof.Rows.args_cons (thn (ha.run pins s σ H _ I h) fun v s1 ⟨x, H1, I1, r1, q1⟩ => PyProof.Rows.args_nil ?_) na) na rfl
  obtain ⟨l, ns, rfl, hq, h1, q1⟩ := q1
  cases r1
  obtain ⟨its, r, pl, hz⟩ := I1.list hq
  have hl : its.toArray.size = ns.length := by rw [List.size_toArray, ← r.length, List.length_map]
  have hdl := dlen_le (ns := ns)
  refine call_set_list (I1.ok.hd hc) pl.isList (ns := ns) (by simpa using r.ints) (by unfold scanBound; omega) fun h' tk hS hk => ?_
  rw [hl] at hS
  refine PyProof.Rows.args_nil ?_
  obtain ⟨o, es, ep, t, ho, hex, hd, _, _, _, hf, hn⟩ := hS
  have hn' : es.size = dlen ns := hn
  have I2 : Inv X pins σ H1 { s1 with heap := h', toks := tk } := I1.kept fun b o e => hk b o (Heap.lt_size e) e
  refine call_len_set ho hex hd hf (by rw [hn'] <;> omega) ⟨.int (dlen ns), H1, I2.tok _, ⟨_, by rw [hn']⟩, q1⟩
theorem pe_lenSK {a : Expr} {ta : TE} {p p2 q pos : Pos} (hc : X.calm = true) (hg : Gl X "len") (hm : X.mg "len" = none) (hg2 : Gl X "set") (hm2 : X.mg "set" = none) (ha : PE X a ta) (hK : X.K = K := by rfl)
    (na : starEach [a] X.env = (false, eval a X.env) :: starEach [] X.env := by rfl) : PE X (.Call (.Name "len" p) [.Call (.Name "set" p2) [a] [] q] [] pos) (tLenS K ta) := hK ▸ pe_lenS hc hg hm hg2 hm2 ha na
variable {T : Tups} {L : List Chunk} {σ : L2.St} {Q : VK} {l : Addr} {ns : List Int} {te : TE}
def rLenSt (K : PySem.W.Frag) (x : V) (H1 : Hp) (Q : VK) : Prop := ∃ (l : Addr) (ns : List Int), x = V.ref l ∧ SqL K H1 l (ns.map V.int) ∧ ns.length < 1000 ∧ Q (.int (dlen ns : Nat)) H1
theorem go_lenS0 (h : Go T L fun H => te σ H fun x H1 => rLenSt K x H1 Q) : Go T L fun H => tLenS K te σ H Q := h
theorem go_lenS [r : RdL L l (ns.map V.int)] (z : ns.length < 1000) (h : Go T L fun H => Q (.int (dlen ns : Nat)) H) : Go T L fun H => rLenSt K (.ref l) H Q := fun H x t => ⟨l, ns, rfl, .inl (r.rd H x), z, h H x t⟩
end
end OC

set_option maxHeartbeats 4000000
namespace OC
open PySem PySem.Spec PyProof.Rows L2
section
variable {X : Cx} {K : PySem.W.Frag} {a : Addr} {oe : Obj} {cls : Value} {d : Option Addr} {e : Expr} {te : TE} {pos : Pos} {n : Str}
theorem call_isXK (hin : (a, oe) ∈ X.pn) (hz : Zc cls d oe) (hf : ∃ vs, oe.data = .fields vs) (hK : X.K = K := by rfl) : CallR X (.builtin "isinstance") (rIsX K a cls d) := hK ▸ call_isX hin hz hf
theorem pe_xFK (hin : (a, oe) ∈ X.pn) (hz : Zc cls d oe) (hf : ∃ vs, oe.data = .fields vs) (he : PE X e te) (hK : X.K = K := by rfl)
    (hb : attributeBase e n X.env (eval e X.env) = eval e X.env := by rfl) : PE X (.Attribute e n pos) (tXF K a cls d n te) := hK ▸ pe_xF hin hz hf he hb
end
end OC

set_option maxHeartbeats 4000000
/-! Table trees in plain Lean: parents, children, the order from the top, weights. -/
namespace OC
abbrev Ps := List (Option Int)
def kidsF (ps : Ps) (t : Nat) : List Nat := (List.range ps.length).filter fun c => decide (ps[c]? = some (some (t : Int)))
def roots (ps : Ps) : List Nat := (List.range ps.length).filter fun c => decide (ps[c]? = some none)
def ordK (ps : Ps) : Nat → List Nat
  | 0 => roots ps
  | k + 1 => match (ordK ps k)[k]? with
    | some t => ordK ps k ++ kidsF ps t
    | none => ordK ps k
theorem mem_kids {ps : Ps} {t c : Nat} : c ∈ kidsF ps t ↔ ps[c]? = some (some (t : Int)) := by
  unfold kidsF
  rw [List.mem_filter, List.mem_range, decide_eq_true_iff]
  exact ⟨fun h => h.2, fun h => ⟨(List.getElem?_eq_some_iff.mp h).1, h⟩⟩
theorem mem_roots {ps : Ps} {c : Nat} : c ∈ roots ps ↔ ps[c]? = some none := by
  unfold roots
  rw [List.mem_filter, List.mem_range, decide_eq_true_iff]
  exact ⟨fun h => h.2, fun h => ⟨(List.getElem?_eq_some_iff.mp h).1, h⟩⟩
theorem nodup_inj {α : Type} {l : List α} (nd : l.Nodup) {i j : Nat} {x : α} (h1 : l[i]? = some x) (h2 : l[j]? = some x) : i = j := by
  obtain ⟨a1, a2⟩ := List.getElem?_eq_some_iff.mp h1
  obtain ⟨b1, b2⟩ := List.getElem?_eq_some_iff.mp h2
  rcases Nat.lt_trichotomy i j with h | h | h
  · exact absurd (a2.trans b2.symm) (List.pairwise_iff_getElem.mp nd i j a1 b1 h)
  · exact h
  · exact absurd (b2.trans a2.symm) (List.pairwise_iff_getElem.mp nd j i b1 a1 h)
theorem kids_nodup {ps : Ps} {t : Nat} : (kidsF ps t).Nodup := List.Pairwise.filter _ List.nodup_range
theorem roots_nodup {ps : Ps} : (roots ps).Nodup := List.Pairwise.filter _ List.nodup_range
theorem ord_succ {ps : Ps} {k t : Nat} (h : (ordK ps k)[k]? = some t) : ordK ps (k + 1) = ordK ps k ++ kidsF ps t := by
  show (match (ordK ps k)[k]? with | some t => ordK ps k ++ kidsF ps t | none => ordK ps k) = _
  rw [h]
theorem ord_stop {ps : Ps} {k : Nat} (h : (ordK ps k)[k]? = none) : ∀ j, ordK ps (k + j) = ordK ps k
  | 0 => rfl
  | j + 1 => by
    have ih := ord_stop h j
    have hl := List.getElem?_eq_none_iff.mp h
    show (match (ordK ps (k + j))[k + j]? with | some t => ordK ps (k + j) ++ kidsF ps t | none => ordK ps (k + j)) = _
    rw [ih, List.getElem?_eq_none (by omega)]
theorem ord_pre {ps : Ps} {k : Nat} : ∀ j, ordK ps k <+: ordK ps (k + j)
  | 0 => List.prefix_refl _
  | j + 1 => by
    refine (ord_pre j).trans ?_
    show _ <+: (match (ordK ps (k + j))[k + j]? with | some t => ordK ps (k + j) ++ kidsF ps t | none => ordK ps (k + j))
    cases (ordK ps (k + j))[k + j]? with
    | none => exact List.prefix_refl _
    | some t => exact List.prefix_append _ _
/-- what is known of each stage -/
theorem ord_inv {ps : Ps} : ∀ k, (ordK ps k).Nodup ∧ ∀ c ∈ ordK ps k, ps[c]? = some none ∨ ∃ t i : Nat, ps[c]? = some (some (t : Int)) ∧ i < k ∧ (ordK ps k)[i]? = some t
  | 0 => ⟨roots_nodup, fun c hc => .inl (mem_roots.mp hc)⟩
  | k + 1 => by
    obtain ⟨nd, h⟩ := ord_inv (ps := ps) k
    cases e : (ordK ps k)[k]? with
    | none =>
      rw [ord_stop e 1]
      refine ⟨nd, fun c hc => ?_⟩
      rcases h c hc with h | ⟨t, i, h1, h2, h3⟩
      · exact .inl h
      · exact .inr ⟨t, i, h1, by omega, h3⟩
    | some t =>
      rw [ord_succ e]
      refine ⟨List.nodup_append.mpr ⟨nd, kids_nodup, fun c hc d hd z => ?_⟩, fun c hc => ?_⟩
      · subst z
        have hk := mem_kids.mp hd
        rcases h c hc with h | ⟨u, i, h1, h2, h3⟩
        · rw [h] at hk
          cases hk
        · rw [h1] at hk
          have : u = t := by
            have z := Option.some.inj (Option.some.inj hk)
            omega
          subst this
          have := nodup_inj nd h3 e
          omega
      · rcases List.mem_append.mp hc with hc | hc
        · rcases h c hc with h | ⟨u, i, h1, h2, h3⟩
          · exact .inl h
          · refine .inr ⟨u, i, h1, by omega, ?_⟩
            rw [List.getElem?_append_left (List.getElem?_eq_some_iff.mp h3).1]
            exact h3
        · refine .inr ⟨t, k, mem_kids.mp hc, by omega, ?_⟩
          rw [List.getElem?_append_left (List.getElem?_eq_some_iff.mp e).1]
          exact e
theorem ord_lt {ps : Ps} {k c : Nat} (h : c ∈ ordK ps k) : c < ps.length := by
  rcases (ord_inv k).2 c h with h | ⟨_, _, h, _⟩
  · exact (List.getElem?_eq_some_iff.mp h).1
  · exact (List.getElem?_eq_some_iff.mp h).1
theorem len_sub : ∀ {l m : List Nat}, l.Nodup → (∀ x ∈ l, x ∈ m) → l.length ≤ m.length
  | [], m, _, _ => Nat.zero_le _
  | x :: l, m, nd, h => by
    have hx := h x List.mem_cons_self
    obtain ⟨a, b, rfl⟩ := List.append_of_mem hx
    rw [List.nodup_cons] at nd
    have := len_sub (m := a ++ b) nd.2 fun y hy => by
      have hm := h y (List.mem_cons_of_mem _ hy)
      have ne : y ≠ x := fun z => nd.1 (z ▸ hy)
      rcases List.mem_append.mp hm with q | q
      · exact List.mem_append_left _ q
      · rcases List.mem_cons.mp q with q | q
        · exact absurd q ne
        · exact List.mem_append_right _ q
    rw [List.length_append] at this
    rw [List.length_cons, List.length_append, List.length_cons]
    omega
theorem ord_len {ps : Ps} (k : Nat) : (ordK ps k).length ≤ ps.length := by
  have := len_sub (m := List.range ps.length) (ord_inv (ps := ps) k).1 fun x hx => List.mem_range.mpr (ord_lt hx)
  rwa [List.length_range] at this
/-- at the end nothing more comes -/
theorem ord_full {ps : Ps} {k : Nat} (h : ps.length ≤ k) : ordK ps k = ordK ps ps.length := by
  have := ord_stop (ps := ps) (k := ps.length) (List.getElem?_eq_none (ord_len _)) (k - ps.length)
  rwa [show ps.length + (k - ps.length) = k by omega] at this
theorem ord_end {ps : Ps} {k : Nat} (h : (ordK ps k)[k]? = none) : ordK ps k = ordK ps ps.length := by
  by_cases z : k ≤ ps.length
  · have := ord_stop h (ps.length - k)
    rw [show k + (ps.length - k) = ps.length by omega] at this
    exact this.symm
  · exact ord_full (by omega)
inductive Reach (ps : Ps) : Nat → Prop
  | root {t : Nat} (h : ps[t]? = some none) : Reach ps t
  | step {t p : Nat} (h : ps[t]? = some (some (p : Int))) (r : Reach ps p) : Reach ps t
/-- children stand behind their parent -/
theorem ord_kid {ps : Ps} {i p : Nat} (h : (ordK ps ps.length)[i]? = some p) {c : Nat} (hc : c ∈ kidsF ps p) : ∃ j, i < j ∧ (ordK ps ps.length)[j]? = some c := by
  have hi : i < ps.length := Nat.lt_of_lt_of_le (List.getElem?_eq_some_iff.mp h).1 (ord_len _)
  have e : (ordK ps i)[i]? = some p := by
    cases q : (ordK ps i)[i]? with
    | none => rw [← ord_end q, q] at h; cases h
    | some u =>
      obtain ⟨s, hs⟩ := ord_pre (ps := ps) (k := i) (ps.length - i)
      rw [show i + (ps.length - i) = ps.length by omega] at hs
      rw [← hs, List.getElem?_append_left (List.getElem?_eq_some_iff.mp q).1, q] at h
      exact h
  obtain ⟨s, hs⟩ := ord_pre (ps := ps) (k := i + 1) (ps.length - (i + 1))
  rw [show i + 1 + (ps.length - (i + 1)) = ps.length by omega, ord_succ e] at hs
  obtain ⟨m, hm⟩ := List.getElem?_of_mem hc
  have hl := (List.getElem?_eq_some_iff.mp e).1
  refine ⟨(ordK ps i).length + m, by omega, ?_⟩
  rw [← hs, List.append_assoc, List.getElem?_append_right (by omega), show (ordK ps i).length + m - (ordK ps i).length = m by omega, List.getElem?_append_left (List.getElem?_eq_some_iff.mp hm).1]
  exact hm
theorem ord_reach {ps : Ps} {t : Nat} (h : Reach ps t) : t ∈ ordK ps ps.length := by
  induction h with
  | root h =>
    obtain ⟨s, hs⟩ := ord_pre (ps := ps) (k := 0) ps.length
    rw [Nat.zero_add] at hs
    rw [← hs]
    exact List.mem_append_left _ (mem_roots.mpr h)
  | step h r ih =>
    obtain ⟨i, hi⟩ := List.getElem?_of_mem ih
    obtain ⟨j, _, hj⟩ := ord_kid hi (mem_kids.mpr h)
    exact List.mem_of_getElem? hj
theorem ord_in {ps : Ps} : ∀ k, ∀ t ∈ ordK ps k, Reach ps t
  | 0, t, h => .root (mem_roots.mp h)
  | k + 1, t, h => by
    cases e : (ordK ps k)[k]? with
    | none => rw [ord_stop e 1] at h; exact ord_in k t h
    | some p =>
      rw [ord_succ e] at h
      rcases List.mem_append.mp h with h | h
      · exact ord_in k t h
      · exact .step (mem_kids.mp h) (ord_in k p (List.mem_of_getElem? e))
/-- a table tree -/
structure Wf (ps : Ps) : Prop where
  top : (roots ps).length = 1
  all : ∀ t, t < ps.length → Reach ps t
theorem Wf.len {ps : Ps} (w : Wf ps) : (ordK ps ps.length).length = ps.length := by
  have h1 := ord_len (ps := ps) ps.length
  have h2 := len_sub (m := ordK ps ps.length) (List.nodup_range (n := ps.length)) fun x hx => ord_reach (w.all x (List.mem_range.mp hx))
  rw [List.length_range] at h2
  omega
theorem Wf.at {ps : Ps} (w : Wf ps) {k : Nat} (h : k < ps.length) : ∃ t, (ordK ps k)[k]? = some t ∧ t < ps.length := by
  cases e : (ordK ps k)[k]? with
  | none =>
    have z := ord_end e
    have hl := List.getElem?_eq_none_iff.mp e
    rw [z, w.len] at hl
    omega
  | some t => exact ⟨t, rfl, ord_lt (List.mem_of_getElem? e)⟩
theorem Wf.pos {ps : Ps} (w : Wf ps) : 0 < ps.length := by
  have h := w.top
  cases e : roots ps with
  | nil => rw [e] at h; cases h
  | cons r _ => exact Nat.lt_of_le_of_lt (Nat.zero_le _) (List.getElem?_eq_some_iff.mp (mem_roots.mp (e ▸ List.mem_cons_self : r ∈ roots ps))).1
/-! ### weights -/
def heavy (size : Int) (w : List Int) (cs : List Nat) : List Nat := cs.filter fun c => decide (w.getD c 0 ≥ size)
def wAt (size : Int) (ps : Ps) (own w : List Int) (t : Nat) : Int := own.getD t 0 + (kidsF ps t).length + (heavy size w (kidsF ps t)).length
def wFold (size : Int) (ps : Ps) (own : List Int) (l : List Nat) (w : List Int) : List Int := l.foldl (fun w t => w.set t (wAt size ps own w t)) w
theorem wAt_eq {size : Int} {ps : Ps} {own w1 w2 : List Int} {t : Nat} (h : ∀ c ∈ kidsF ps t, w1.getD c 0 = w2.getD c 0) : wAt size ps own w1 t = wAt size ps own w2 t := by
  unfold wAt heavy
  rw [List.filter_congr fun c hc => by rw [h c hc]]
theorem wFold_len {size : Int} {ps : Ps} {own : List Int} : ∀ (l : List Nat) (w : List Int), (wFold size ps own l w).length = w.length
  | [], w => rfl
  | t :: l, w => by
    show (wFold size ps own l (w.set t (wAt size ps own w t))).length = w.length
    rw [wFold_len l, List.length_set]
theorem getD_set {w : List Int} {t c : Nat} {x : Int} (ht : t < w.length) : (w.set t x).getD c 0 = if c = t then x else w.getD c 0 := by
  rw [List.getD_eq_getElem?_getD, List.getD_eq_getElem?_getD, List.getElem?_set]
  by_cases h : t = c
  · subst h
    rw [if_pos rfl, if_pos ht, if_pos rfl]
    rfl
  · rw [if_neg h, if_neg (fun z => h z.symm)]
theorem wFold_eq {size : Int} {ps : Ps} {own : List Int} : ∀ (l dn : List Nat) (w1 w2 : List Int), w1.length = w2.length → (∀ c ∈ l, c < w1.length) → (∀ l1 t l2, l = l1 ++ t :: l2 → ∀ c ∈ kidsF ps t, c ∈ dn ∨ c ∈ l1) → (∀ c ∈ dn, w1.getD c 0 = w2.getD c 0) →
    ∀ c, c ∈ dn ∨ c ∈ l → (wFold size ps own l w1).getD c 0 = (wFold size ps own l w2).getD c 0
  | [], dn, w1, w2, _, _, _, h, c, hc => by
    rcases hc with hc | hc
    · exact h c hc
    · cases hc
  | t :: l, dn, w1, w2, hl, hb, hk, h, c, hc => by
    have ht : t < w1.length := hb t List.mem_cons_self
    have e : wAt size ps own w1 t = wAt size ps own w2 t := wAt_eq fun d hd => by
      rcases hk [] t l rfl d hd with z | z
      · exact h d z
      · cases z
    show (wFold size ps own l (w1.set t (wAt size ps own w1 t))).getD c 0 = (wFold size ps own l (w2.set t (wAt size ps own w2 t))).getD c 0
    refine wFold_eq l (t :: dn) _ _ (by rw [List.length_set, List.length_set]; exact hl) (fun d hd => by rw [List.length_set]; exact hb d (List.mem_cons_of_mem _ hd)) (fun l1 u l2 q d hd => ?_) (fun d hd => ?_) c ?_
    · rcases hk (t :: l1) u l2 (by rw [q]; rfl) d hd with z | z
      · exact .inl (List.mem_cons_of_mem _ z)
      · rcases List.mem_cons.mp z with z | z
        · exact .inl (z ▸ List.mem_cons_self)
        · exact .inr z
    · rw [getD_set ht, getD_set (hl ▸ ht), e]
      by_cases q : d = t
      · rw [if_pos q, if_pos q]
      · rw [if_neg q, if_neg q]
        rcases List.mem_cons.mp hd with z | z
        · exact absurd z q
        · exact h d z
    · rcases hc with hc | hc
      · exact .inl (List.mem_cons_of_mem _ hc)
      · rcases List.mem_cons.mp hc with z | z
        · exact .inl (z ▸ List.mem_cons_self)
        · exact .inr z
def weightsF (size : Int) (ps : Ps) (own w : List Int) : List Int := wFold size ps own (ordK ps ps.length).reverse w
theorem weights_eq {size : Int} {ps : Ps} {own w1 w2 : List Int} (wf : Wf ps) (h1 : w1.length = ps.length) (h2 : w2.length = ps.length) : weightsF size ps own w1 = weightsF size ps own w2 := by
  have key : ∀ c, c < ps.length → (weightsF size ps own w1).getD c 0 = (weightsF size ps own w2).getD c 0 := fun c hc => by
    refine wFold_eq (ordK ps ps.length).reverse [] w1 w2 (h1.trans h2.symm) (fun d hd => ?_) (fun l1 t l2 q d hd => ?_) (fun d hd => by cases hd) c (.inr (List.mem_reverse.mpr (ord_reach (wf.all c hc))))
    · rw [h1]
      exact ord_lt (List.mem_reverse.mp hd)
    · have q2 : ordK ps ps.length = l2.reverse ++ t :: l1.reverse := by
        have := congrArg List.reverse q
        rw [List.reverse_reverse, List.reverse_append, List.reverse_cons, List.append_assoc] at this
        exact this
      have hi : (ordK ps ps.length)[l2.reverse.length]? = some t := by
        rw [q2, List.getElem?_append_right (Nat.le_refl _), Nat.sub_self]
        rfl
      obtain ⟨j, hj, e⟩ := ord_kid hi hd
      rw [q2, List.getElem?_append_right (by omega)] at e
      obtain ⟨m, rfl⟩ : ∃ m, j = l2.reverse.length + 1 + m := ⟨j - (l2.reverse.length + 1), by omega⟩
      rw [show l2.reverse.length + 1 + m - l2.reverse.length = m + 1 by omega, List.getElem?_cons_succ] at e
      exact .inr (List.mem_reverse.mp (List.mem_of_getElem? e))
  refine List.ext_getElem? fun c => ?_
  have l1 : (weightsF size ps own w1).length = ps.length := (wFold_len _ _).trans h1
  have l2 : (weightsF size ps own w2).length = ps.length := (wFold_len _ _).trans h2
  by_cases hc : c < ps.length
  · have := key c hc
    rw [List.getD_eq_getElem?_getD, List.getD_eq_getElem?_getD, List.getElem?_eq_getElem (by omega), List.getElem?_eq_getElem (by omega)] at this
    rw [List.getElem?_eq_getElem (by omega), List.getElem?_eq_getElem (by omega)]
    exact congrArg some this
  · rw [List.getElem?_eq_none (by omega), List.getElem?_eq_none (by omega)]
end OC

set_option maxHeartbeats 4000000
namespace OC
open PySem PySem.Spec PyProof.Rows L2
/-! ### lists of children as they grow -/
def kidsI (ps : Ps) (i t : Nat) : List Nat := (List.range i).filter fun c => decide (ps[c]? = some (some (t : Int)))
theorem kidsI_full {ps : Ps} {t : Nat} : kidsI ps ps.length t = kidsF ps t := rfl
theorem kidsI_succ {ps : Ps} {i t : Nat} : kidsI ps (i + 1) t = kidsI ps i t ++ (if ps[i]? = some (some (t : Int)) then [i] else []) := by
  unfold kidsI
  rw [List.range_succ, List.filter_append]
  by_cases h : ps[i]? = some (some (t : Int))
  · rw [if_pos h, List.filter_cons_of_pos (by simpa using h), List.filter_nil]
  · rw [if_neg h, List.filter_cons_of_neg (by simpa using h), List.filter_nil]
def VN (l : List Nat) : List V := l.map fun (c : Nat) => V.int (c : Int)
theorem VN_len (l : List Nat) : (VN l).length = l.length := List.length_map _
theorem VN_get {l : List Nat} {i t : Nat} (h : l[i]? = some t) : (VN l)[i]? = some (.int (t : Int)) := by
  unfold VN
  rw [List.getElem?_map, h]
  rfl
theorem VN_app (l m : List Nat) : VN (l ++ m) = VN l ++ VN m := List.map_append
theorem VN_int (l : List Nat) : VN l = (l.map fun (c : Nat) => (c : Int)).map V.int := by
  unfold VN
  rw [List.map_map]
  rfl
def rowsI (ps : Ps) (i : Nat) : List (List V) := (List.range ps.length).map fun t => VN (kidsI ps i t)
abbrev rowsF (ps : Ps) : List (List V) := rowsI ps ps.length
theorem rowsI_len {ps : Ps} {i : Nat} : (rowsI ps i).length = ps.length := by
  unfold rowsI
  rw [List.length_map, List.length_range]
theorem rowsI_get {ps : Ps} {i t : Nat} (h : t < ps.length) : (rowsI ps i)[t]? = some (VN (kidsI ps i t)) := by
  unfold rowsI
  rw [List.getElem?_map, List.getElem?_range h]
  rfl
theorem rowsF_get {ps : Ps} {t : Nat} (h : t < ps.length) : (rowsF ps)[t]? = some (VN (kidsF ps t)) := rowsI_get h
theorem rowsI_zero {ps : Ps} : rowsI ps 0 = List.replicate ps.length [] := by
  refine List.ext_getElem? fun t => ?_
  by_cases h : t < ps.length
  · rw [rowsI_get h, List.getElem?_replicate, if_pos h]
    rfl
  · rw [List.getElem?_eq_none (by rw [rowsI_len]; omega), List.getElem?_replicate, if_neg h]
theorem rowsI_set {ps : Ps} {i p : Nat} (h : ps[i]? = some (some (p : Int))) (hp : p < ps.length) : (rowsI ps i).set p (VN (kidsI ps i p) ++ [.int (i : Int)]) = rowsI ps (i + 1) := by
  refine List.ext_getElem? fun t => ?_
  rw [List.getElem?_set]
  by_cases ht : t < ps.length
  · rw [rowsI_get (i := i + 1) ht, kidsI_succ]
    by_cases e : p = t
    · subst e
      rw [if_pos rfl, if_pos (by rw [rowsI_len]; exact hp), if_pos h, VN_app]
      rfl
    · rw [if_neg e, rowsI_get ht, if_neg (fun z => e (by rw [h] at z; have := Option.some.inj (Option.some.inj z); omega)), List.append_nil]
  · have e : p ≠ t := by omega
    rw [if_neg e, List.getElem?_eq_none (by rw [rowsI_len]; omega), List.getElem?_eq_none (by rw [rowsI_len]; omega)]
theorem rowsI_none {ps : Ps} {i : Nat} (h : ∀ p : Nat, p < ps.length → ps[i]? ≠ some (some (p : Int))) : rowsI ps (i + 1) = rowsI ps i := by
  refine List.ext_getElem? fun t => ?_
  by_cases ht : t < ps.length
  · rw [rowsI_get ht, rowsI_get ht, kidsI_succ, if_neg (h t ht), List.append_nil]
  · rw [List.getElem?_eq_none (by rw [rowsI_len]; omega), List.getElem?_eq_none (by rw [rowsI_len]; omega)]
theorem Wf.par {ps : Ps} (w : Wf ps) {t : Nat} (h : t < ps.length) : ps[t]? = some none ∨ ∃ p : Nat, p < ps.length ∧ ps[t]? = some (some (p : Int)) := by
  cases w.all t h with
  | root e => exact .inl e
  | step e r =>
    refine .inr ⟨_, ?_, e⟩
    cases r with
    | root q => exact (List.getElem?_eq_some_iff.mp q).1
    | step q _ => exact (List.getElem?_eq_some_iff.mp q).1
theorem roots_get {ps : Ps} {i : Nat} : ((List.range (i + 1)).filter fun c => decide (ps[c]? = some none)) = ((List.range i).filter fun c => decide (ps[c]? = some none)) ++ (if ps[i]? = some none then [i] else []) := by
  rw [List.range_succ, List.filter_append]
  by_cases h : ps[i]? = some none
  · rw [if_pos h, List.filter_cons_of_pos (by simpa using h), List.filter_nil]
  · rw [if_neg h, List.filter_cons_of_neg (by simpa using h), List.filter_nil]
theorem pv_get {ps : Ps} {i : Nat} {o : Option Int} (h : ps[i]? = some o) : (ps.map PV)[i]? = some (PV o) := by
  rw [List.getElem?_map, h]
  rfl
theorem vref_get {as : List Addr} {i : Nat} {a : Addr} (h : as[i]? = some a) : (as.map V.ref)[i]? = some (.ref a) := by
  rw [List.getElem?_map, h]
  rfl
theorem int_get {xs : List Int} {i : Nat} {z : Int} (h : xs[i]? = some z) : (xs.map V.int)[i]? = some (.int z) := by
  rw [List.getElem?_map, h]
  rfl
theorem roots_le {ps : Ps} (i : Nat) : ((List.range i).filter fun c => decide (ps[c]? = some none)).length ≤ i := Nat.le_trans (List.length_filter_le ..) (by rw [List.length_range]; exact Nat.le_refl _)
theorem kidsI_le {ps : Ps} (i t : Nat) : (kidsI ps i t).length ≤ i := Nat.le_trans (List.length_filter_le ..) (by rw [List.length_range]; exact Nat.le_refl _)
/-! ### the promise of a list of children -/
def spKids (C : Ps → Prop) : Sp := fun vs H Q E => ∃ (a : Addr) (ps : Ps) (T : Tups) (L : List Chunk), vs = [.ref a] ∧ C ps ∧ ps.length ≤ 1000 ∧ RdL L a (ps.map PV) ∧ Has H L ∧ HasT H T ∧ ∀ k as, as.length = ps.length → Go T (pt k (.lst (as.map V.ref)) :: rowsC as (rowsF ps) :: L) (Q (.ref k))
theorem go_kids {C : Ps → Prop} {T : Tups} {L : List Chunk} {a : Addr} {ps : Ps} {Q : VK} {E : XK} (c : C ps) (hz : ps.length ≤ 1000) (r : RdL L a (ps.map PV)) (k : ∀ k as, as.length = ps.length → Go T (pt k (.lst (as.map V.ref)) :: rowsC as (rowsF ps) :: L) fun H => Q (.ref k) H) : Go T L fun H => spKids C [.ref a] H Q E := fun H x t =>
  ⟨a, ps, T, L, rfl, c, hz, r, x, t, k⟩
def spOrder (C : Ps → Prop) : Sp := fun vs H Q E => ∃ (a : Addr) (ps : Ps) (T : Tups) (L : List Chunk), vs = [.ref a] ∧ C ps ∧ ps.length ≤ 1000 ∧ RdL L a (ps.map PV) ∧ Has H L ∧ HasT H T ∧ ∀ o, Go T (pt o (.lst (VN (ordK ps ps.length))) :: L) (Q (.ref o))
theorem go_order {C : Ps → Prop} {T : Tups} {L : List Chunk} {a : Addr} {ps : Ps} {Q : VK} {E : XK} (c : C ps) (hz : ps.length ≤ 1000) (r : RdL L a (ps.map PV)) (k : ∀ o, Go T (pt o (.lst (VN (ordK ps ps.length))) :: L) fun H => Q (.ref o) H) : Go T L fun H => spOrder C [.ref a] H Q E := fun H x t =>
  ⟨a, ps, T, L, rfl, c, hz, r, x, t, k⟩
end OC

set_option maxHeartbeats 4000000
namespace OC
open PySem PySem.Spec PyProof.Rows L2
theorem wFold_snoc {size : Int} {ps : Ps} {own : List Int} {l : List Nat} {t : Nat} {w : List Int} : wFold size ps own (l ++ [t]) w = (wFold size ps own l w).set t (wAt size ps own (wFold size ps own l w) t) := by
  unfold wFold
  rw [List.foldl_append]
  rfl
theorem VN_rev (l : List Nat) : (VN l).reverse = VN l.reverse := List.map_reverse.symm
theorem heavy_snoc {size : Int} {w : List Int} {cs : List Nat} {c : Nat} : heavy size w (cs ++ [c]) = heavy size w cs ++ (if w.getD c 0 ≥ size then [c] else []) := by
  unfold heavy
  rw [List.filter_append]
  by_cases h : w.getD c 0 ≥ size
  · rw [if_pos h, List.filter_cons_of_pos (by simpa using h), List.filter_nil]
  · rw [if_neg h, List.filter_cons_of_neg (by simpa using h), List.filter_nil]
theorem heavy_le {size : Int} {w : List Int} {cs : List Nat} : (heavy size w cs).length ≤ cs.length := List.length_filter_le ..
theorem getD_at {w : List Int} {c : Nat} (h : c < w.length) : w[c]? = some (w.getD c 0) := by
  rw [List.getD_eq_getElem?_getD, List.getElem?_eq_getElem h]
  rfl
theorem set_ints {w : List Int} {t : Nat} {z : Int} : (w.map V.int).set t (.int z) = (w.set t z).map V.int := List.map_set.symm
end OC

set_option maxHeartbeats 4000000
namespace OC
open PySem PySem.Spec PyProof.Rows L2
/-! ### shapes: each table's parent stands before it -/
structure Sh (z : Int) (sh : Ps) : Prop where
  zero : sh[0]? = some none
  par : ∀ t : Nat, 0 < t → t < sh.length → ∃ p : Nat, sh[t]? = some (some (p : Int)) ∧ p < t
  cnt : ∀ p : Nat, ((sh.count (some (p : Int)) : Nat) : Int) ≤ z
def cardsL (sh : Ps) (i : Nat) : List Int := (List.range i).map fun (p : Nat) => ((sh.count (some (p : Int)) : Nat) : Int)
theorem cardsL_len {sh : Ps} {i : Nat} : (cardsL sh i).length = i := by unfold cardsL; rw [List.length_map, List.length_range]
theorem cardsL_get {sh : Ps} {i p : Nat} (h : p < i) : (cardsL sh i)[p]? = some ((sh.count (some (p : Int)) : Nat) : Int) := by
  unfold cardsL
  rw [List.getElem?_map, List.getElem?_range h]
  rfl
theorem Sh.none_of {z : Int} {sh : Ps} (s : Sh z sh) {p : Nat} (h : sh.length ≤ p + 1) : sh.count (some (p : Int)) = 0 := by
  rw [List.count_eq_zero]
  intro hm
  obtain ⟨t, ht⟩ := List.getElem?_of_mem hm
  have hl := (List.getElem?_eq_some_iff.mp ht).1
  by_cases h0 : 0 < t
  · obtain ⟨q, e, hq⟩ := s.par t h0 hl
    rw [e] at ht
    have := Option.some.inj (Option.some.inj ht)
    omega
  · have e : t = 0 := by omega
    subst e
    rw [s.zero] at ht
    cases ht
theorem Sh.one {z : Int} (hz : 0 ≤ z) : Sh z [none] := ⟨rfl, fun t h0 hl => by
  have : t < 1 := hl
  omega, fun p => by rw [show ([none] : Ps).count (some (p : Int)) = 0 by rfl]; omega⟩
theorem Sh.pos {z : Int} {sh : Ps} (s : Sh z sh) : 0 < sh.length := (List.getElem?_eq_some_iff.mp s.zero).1
theorem cnt_snoc {sh : Ps} {f p : Nat} : (sh ++ [some (f : Int)]).count (some (p : Int)) = sh.count (some (p : Int)) + if f = p then 1 else 0 := by
  rw [List.count_append, List.count_singleton]
  by_cases h : f = p
  · subst h
    simp
  · have : ¬ (some (f : Int) == some (p : Int)) = true := by
      intro z
      have := Option.some.inj (eq_of_beq z)
      omega
    rw [if_neg h, if_neg this]
theorem Sh.snoc {z : Int} {sh : Ps} (s : Sh z sh) {f : Nat} (hf : f < sh.length) (hc : ((sh.count (some (f : Int)) : Nat) : Int) < z) : Sh z (sh ++ [some (f : Int)]) := by
  refine ⟨by rw [List.getElem?_append_left s.pos]; exact s.zero, fun t h0 hl => ?_, fun p => ?_⟩
  · rw [List.length_append, List.length_singleton] at hl
    by_cases h : t < sh.length
    · obtain ⟨p, e, hp⟩ := s.par t h0 h
      exact ⟨p, by rw [List.getElem?_append_left h]; exact e, hp⟩
    · have e : t = sh.length := by omega
      subst e
      exact ⟨f, by rw [List.getElem?_append_right (Nat.le_refl _), Nat.sub_self]; rfl, hf⟩
  · rw [cnt_snoc]
    have := s.cnt p
    by_cases h : f = p
    · subst h
      rw [if_pos rfl]
      omega
    · rw [if_neg h]
      omega
theorem cards_snoc {z : Int} {sh : Ps} (s : Sh z sh) {f : Nat} (hf : f < sh.length) : (cardsL sh sh.length).set f (((sh.count (some (f : Int)) : Nat) : Int) + 1) ++ [0] = cardsL (sh ++ [some (f : Int)]) (sh.length + 1) := by
  refine List.ext_getElem? fun p => ?_
  by_cases hp : p < sh.length
  · rw [List.getElem?_append_left (by rw [List.length_set, cardsL_len]; exact hp), cardsL_get (by omega), List.getElem?_set, cnt_snoc]
    by_cases h : f = p
    · subst h
      rw [if_pos rfl, if_pos (by rw [cardsL_len]; exact hp), if_pos rfl]
      rfl
    · rw [if_neg h, if_neg h, cardsL_get hp]
      rfl
  · by_cases e : p = sh.length
    · subst e
      rw [List.getElem?_append_right (by rw [List.length_set, cardsL_len]; exact Nat.le_refl _), List.length_set, cardsL_len, Nat.sub_self, cardsL_get (by omega), cnt_snoc, if_neg (by omega), s.none_of (by omega)]
      rfl
    · rw [List.getElem?_eq_none (by rw [List.length_append, List.length_set, cardsL_len, List.length_singleton]; omega), List.getElem?_eq_none (by rw [cardsL_len]; omega)]
def freeF (z : Int) (sh : Ps) (i : Nat) : List Nat := (List.range i).filter fun (p : Nat) => decide (((sh.count (some (p : Int)) : Nat) : Int) < z)
theorem freeF_snoc {z : Int} {sh : Ps} {i : Nat} : freeF z sh (i + 1) = freeF z sh i ++ (if ((sh.count (some (i : Int)) : Nat) : Int) < z then [i] else []) := by
  unfold freeF
  rw [List.range_succ, List.filter_append]
  by_cases h : ((sh.count (some (i : Int)) : Nat) : Int) < z
  · rw [if_pos h, List.filter_cons_of_pos (by simpa using h), List.filter_nil]
  · rw [if_neg h, List.filter_cons_of_neg (by simpa using h), List.filter_nil]
theorem freeF_le {z : Int} {sh : Ps} {i : Nat} : (freeF z sh i).length ≤ i := Nat.le_trans (List.length_filter_le ..) (by rw [List.length_range]; exact Nat.le_refl _)
theorem Sh.free {z : Int} {sh : Ps} (s : Sh z sh) (hz : 0 < z) : 0 < (freeF z sh sh.length).length := by
  refine List.length_pos_of_mem (a := sh.length - 1) ?_
  unfold freeF
  rw [List.mem_filter, List.mem_range, decide_eq_true_iff]
  have := s.pos
  refine ⟨by omega, ?_⟩
  rw [s.none_of (by omega)]
  omega
theorem freeF_mem {z : Int} {sh : Ps} {i p : Nat} (h : p ∈ freeF z sh i) : p < i ∧ ((sh.count (some (p : Int)) : Nat) : Int) < z := by
  unfold freeF at h
  rw [List.mem_filter, List.mem_range, decide_eq_true_iff] at h
  exact h
end OC

set_option maxHeartbeats 4000000
namespace OC
open PySem PySem.Spec PyProof.Rows L2
structure Lb (n : Nat) (ls : List Nat) : Prop where
  len : ls.length = n
  nd : ls.Nodup
  lt : ∀ x ∈ ls, x < n
def lbP (sh : Ps) (ls : List Nat) (t : Nat) : Option Int := (sh.getD t none).map fun p => ((ls.getD p.toNat 0 : Nat) : Int)
structure LbI (n : Nat) (sh : Ps) (fl : List Int) (ls : List Nat) (i : Nat) (ps : Ps) (own : List Int) : Prop where
  lp : ps.length = n
  lo : own.length = n
  own : ∀ t u : Nat, t < i → ls[t]? = some u → own.getD u 0 = fl.getD t 0
  par : ∀ t u : Nat, t < i → ls[t]? = some u → ps[u]? = some (lbP sh ls t)
  out : ∀ u : Nat, u < n → u ∉ ls.take i → ps[u]? = some none
theorem LbI.zero {n : Nat} {sh : Ps} {fl : List Int} {ls : List Nat} : LbI n sh fl ls 0 (List.replicate n none) (List.replicate n 0) :=
  ⟨List.length_replicate, List.length_replicate, fun t u h => by omega, fun t u h => by omega, fun u h _ => by rw [List.getElem?_replicate, if_pos h]⟩
theorem take_not {ls : List Nat} (nd : ls.Nodup) {i u : Nat} (h : ls[i]? = some u) : u ∉ ls.take i := fun hm => by
  obtain ⟨j, hj⟩ := List.getElem?_of_mem hm
  rw [List.getElem?_take] at hj
  split at hj
  · have := nodup_inj nd hj h
    omega
  · cases hj
theorem LbI.step {n : Nat} {sh : Ps} {fl : List Int} {ls : List Nat} (lb : Lb n ls) {i u : Nat} {ps : Ps} {own : List Int} (h : LbI n sh fl ls i ps own) (hu : ls[i]? = some u) {ps2 : Ps} (hp : ps2 = ps.set u (lbP sh ls i)) :
    LbI n sh fl ls (i + 1) ps2 (own.set u (fl.getD i 0)) := by
  subst hp
  have hun := lb.lt u (List.mem_of_getElem? hu)
  have ne : ∀ t v : Nat, t < i → ls[t]? = some v → u ≠ v := fun t v ht hv z => by
    subst z
    have := nodup_inj lb.nd hv hu
    omega
  refine ⟨by rw [List.length_set]; exact h.lp, by rw [List.length_set]; exact h.lo, fun t v ht hv => ?_, fun t v ht hv => ?_, fun v hv hm => ?_⟩
  · rw [getD_set (by rw [h.lo]; exact hun)]
    by_cases e : t = i
    · subst e
      rw [hu] at hv
      cases hv
      rw [if_pos rfl]
    · rw [if_neg (Ne.symm (ne t v (by omega) hv))]
      exact h.own t v (by omega) hv
  · rw [List.getElem?_set]
    by_cases e : t = i
    · subst e
      rw [hu] at hv
      cases hv
      rw [if_pos rfl, if_pos (by rw [h.lp]; exact hun)]
    · rw [if_neg (ne t v (by omega) hv)]
      exact h.par t v (by omega) hv
  · rw [List.take_add_one, hu, Option.toList_some, List.mem_append, not_or] at hm
    rw [List.getElem?_set, if_neg (fun z => hm.2 (by rw [z]; exact List.mem_singleton.mpr rfl))]
    exact h.out v hv hm.1
theorem set_none {ps : Ps} {u : Nat} (h : ps[u]? = some none) : ps.set u none = ps := by
  refine List.ext_getElem? fun t => ?_
  rw [List.getElem?_set]
  by_cases e : u = t
  · subst e
    rw [if_pos rfl, if_pos (List.getElem?_eq_some_iff.mp h).1, h]
  · rw [if_neg e]
theorem Lb.all {n : Nat} {ls : List Nat} (lb : Lb n ls) {u : Nat} (h : u < n) : u ∈ ls := by
  by_cases hm : u ∈ ls
  · exact hm
  · have h1 := len_sub (l := u :: ls) (m := List.range n) (List.nodup_cons.mpr ⟨hm, lb.nd⟩) fun x hx => by
      rw [List.mem_range]
      rcases List.mem_cons.mp hx with rfl | hx
      · exact h
      · exact lb.lt x hx
    rw [List.length_range, List.length_cons, lb.len] at h1
    omega
theorem count_take (sh : Ps) (x : Option Int) : ∀ k, k ≤ sh.length → (sh.take k).count x = ((List.range k).filter fun t => decide (sh[t]? = some x)).length
  | 0, _ => rfl
  | k + 1, h => by
    have e := List.getElem?_eq_getElem (show k < sh.length from h)
    rw [List.take_add_one, e, Option.toList_some, List.count_append, count_take sh x k (by omega), List.range_succ, List.filter_append, List.length_append, List.count_singleton]
    congr 1
    by_cases q : sh[k] = x
    · rw [List.filter_cons_of_pos (by rw [e, q]; simp)]
      simp [q]
    · rw [List.filter_cons_of_neg (by rw [e]; simpa using q)]
      simp [q]
theorem count_idx (sh : Ps) (x : Option Int) : sh.count x = ((List.range sh.length).filter fun t => decide (sh[t]? = some x)).length := by
  have := count_take sh x sh.length (Nat.le_refl _)
  rwa [List.take_length] at this
theorem kids_count {ps : Ps} {t : Nat} : (kidsF ps t).length = ps.count (some (t : Int)) := (count_idx ps _).symm
/-- the labelled shape is a tree, and the cards fit -/
theorem lab_wf {z : Int} {sh : Ps} {fl : List Int} {ls : List Nat} {ps : Ps} {own : List Int} (hsh : Sh z sh) (hf : fl.length = sh.length ∧ ∀ t : Nat, t < sh.length → 0 ≤ fl.getD t 0 ∧ fl.getD t 0 + ((sh.count (some (t : Int)) : Nat) : Int) ≤ z)
    (lb : Lb sh.length ls) (h : LbI sh.length sh fl ls sh.length ps own) : Wf ps ∧ ∀ t, t < ps.length → 0 ≤ own.getD t 0 ∧ own.getD t 0 + (kidsF ps t).length ≤ z := by
  have at_ : ∀ u, u < sh.length → ∃ t, t < sh.length ∧ ls[t]? = some u := fun u hu => by
    obtain ⟨t, ht⟩ := List.getElem?_of_mem (lb.all hu)
    exact ⟨t, by have := (List.getElem?_eq_some_iff.mp ht).1; rw [lb.len] at this; exact this, ht⟩
  have lsAt : ∀ t, t < sh.length → ls[t]? = some (ls.getD t 0) := fun t ht => by
    rw [List.getD_eq_getElem?_getD, List.getElem?_eq_getElem (by rw [lb.len]; exact ht)]
    rfl
  have shAt : ∀ t o, sh[t]? = some o → sh.getD t none = o := fun t o e => by
    rw [List.getD_eq_getElem?_getD, e]
    rfl
  have p0 : ∀ u, ls[0]? = some u → ps[u]? = some none := fun u hu => by
    rw [h.par 0 u hsh.pos hu, lbP, shAt 0 none hsh.zero]
    rfl
  have pS : ∀ t u, 0 < t → t < sh.length → ls[t]? = some u → ∃ p, p < t ∧ sh[t]? = some (some (p : Int)) ∧ ps[u]? = some (some ((ls.getD p 0 : Nat) : Int)) := fun t u h0 ht hu => by
    obtain ⟨p, e, hp⟩ := hsh.par t h0 ht
    refine ⟨p, hp, e, ?_⟩
    rw [h.par t u ht hu, lbP, shAt t _ e]
    rfl
  have re : ∀ k t u, t ≤ k → t < sh.length → ls[t]? = some u → Reach ps u := fun k => by
    induction k with
    | zero =>
      intro t u hk ht hu
      have e : t = 0 := by omega
      subst e
      exact .root (p0 u hu)
    | succ k ih =>
      intro t u hk ht hu
      by_cases h0 : 0 < t
      · obtain ⟨p, hp, _, e⟩ := pS t u h0 ht hu
        exact .step e (ih p _ (by omega) (by omega) (lsAt p (by omega)))
      · have e : t = 0 := by omega
        subst e
        exact .root (p0 u hu)
  have wf : Wf ps := by
    refine ⟨?_, fun u hu => ?_⟩
    · have hm : ∀ u ∈ roots ps, u = ls.getD 0 0 := fun u hu => by
        have e := mem_roots.mp hu
        have hun : u < sh.length := by rw [← h.lp]; exact (List.getElem?_eq_some_iff.mp e).1
        obtain ⟨t, ht, hl⟩ := at_ u hun
        by_cases h0 : 0 < t
        · obtain ⟨p, _, _, e2⟩ := pS t u h0 ht hl
          rw [e] at e2
          cases e2
        · have e0 : t = 0 := by omega
          subst e0
          rw [lsAt 0 hsh.pos] at hl
          exact (Option.some.inj hl).symm
      have hi : ls.getD 0 0 ∈ roots ps := mem_roots.mpr (p0 _ (lsAt 0 hsh.pos))
      have h1 := len_sub (m := [ls.getD 0 0]) (roots_nodup (ps := ps)) fun u hu => List.mem_singleton.mpr (hm u hu)
      have h2 := List.length_pos_of_mem hi
      rw [List.length_singleton] at h1
      omega
    · obtain ⟨t, ht, hl⟩ := at_ u (by rw [← h.lp]; exact hu)
      exact re t t u (Nat.le_refl _) ht hl
  refine ⟨wf, fun u hu => ?_⟩
  rw [h.lp] at hu
  obtain ⟨t, ht, hl⟩ := at_ u hu
  rw [h.own t u ht hl]
  obtain ⟨f0, f1⟩ := hf.2 t ht
  refine ⟨f0, ?_⟩
  have hk : (kidsF ps u).length ≤ sh.count (some (t : Int)) := by
    rw [count_idx sh]
    have := len_sub (m := ((List.range sh.length).filter fun c => decide (sh[c]? = some (some (t : Int)))).map fun c => ls.getD c 0) (kids_nodup (ps := ps) (t := u)) fun c hc => by
      have e := mem_kids.mp hc
      have hcn : c < sh.length := by rw [← h.lp]; exact (List.getElem?_eq_some_iff.mp e).1
      obtain ⟨s, hs, hsl⟩ := at_ c hcn
      refine List.mem_map.mpr ⟨s, ?_, ?_⟩
      · rw [List.mem_filter, List.mem_range, decide_eq_true_iff]
        refine ⟨hs, ?_⟩
        by_cases h0 : 0 < s
        · obtain ⟨p, hp, e1, e2⟩ := pS s c h0 hs hsl
          rw [e] at e2
          have e3 : u = ls.getD p 0 := by
            have := Option.some.inj (Option.some.inj e2)
            omega
          have e4 := lsAt p (by omega)
          rw [← e3] at e4
          have := nodup_inj lb.nd e4 hl
          rw [e1, this]
        · have e0 : s = 0 := by omega
          subst e0
          rw [p0 c hsl] at e
          cases e
      · have := lsAt s hs
        rw [hsl] at this
        exact (Option.some.inj this).symm
    rwa [List.length_map] at this
  omega
end OC

set_option maxHeartbeats 4000000
namespace OC
open PySem PySem.Spec PyProof.Rows L2
/-! ### an arrival -/
def kidsZ (ps : Ps) (s : Nat) : List Int := (kidsF ps s).map fun (c : Nat) => (c : Int)
def later (ps : Ps) (ch : List Int) : Ps := (List.range ps.length).map fun (t : Nat) => if (t : Int) ∈ ch then some (ps.length : Int) else ps.getD t none
def divPs (ps : Ps) (s : Nat) (ch : List Int) : Ps :=
  if ps.getD s none = none then (((later ps ch ++ [ps.getD s none]).set s (some ((ps.length : Int) + 1))).set ps.length (some ((ps.length : Int) + 1))) ++ [none] else later ps ch ++ [ps.getD s none]
def divOwn (ps : Ps) (own : List Int) (s : Nat) (e : Int) : List Int :=
  if ps.getD s none = none then own.set s (own.getD s 0 - e) ++ [e] ++ [0] else own.set s (own.getD s 0 - e) ++ [e]
structure GoodDiv (ps : Ps) (own : List Int) (s e : Int) (ch : List Int) : Prop where
  s0 : 0 ≤ s
  s1 : s < ps.length
  e0 : 0 ≤ e
  e1 : e ≤ own.getD s.toNat 0
  sub : ∀ c ∈ ch, c ∈ kidsZ ps s.toNat
  nd : ch.Nodup
  m0 : 0 < e + ch.length
  m1 : e + ch.length < own.getD s.toNat 0 + (kidsF ps s.toNat).length
def overF (z : Int) (ps : Ps) (own : List Int) : Option Nat := (List.range ps.length).find? fun (t : Nat) => decide (z < own.getD t 0 + (kidsF ps t).length)
def inc (own : List Int) (t : Nat) : List Int := own.set t (own.getD t 0 + 1)
inductive Ar where
  | no (code x : Int)
  | ok (ps : Ps) (own : List Int)
def fin_ (z : Int) (ps : Ps) (own : List Int) : Ar := match overF z ps own with
  | some t => .no 4 (t : Int)
  | none => .ok ps own
open Classical in
noncomputable def arrF (z : Int) (ps : Ps) (own : List Int) (table : Int) (dv : Option (Int × Int × List Int)) : Ar :=
  if 0 ≤ table ∧ table < ps.length then
    match dv with
    | none => fin_ z ps (inc own table.toNat)
    | some (s, e, ch) => if GoodDiv ps (inc own table.toNat) s e ch then fin_ z (divPs ps s.toNat ch) (divOwn ps (inc own table.toNat) s.toNat e) else .no 2 s
  else .no 1 table
theorem later_len {ps : Ps} {ch : List Int} : (later ps ch).length = ps.length := by unfold later; rw [List.length_map, List.length_range]
theorem later_get {ps : Ps} {ch : List Int} {t : Nat} (h : t < ps.length) : (later ps ch)[t]? = some (if (t : Int) ∈ ch then some (ps.length : Int) else ps.getD t none) := by
  unfold later
  rw [List.getElem?_map, List.getElem?_range h]
  rfl
theorem getD_some {ps : Ps} {t : Nat} {o : Option Int} (h : ps[t]? = some o) : ps.getD t none = o := by
  rw [List.getD_eq_getElem?_getD, h]
  rfl
theorem some_getD {ps : Ps} {t : Nat} (h : t < ps.length) : ps[t]? = some (ps.getD t none) := by
  rw [List.getD_eq_getElem?_getD, List.getElem?_eq_getElem h]
  rfl
theorem no_self {ps : Ps} {t : Nat} (h : Reach ps t) : ps[t]? ≠ some (some (t : Int)) := by
  induction h with
  | root h => rw [h]; intro z; cases z
  | step h r ih =>
    rename_i t p
    intro z
    rw [h] at z
    have e : p = t := by
      have := Option.some.inj (Option.some.inj z)
      omega
    subst e
    exact ih h
theorem mem_kidsZ {ps : Ps} {s : Nat} {c : Int} (h : c ∈ kidsZ ps s) : ∃ t : Nat, c = t ∧ ps[t]? = some (some (s : Int)) := by
  obtain ⟨t, ht, rfl⟩ := List.mem_map.mp h
  exact ⟨t, rfl, mem_kids.mp ht⟩
theorem one_root {ps : Ps} {r : Nat} (h1 : ∀ u, ps[u]? = some none → u = r) (h2 : ps[r]? = some none) : (roots ps).length = 1 := by
  have a := len_sub (m := [r]) (roots_nodup (ps := ps)) fun u hu => List.mem_singleton.mpr (h1 u (mem_roots.mp hu))
  have b := List.length_pos_of_mem (mem_roots.mpr h2)
  rw [List.length_singleton] at a
  omega
theorem Wf.root {ps : Ps} (w : Wf ps) : ∃ r : Nat, ps[r]? = some none ∧ ∀ u : Nat, ps[u]? = some none → u = r := by
  have h := w.top
  cases e : roots ps with
  | nil => rw [e] at h; cases h
  | cons r l =>
    cases l with
    | nil => exact ⟨r, mem_roots.mp (e ▸ List.mem_cons_self), fun u hu => List.mem_singleton.mp (e ▸ mem_roots.mpr hu)⟩
    | cons _ _ => rw [e] at h; cases h
theorem div_wf {ps : Ps} (w : Wf ps) {s : Nat} (hs : s < ps.length) {ch : List Int} (hc : ∀ c ∈ ch, c ∈ kidsZ ps s) : Wf (divPs ps s ch) := by
  have kid : ∀ t : Nat, (t : Int) ∈ ch → ps[t]? = some (some (s : Int)) := fun t ht => by
    obtain ⟨u, e, h⟩ := mem_kidsZ (hc _ ht)
    have : u = t := by omega
    exact this ▸ h
  have sn : (s : Int) ∉ ch := fun h => no_self (w.all s hs) (kid s h)
  obtain ⟨r, hr, hr1⟩ := w.root
  have hrl := (List.getElem?_eq_some_iff.mp hr).1
  cases hq : ps.getD s none with
  | none =>
    have e0 : ps[s]? = some none := by rw [some_getD hs, hq]
    have er : s = r := hr1 s e0
    have ed : divPs ps s ch = (((later ps ch ++ [none]).set s (some ((ps.length : Int) + 1))).set ps.length (some ((ps.length : Int) + 1))) ++ [none] := by
      unfold divPs
      rw [hq, if_pos rfl]
    have l1 : (((later ps ch ++ [none]).set s (some ((ps.length : Int) + 1))).set ps.length (some ((ps.length : Int) + 1))).length = ps.length + 1 := by
      rw [List.length_set, List.length_set, List.length_append, later_len]
      rfl
    have gN1 : (divPs ps s ch)[ps.length + 1]? = some none := by
      rw [ed, List.getElem?_append_right (by omega), l1, Nat.sub_self]
      rfl
    have gN : (divPs ps s ch)[ps.length]? = some (some (((ps.length + 1 : Nat)) : Int)) := by
      rw [ed, List.getElem?_append_left (by omega), List.getElem?_set, if_pos rfl, if_pos (by rw [List.length_set, List.length_append, later_len]; exact Nat.lt_succ_self _)]
      rfl
    have gs : (divPs ps s ch)[s]? = some (some (((ps.length + 1 : Nat)) : Int)) := by
      rw [ed, List.getElem?_append_left (by omega), List.getElem?_set, if_neg (by omega), List.getElem?_set, if_pos rfl, if_pos (by rw [List.length_append, later_len]; exact Nat.lt_succ_of_lt hs)]
      rfl
    have gt : ∀ t, t < ps.length → t ≠ s → (divPs ps s ch)[t]? = some (if (t : Int) ∈ ch then some (ps.length : Int) else ps.getD t none) := fun t ht hne => by
      rw [ed, List.getElem?_append_left (by omega), List.getElem?_set, if_neg (by omega), List.getElem?_set, if_neg (Ne.symm hne), List.getElem?_append_left (by rw [later_len]; exact ht), later_get ht]
    have ld : (divPs ps s ch).length = ps.length + 2 := by rw [ed, List.length_append, l1]; rfl
    have rN1 : Reach (divPs ps s ch) (ps.length + 1) := .root gN1
    have rN : Reach (divPs ps s ch) ps.length := .step gN rN1
    have rs : Reach (divPs ps s ch) s := .step gs rN1
    have all : ∀ t, Reach ps t → Reach (divPs ps s ch) t := fun t h => by
      induction h with
      | root h =>
        have := hr1 _ h
        rw [this, ← er]
        exact rs
      | step h r ih =>
        rename_i t p
        have ht := (List.getElem?_eq_some_iff.mp h).1
        have hne : t ≠ s := fun z => by
          subst z
          rw [e0] at h
          cases h
        have g := gt t ht hne
        by_cases hm : (t : Int) ∈ ch
        · rw [if_pos hm] at g
          exact .step g rN
        · rw [if_neg hm, getD_some h] at g
          exact .step g ih
    refine ⟨one_root (r := ps.length + 1) (fun u hu => ?_) gN1, fun t ht => ?_⟩
    · have hul := (List.getElem?_eq_some_iff.mp hu).1
      rw [ld] at hul
      by_cases h1 : u = ps.length + 1
      · exact h1
      · by_cases h2 : u = ps.length
        · subst h2
          rw [gN] at hu
          cases hu
        · by_cases h3 : u = s
          · subst h3
            rw [gs] at hu
            cases hu
          · rw [gt u (by omega) h3] at hu
            split at hu
            · cases hu
            · have h4 : ps[u]? = some none := by rw [some_getD (by omega)]; exact hu
              exact absurd ((hr1 u h4).trans er.symm) h3
    · rw [ld] at ht
      by_cases h1 : t = ps.length + 1
      · exact h1 ▸ rN1
      · by_cases h2 : t = ps.length
        · exact h2 ▸ rN
        · exact all t (w.all t (by omega))
  | some q =>
    have e0 : ps[s]? = some (some q) := by rw [some_getD hs, hq]
    have ed : divPs ps s ch = later ps ch ++ [some q] := by
      unfold divPs
      rw [hq, if_neg (by intro z; cases z)]
    have gN : (divPs ps s ch)[ps.length]? = some (some q) := by
      rw [ed, List.getElem?_append_right (by rw [later_len]; exact Nat.le_refl _), later_len, Nat.sub_self]
      rfl
    have gt : ∀ t, t < ps.length → (divPs ps s ch)[t]? = some (if (t : Int) ∈ ch then some (ps.length : Int) else ps.getD t none) := fun t ht => by
      rw [ed, List.getElem?_append_left (by rw [later_len]; exact ht), later_get ht]
    have ld : (divPs ps s ch).length = ps.length + 1 := by rw [ed, List.length_append, later_len]; rfl
    have gs : (divPs ps s ch)[s]? = some (some q) := by rw [gt s hs, if_neg sn, hq]
    have inv : Reach (divPs ps s ch) s → Reach (divPs ps s ch) ps.length := fun h => by
      cases h with
      | root h => rw [gs] at h; cases h
      | step h r =>
        rw [gs] at h
        have := Option.some.inj (Option.some.inj h)
        subst this
        exact .step gN r
    have all : ∀ t, Reach ps t → Reach (divPs ps s ch) t := fun t h => by
      induction h with
      | root h =>
        rename_i t
        have ht := (List.getElem?_eq_some_iff.mp h).1
        have g := gt t ht
        rw [if_neg (fun hm => by rw [kid t hm] at h; cases h), getD_some h] at g
        exact .root g
      | step h r ih =>
        rename_i t p
        have ht := (List.getElem?_eq_some_iff.mp h).1
        have g := gt t ht
        by_cases hm : (t : Int) ∈ ch
        · rw [if_pos hm] at g
          have e := kid t hm
          rw [h] at e
          have : p = s := by
            have := Option.some.inj (Option.some.inj e)
            omega
          subst this
          exact .step g (inv ih)
        · rw [if_neg hm, getD_some h] at g
          exact .step g ih
    refine ⟨one_root (r := r) (fun u hu => ?_) ?_, fun t ht => ?_⟩
    · have hul := (List.getElem?_eq_some_iff.mp hu).1
      rw [ld] at hul
      by_cases h2 : u = ps.length
      · subst h2
        rw [gN] at hu
        cases hu
      · rw [gt u (by omega)] at hu
        split at hu
        · cases hu
        · exact hr1 u (by rw [some_getD (by omega)]; exact hu)
    · rw [gt r hrl, if_neg (fun hm => by rw [kid r hm] at hr; cases hr), getD_some hr]
    · rw [ld] at ht
      by_cases h2 : t = ps.length
      · exact h2 ▸ inv (all s (w.all s hs))
      · exact all t (w.all t (by omega))
theorem div_len {ps : Ps} {s : Nat} {ch : List Int} {own : List Int} {e : Int} (h : own.length = ps.length) : (divOwn ps own s e).length = (divPs ps s ch).length ∧ (divPs ps s ch).length ≤ ps.length + 2 ∧ ps.length < (divPs ps s ch).length := by
  unfold divOwn divPs
  split
  · refine ⟨?_, ?_, ?_⟩ <;> simp only [List.length_append, List.length_set, later_len, List.length_singleton, h] <;> omega
  · refine ⟨?_, ?_, ?_⟩ <;> simp only [List.length_append, List.length_set, later_len, List.length_singleton, h] <;> omega
end OC

set_option maxHeartbeats 4000000
namespace OC
open PySem PySem.Spec PyProof.Rows L2
theorem over_none {z : Int} {ps : Ps} {own : List Int} (h : overF z ps own = none) {t : Nat} (ht : t < ps.length) : own.getD t 0 + (kidsF ps t).length ≤ z := by
  have := List.find?_eq_none.mp h t (List.mem_range.mpr ht)
  simp only [decide_eq_true_eq] at this
  omega
/-- what is told of a wood -/
structure Okw (z : Int) (ps : Ps) (own : List Int) (m : Nat) : Prop where
  wf : Wf ps
  len : own.length = ps.length
  few : ps.length ≤ m
  fit : ∀ t, t < ps.length → 0 ≤ own.getD t 0 ∧ own.getD t 0 + (kidsF ps t).length ≤ z
theorem inc_len {own : List Int} {t : Nat} : (inc own t).length = own.length := List.length_set
theorem inc_nonneg {own : List Int} {n t : Nat} (hl : own.length = n) (h : ∀ u, u < n → 0 ≤ own.getD u 0) : ∀ u, u < n → 0 ≤ (inc own t).getD u 0 := fun u hu => by
  unfold inc
  by_cases ht : t < own.length
  · rw [getD_set ht]
    have h1 := h u hu
    have h2 := h t (by omega)
    split <;> omega
  · rw [List.set_eq_of_length_le (by omega)]
    exact h u hu
theorem getD_snoc {l : List Int} {x : Int} {u : Nat} : (l ++ [x]).getD u 0 = if u = l.length then x else l.getD u 0 := by
  rw [List.getD_eq_getElem?_getD, List.getD_eq_getElem?_getD]
  by_cases h : u < l.length
  · rw [List.getElem?_append_left h, if_neg (by omega)]
  · by_cases e : u = l.length
    · subst e
      rw [List.getElem?_append_right (Nat.le_refl _), Nat.sub_self, if_pos rfl]
      rfl
    · rw [if_neg e, List.getElem?_eq_none (by rw [List.length_append, List.length_singleton]; omega), List.getElem?_eq_none (by omega)]
theorem div_nonneg {ps : Ps} {own : List Int} {s : Nat} {e : Int} (hl : own.length = ps.length) (hs : s < ps.length) (h : ∀ u, u < ps.length → 0 ≤ own.getD u 0) (h0 : 0 ≤ e) (h1 : e ≤ own.getD s 0) : ∀ u : Nat, 0 ≤ (divOwn ps own s e).getD u 0 := fun u => by
  have base : 0 ≤ (own.set s (own.getD s 0 - e)).getD u 0 := by
    rw [getD_set (by omega)]
    split
    · omega
    · by_cases hu : u < ps.length
      · exact h u hu
      · rw [List.getD_eq_getElem?_getD, List.getElem?_eq_none (by omega)]
        exact Int.le_refl 0
  have b2 : 0 ≤ (own.set s (own.getD s 0 - e) ++ [e]).getD u 0 := by
    rw [getD_snoc]
    split <;> omega
  unfold divOwn
  split
  · rw [getD_snoc]
    split
    · omega
    · exact b2
  · exact b2
theorem fin_ok {z : Int} {ps ps2 : Ps} {own own2 : List Int} (h : fin_ z ps own = .ok ps2 own2) : ps2 = ps ∧ own2 = own ∧ overF z ps own = none := by
  unfold fin_ at h
  cases q : overF z ps own with
  | none =>
    rw [q] at h
    injection h with a b
    exact ⟨a.symm, b.symm, rfl⟩
  | some t =>
    rw [q] at h
    cases h
theorem arr_ok {z : Int} {ps ps2 : Ps} {own own2 : List Int} {table : Int} {dv : Option (Int × Int × List Int)} {m : Nat} (ok : Okw z ps own m) (h : arrF z ps own table dv = .ok ps2 own2) : Okw z ps2 own2 (m + 2) ∧ ¬ (ps2 = ps ∧ own2 = own) := by
  have n0 : ∀ u, u < ps.length → 0 ≤ own.getD u 0 := fun u hu => (ok.fit u hu).1
  unfold arrF at h
  by_cases ht : 0 ≤ table ∧ table < ps.length
  · rw [if_pos ht] at h
    have n1 := inc_nonneg (t := table.toNat) ok.len n0
    have l1 : (inc own table.toNat).length = ps.length := inc_len.trans ok.len
    cases dv with
    | none =>
      obtain ⟨rfl, rfl, ho⟩ := fin_ok h
      refine ⟨⟨ok.wf, l1, by have := ok.few; omega, fun t ht => ⟨n1 t ht, over_none ho ht⟩⟩, fun e => ?_⟩
      have := congrArg (fun l => l.getD table.toNat 0) e.2
      simp only [inc] at this
      rw [getD_set (by have := ok.len; omega), if_pos rfl] at this
      omega
    | some d =>
      obtain ⟨s, e, ch⟩ := d
      dsimp only at h
      by_cases g : GoodDiv ps (inc own table.toNat) s e ch
      · rw [if_pos g] at h
        obtain ⟨rfl, rfl, ho⟩ := fin_ok h
        have hs : s.toNat < ps.length := by have := g.s0; have := g.s1; omega
        obtain ⟨d1, d2, d3⟩ := div_len (ps := ps) (s := s.toNat) (ch := ch) (own := inc own table.toNat) (e := e) l1
        refine ⟨⟨div_wf ok.wf hs g.sub, d1, by have := ok.few; omega, fun t ht => ⟨div_nonneg l1 hs n1 g.e0 g.e1 t, over_none ho ht⟩⟩, fun e => ?_⟩
        have := congrArg List.length e.1
        omega
      · rw [if_neg g] at h
        cases h
  · rw [if_neg ht] at h
    cases h
end OC

namespace OC
open PySem PySem.Spec PyProof.Rows L2
local macro_rules | `(tactic| walk_at "sz") => `(tactic| first
  | exact sz100 (by (try simp only [List.length_append, List.length_cons, List.length_nil, List.length_replicate, List.length_set, List.length_map, List.length_singleton]); omega)
  | exact sz100l (by (try simp only [List.length_append, List.length_cons, List.length_nil, List.length_replicate, List.length_set, List.length_map, List.length_singleton]); omega)
  | omega | decide)
local macro_rules | `(tactic| walk_at "side") => `(tactic| first
  | omega | decide | exact div9 (by omega) (by omega) | exact mul8 (by omega) (by omega) | exact mul9 (by omega) (by omega)
  | exact ⟨by omega, by omega, by decide⟩)
local macro_rules | `(tactic| walk_at "oc") => `(tactic| first
  | with_reducible refine go_seq ?_
  | with_reducible refine go_varc ?_
  | with_reducible refine go_c ?_
  | with_reducible refine go_op ?_
  | with_reducible refine go_cons ?_
  | with_reducible refine go_nil ?_
  | with_reducible refine go_asg ?_
  | with_reducible refine go_name ?_
  | with_reducible refine go_cb ?_
  | with_reducible refine go_ret ?_
  | with_reducible refine go_ifs ?_
  | with_reducible refine go_tT ?_
  | with_reducible refine go_tB ?_
  | with_reducible refine go_bl ?_
  | with_reducible refine go_sqLc ?_
  | with_reducible refine go_sqTc ?_
  | with_reducible refine go_fldc ?_
  | with_reducible refine go_sfldc ?_
  | with_reducible refine go_setLc ?_
  | with_reducible refine go_mec ?_
  | with_reducible refine go_addI ?_
  | with_reducible refine go_I0 ?_
  | with_reducible refine go_eq2I ?_
  | with_reducible refine go_ne2I ?_
  | with_reducible refine go_len2L ?_
  | with_reducible refine go_len2U ?_
  | with_reducible refine go_int ?_
  | with_reducible refine go_fld0 ?_
  | with_reducible refine go_sfld0 ?_
  | with_reducible refine go_not ?_
  | with_reducible refine go_and ?_
  | with_reducible refine go_or ?_
  | with_reducible refine go_andV ?_
  | with_reducible refine go_orV ?_
  | with_reducible refine go_notV ?_
  | with_reducible refine go_ife ?_
  | with_reducible refine go_drop ?_
  | with_reducible refine go_next ?_
  | with_reducible refine go_gsub ?_
  | with_reducible refine go_bm ?_
  | with_reducible refine go_bm0 ?_
  | with_reducible refine go_tyL ?_
  | with_reducible refine go_call ?_
  | with_reducible refine go_me0 ?_
  | with_reducible refine go_tup ?_
  | with_reducible refine go_lst ?_
  | with_reducible refine go_isN2 ?_
  | with_reducible refine go_notN2 ?_
  | with_reducible refine go_intB ?_
  | with_reducible refine go_retN ?_
  | with_reducible refine go_un ?_
  | with_reducible refine go_U ?_
  | with_reducible refine go_raise ?_
  | with_reducible refine go_isi ?_
  | with_reducible refine go_m1 ?_
  | with_reducible refine go_strS ?_
  | with_reducible refine go_sl0 ?_
  | with_reducible refine go_nopart ?_
  | (with_reducible refine go_slL ?_; intro p)
  | with_reducible refine go_part ?_
  | with_reducible refine go_sli ?_
  | with_reducible refine go_mk ?_
  | (with_reducible refine go_mkE ?_; intro x dx)
  | with_reducible refine go_mkR ?_
  | with_reducible refine go_par ?_
  | with_reducible refine go_parE ?_
  | with_reducible refine go_brk ?_
  | with_reducible refine go_ct ?_
  | ((with_reducible refine go_dT ?e ?_); (case e => omega))
  | ((with_reducible refine go_dF ?e ?_); (case e => omega))
  | ((with_reducible refine go_nT ?e ?_); (case e => omega))
  | ((with_reducible refine go_nF ?e ?_); (case e => omega))
  | ((with_reducible refine go_ifT ?e ?_); (case e => rfl))
  | ((with_reducible refine go_ifF ?e ?_); (case e => rfl))
  | ((with_reducible refine go_I ?e ?_); (case e => walk_at "side"))
  | ((with_reducible refine go_mulI ?e ?_); (case e => walk_at "side"))
  | ((with_reducible refine go_eq2S ?e ?_); (case e => rfl))
  | ((with_reducible refine go_ne2S ?e ?_); (case e => rfl))
  | with_reducible refine go_tmkO ?_
  | ((with_reducible refine go_mkO ?e1 ?e2 ?_); (case e1 => rfl); (case e2 => exact Nat.le_of_ble_eq_true rfl))
  | ((with_reducible refine go_newL ?e ?_); (case e => walk_at "sz"); intro p)
  | ((with_reducible refine go_newU ?e ?_); (case e => walk_at "sz"); intro p)
  | ((with_reducible refine go_ext ?e ?_); (case e => walk_at "sz"))
  | ((with_reducible refine go_app ?e ?_); (case e => walk_at "sz"))
  | ((with_reducible refine go_addL ?e ?_); (case e => walk_at "sz"); intro p)
  | ((with_reducible refine go_mul1 ?e1 ?e2 ?e3 ?_); (case e1 => omega); (case e2 => omega); (case e3 => walk_at "sz"); intro p)
  | ((with_reducible refine go_mulL ?e1 ?e2 ?e3 rfl ?_); (case e1 => omega); (case e2 => omega); (case e3 => walk_at "sz"); intro p)
  | (with_reducible refine go_list ?_; intro p)
  | (with_reducible refine go_listU ?_; intro p)
  | (with_reducible refine go_tupl ?_; intro p)
  | with_reducible refine go_min2 ?_
  | with_reducible refine go_max2 ?_
  | with_reducible refine go_abs ?_
  | with_reducible refine go_for1 ?_
  | with_reducible refine go_for2 ?_
  | with_reducible refine go_forL ?_
  | with_reducible refine go_forU ?_
  | ((with_reducible refine go_rg1 ?e1 ?e2 ?_); (case e1 => omega); (case e2 => omega))
  | ((with_reducible refine go_rg2 ?e ?_); (case e => omega))
  | with_reducible refine go_ovL ?_
  | with_reducible refine go_ovU ?_
  | with_reducible refine go_lc1 ?_
  | with_reducible refine go_lc2 ?_
  | with_reducible refine go_lcL ?_
  | ((with_reducible refine go_rc1 ?e1 ?e2 ?_); (case e1 => omega); (case e2 => omega))
  | ((with_reducible refine go_rc2 ?e ?_); (case e => omega))
  | with_reducible refine go_ocL ?_
  | ((with_reducible refine go_wipe ?e ?_); (case e => rfl))
  | with_reducible refine go_eqPS ?_
  | with_reducible refine go_nePS ?_
  | with_reducible refine go_eqIS ?_
  | with_reducible refine go_neIS ?_
  | with_reducible refine go_fldA ?_
  | with_reducible refine go_eqO ?_
  | with_reducible refine go_rbool ?_
  | with_reducible refine go_mecA ?_
  | with_reducible refine go_isiO ?_
  | with_reducible refine go_forE ?_
  | with_reducible refine go_lcE ?_
  | with_reducible refine go_ren ?_
  | ((with_reducible refine go_gtup ?e ?_); (case e => rfl))
  | with_reducible refine go_gcons ?_
  | with_reducible refine go_gnil ?_
  | with_reducible refine go_chain ?_
  | with_reducible refine go_ch ?_
  | with_reducible refine go_inI ?_
  | with_reducible refine go_notinI ?_
  | with_reducible refine go_cntO ?_
  | with_reducible refine go_rev0 ?_
  | (with_reducible refine go_rev ?_; intro p)
  | with_reducible refine go_yes ?_)


def top (i : Nat) : Stmt := PySem.Challenge.pw_onecopy_k32_one_arrival.main.body.getD i (.Pass ⟨0, 0, 0, 0⟩)
abbrev s_wall : Stmt := top 0
abbrev s_LotErrorU_initU : Stmt := inClass (top 3) 0
abbrev s_NoTableU_initU : Stmt := inClass (top 4) 0
abbrev s_InvalidTreeU_initU : Stmt := inClass (top 5) 0
abbrev s_InvalidDivisionU_initU : Stmt := inClass (top 6) 0
abbrev s_OverfullU_initU : Stmt := inClass (top 7) 0
abbrev s_children_lists : Stmt := top 9
abbrev s_tables_down : Stmt := top 10
abbrev s_table_weights : Stmt := top 11
abbrev s_divided_lists : Stmt := top 12
abbrev s_TableTreeU_initU : Stmt := inClass (top 13) 0
abbrev s_TableTreeU_eqU : Stmt := inClass (top 13) 1
abbrev s_TableTree_parents : Stmt := inClass (top 13) 2
abbrev s_TableTree_own : Stmt := inClass (top 13) 3
abbrev s_TableTree_weights : Stmt := inClass (top 13) 4
abbrev s_TableTree_children : Stmt := inClass (top 13) 5
abbrev s_TableTree_things : Stmt := inClass (top 13) 6
abbrev s_TableTree_weight : Stmt := inClass (top 13) 7
abbrev s_TableTree_is_due : Stmt := inClass (top 13) 8
abbrev s_TableTree_is_keepable : Stmt := inClass (top 13) 9
abbrev s_TableTree_as_standing : Stmt := inClass (top 13) 10
abbrev s_TableTree_weights_after : Stmt := inClass (top 13) 11
abbrev s_TableTree_arrive : Stmt := inClass (top 13) 12
abbrev s_TableTreeUcheck_table : Stmt := inClass (top 13) 13
abbrev s_TableTreeUcheck_division : Stmt := inClass (top 13) 14
abbrev s_law_fold : Stmt := top 15
abbrev s_law_purse : Stmt := top 16
abbrev s_law_take : Stmt := top 17
abbrev s_law_build : Stmt := top 18
abbrev s_law_fill : Stmt := top 19
abbrev s_law_labels : Stmt := top 20
abbrev s_law_labelled : Stmt := top 21
abbrev s_law_wood : Stmt := top 22
abbrev s_law_kids : Stmt := top 23
abbrev s_law_order : Stmt := top 24
abbrev s_law_weights : Stmt := top 25
abbrev s_law_whole : Stmt := top 26
abbrev s_law_flag : Stmt := top 27
abbrev s_law_row : Stmt := top 28
abbrev s_law_made : Stmt := top 29
abbrev s_law_tells : Stmt := top 30
abbrev s_law_arrive : Stmt := top 31
abbrev s_law_wrong : Stmt := top 32
abbrev s_law_some : Stmt := top 33
abbrev s_law_division : Stmt := top 34
abbrev s_law_deed : Stmt := top 35
abbrev s_law_outcome : Stmt := top 36
abbrev s_law_one : Stmt := top 37
abbrev s_law : Stmt := top 38

/-- what the top has written -/
class Txt (K : PySem.W.Frag) (mg : outParam (Str → Option Value)) (CT CN CV CF CI CL CO : outParam Addr) : Prop where
  cTableTree : Cls K CT
  nZ : NoAttr K CT "size"
  nP : NoAttr K CT "_parents"
  nO : NoAttr K CT "_own"
  nB : NoAttr K CT "_below"
  nW : NoAttr K CT "_weights"
  gTableTree : mg "TableTree" = some (.ref CT)
  gNoTable : mg "NoTable" = some (.ref CN)
  gInvalidDivision : mg "InvalidDivision" = some (.ref CV)
  gOverfull : mg "Overfull" = some (.ref CF)
  gInvalidTree : mg "InvalidTree" = some (.ref CI)
  gLotError : mg "LotError" = some (.ref CL)
  gOnecopyError : mg "OnecopyError" = some (.ref CO)
  n_len : mg "len" = none
  n_list : mg "list" = none
  n_int : mg "int" = none
  n_bool : mg "bool" = none
  n_range : mg "range" = none
  n_min : mg "min" = none
  n_max : mg "max" = none
  n_abs : mg "abs" = none
  n_set : mg "set" = none
  n_enumerate : mg "enumerate" = none
  n_isinstance : mg "isinstance" = none
  n_ValueError : mg "ValueError" = none
/-! ### a tree -/
def dfT (z : Int) (pa oa ba wa : Addr) : List (Str × V) := [(("size" : Str), V.int z), (("_parents" : Str), V.ref pa), (("_own" : Str), V.ref oa), (("_below" : Str), V.ref ba), (("_weights" : Str), V.ref wa)]
section
variable {z : Int} {pa oa ba wa : Addr}
theorem dfT_n {m : Str} (h1 : ¬ m = "size" := by decide +kernel) (h2 : ¬ m = "_parents" := by decide +kernel) (h3 : ¬ m = "_own" := by decide +kernel) (h4 : ¬ m = "_below" := by decide +kernel) (h5 : ¬ m = "_weights" := by decide +kernel) : (dfT z pa oa ba wa).lookup m = none := by
  have a1 : (m == ("size" : Str)) = false := by simpa using h1
  have a2 : (m == ("_parents" : Str)) = false := by simpa using h2
  have a3 : (m == ("_own" : Str)) = false := by simpa using h3
  have a4 : (m == ("_below" : Str)) = false := by simpa using h4
  have a5 : (m == ("_weights" : Str)) = false := by simpa using h5
  simp [dfT, List.lookup, a1, a2, a3, a4, a5]
instance : FldAt (dfT z pa oa ba wa) "size" (.int z) := ⟨rfl⟩
instance : FldAt (dfT z pa oa ba wa) "_parents" (.ref pa) := ⟨rfl⟩
instance : FldAt (dfT z pa oa ba wa) "_own" (.ref oa) := ⟨rfl⟩
instance : FldAt (dfT z pa oa ba wa) "_below" (.ref ba) := ⟨rfl⟩
instance : FldAt (dfT z pa oa ba wa) "_weights" (.ref wa) := ⟨rfl⟩
instance : PutAt [] "size" (.int z) [(("size" : Str), V.int z)] := ⟨rfl, by show 0 < 1000; decide⟩
instance : PutAt [(("size" : Str), V.int z)] "_parents" (.ref pa) [(("size" : Str), V.int z), (("_parents" : Str), V.ref pa)] := ⟨rfl, by show 1 < 1000; decide⟩
instance : PutAt [(("size" : Str), V.int z), (("_parents" : Str), V.ref pa)] "_own" (.ref oa) [(("size" : Str), V.int z), (("_parents" : Str), V.ref pa), (("_own" : Str), V.ref oa)] := ⟨rfl, by show 2 < 1000; decide⟩
instance : PutAt [(("size" : Str), V.int z), (("_parents" : Str), V.ref pa), (("_own" : Str), V.ref oa)] "_below" (.ref ba) [(("size" : Str), V.int z), (("_parents" : Str), V.ref pa), (("_own" : Str), V.ref oa), (("_below" : Str), V.ref ba)] := ⟨rfl, by show 3 < 1000; decide⟩
instance : PutAt [(("size" : Str), V.int z), (("_parents" : Str), V.ref pa), (("_own" : Str), V.ref oa), (("_below" : Str), V.ref ba)] "_weights" (.ref wa) (dfT z pa oa ba wa) := ⟨rfl, by show 4 < 1000; decide⟩
instance {K : PySem.W.Frag} {mg : Str → Option Value} {CT CN CV CF CI CL CO : Addr} [T : Txt K mg CT CN CV CF CI CL CO] : Att K CT "size" := ⟨T.cTableTree, T.nZ⟩
instance {K : PySem.W.Frag} {mg : Str → Option Value} {CT CN CV CF CI CL CO : Addr} [T : Txt K mg CT CN CV CF CI CL CO] : Att K CT "_parents" := ⟨T.cTableTree, T.nP⟩
instance {K : PySem.W.Frag} {mg : Str → Option Value} {CT CN CV CF CI CL CO : Addr} [T : Txt K mg CT CN CV CF CI CL CO] : Att K CT "_own" := ⟨T.cTableTree, T.nO⟩
instance {K : PySem.W.Frag} {mg : Str → Option Value} {CT CN CV CF CI CL CO : Addr} [T : Txt K mg CT CN CV CF CI CL CO] : Att K CT "_below" := ⟨T.cTableTree, T.nB⟩
instance {K : PySem.W.Frag} {mg : Str → Option Value} {CT CN CV CF CI CL CO : Addr} [T : Txt K mg CT CN CV CF CI CL CO] : Att K CT "_weights" := ⟨T.cTableTree, T.nW⟩
instance : NoFld (dfT z pa oa ba wa) "parents" := ⟨dfT_n⟩
instance : NoFld (dfT z pa oa ba wa) "own" := ⟨dfT_n⟩
instance : NoFld (dfT z pa oa ba wa) "weights" := ⟨dfT_n⟩
instance : NoFld (dfT z pa oa ba wa) "arrive" := ⟨dfT_n⟩
instance : NoFld (dfT z pa oa ba wa) "_check_table" := ⟨dfT_n⟩
instance : NoFld (dfT z pa oa ba wa) "_check_division" := ⟨dfT_n⟩
end


/-! ### the script, purses -/
section
variable {K : PySem.W.Frag} {T : Tups} {L : List Chunk} {Q : VK} {a : Addr} {xs : List V} {i : Int} {v : V}
theorem go_sqLK (r : ∀ H, Has H L → SqL K H a xs) (e : atI xs i = some v) (h : Go T L fun H => Q v H) : Go T L fun H => rIx K (.ref a) (.int i) H Q := fun H x t => .inl ⟨a, xs, i, v, rfl, rfl, r H x, e, h H x t⟩
theorem go_lenLK (r : ∀ H, Has H L → SqL K H a xs) (h : Go T L fun H => Q (.int xs.length) H) : Go T L fun H => rLen2 K [.ref a] H Q := fun H x t => .inl ⟨a, xs, rfl, .inl (r H x), h H x t⟩
end
structure Pu where
  c : Int
  s : Int
  n : Int
def purseC (a : Addr) (P : Pu) : Chunk := pt a (.lst [.int P.c, .int P.s, .int P.n])
theorem purse_open {T : Tups} {R : List Chunk} {a : Addr} {P : Pu} {N : Hp → Prop} (h : Go T (pt a (.lst [.int P.c, .int P.s, .int P.n]) :: R) N) : Go T (purseC a P :: R) N := h
theorem purse_close {T : Tups} {R : List Chunk} {a : Addr} {c s n : Int} {N : Hp → Prop} (h : Go T (purseC a ⟨c, s, n⟩ :: R) N) : Go T (pt a (.lst [.int c, .int s, .int n]) :: R) N := h
abbrev ScrAt (K : PySem.W.Frag) (L : List Chunk) (s : Addr) (ns : List Int) : Prop := (∀ H, Has H L → SqL K H s (ns.map V.int)) ∧ ns.length ≤ 100000
def spFold (K : PySem.W.Frag) : Sp := fun vs H Q E => ∃ (s : Addr) (ns : List Int) (T : Tups) (L : List Chunk), vs = [.ref s] ∧ ScrAt K L s ns ∧ Has H L ∧ HasT H T ∧ ∀ z, Go T L (Q (.int z))
def spPurse (K : PySem.W.Frag) : Sp := fun vs H Q E => ∃ (s : Addr) (ns : List Int) (k : Nat) (z : Int) (T : Tups) (L : List Chunk), vs = [.ref s, .int k, .int z] ∧ ScrAt K L s ns ∧ Has H L ∧ HasT H T ∧ ∀ a P, Go T (purseC a P :: L) (Q (.ref a))
theorem go_purse {K : PySem.W.Frag} {T : Tups} {L : List Chunk} {s : Addr} {ns : List Int} {k : Nat} {z : Int} {Q : VK} {E : XK} (r : ScrAt K L s ns) (h : ∀ a P, Go T (purseC a P :: L) fun H => Q (.ref a) H) : Go T L fun H => spPurse K [.ref s, .int k, .int z] H Q E := fun H x t => ⟨s, ns, k, z, T, L, rfl, r, x, t, h⟩
def spTake : Sp := fun vs H Q E => ∃ (p : Addr) (P : Pu) (size : Int) (T : Tups) (R : List Chunk), vs = [.ref p, .int size] ∧ Has H (purseC p P :: R) ∧ HasT H T ∧ 0 < size ∧ size < 2 ^ 90 ∧ ∀ r P', 0 ≤ r → r < size → Go T (purseC p P' :: R) (Q (.int r))
theorem go_take {T : Tups} {L R : List Chunk} {p : Addr} {P : Pu} {size : Int} {Q : VK} {E : XK} [q : Pull purseC L p P R] (h1 : 0 < size) (h2 : size < 2 ^ 90) (k : ∀ r P', 0 ≤ r → r < size → Go T (purseC p P' :: R) fun H => Q (.int r) H) : Go T L fun H => spTake [.ref p, .int size] H Q E := fun H x t =>
  ⟨p, P, size, T, R, rfl, x.pull (F := purseC), t, h1, h2, k⟩
theorem atI_ints {xs : List Int} {i : Int} (h0 : 0 ≤ i) (h1 : i < xs.length) : ∃ z, atI (xs.map V.int) i = some (.int z) := by
  obtain ⟨n, rfl⟩ : ∃ n : Nat, i = n := ⟨i.toNat, by omega⟩
  have hn : n < xs.length := by omega
  exact ⟨xs[n], atI_of (by rw [List.getElem?_map, List.getElem?_eq_getElem hn]; rfl)⟩
section
variable {P : Program} {w : World} {K : PySem.W.Frag} {mg : Str → Option Value} {base : Heap} {CT CN CV CF CI CL CO : Addr}
theorem sc_law_fold : FnScope ["script", "total", "k"] ["script"] (defScope s_law_fold) := ⟨rfl, rfl, rfl, by decide +kernel, rfl, by decide +kernel, by decide +kernel⟩
theorem d_fold {dvs : List V} (tx : Tx K mg "_law_fold" "_law_fold" s_law_fold ["script"] dvs) [T : Txt K mg CT CN CV CF CI CL CO]  : FnD P w K mg base "_law_fold" 1 ["script"] dvs (spFold K) := by
  obtain ⟨f, fd, ds, F, hm, hb, hd⟩ := tx.ex
  refine ⟨f, fd, ds, okN F sc_law_fold (fun vs H Q E h => ?_) (fun cdv A outer s H vs Q E hr tk hp h => ?_), hm, F.kp, hb, hd⟩
  · obtain ⟨s, ns, T', L, rfl, ⟨hr0, hz⟩, hs, ht, k⟩ := h
    rfl
  · obtain ⟨s, ns, T', L, rfl, ⟨hr0, hz⟩, hs, ht, k⟩ := h
    have nd := sc_law_fold.nd
    refine ⟨_, (pss_cons (ps_set (i := 1) nd rfl (Or.inl rfl) pe_int)
  (pss_cons (ps_for hp rfl (pi_range1 rfl T.n_range (pa_cons (pe_callB (callMin rfl) (by rfl) T.n_min (by decide +kernel) (pa_cons pe_int (pa_cons (pe_callB (callLenK (K := K)) (by rfl) T.n_len (by decide +kernel) (pa_cons (pv 0) pa_nil)) pa_nil))) pa_nil)) (pg_name (i := 2) nd rfl (Or.inl rfl))
  (pss_one (ps_set (i := 1) nd rfl (Or.inl rfl) (pe_op op_mod (pe_callTy callInt (by rfl) T.n_int (by decide +kernel) (pa_cons (pe_op opAdd (pe_op opAdd (pe_op opMul (pv 1) pe_int) (pe_op opMul (pe_ix (ixSeqK (K := K)) (pv 0) (pv 2) (fun _ _ => rfl)) pe_int)) (pv 2)) pa_nil)) pe_int))))
  (pss_one (ps_ret (pv 1))))), ?_⟩
    refine go_start hs ht ?_
    try dsimp only [cxOf, WOf]
    rw [show L2.start _ _ = [some (.ref s), none, none] from rfl]
    repeat walk_at "oc"
    refine go_lenLK hr0 ?_
    rw [List.length_map]
    repeat walk_at "oc"
    refine go_range (fun i σ1 T1 L1 => T1 = T' ∧ L1 = L ∧ ∃ (z : Int) (v : Option V), σ1 = [some (.ref s), some (.int z), v]) ⟨rfl, rfl, _, _, rfl⟩ ?_ ?_
    · rintro i σ1 T1 L1 hi ⟨rfl, rfl, z, v, rfl⟩
      have hi : (0 : Int) + i < ns.length := by
        split at hi <;> omega
      repeat walk_at "oc"
      obtain ⟨y, hy⟩ := atI_ints (xs := ns) (i := 0 + (i : Int)) (by omega) hi
      refine go_sqLK hr0 hy ?_
      repeat walk_at "oc"
      dsimp only
      exact go_at ⟨rfl, rfl, _, _, rfl⟩
    · rintro σ1 T1 L1 ⟨rfl, rfl, z, v, rfl⟩
      repeat walk_at "oc"
      exact k z

theorem sc_law_purse : FnScope ["script", "k", "seed", "cell", "state"] ["script", "k", "seed"] (defScope s_law_purse) := ⟨rfl, rfl, rfl, by decide +kernel, rfl, by decide +kernel, by decide +kernel⟩
theorem d_purse {dvs : List V} (tx : Tx K mg "_law_purse" "_law_purse" s_law_purse ["script", "k", "seed"] dvs) [T : Txt K mg CT CN CV CF CI CL CO]  : FnD P w K mg base "_law_purse" 1 ["script", "k", "seed"] dvs (spPurse K) := by
  obtain ⟨f, fd, ds, F, hm, hb, hd⟩ := tx.ex
  refine ⟨f, fd, ds, okN F sc_law_purse (fun vs H Q E h => ?_) (fun cdv A outer s H vs Q E hr tk hp h => ?_), hm, F.kp, hb, hd⟩
  · obtain ⟨s, ns, k0, z, T', L, rfl, ⟨hr0, hz⟩, hs, ht, k⟩ := h
    rfl
  · obtain ⟨s, ns, k0, z, T', L, rfl, ⟨hr0, hz⟩, hs, ht, k⟩ := h
    have nd := sc_law_purse.nd
    refine ⟨_, (pss_cons (ps_set (i := 3) nd rfl (Or.inl rfl) pe_int)
  (Evl.pss_cut (ps_if (pt_cmpR op_lt (pv 1) (pe_callB (callMin rfl) (by rfl) T.n_min (by decide +kernel) (pa_cons pe_int (pa_cons (pe_callB (callLenK (K := K)) (by rfl) T.n_len (by decide +kernel) (pa_cons (pv 0) pa_nil)) pa_nil))) (nomark _)) (pss_one (ps_set (i := 3) nd rfl (Or.inl rfl) (pe_callB callAbs (by rfl) T.n_abs (by decide +kernel) (pa_cons (pe_ix (ixSeqK (K := K)) (pv 0) (pv 1) (fun _ _ => rfl)) pa_nil)))) pss_nil)
  (pss_cons (ps_set (i := 4) nd rfl (Or.inl rfl) (pe_op op_mod (pe_callTy callInt (by rfl) T.n_int (by decide +kernel) (pa_cons (pe_op opAdd (pe_op opAdd (pe_op opAdd (pe_op opMul (pv 2) pe_int) (pe_op opMul (pv 3) pe_int)) (pe_op opMul (pv 1) pe_int)) pe_int) pa_nil)) pe_int))
  (Evl.pss_cut (ps_if (pt_cmpR op_lt (pv 3) (pe_op op_pow pe_int pe_int) (nomark _)) (pss_one (ps_set (i := 3) nd rfl (Or.inl rfl) pe_int)) pss_nil)
  (pss_one (ps_ret (pe_lst (pa_cons (pv 3) (pa_cons (pv 4) (pa_cons pe_int pa_nil)))))))))), ?_⟩
    refine go_start hs ht ?_
    try dsimp only [cxOf, WOf]
    rw [show L2.start _ _ = [some (.ref s), some (.int k0), some (.int z), none, none] from rfl]
    repeat walk_at "oc"
    refine go_cut (fun σ1 T1 L1 => T1 = T' ∧ L1 = L ∧ ∃ (y : Int), σ1 = [some (.ref s), some (.int k0), some (.int z), some (.int y), none]) ?_ ?_
    · repeat walk_at "oc"
      refine go_lenLK hr0 ?_
      rw [List.length_map]
      repeat walk_at "oc"
      refine go_d (fun h => ?_) (fun h => ?_)
      · repeat walk_at "oc"
        have hi : (k0 : Int) < ns.length := by
          split at h <;> omega
        obtain ⟨y, hy⟩ := atI_ints (xs := ns) (i := (k0 : Int)) (by omega) hi
        refine go_sqLK hr0 hy ?_
        repeat walk_at "oc"
        dsimp only
        exact go_at ⟨rfl, rfl, _, rfl⟩
      · repeat walk_at "oc"
        dsimp only
        exact go_at ⟨rfl, rfl, _, rfl⟩
    · rintro σ1 T1 L1 ⟨rfl, rfl, y, rfl⟩
      repeat walk_at "oc"
      refine go_cut (fun σ1 T2 L2 => T2 = T1 ∧ L2 = L1 ∧ ∃ (y z2 : Int), σ1 = [some (.ref s), some (.int k0), some (.int z), some (.int y), some (.int z2)]) ?_ ?_
      · repeat walk_at "oc"
        refine go_d (fun h => ?_) (fun h => ?_)
        · repeat walk_at "oc"
          dsimp only
          exact go_at ⟨rfl, rfl, _, _, rfl⟩
        · repeat walk_at "oc"
          dsimp only
          exact go_at ⟨rfl, rfl, _, _, rfl⟩
      · rintro σ1 T2 L2 ⟨rfl, rfl, y, z2, rfl⟩
        repeat walk_at "oc"
        exact k _ ⟨_, _, _⟩

theorem sc_law_take : FnScope ["purse", "many", "digit", "mixed"] ["purse", "many"] (defScope s_law_take) := ⟨rfl, rfl, rfl, by decide +kernel, rfl, by decide +kernel, by decide +kernel⟩
theorem d_take {dvs : List V} (tx : Tx K mg "_law_take" "_law_take" s_law_take ["purse", "many"] dvs) [T : Txt K mg CT CN CV CF CI CL CO]  : FnD P w K mg base "_law_take" 1 ["purse", "many"] dvs (spTake) := by
  obtain ⟨f, fd, ds, F, hm, hb, hd⟩ := tx.ex
  refine ⟨f, fd, ds, okN F sc_law_take (fun vs H Q E h => ?_) (fun cdv A outer s H vs Q E hr tk hp h => ?_), hm, F.kp, hb, hd⟩
  · obtain ⟨p, P0, size, T', R, rfl, hs, ht, h1, h2, k⟩ := h
    rfl
  · obtain ⟨p, P0, size, T', R, rfl, hs, ht, h1, h2, k⟩ := h
    have nd := sc_law_take.nd
    refine ⟨_, (pss_cons (ps_if (pt_cmpR op_gt (pe_ix (ixSeqK (K := K)) (pv 0) pe_int (fun _ _ => rfl)) pe_int (nomark _)) (pss_cons (ps_set (i := 2) nd rfl (Or.inl rfl) (pe_op op_mod (pe_callTy callInt (by rfl) T.n_int (by decide +kernel) (pa_cons (pe_ix (ixSeqK (K := K)) (pv 0) pe_int (fun _ _ => rfl)) pa_nil)) (pv 1)))
  (pss_cons (ps_asg (pe_op op_fdivW (pe_ix (ixSeqK (K := K)) (pv 0) pe_int (fun _ _ => rfl)) (pv 1)) (pg_sub (pv 0) pe_int set_list))
  (pss_one (ps_ret (pv 2))))) pss_nil)
  (pss_cons (ps_asg (pe_op opAdd (pe_ix (ixSeqK (K := K)) (pv 0) pe_int (fun _ _ => rfl)) pe_int) (pg_sub (pv 0) pe_int set_list))
  (pss_cons (ps_asg (pe_op op_mod (pe_callTy callInt (by rfl) T.n_int (by decide +kernel) (pa_cons (pe_op opAdd (pe_op opAdd (pe_op opMul (pe_ix (ixSeqK (K := K)) (pv 0) pe_int (fun _ _ => rfl)) pe_int) (pe_op opMul (pe_ix (ixSeqK (K := K)) (pv 0) pe_int (fun _ _ => rfl)) pe_int)) pe_int) pa_nil)) pe_int) (pg_sub (pv 0) pe_int set_list))
  (pss_cons (ps_set (i := 3) nd rfl (Or.inl rfl) (pe_op op_mod (pe_callTy callInt (by rfl) T.n_int (by decide +kernel) (pa_cons (pe_op opAdd (pe_op opMul (pe_ix (ixSeqK (K := K)) (pv 0) pe_int (fun _ _ => rfl)) pe_int) (pe_op op_fdivW (pe_ix (ixSeqK (K := K)) (pv 0) pe_int (fun _ _ => rfl)) pe_int)) pa_nil)) pe_int))
  (pss_one (ps_ret (pe_op op_mod (pe_callTy callInt (by rfl) T.n_int (by decide +kernel) (pa_cons (pe_op op_fdivW (pv 3) pe_int) pa_nil)) (pv 1)))))))), ?_⟩
    refine go_start hs ht ?_
    try dsimp only [cxOf, WOf]
    rw [show L2.start _ _ = [some (.ref p), some (.int size), none, none] from rfl]
    obtain ⟨c, s0, n⟩ := P0
    refine purse_open ?_
    dsimp only
    repeat walk_at "oc"
    refine go_d (fun h => ?_) (fun h => ?_)
    · repeat walk_at "oc"
      exact purse_close (k _ _ (Int.emod_nonneg _ (by omega)) (Int.emod_lt_of_pos _ h1))
    · repeat walk_at "oc"
      exact purse_close (k _ _ (Int.emod_nonneg _ (by omega)) (Int.emod_lt_of_pos _ h1))

end


section
variable {P : Program} {w : World} {K : PySem.W.Frag} {mg : Str → Option Value} {base : Heap} {CT CN CV CF CI CL CO : Addr}
theorem sc_law_kids : FnScope ["parents", "kids", "table"] ["parents"] (defScope s_law_kids) := ⟨rfl, rfl, rfl, by decide +kernel, rfl, by decide +kernel, by decide +kernel⟩
theorem d_kids {dvs : List V} (tx : Tx K mg "_law_kids" "_law_kids" s_law_kids ["parents"] dvs) [T : Txt K mg CT CN CV CF CI CL CO]  : FnD P w K mg base "_law_kids" 1 ["parents"] dvs (spKids Wf) := by
  obtain ⟨f, fd, ds, F, hm, hb, hd⟩ := tx.ex
  refine ⟨f, fd, ds, okN F sc_law_kids (fun vs H Q E h => ?_) (fun cdv A outer s H vs Q E hr tk hp h => ?_), hm, F.kp, hb, hd⟩
  · obtain ⟨a, ps, T', L, rfl, wf, hz, ra, hs, ht, k⟩ := h
    rfl
  · obtain ⟨a, ps, T', L, rfl, wf, hz, ra, hs, ht, k⟩ := h
    have nd := sc_law_kids.nd
    refine ⟨_, (pss_cons (ps_setLc (i := 1) (own := [("table", 2)]) (tt := tYes) rfl nd rfl rfl (sw_true rfl rfl rfl (by decide +kernel)) (pi_list (pv 0)) (blkOk_by (own := [("table", 2)]) (N := ["parents", "kids", "table"]) (sc := defScope s_law_kids) (by decide +kernel)) (fun _ _ _ _ _ => (pg_name (i := 2) nd rfl (Or.inl rfl))) (fun _ _ _ _ _ => pts_nil) (fun _ _ _ _ _ => (pe_lst pa_nil)))
  (pss_cons (ps_for hp rfl (pi_range1 rfl T.n_range (pa_cons (pe_callB (callLenK (K := K)) (by rfl) T.n_len (by decide +kernel) (pa_cons (pv 0) pa_nil)) pa_nil)) (pg_name (i := 2) nd rfl (Or.inl rfl))
  (pss_one (ps_if (pt_cmpR opNotN (pe_ix (ixSeqK (K := K)) (pv 0) (pv 2) (fun _ _ => rfl)) pe_non (nomark _)) (pss_one (ps_expr (pe_bmK (K := K) PySem.F.plainAttrs_list PySem.F.slot_list_append PySem.F.type_list_append mt_append (pe_ix (ixSeqK (K := K)) (pv 1) (pe_ix (ixSeqK (K := K)) (pv 0) (pv 2) (fun _ _ => rfl)) (fun _ _ => rfl)) (pa_cons (pv 2) pa_nil)))) pss_nil)))
  (pss_one (ps_ret (pv 1))))), ?_⟩
    refine go_start hs ht ?_
    try dsimp only [cxOf, WOf]
    rw [show L2.start _ _ = [some (.ref a), none, none] from rfl]
    repeat walk_at "oc"
    refine go_rows_nil ?_
    refine go_lcl (xs := ps.map PV) (σw := [some (.ref a), none, none]) rfl (fun i T1 L1 acc => T1 = T' ∧ ∃ as, as.length = i ∧ acc = as.map V.ref ∧ L1 = rowsC as (List.replicate i []) :: L) ⟨rfl, [], rfl, rfl, rfl⟩ ?_ ?_ ?_
    · rintro i T1 L1 acc ⟨rfl, as, _, _, rfl⟩
      infer_instance
    · rintro i v T1 L1 acc Dl hv ⟨rfl, as, hl, rfl, rfl⟩
      have hi := (List.getElem?_eq_some_iff.mp hv).1
      rw [List.length_map] at hi
      repeat walk_at "oc"
      rename_i q
      refine Go.ent (L' := pt q (.lst []) :: rowsC as (List.replicate i []) :: pt Dl (HO.lst (List.map V.ref as)) :: L) ?_
      refine go_rows_new (by rw [hl, List.length_replicate]) ?_
      refine go_item (sz100l (by rw [List.length_map]; omega)) ⟨rfl, as ++ [q], by rw [List.length_append, hl]; rfl, by rw [List.map_append]; rfl, ?_⟩
      rw [List.replicate_succ']
    · rintro T1 L1 acc Dl ⟨rfl, as, hl, rfl, rfl⟩
      rw [List.length_map] at hl ⊢
      rw [← rowsI_zero]
      repeat walk_at "oc"
      rw [List.length_map]
      repeat walk_at "oc"
      refine Go.ent (L' := rowsC as (rowsI ps 0) :: pt Dl (HO.lst (List.map V.ref as)) :: L) ?_
      refine go_range (fun i σ1 T2 L2 => T2 = T1 ∧ (∃ v, σ1 = [some (.ref a), some (.ref Dl), v]) ∧ L2 = rowsC as (rowsI ps i) :: pt Dl (HO.lst (List.map V.ref as)) :: L) ⟨rfl, ⟨_, rfl⟩, rfl⟩ ?_ ?_
      · rintro i σ1 T2 L2 hi ⟨rfl, ⟨v, rfl⟩, rfl⟩
        have hi : i < ps.length := by omega
        rw [show (0 : Int) + (i : Int) = (i : Int) by omega]
        repeat walk_at "oc"
        rcases wf.par hi with e | ⟨p, hp, e⟩
        · refine go_sqL (atI_of (pv_get e)) ?_
          repeat walk_at "oc"
          dsimp only
          refine go_at ⟨rfl, ⟨_, rfl⟩, ?_⟩
          rw [rowsI_none fun p hp z => by rw [e] at z; cases z]
        · refine go_sqL (atI_of (pv_get e)) ?_
          repeat walk_at "oc"
          refine go_sqL (atI_of (pv_get e)) ?_
          repeat walk_at "oc"
          obtain ⟨b, hb⟩ : ∃ b, as[p]? = some b := ⟨as[p]'(by omega), List.getElem?_eq_getElem _⟩
          refine go_sqL (atI_of (vref_get hb)) ?_
          haveI := rd_rows (L := rowsC as (rowsI ps i) :: pt Dl (HO.lst (List.map V.ref as)) :: L) hb (rowsI_get (i := i) hp)
          repeat walk_at "oc"
          refine go_rows_app (r := VN (kidsI ps i p)) hb (rowsI_get (i := i) hp) (sz100l (by rw [VN_len]; have := kidsI_le (ps := ps) i p; omega)) ?_
          rw [rowsI_set e hp]
          repeat walk_at "oc"
          dsimp only
          exact go_at ⟨rfl, ⟨_, rfl⟩, rfl⟩
      · rintro σ1 T2 L2 ⟨rfl, ⟨v, rfl⟩, rfl⟩
        repeat walk_at "oc"
        rw [show ((ps.length : Int)).toNat = ps.length by omega]
        exact Go.ent (k Dl as hl)

end


section
variable {P : Program} {w : World} {K : PySem.W.Frag} {mg : Str → Option Value} {base : Heap} {CT CN CV CF CI CL CO : Addr}
theorem sc_children_lists : FnScope ["parents", "below", "table", "parent", "_"] ["parents"] (defScope s_children_lists) := ⟨rfl, rfl, rfl, by decide +kernel, rfl, by decide +kernel, by decide +kernel⟩
theorem d_children {dvs : List V} (tx : Tx K mg "children_lists" "children_lists" s_children_lists ["parents"] dvs) [T : Txt K mg CT CN CV CF CI CL CO]  : FnD P w K mg base "children_lists" 1 ["parents"] dvs (spKids (fun _ => True)) := by
  obtain ⟨f, fd, ds, F, hm, hb, hd⟩ := tx.ex
  refine ⟨f, fd, ds, okN F sc_children_lists (fun vs H Q E h => ?_) (fun cdv A outer s H vs Q E hr tk hp h => ?_), hm, F.kp, hb, hd⟩
  · obtain ⟨a, ps, T', L, rfl, wf, hz, ra, hs, ht, k⟩ := h
    rfl
  · obtain ⟨a, ps, T', L, rfl, wf, hz, ra, hs, ht, k⟩ := h
    have nd := sc_children_lists.nd
    refine ⟨_, (pss_cons (ps_setLc (i := 1) (own := [("_", 4)]) (tt := tYes) rfl nd rfl rfl (sw_true rfl rfl rfl (by decide +kernel)) (pi_list (pv 0)) (blkOk_by (own := [("_", 4)]) (N := ["parents", "below", "table", "parent", "_"]) (sc := defScope s_children_lists) (by decide +kernel)) (fun _ _ _ _ _ => (pg_name (i := 4) nd rfl (Or.inl rfl))) (fun _ _ _ _ _ => pts_nil) (fun _ _ _ _ _ => (pe_lst pa_nil)))
  (pss_cons (ps_for hp rfl (pi_enum (by rfl) T.n_enumerate (pa_cons (pv 0) pa_nil)) (pg_tupK (K := K) rfl (pgs_cons (pg_name (i := 2) nd rfl (Or.inl rfl)) (pgs_cons (pg_name (i := 3) nd rfl (Or.inl rfl)) pgs_nil)))
  (pss_one (ps_if (PW.pt (pw_and (pt_cmpR opNotN (pv 3) pe_non (nomark _)) (pw_and1 (pt_chain op_le op_lt pe_int (pv 3) (pe_callB (callLenK (K := K)) (by rfl) T.n_len (by decide +kernel) (pa_cons (pv 0) pa_nil)))))) (pss_one (ps_expr (pe_bmK (K := K) PySem.F.plainAttrs_list PySem.F.slot_list_append PySem.F.type_list_append mt_append (pe_ix (ixSeqK (K := K)) (pv 1) (pv 3) (fun _ _ => rfl)) (pa_cons (pv 2) pa_nil)))) pss_nil)))
  (pss_one (ps_ret (pv 1))))), ?_⟩
    refine go_start hs ht ?_
    try dsimp only [cxOf, WOf]
    rw [show L2.start _ _ = [some (.ref a), none, none, none, none] from rfl]
    repeat walk_at "oc"
    refine go_rows_nil ?_
    refine go_lcl (xs := ps.map PV) (σw := [some (.ref a), none, none, none, none]) rfl (fun i T1 L1 acc => T1 = T' ∧ ∃ as, as.length = i ∧ acc = as.map V.ref ∧ L1 = rowsC as (List.replicate i []) :: L) ⟨rfl, [], rfl, rfl, rfl⟩ ?_ ?_ ?_
    · rintro i T1 L1 acc ⟨rfl, as, _, _, rfl⟩
      infer_instance
    · rintro i v T1 L1 acc Dl hv ⟨rfl, as, hl, rfl, rfl⟩
      have hi := (List.getElem?_eq_some_iff.mp hv).1
      rw [List.length_map] at hi
      repeat walk_at "oc"
      rename_i q
      refine Go.ent (L' := pt q (.lst []) :: rowsC as (List.replicate i []) :: pt Dl (HO.lst (List.map V.ref as)) :: L) ?_
      refine go_rows_new (by rw [hl, List.length_replicate]) ?_
      refine go_item (sz100l (by rw [List.length_map]; omega)) ⟨rfl, as ++ [q], by rw [List.length_append, hl]; rfl, by rw [List.map_append]; rfl, ?_⟩
      rw [List.replicate_succ']
    · rintro T1 L1 acc Dl ⟨rfl, as, hl, rfl, rfl⟩
      rw [List.length_map] at hl ⊢
      rw [← rowsI_zero]
      repeat walk_at "oc"
      refine Go.ent (L' := rowsC as (rowsI ps 0) :: pt Dl (HO.lst (List.map V.ref as)) :: L) ?_
      refine go_enum (xs := ps.map PV) (fun i σ1 T2 L2 => T2 = T1 ∧ (∃ v1 v2, σ1 = [some (.ref a), some (.ref Dl), v1, v2, none]) ∧ L2 = rowsC as (rowsI ps i) :: pt Dl (HO.lst (List.map V.ref as)) :: L) ⟨rfl, ⟨_, _, rfl⟩, rfl⟩ ?_ ?_ ?_
      · rintro i σ1 T2 L2 ⟨rfl, ⟨v1, v2, rfl⟩, rfl⟩
        infer_instance
      · rintro i v σ1 T2 L2 q hv ⟨rfl, ⟨v1, v2, rfl⟩, rfl⟩
        have hi := (List.getElem?_eq_some_iff.mp hv).1
        rw [List.length_map] at hi
        obtain ⟨o, ho⟩ : ∃ o, ps[i]? = some o := ⟨ps[i], List.getElem?_eq_getElem hi⟩
        rw [pv_get ho] at hv
        cases hv
        cases o with
        | none =>
          rw [show PV none = V.non from rfl]
          repeat walk_at "oc"
          dsimp only
          have e := rowsI_none (ps := ps) (i := i) fun p hp z => by rw [ho] at z; cases z
          exact go_at' (T' := T2) (L' := rowsC as (rowsI ps i) :: pt Dl (HO.lst (List.map V.ref as)) :: L) ⟨rfl, ⟨_, _, rfl⟩, by rw [e]⟩
        | some z =>
          rw [show PV (some z) = V.int z from rfl]
          repeat walk_at "oc"
          refine go_d (fun h0 => ?_) (fun h0 => ?_)
          · repeat walk_at "oc"
            rw [List.length_map]
            refine go_d (fun h1 => ?_) (fun h1 => ?_)
            · repeat walk_at "oc"
              obtain ⟨p, rfl⟩ : ∃ p : Nat, z = p := ⟨z.toNat, by omega⟩
              have hp : p < ps.length := by omega
              obtain ⟨b, hb⟩ : ∃ b, as[p]? = some b := ⟨as[p]'(by omega), List.getElem?_eq_getElem _⟩
              refine go_sqL (atI_of (vref_get hb)) ?_
              haveI := rd_rows (L := rowsC as (rowsI ps i) :: pt Dl (HO.lst (List.map V.ref as)) :: L) hb (rowsI_get (i := i) hp)
              repeat walk_at "oc"
              refine go_rows_app (r := VN (kidsI ps i p)) hb (rowsI_get (i := i) hp) (sz100l (by rw [VN_len]; have := kidsI_le (ps := ps) i p; omega)) ?_
              rw [rowsI_set ho hp]
              repeat walk_at "oc"
              dsimp only
              exact go_at' (T' := T2) (L' := rowsC as (rowsI ps (i + 1)) :: pt Dl (HO.lst (List.map V.ref as)) :: L) ⟨rfl, ⟨_, _, rfl⟩, rfl⟩
            · repeat walk_at "oc"
              dsimp only
              have e := rowsI_none (ps := ps) (i := i) fun p hp z => by rw [ho] at z; have := Option.some.inj (Option.some.inj z); omega
              exact go_at' (T' := T2) (L' := rowsC as (rowsI ps i) :: pt Dl (HO.lst (List.map V.ref as)) :: L) ⟨rfl, ⟨_, _, rfl⟩, by rw [e]⟩
          · repeat walk_at "oc"
            dsimp only
            have e := rowsI_none (ps := ps) (i := i) fun p hp z => by rw [ho] at z; have := Option.some.inj (Option.some.inj z); omega
            exact go_at' (T' := T2) (L' := rowsC as (rowsI ps i) :: pt Dl (HO.lst (List.map V.ref as)) :: L) ⟨rfl, ⟨_, _, rfl⟩, by rw [e]⟩
      · rintro σ1 T2 L2 ⟨rfl, ⟨v1, v2, rfl⟩, rfl⟩
        rw [List.length_map]
        repeat walk_at "oc"
        exact Go.ent (k Dl as hl)

end


section
variable {P : Program} {w : World} {K : PySem.W.Frag} {mg : Str → Option Value} {base : Heap} {CT CN CV CF CI CL CO : Addr}
theorem sc_law_order : FnScope ["parents", "kids", "order", "at", "kid", "table"] ["parents"] (defScope s_law_order) := ⟨rfl, rfl, rfl, by decide +kernel, rfl, by decide +kernel, by decide +kernel⟩
theorem d_order {dvs : List V} (tx : Tx K mg "_law_order" "_law_order" s_law_order ["parents"] dvs) [T : Txt K mg CT CN CV CF CI CL CO] (D_law_kids : FnD P w K mg base "_law_kids" 1 ["parents"] [] (spKids Wf)) : FnD P w K mg base "_law_order" 2 ["parents"] dvs (spOrder Wf) := by
  obtain ⟨f, fd, ds, F, hm, hb, hd⟩ := tx.ex
  refine ⟨f, fd, ds, okN F sc_law_order (fun vs H Q E h => ?_) (fun cdv A outer s H vs Q E hr tk hp h => ?_), hm, F.kp, hb, hd⟩
  · obtain ⟨a, ps, T', L, rfl, wf, hz, ra, hs, ht, k⟩ := h
    rfl
  · obtain ⟨a, ps, T', L, rfl, wf, hz, ra, hs, ht, k⟩ := h
    have nd := sc_law_order.nd
    refine ⟨_, (pss_cons (ps_set (i := 1) nd rfl (Or.inl rfl) (pe_clD D_law_kids (hr.mono (by decide)) rfl (fun σ => L2N.passAt tk σ) (pa_cons (pv 0) pa_nil)))
  (pss_cons (ps_setLc (i := 2) (own := [("table", 5)]) rfl nd rfl rfl (sw_true rfl rfl rfl (by decide +kernel)) (pi_range1 rfl T.n_range (pa_cons (pe_callB (callLenK (K := K)) (by rfl) T.n_len (by decide +kernel) (pa_cons (pv 0) pa_nil)) pa_nil)) (blkOk_by (own := [("table", 5)]) (N := ["parents", "kids", "order", "at", "kid", "table"]) (sc := defScope s_law_order) (by decide +kernel)) (fun _ _ _ _ _ => (pg_name (i := 5) nd rfl (Or.inl rfl))) (fun _ _ _ _ _ => (pts_one (pt_cmpR opIsN (pe_ix (ixSeqK (K := K)) (pv 0) (pv 5) (fun _ _ => rfl)) pe_non (nomark _)))) (fun _ _ _ _ _ => (pv 5)))
  (pss_cons (ps_for hp rfl (pi_range1 rfl T.n_range (pa_cons (pe_callB (callLenK (K := K)) (by rfl) T.n_len (by decide +kernel) (pa_cons (pv 0) pa_nil)) pa_nil)) (pg_name (i := 3) nd rfl (Or.inl rfl))
  (pss_one (ps_for hp rfl (pi_list (pe_ix (ixSeqK (K := K)) (pv 1) (pe_ix (ixSeqK (K := K)) (pv 2) (pv 3) (fun _ _ => rfl)) (fun _ _ => rfl))) (pg_name (i := 4) nd rfl (Or.inl rfl))
  (pss_one (ps_expr (pe_bmK (K := K) PySem.F.plainAttrs_list PySem.F.slot_list_append PySem.F.type_list_append mt_append (pv 2) (pa_cons (pv 4) pa_nil)))))))
  (pss_one (ps_ret (pv 2)))))), ?_⟩
    refine go_start hs ht ?_
    try dsimp only [cxOf, WOf]
    rw [show L2.start _ _ = [some (.ref a), none, none, none, none, none] from rfl]
    repeat walk_at "oc"
    refine go_kids wf hz ra fun kk as hl => ?_
    repeat walk_at "oc"
    rw [List.length_map]
    repeat walk_at "oc"
    refine go_lcr (σw := [some (.ref a), some (.ref kk), none, none, none, none]) rfl (fun i T1 L1 acc => T1 = T' ∧ L1 = pt kk (.lst (as.map V.ref)) :: rowsC as (rowsF ps) :: L ∧ acc = VN ((List.range i).filter fun c => decide (ps[c]? = some none))) ⟨rfl, rfl, rfl⟩ ?_ ?_
    · rintro i T1 L1 acc Dl hi ⟨rfl, rfl, rfl⟩
      have hi : i < ps.length := by omega
      rw [show (0 : Int) + (i : Int) = (i : Int) by omega]
      have hb : (VN ((List.range i).filter fun c => decide (ps[c]? = some none))).length < 1000000 := by
        rw [VN_len]
        have := roots_le (ps := ps) i
        omega
      repeat walk_at "oc"
      rcases wf.par hi with e | ⟨p, hp, e⟩
      · refine go_sqL (atI_of (pv_get e)) ?_
        repeat walk_at "oc"
        refine go_item (sz100l hb) ⟨rfl, rfl, ?_⟩
        rw [roots_get, if_pos e, VN_app]
        rfl
      · refine go_sqL (atI_of (pv_get e)) ?_
        repeat walk_at "oc"
        refine go_skip ⟨rfl, rfl, ?_⟩
        rw [roots_get, if_neg (fun z => by rw [e] at z; cases z), List.append_nil]
    · rintro T1 L1 acc Dl ⟨rfl, rfl, rfl⟩
      rw [show ((ps.length : Int)).toNat = ps.length by omega]
      repeat walk_at "oc"
      rw [List.length_map]
      repeat walk_at "oc"
      refine go_range (fun i σ1 T2 L2 => T2 = T1 ∧ (∃ v1 v2 v3, σ1 = [some (.ref a), some (.ref kk), some (.ref Dl), v1, v2, v3]) ∧ L2 = pt Dl (.lst (VN (ordK ps i))) :: pt kk (.lst (as.map V.ref)) :: rowsC as (rowsF ps) :: L) ⟨rfl, ⟨_, _, _, rfl⟩, rfl⟩ ?_ ?_
      · rintro i σ1 T2 L2 hi ⟨rfl, ⟨v1, v2, v3, rfl⟩, rfl⟩
        have hi : i < ps.length := by omega
        rw [show (0 : Int) + (i : Int) = (i : Int) by omega]
        obtain ⟨u, hu, hun⟩ := wf.at hi
        obtain ⟨b, hb⟩ : ∃ b, as[u]? = some b := ⟨as[u]'(by omega), List.getElem?_eq_getElem _⟩
        repeat walk_at "oc"
        refine go_sqL (atI_of (VN_get hu)) ?_
        repeat walk_at "oc"
        refine go_sqL (atI_of (vref_get hb)) ?_
        haveI := rd_rows (L := pt Dl (.lst (VN (ordK ps i))) :: pt kk (.lst (as.map V.ref)) :: rowsC as (rowsF ps) :: L) hb (rowsF_get hun)
        repeat walk_at "oc"
        refine go_over (xs := VN (kidsF ps u)) (fun j σ1 T3 L3 => T3 = T2 ∧ (∃ v2, σ1 = [some (.ref a), some (.ref kk), some (.ref Dl), some (.int (i : Int)), v2, v3]) ∧ L3 = pt Dl (.lst (VN (ordK ps i ++ (kidsF ps u).take j))) :: pt kk (.lst (as.map V.ref)) :: rowsC as (rowsF ps) :: L) ⟨rfl, ⟨_, rfl⟩, ?_⟩ ?_ ?_ ?_
        · rw [List.take_zero, List.append_nil]
        · rintro j σ1 T3 L3 ⟨rfl, ⟨v2, rfl⟩, rfl⟩
          exact rd_rows hb (rowsF_get hun)
        · rintro j v σ1 T3 L3 hv ⟨rfl, ⟨v2, rfl⟩, rfl⟩
          have hj := (List.getElem?_eq_some_iff.mp hv).1
          rw [VN_len] at hj
          have e := List.getElem?_eq_getElem hj
          rw [VN_get e] at hv
          cases hv
          have hb1 : (VN (ordK ps i ++ (kidsF ps u).take j)).length < 1000000 := by
            rw [VN_len, List.length_append, List.length_take]
            have := ord_len (ps := ps) i
            have := kidsI_le (ps := ps) ps.length u
            rw [kidsI_full] at this
            omega
          repeat walk_at "oc"
          dsimp only
          refine go_at ⟨rfl, ⟨_, rfl⟩, ?_⟩
          rw [List.take_add_one, e, ← List.append_assoc, VN_app (_ ++ _)]
          rfl
        · rintro σ1 T3 L3 ⟨rfl, ⟨v2, rfl⟩, rfl⟩
          rw [VN_len, List.take_length, ← ord_succ hu]
          dsimp only
          exact go_at ⟨rfl, ⟨_, _, _, rfl⟩, rfl⟩
      · rintro σ1 T2 L2 ⟨rfl, ⟨v1, v2, v3, rfl⟩, rfl⟩
        repeat walk_at "oc"
        rw [show ((ps.length : Int)).toNat = ps.length by omega]
        exact Go.ent (k Dl)

end


section
variable {P : Program} {w : World} {K : PySem.W.Frag} {mg : Str → Option Value} {base : Heap} {CT CN CV CF CI CL CO : Addr}
theorem sc_tables_down : FnScope ["parents", "below", "order", "place", "table", "parent"] ["parents"] (defScope s_tables_down) := ⟨rfl, rfl, rfl, by decide +kernel, rfl, by decide +kernel, by decide +kernel⟩
theorem d_down {dvs : List V} (tx : Tx K mg "tables_down" "tables_down" s_tables_down ["parents"] dvs) [T : Txt K mg CT CN CV CF CI CL CO] (Dchildren_lists : FnD P w K mg base "children_lists" 1 ["parents"] [] (spKids (fun _ => True))) : FnD P w K mg base "tables_down" 2 ["parents"] dvs (spOrder (fun _ => True)) := by
  obtain ⟨f, fd, ds, F, hm, hb, hd⟩ := tx.ex
  refine ⟨f, fd, ds, okN F sc_tables_down (fun vs H Q E h => ?_) (fun cdv A outer s H vs Q E hr tk hp h => ?_), hm, F.kp, hb, hd⟩
  · obtain ⟨a, ps, T', L, rfl, _, hz, ra, hs, ht, k⟩ := h
    rfl
  · obtain ⟨a, ps, T', L, rfl, _, hz, ra, hs, ht, k⟩ := h
    have nd := sc_tables_down.nd
    refine ⟨_, (pss_cons (ps_set (i := 1) nd rfl (Or.inl rfl) (pe_clD Dchildren_lists (hr.mono (by decide)) rfl (fun σ => L2N.passAt tk σ) (pa_cons (pv 0) pa_nil)))
  (pss_cons (ps_setLc (i := 2) (own := [("table", 4), ("parent", 5)]) rfl nd rfl rfl (sw_true rfl rfl rfl (by decide +kernel)) (pi_enum (by rfl) T.n_enumerate (pa_cons (pv 0) pa_nil)) (blkOk_by (own := [("table", 4), ("parent", 5)]) (N := ["parents", "below", "order", "place", "table", "parent"]) (sc := defScope s_tables_down) (by decide +kernel)) (fun _ _ _ _ _ => (pg_tupK (K := K) (n := 2) rfl (pgs_cons (pg_name (i := 4) nd rfl (Or.inl rfl)) (pgs_cons (pg_name (i := 5) nd rfl (Or.inl rfl)) pgs_nil)))) (fun _ _ _ _ _ => (pts_one (pt_cmpR opIsN (pv 5) pe_non (nomark _)))) (fun _ _ _ _ _ => (pv 4)))
  (pss_cons (ps_set (i := 3) nd rfl (Or.inl rfl) pe_int)
  (pss_cons (ps_while hp (pt_cmpR op_lt (pv 3) (pe_callB (callLenK (K := K)) (by rfl) T.n_len (by decide +kernel) (pa_cons (pv 2) pa_nil)) (nomark _)) (pss_cons (ps_expr (pe_bmK (K := K) PySem.F.plainAttrs_list PySem.F.slot_list_extend PySem.F.type_list_extend mt_extend (pv 2) (pa_cons (pe_ix (ixSeqK (K := K)) (pv 1) (pe_ix (ixSeqK (K := K)) (pv 2) (pv 3) (fun _ _ => rfl)) (fun _ _ => rfl)) pa_nil)))
  (pss_one (ps_set (i := 3) nd rfl (Or.inl rfl) (pe_op opAdd (pv 3) pe_int)))))
  (pss_one (ps_ret (pv 2))))))), ?_⟩
    refine go_start hs ht ?_
    try dsimp only [cxOf, WOf]
    rw [show L2.start _ _ = [some (.ref a), none, none, none, none, none] from rfl]
    repeat walk_at "oc"
    refine go_kids trivial hz ra fun kk as hl => ?_
    repeat walk_at "oc"
    refine go_lce (xs := ps.map PV) (σw := [some (.ref a), some (.ref kk), none, none, none, none]) rfl (fun i T1 L1 acc => T1 = T' ∧ L1 = pt kk (.lst (as.map V.ref)) :: rowsC as (rowsF ps) :: L ∧ acc = VN ((List.range i).filter fun c => decide (ps[c]? = some none))) ⟨rfl, rfl, rfl⟩ ?_ ?_ ?_
    · rintro i T1 L1 acc ⟨rfl, rfl, rfl⟩
      infer_instance
    · rintro i v T1 L1 acc Dl q hv ⟨rfl, rfl, rfl⟩
      have hi := (List.getElem?_eq_some_iff.mp hv).1
      rw [List.length_map] at hi
      obtain ⟨o, ho⟩ : ∃ o, ps[i]? = some o := ⟨ps[i], List.getElem?_eq_getElem hi⟩
      rw [pv_get ho] at hv
      cases hv
      have hb : (VN ((List.range i).filter fun c => decide (ps[c]? = some none))).length < 1000000 := by
        rw [VN_len]
        have := roots_le (ps := ps) i
        omega
      cases o with
      | none =>
        rw [show PV none = V.non from rfl]
        repeat walk_at "oc"
        refine go_item' (T' := T1) (sz100l hb) ⟨rfl, rfl, ?_⟩
        rw [roots_get, if_pos ho, VN_app]
        rfl
      | some z =>
        rw [show PV (some z) = V.int z from rfl]
        repeat walk_at "oc"
        refine Go.lift (T := T1) ?_
        refine go_skip ⟨rfl, rfl, ?_⟩
        rw [roots_get, if_neg (fun z => by rw [ho] at z; cases z), List.append_nil]
    · rintro T1 L1 acc Dl ⟨rfl, rfl, rfl⟩
      rw [List.length_map]
      repeat walk_at "oc"
      refine go_while (fun m σ1 T2 L2 => T2 = T1 ∧ ∃ i : Nat, i + m = ps.length ∧ i ≤ (ordK ps i).length ∧ σ1 = [some (.ref a), some (.ref kk), some (.ref Dl), some (.int (i : Int)), none, none] ∧ L2 = pt Dl (.lst (VN (ordK ps i))) :: pt kk (.lst (as.map V.ref)) :: rowsC as (rowsF ps) :: L) ps.length ⟨rfl, 0, by omega, Nat.zero_le _, rfl, rfl⟩ ?_ ?_
      · rintro m σ1 T2 L2 ⟨rfl, i, hm, hi, rfl, rfl⟩
        repeat walk_at "oc"
        rw [VN_len]
        refine go_d (fun h => ?_) (fun h => ?_)
        · have hlt : i < (ordK ps i).length := by omega
          have hu := List.getElem?_eq_getElem hlt
          have hun := ord_lt (List.getElem_mem hlt)
          have hle := ord_len (ps := ps) i
          obtain ⟨b, hb⟩ : ∃ b, as[(ordK ps i)[i]]? = some b := ⟨as[(ordK ps i)[i]]'(by omega), List.getElem?_eq_getElem _⟩
          repeat walk_at "oc"
          refine go_sqL (atI_of (VN_get hu)) ?_
          repeat walk_at "oc"
          refine go_sqL (atI_of (vref_get hb)) ?_
          repeat walk_at "oc"
          refine go_ext_rows (r := VN (kidsF ps (ordK ps i)[i])) hb (rowsF_get hun) (sz100 (by
            rw [VN_len, VN_len]
            have := kidsI_le (ps := ps) ps.length (ordK ps i)[i]
            rw [kidsI_full] at this
            omega)) ?_
          rw [← VN_app, ← ord_succ hu]
          repeat walk_at "oc"
          dsimp only
          refine go_wend (k := m - 1) ⟨rfl, i + 1, by omega, ?_, rfl, rfl⟩ (by omega)
          rw [ord_succ hu, List.length_append]
          omega
        · repeat walk_at "oc"
          have hn : (ordK ps i)[i]? = none := List.getElem?_eq_none (by omega)
          rw [ord_end hn]
          exact Go.ent (k Dl)
      · rintro σ H Q Q' hq ⟨x, ex, y, ey, h⟩
        refine ⟨x, ex, y, ey, ?_⟩
        rcases h with ⟨p, ys, e1, e2, i, j, e3, e4, c, e5, q⟩ | ⟨z, e1, e2, i, j, e3, e4, c, e5, q⟩
        · exact .inl ⟨p, ys, e1, e2, i, j, e3, e4, c, e5, hq _ _ q⟩
        · exact .inr ⟨z, e1, e2, i, j, e3, e4, c, e5, hq _ _ q⟩

end


structure Wo where
  pa : Addr
  oa : Addr
  z : Int
  ps : Ps
  own : List Int
def woodC (a : Addr) (W : Wo) : Chunk := [(a, .lst [.int W.z, .ref W.pa, .ref W.oa]), (W.pa, .lst (W.ps.map PV)), (W.oa, .lst (W.own.map V.int))]
theorem wood_open {T : Tups} {R : List Chunk} {a : Addr} {W : Wo} {N : Hp → Prop} (h : Go T (pt a (.lst [.int W.z, .ref W.pa, .ref W.oa]) :: pt W.pa (.lst (W.ps.map PV)) :: pt W.oa (.lst (W.own.map V.int)) :: R) N) : Go T (woodC a W :: R) N := h.perm (.of_eq rfl)
theorem wood_close {T : Tups} {R : List Chunk} {a pa oa : Addr} {z : Int} {ps : Ps} {own : List Int} {N : Hp → Prop} (h : Go T (woodC a ⟨pa, oa, z, ps, own⟩ :: R) N) : Go T (pt a (.lst [.int z, .ref pa, .ref oa]) :: pt pa (.lst (ps.map PV)) :: pt oa (.lst (own.map V.int)) :: R) N := h.perm (.of_eq rfl)
/-- a wood that is well -/
structure OkT (z : Int) (ps : Ps) (own : List Int) : Prop where
  wf : Wf ps
  len : own.length = ps.length
  few : ps.length ≤ 1000
  fit : ∀ t, t < ps.length → 0 ≤ own.getD t 0 ∧ own.getD t 0 + (kidsF ps t).length ≤ z
abbrev wsL (z : Int) (ps : Ps) (own : List Int) : List Int := weightsF z ps own (List.replicate ps.length 0)
def spLW : Sp := fun vs H Q E => ∃ (a : Addr) (W : Wo) (T : Tups) (R : List Chunk), vs = [.ref a] ∧ OkT W.z W.ps W.own ∧ Has H (woodC a W :: R) ∧ HasT H T ∧ ∀ q, Go T (pt q (.lst ((wsL W.z W.ps W.own).map V.int)) :: woodC a W :: R) (Q (.ref q))
theorem go_lw {T : Tups} {L R : List Chunk} {a : Addr} {W : Wo} {Q : VK} {E : XK} [q : Pull woodC L a W R] (ok : OkT W.z W.ps W.own) (k : ∀ q, Go T (pt q (.lst ((wsL W.z W.ps W.own).map V.int)) :: woodC a W :: R) fun H => Q (.ref q) H) : Go T L fun H => spLW [.ref a] H Q E := fun H x t =>
  ⟨a, W, T, R, rfl, ok, x.pull (F := woodC), t, k⟩
def spTW : Sp := fun vs H Q E => ∃ (pa oa : Addr) (z : Int) (ps : Ps) (own : List Int) (T : Tups) (L : List Chunk), vs = [.int z, .ref pa, .ref oa] ∧ own.length = ps.length ∧ ps.length ≤ 1000 ∧ RdL L pa (ps.map PV) ∧ RdL L oa (own.map V.int) ∧ Has H L ∧ HasT H T ∧ ∀ q, Go T (pt q (.lst ((weightsF z ps own own).map V.int)) :: L) (Q (.ref q))
theorem go_tw {T : Tups} {L : List Chunk} {pa oa : Addr} {z : Int} {ps : Ps} {own : List Int} {Q : VK} {E : XK} (hl : own.length = ps.length) (hz : ps.length ≤ 1000) (r1 : RdL L pa (ps.map PV)) (r2 : RdL L oa (own.map V.int)) (k : ∀ q, Go T (pt q (.lst ((weightsF z ps own own).map V.int)) :: L) fun H => Q (.ref q) H) : Go T L fun H => spTW [.int z, .ref pa, .ref oa] H Q E := fun H x t =>
  ⟨pa, oa, z, ps, own, T, L, rfl, hl, hz, r1, r2, x, t, k⟩
section
variable {P : Program} {w : World} {K : PySem.W.Frag} {mg : Str → Option Value} {base : Heap} {CT CN CV CF CI CL CO : Addr}
theorem sc_law_weights : FnScope ["wood", "kids", "order", "weights", "back", "table", "weight", "kid"] ["wood"] (defScope s_law_weights) := ⟨rfl, rfl, rfl, by decide +kernel, rfl, by decide +kernel, by decide +kernel⟩
theorem d_weights {dvs : List V} (tx : Tx K mg "_law_weights" "_law_weights" s_law_weights ["wood"] dvs) [T : Txt K mg CT CN CV CF CI CL CO] (D_law_kids : FnD P w K mg base "_law_kids" 1 ["parents"] [] (spKids Wf)) (D_law_order : FnD P w K mg base "_law_order" 2 ["parents"] [] (spOrder Wf)) : FnD P w K mg base "_law_weights" 3 ["wood"] dvs (spLW) := by
  obtain ⟨f, fd, ds, F, hm, hb, hd⟩ := tx.ex
  refine ⟨f, fd, ds, okN F sc_law_weights (fun vs H Q E h => ?_) (fun cdv A outer s H vs Q E hr tk hp h => ?_), hm, F.kp, hb, hd⟩
  · obtain ⟨a, W, T', R, rfl, ok, hs, ht, k⟩ := h
    rfl
  · obtain ⟨a, W, T', R, rfl, ok, hs, ht, k⟩ := h
    have nd := sc_law_weights.nd
    refine ⟨_, (pss_cons (ps_set (i := 1) nd rfl (Or.inl rfl) (pe_clD D_law_kids (hr.mono (by decide)) rfl (fun σ => L2N.passAt tk σ) (pa_cons (pe_ix (ixSeqK (K := K)) (pv 0) pe_int (fun _ _ => rfl)) pa_nil)))
  (pss_cons (ps_set (i := 2) nd rfl (Or.inl rfl) (pe_clD D_law_order (hr.mono (by decide)) rfl (fun σ => L2N.passAt tk σ) (pa_cons (pe_ix (ixSeqK (K := K)) (pv 0) pe_int (fun _ _ => rfl)) pa_nil)))
  (pss_cons (ps_set (i := 3) nd rfl (Or.inl rfl) (pe_op opMul (pe_lst (pa_cons pe_int pa_nil)) (pe_callB (callLenK (K := K)) (by rfl) T.n_len (by decide +kernel) (pa_cons (pv 2) pa_nil))))
  (pss_cons (ps_for hp rfl (pi_range1 rfl T.n_range (pa_cons (pe_callB (callLenK (K := K)) (by rfl) T.n_len (by decide +kernel) (pa_cons (pv 2) pa_nil)) pa_nil)) (pg_name (i := 4) nd rfl (Or.inl rfl))
  (pss_cons (ps_set (i := 5) nd rfl (Or.inl rfl) (pe_ix (ixSeqK (K := K)) (pv 2) (pe_op op_sub (pe_op op_sub (pe_callB (callLenK (K := K)) (by rfl) T.n_len (by decide +kernel) (pa_cons (pv 2) pa_nil)) pe_int) (pv 4)) (fun _ _ => rfl)))
  (pss_cons (ps_set (i := 6) nd rfl (Or.inl rfl) (pe_ix (ixSeqK (K := K)) (pe_ix (ixSeqK (K := K)) (pv 0) pe_int (fun _ _ => rfl)) (pv 5) (fun _ _ => rfl)))
  (pss_cons (ps_for hp rfl (pi_list (pe_ix (ixSeqK (K := K)) (pv 1) (pv 5) (fun _ _ => rfl))) (pg_name (i := 7) nd rfl (Or.inl rfl))
  (pss_one (ps_set (i := 6) nd rfl (Or.inl rfl) (pe_op opAdd (pe_op opAdd (pv 6) pe_int) (pe_callTy callInt (by rfl) T.n_int (by decide +kernel) (pa_cons (pe_cmpR op_ge (pe_ix (ixSeqK (K := K)) (pv 3) (pv 7) (fun _ _ => rfl)) (pe_ix (ixSeqK (K := K)) (pv 0) pe_int (fun _ _ => rfl)) (nomark _)) pa_nil))))))
  (pss_one (ps_asg (pv 6) (pg_sub (pv 3) (pv 5) set_list)))))))
  (pss_one (ps_ret (pv 3))))))), ?_⟩
    refine go_start hs ht ?_
    try dsimp only [cxOf, WOf]
    rw [show L2.start _ _ = [some (.ref a), none, none, none, none, none, none, none] from rfl]
    obtain ⟨pa, oa, z, ps, own⟩ := W
    obtain ⟨wf, hlen, hfew, hfit⟩ := ok
    dsimp only at wf hlen hfew hfit k ⊢
    refine wood_open ?_
    dsimp only
    repeat walk_at "oc"
    refine go_kids wf hfew inferInstance fun kk as hl => ?_
    repeat walk_at "oc"
    refine go_order wf hfew inferInstance fun o => ?_
    have hol : (ordK ps ps.length).length = ps.length := wf.len
    repeat walk_at "oc"
    rw [VN_len, hol]
    repeat walk_at "oc"
    rename_i q
    rw [show (ps.length : Int).toNat = ps.length by omega, show List.replicate ps.length (V.int 0) = (wFold z ps own ((ordK ps ps.length).reverse.take 0) (List.replicate ps.length 0)).map V.int by rw [List.take_zero]; exact List.map_replicate.symm]
    repeat walk_at "oc"
    rw [VN_len, hol]
    repeat walk_at "oc"
    rw [show (ps.length : Int).toNat = ps.length by omega]
    refine Go.ent (L' := pt q (.lst ((wFold z ps own ((ordK ps ps.length).reverse.take 0) (List.replicate ps.length 0)).map V.int)) :: pt o (.lst (VN (ordK ps ps.length))) :: pt kk (.lst (as.map V.ref)) :: rowsC as (rowsF ps) :: pt a (.lst [.int z, .ref pa, .ref oa]) :: pt pa (.lst (ps.map PV)) :: pt oa (.lst (own.map V.int)) :: R) ?_
    refine go_range (fun i σ1 T1 L1 => T1 = T' ∧ (∃ v1 v2 v3 v4, σ1 = [some (.ref a), some (.ref kk), some (.ref o), some (.ref q), v1, v2, v3, v4]) ∧ L1 = pt q (.lst ((wFold z ps own ((ordK ps ps.length).reverse.take i) (List.replicate ps.length 0)).map V.int)) :: pt o (.lst (VN (ordK ps ps.length))) :: pt kk (.lst (as.map V.ref)) :: rowsC as (rowsF ps) :: pt a (.lst [.int z, .ref pa, .ref oa]) :: pt pa (.lst (ps.map PV)) :: pt oa (.lst (own.map V.int)) :: R) ⟨rfl, ⟨_, _, _, _, rfl⟩, rfl⟩ ?_ ?_
    · rintro i σ1 T1 L1 hi ⟨rfl, ⟨v1, v2, v3, v4, rfl⟩, rfl⟩
      rw [show (0 : Int) + (i : Int) = (i : Int) by omega]
      generalize hW : wFold z ps own ((ordK ps ps.length).reverse.take i) (List.replicate ps.length 0) = W
      have hWl : W.length = ps.length := by rw [← hW, wFold_len, List.length_replicate]
      repeat walk_at "oc"
      rw [VN_len, hol]
      repeat walk_at "oc"
      rw [show (ps.length : Int) - 1 - (i : Int) = ((ps.length - 1 - i : Nat) : Int) by omega]
      obtain ⟨u, hu⟩ : ∃ u, (ordK ps ps.length)[ps.length - 1 - i]? = some u := ⟨(ordK ps ps.length)[ps.length - 1 - i]'(by omega), List.getElem?_eq_getElem _⟩
      have hun : u < ps.length := ord_lt (List.mem_of_getElem? hu)
      have hur : (ordK ps ps.length).reverse[i]? = some u := by rw [List.getElem?_reverse (by omega), hol]; exact hu
      obtain ⟨b, hb⟩ : ∃ b, as[u]? = some b := ⟨as[u]'(by omega), List.getElem?_eq_getElem _⟩
      refine go_sqL (atI_of (VN_get hu)) ?_
      repeat walk_at "oc"
      refine go_sqL (atI_of (int_get (getD_at (w := own) (c := u) (by omega)))) ?_
      repeat walk_at "oc"
      refine go_sqL (atI_of (vref_get hb)) ?_
      haveI := rd_rows (L := pt q (.lst (W.map V.int)) :: pt o (.lst (VN (ordK ps ps.length))) :: pt kk (.lst (as.map V.ref)) :: rowsC as (rowsF ps) :: pt a (.lst [.int z, .ref pa, .ref oa]) :: pt pa (.lst (ps.map PV)) :: pt oa (.lst (own.map V.int)) :: R) hb (rowsF_get hun)
      repeat walk_at "oc"
      refine go_over (xs := VN (kidsF ps u)) (fun j σ1 T3 L3 => T3 = T1 ∧ (∃ v4, σ1 = [some (.ref a), some (.ref kk), some (.ref o), some (.ref q), some (.int (i : Int)), some (.int (u : Int)), some (.int (own.getD u 0 + j + (heavy z W ((kidsF ps u).take j)).length)), v4]) ∧ L3 = pt q (.lst (W.map V.int)) :: pt o (.lst (VN (ordK ps ps.length))) :: pt kk (.lst (as.map V.ref)) :: rowsC as (rowsF ps) :: pt a (.lst [.int z, .ref pa, .ref oa]) :: pt pa (.lst (ps.map PV)) :: pt oa (.lst (own.map V.int)) :: R) ⟨rfl, ⟨v4, ?_⟩, rfl⟩ ?_ ?_ ?_
      · rw [List.take_zero, show (heavy z W []).length = 0 from rfl]
        simp
      · rintro j σ1 T3 L3 ⟨rfl, ⟨v4, rfl⟩, rfl⟩
        exact rd_rows hb (rowsF_get hun)
      · rintro j v σ1 T3 L3 hv ⟨rfl, ⟨v4, rfl⟩, rfl⟩
        have hj := (List.getElem?_eq_some_iff.mp hv).1
        rw [VN_len] at hj
        have e := List.getElem?_eq_getElem hj
        rw [VN_get e] at hv
        cases hv
        have hkn : (kidsF ps u)[j] < ps.length := (List.getElem?_eq_some_iff.mp (mem_kids.mp (List.getElem_mem hj))).1
        repeat walk_at "oc"
        refine go_sqL (atI_of (int_get (getD_at (w := W) (c := (kidsF ps u)[j]) (by omega)))) ?_
        repeat walk_at "oc"
        dsimp only
        refine go_at ⟨rfl, ⟨some (.int ((kidsF ps u)[j] : Nat)), ?_⟩, rfl⟩
        rw [List.take_add_one, e]
        show _ = [some (V.ref a), some (V.ref kk), some (V.ref o), some (V.ref q), some (.int (i : Int)), some (.int (u : Int)), some (.int (own.getD u 0 + ((j + 1 : Nat) : Int) + (heavy z W ((kidsF ps u).take j ++ [(kidsF ps u)[j]])).length)), some (.int ((kidsF ps u)[j] : Nat))]
        rw [heavy_snoc, List.length_append]
        by_cases hh : W.getD (kidsF ps u)[j] 0 ≥ z
        · simp [hh, -List.getD_eq_getElem?_getD]
          omega
        · simp [hh, -List.getD_eq_getElem?_getD]
          omega
      · rintro σ1 T3 L3 ⟨rfl, ⟨v4, rfl⟩, rfl⟩
        rw [VN_len, List.take_length]
        repeat walk_at "oc"
        refine' go_setL (k := u) (by exact ixN_nat (by rw [List.length_map]; omega)) (by exact set_ints) ?_
        dsimp only
        refine go_at ⟨rfl, ⟨_, _, _, _, rfl⟩, ?_⟩
        rw [List.take_add_one, hur, Option.toList_some, wFold_snoc, hW]
        rfl
    · rintro σ1 T1 L1 ⟨rfl, ⟨v1, v2, v3, v4, rfl⟩, rfl⟩
      repeat walk_at "oc"
      rw [List.take_of_length_le (by rw [List.length_reverse, hol]; exact Nat.le_refl _)]
      have k1 := k q
      exact Go.ent (L' := pt q (.lst ((wFold z ps own (ordK ps ps.length).reverse (List.replicate ps.length 0)).map V.int)) :: pt a (.lst [.int z, .ref pa, .ref oa]) :: pt pa (.lst (ps.map PV)) :: pt oa (.lst (own.map V.int)) :: R) (k1.perm (.of_eq rfl))

end


section
variable {P : Program} {w : World} {K : PySem.W.Frag} {mg : Str → Option Value} {base : Heap} {CT CN CV CF CI CL CO : Addr}
theorem sc_table_weights : FnScope ["size", "parents", "own", "below", "weights", "table", "due", "child"] ["size", "parents", "own"] (defScope s_table_weights) := ⟨rfl, rfl, rfl, by decide +kernel, rfl, by decide +kernel, by decide +kernel⟩
theorem d_tw {dvs : List V} (tx : Tx K mg "table_weights" "table_weights" s_table_weights ["size", "parents", "own"] dvs) [T : Txt K mg CT CN CV CF CI CL CO] (Dchildren_lists : FnD P w K mg base "children_lists" 1 ["parents"] [] (spKids (fun _ => True))) (Dtables_down : FnD P w K mg base "tables_down" 2 ["parents"] [] (spOrder (fun _ => True))) : FnD P w K mg base "table_weights" 3 ["size", "parents", "own"] dvs (spTW) := by
  obtain ⟨f, fd, ds, F, hm, hb, hd⟩ := tx.ex
  refine ⟨f, fd, ds, okN F sc_table_weights (fun vs H Q E h => ?_) (fun cdv A outer s H vs Q E hr tk hp h => ?_), hm, F.kp, hb, hd⟩
  · obtain ⟨pa, oa, z, ps, own, T', L, rfl, hlen, hfew, r1, r2, hs, ht, k⟩ := h
    rfl
  · obtain ⟨pa, oa, z, ps, own, T', L, rfl, hlen, hfew, r1, r2, hs, ht, k⟩ := h
    have nd := sc_table_weights.nd
    refine ⟨_, (pss_cons (ps_set (i := 3) nd rfl (Or.inl rfl) (pe_clD Dchildren_lists (hr.mono (by decide)) rfl (fun σ => L2N.passAt tk σ) (pa_cons (pv 1) pa_nil)))
  (pss_cons (ps_set (i := 4) nd rfl (Or.inr rfl) (pe_callTy (callListK (K := K)) (by rfl) T.n_list (by decide +kernel) (pa_cons (pv 2) pa_nil)))
  (pss_cons (ps_for hp rfl (pi_list (pe_revLK (K := K) (pe_clD Dtables_down (hr.mono (by decide)) rfl (fun σ => L2N.passAt tk σ) (pa_cons (pv 1) pa_nil)))) (pg_name (i := 5) nd rfl (Or.inl rfl))
  (pss_cons (ps_setLc (i := 6) (own := [("child", 7)]) rfl nd rfl rfl (sw_true rfl rfl rfl (by decide +kernel)) (pi_list (pe_ix (ixSeqK (K := K)) (pv 3) (pv 5) (fun _ _ => rfl))) (blkOk_by (own := [("child", 7)]) (N := ["size", "parents", "own", "below", "weights", "table", "due", "child"]) (sc := defScope s_table_weights) (by decide +kernel)) (fun _ _ _ _ _ => (pg_name (i := 7) nd rfl (Or.inl rfl))) (fun _ _ _ _ _ => (pts_one (pt_cmpR op_ge (pe_ix (ixSeqK (K := K)) (pv 4) (pv 7) (fun _ _ => rfl)) (pv 0) (nomark _)))) (fun _ _ _ _ _ => (pv 7)))
  (pss_one (ps_asg (pe_op opAdd (pe_op opAdd (pe_ix (ixSeqK (K := K)) (pv 2) (pv 5) (fun _ _ => rfl)) (pe_callB (callLenK (K := K)) (by rfl) T.n_len (by decide +kernel) (pa_cons (pe_ix (ixSeqK (K := K)) (pv 3) (pv 5) (fun _ _ => rfl)) pa_nil))) (pe_callB (callLenK (K := K)) (by rfl) T.n_len (by decide +kernel) (pa_cons (pv 6) pa_nil))) (pg_sub (pv 4) (pv 5) set_list)))))
  (pss_one (ps_ret (pv 4)))))), ?_⟩
    refine go_start hs ht ?_
    try dsimp only [cxOf, WOf]
    rw [show L2.start _ _ = [some (.int z), some (.ref pa), some (.ref oa), none, none, none, none, none] from rfl]
    haveI := r1
    haveI := r2
    repeat walk_at "oc"
    refine go_kids trivial hfew r1 fun kk as hl => ?_
    repeat walk_at "oc"
    rename_i q
    refine go_order trivial hfew inferInstance fun o => ?_
    repeat walk_at "oc"
    rename_i o2
    rw [VN_rev]
    refine Go.ent (L' := pt q (.lst (own.map V.int)) :: pt o2 (.lst (VN (ordK ps ps.length).reverse)) :: pt kk (.lst (as.map V.ref)) :: rowsC as (rowsF ps) :: L) ?_
    repeat walk_at "oc"
    refine go_over (xs := VN (ordK ps ps.length).reverse) (fun i σ1 T1 L1 => T1 = T' ∧ (∃ v1 v2, σ1 = [some (.int z), some (.ref pa), some (.ref oa), some (.ref kk), some (.ref q), v1, v2, none]) ∧ ∃ X : List Chunk, L1 = pt q (.lst ((wFold z ps own ((ordK ps ps.length).reverse.take i) own).map V.int)) :: pt o2 (.lst (VN (ordK ps ps.length).reverse)) :: pt kk (.lst (as.map V.ref)) :: rowsC as (rowsF ps) :: L) ⟨rfl, ⟨_, _, rfl⟩, [], rfl⟩ ?_ ?_ ?_
    · rintro i σ1 T1 L1 ⟨rfl, ⟨v1, v2, rfl⟩, X, rfl⟩
      infer_instance
    · rintro i v σ1 T1 L1 hv ⟨rfl, ⟨v1, v2, rfl⟩, X, rfl⟩
      have hi := (List.getElem?_eq_some_iff.mp hv).1
      rw [VN_len] at hi
      have hur := List.getElem?_eq_getElem hi
      rw [VN_get hur] at hv
      cases hv
      generalize hu : (ordK ps ps.length).reverse[i] = u at hur
      have hun : u < ps.length := ord_lt (List.mem_reverse.mp (List.mem_of_getElem? hur))
      generalize hW : wFold z ps own ((ordK ps ps.length).reverse.take i) own = W
      have hWl : W.length = ps.length := by rw [← hW, wFold_len, hlen]
      obtain ⟨b, hb⟩ : ∃ b, as[u]? = some b := ⟨as[u]'(by omega), List.getElem?_eq_getElem _⟩
      repeat walk_at "oc"
      refine go_sqL (atI_of (vref_get hb)) ?_
      haveI := rd_rows (L := pt q (.lst (W.map V.int)) :: pt o2 (.lst (VN (ordK ps ps.length).reverse)) :: pt kk (.lst (as.map V.ref)) :: rowsC as (rowsF ps) :: L) hb (rowsF_get hun)
      repeat walk_at "oc"
      refine go_lcl (xs := VN (kidsF ps u)) (σw := [some (.int z), some (.ref pa), some (.ref oa), some (.ref kk), some (.ref q), some (.int (u : Int)), v2, none]) rfl (fun j T2 L2 acc => T2 = T1 ∧ L2 = pt q (.lst (W.map V.int)) :: pt o2 (.lst (VN (ordK ps ps.length).reverse)) :: pt kk (.lst (as.map V.ref)) :: rowsC as (rowsF ps) :: L ∧ acc = VN (heavy z W ((kidsF ps u).take j))) ⟨rfl, rfl, rfl⟩ ?_ ?_ ?_
      · rintro j T2 L2 acc ⟨rfl, rfl, rfl⟩
        exact rd_rows hb (rowsF_get hun)
      · rintro j v T2 L2 acc Dl hv ⟨rfl, rfl, rfl⟩
        have hj := (List.getElem?_eq_some_iff.mp hv).1
        rw [VN_len] at hj
        have e := List.getElem?_eq_getElem hj
        rw [VN_get e] at hv
        cases hv
        have hkn : (kidsF ps u)[j] < ps.length := (List.getElem?_eq_some_iff.mp (mem_kids.mp (List.getElem_mem hj))).1
        have hb1 : (VN (heavy z W ((kidsF ps u).take j))).length < 1000000 := by
          rw [VN_len]
          have h1 := heavy_le (size := z) (w := W) (cs := (kidsF ps u).take j)
          have h2 := kidsI_le (ps := ps) ps.length u
          rw [kidsI_full] at h2
          rw [List.length_take] at h1
          omega
        repeat walk_at "oc"
        refine go_sqL (atI_of (int_get (getD_at (w := W) (c := (kidsF ps u)[j]) (by omega)))) ?_
        repeat walk_at "oc"
        by_cases hh : W.getD (kidsF ps u)[j] 0 ≥ z
        · refine go_dT hh ?_
          repeat walk_at "oc"
          refine go_item (sz100l hb1) ⟨rfl, rfl, ?_⟩
          rw [List.take_add_one, e, Option.toList_some, heavy_snoc, if_pos hh, VN_app]
          rfl
        · refine go_dF hh ?_
          repeat walk_at "oc"
          refine go_skip ⟨rfl, rfl, ?_⟩
          rw [List.take_add_one, e, Option.toList_some, heavy_snoc, if_neg hh, List.append_nil]
      · rintro T2 L2 acc Dl ⟨rfl, rfl, rfl⟩
        rw [VN_len, List.take_length]
        repeat walk_at "oc"
        refine go_sqL (atI_of (int_get (getD_at (w := own) (c := u) (by omega)))) ?_
        repeat walk_at "oc"
        refine go_sqL (atI_of (vref_get hb)) ?_
        repeat walk_at "oc"
        rw [VN_len, VN_len]
        repeat walk_at "oc"
        refine' go_setL (k := u) (by exact ixN_nat (by rw [List.length_map]; omega)) (by exact set_ints) ?_
        dsimp only
        have e : wFold z ps own ((ordK ps ps.length).reverse.take (i + 1)) own = W.set u (own.getD u 0 + (kidsF ps u).length + (heavy z W (kidsF ps u)).length) := by
          rw [List.take_add_one, hur, Option.toList_some, wFold_snoc, hW]
          rfl
        exact go_at' (L' := pt q (.lst ((W.set u (own.getD u 0 + (kidsF ps u).length + (heavy z W (kidsF ps u)).length)).map V.int)) :: pt o2 (.lst (VN (ordK ps ps.length).reverse)) :: pt kk (.lst (as.map V.ref)) :: rowsC as (rowsF ps) :: L) ⟨rfl, ⟨_, _, rfl⟩, [], by rw [e]⟩
    · rintro σ1 T1 L1 ⟨rfl, ⟨v1, v2, rfl⟩, X, rfl⟩
      rw [VN_len, List.take_length]
      repeat walk_at "oc"
      have k1 := k q
      exact Go.ent (L' := pt q (.lst ((wFold z ps own (ordK ps ps.length).reverse own).map V.int)) :: L) k1

end


def gTa : List V → List (Str × V) := fun ws => match ws with | [y] => [(("table" : Str), y)] | _ => []
/-! ### trees as objects -/
structure Tr where
  dx : Addr
  pa : Addr
  oa : Addr
  ba : Addr
  wa : Addr
  as : List Addr
  z : Int
  ps : Ps
  own : List Int
abbrev treeL (CT t : Addr) (D : Tr) (R : List Chunk) : List Chunk := pt t (.ins CT D.dx (dfT D.z D.pa D.oa D.ba D.wa)) :: pt D.pa (.lst (D.ps.map PV)) :: pt D.oa (.lst (D.own.map V.int)) :: pt D.ba (.lst (D.as.map V.ref)) :: pt D.wa (.lst ((weightsF D.z D.ps D.own D.own).map V.int)) :: rowsC D.as (rowsF D.ps) :: R
def treeC (CT t : Addr) (D : Tr) : Chunk := (treeL CT t D []).flatten
theorem tree_perm {CT t : Addr} {D : Tr} {R : List Chunk} : (treeC CT t D :: R).flatten = (treeL CT t D R).flatten := by
  unfold treeC treeL
  simp only [List.flatten_cons, List.flatten_nil, List.append_nil, List.append_assoc]
theorem tree_open {CT t : Addr} {D : Tr} {T : Tups} {R : List Chunk} {N : Hp → Prop} (h : Go T (treeL CT t D R) N) : Go T (treeC CT t D :: R) N := h.perm (.of_eq tree_perm)
theorem tree_close {CT t : Addr} {D : Tr} {T : Tups} {R : List Chunk} {N : Hp → Prop} (h : Go T (treeC CT t D :: R) N) : Go T (treeL CT t D R) N := h.perm (.of_eq tree_perm.symm)
structure OkTr (D : Tr) : Prop where
  ok : OkT D.z D.ps D.own
  las : D.as.length = D.ps.length
def spInitT (CT : Addr) : Sp := fun vs H Q E => ∃ (x dx pa oa : Addr) (z : Int) (ps : Ps) (own : List Int) (T : Tups) (R : List Chunk), vs = [.ref x, .int z, .ref pa, .ref oa] ∧ OkT z ps own ∧ RdL R pa (ps.map PV) ∧ RdL R oa (own.map V.int) ∧ Has H (pt x (.ins CT dx []) :: R) ∧ HasT H T ∧
  ∀ D : Tr, D.z = z → D.ps = ps → D.own = own → OkTr D → Go T (treeC CT x D :: R) (Q .non)
section
variable {P : Program} {w : World} {K : PySem.W.Frag} {mg : Str → Option Value} {base : Heap} {CT CN CV CF CI CL CO : Addr}
theorem sup_NoTable : SupScope ["self", "table"] ["self", "table"] (defScope s_NoTableU_initU) := ⟨rfl, rfl, rfl, by decide +kernel, rfl, by decide +kernel, by decide +kernel, by decide +kernel, by decide +kernel, rfl, rfl⟩
theorem r_NoTable (tx : TxE P K mg CN "NoTable" "NoTable.__init__" s_NoTableU_initU ["self", "table"]) (no : PySem.W.findIn K (.ref CN) "table" = some none) : RsD P w K mg base CN "NoTable" 1 ["self", "table"] [] (spErr CN 1 gTa) := by
  obtain ⟨f, oc, od, dV, kV, doc, pm, an, cda, cc, ct, osl, fd, rfl, lk, hcd, S, tg, hb, hi, ht⟩ := tx.ex
  refine ⟨f, _, [], fn_supV lk hcd sup_NoTable S rfl rfl tx.oex tg tx.subV (fun vs H Q E h => ?_) (fun A outer s H vs Q E hr h => ?_), tx.oex, hi, ht, tx.g, hb, .nil⟩
  · obtain ⟨a, ws, rfl, hl, _⟩ := h
    show ws.length + 1 = 2
    omega
  · obtain ⟨a, ws, rfl, hl, he, k⟩ := h
    obtain ⟨y, rfl⟩ : ∃ y, ws = [y] := by
      cases ws with
      | nil => cases hl
      | cons y r => cases r with
        | nil => exact ⟨y, rfl⟩
        | cons _ _ => cases hl
    exact ⟨a, _, _, rfl, he, pa_cons pe_str pa_nil, pss_one (ps_ost (pv 0) (pv 1)), Nat.le_of_ble_eq_true rfl, he, y, rfl, .ref a, rfl, a, CN, rfl, tx.oex, no, .inl ⟨he, fun dx nd ne => k dx nd ne⟩⟩
theorem sup_InvalidTree : SupScope ["self", "table"] ["self", "table"] (defScope s_InvalidTreeU_initU) := ⟨rfl, rfl, rfl, by decide +kernel, rfl, by decide +kernel, by decide +kernel, by decide +kernel, by decide +kernel, rfl, rfl⟩
theorem r_InvalidTree (tx : TxE P K mg CI "InvalidTree" "InvalidTree.__init__" s_InvalidTreeU_initU ["self", "table"]) (no : PySem.W.findIn K (.ref CI) "table" = some none) : RsD P w K mg base CI "InvalidTree" 1 ["self", "table"] [] (spErr CI 1 gTa) := by
  obtain ⟨f, oc, od, dV, kV, doc, pm, an, cda, cc, ct, osl, fd, rfl, lk, hcd, S, tg, hb, hi, ht⟩ := tx.ex
  refine ⟨f, _, [], fn_supV lk hcd sup_InvalidTree S rfl rfl tx.oex tg tx.subV (fun vs H Q E h => ?_) (fun A outer s H vs Q E hr h => ?_), tx.oex, hi, ht, tx.g, hb, .nil⟩
  · obtain ⟨a, ws, rfl, hl, _⟩ := h
    show ws.length + 1 = 2
    omega
  · obtain ⟨a, ws, rfl, hl, he, k⟩ := h
    obtain ⟨y, rfl⟩ : ∃ y, ws = [y] := by
      cases ws with
      | nil => cases hl
      | cons y r => cases r with
        | nil => exact ⟨y, rfl⟩
        | cons _ _ => cases hl
    exact ⟨a, _, _, rfl, he, pa_cons pe_str pa_nil, pss_one (ps_ost (pv 0) (pv 1)), Nat.le_of_ble_eq_true rfl, he, y, rfl, .ref a, rfl, a, CI, rfl, tx.oex, no, .inl ⟨he, fun dx nd ne => k dx nd ne⟩⟩
theorem sup_InvalidDivision : SupScope ["self", "table"] ["self", "table"] (defScope s_InvalidDivisionU_initU) := ⟨rfl, rfl, rfl, by decide +kernel, rfl, by decide +kernel, by decide +kernel, by decide +kernel, by decide +kernel, rfl, rfl⟩
theorem r_InvalidDivision (tx : TxE P K mg CV "InvalidDivision" "InvalidDivision.__init__" s_InvalidDivisionU_initU ["self", "table"]) (no : PySem.W.findIn K (.ref CV) "table" = some none) : RsD P w K mg base CV "InvalidDivision" 1 ["self", "table"] [] (spErr CV 1 gTa) := by
  obtain ⟨f, oc, od, dV, kV, doc, pm, an, cda, cc, ct, osl, fd, rfl, lk, hcd, S, tg, hb, hi, ht⟩ := tx.ex
  refine ⟨f, _, [], fn_supV lk hcd sup_InvalidDivision S rfl rfl tx.oex tg tx.subV (fun vs H Q E h => ?_) (fun A outer s H vs Q E hr h => ?_), tx.oex, hi, ht, tx.g, hb, .nil⟩
  · obtain ⟨a, ws, rfl, hl, _⟩ := h
    show ws.length + 1 = 2
    omega
  · obtain ⟨a, ws, rfl, hl, he, k⟩ := h
    obtain ⟨y, rfl⟩ : ∃ y, ws = [y] := by
      cases ws with
      | nil => cases hl
      | cons y r => cases r with
        | nil => exact ⟨y, rfl⟩
        | cons _ _ => cases hl
    exact ⟨a, _, _, rfl, he, pa_cons pe_str pa_nil, pss_one (ps_ost (pv 0) (pv 1)), Nat.le_of_ble_eq_true rfl, he, y, rfl, .ref a, rfl, a, CV, rfl, tx.oex, no, .inl ⟨he, fun dx nd ne => k dx nd ne⟩⟩
theorem sup_Overfull : SupScope ["self", "table"] ["self", "table"] (defScope s_OverfullU_initU) := ⟨rfl, rfl, rfl, by decide +kernel, rfl, by decide +kernel, by decide +kernel, by decide +kernel, by decide +kernel, rfl, rfl⟩
theorem r_Overfull (tx : TxE P K mg CF "Overfull" "Overfull.__init__" s_OverfullU_initU ["self", "table"]) (no : PySem.W.findIn K (.ref CF) "table" = some none) : RsD P w K mg base CF "Overfull" 1 ["self", "table"] [] (spErr CF 1 gTa) := by
  obtain ⟨f, oc, od, dV, kV, doc, pm, an, cda, cc, ct, osl, fd, rfl, lk, hcd, S, tg, hb, hi, ht⟩ := tx.ex
  refine ⟨f, _, [], fn_supV lk hcd sup_Overfull S rfl rfl tx.oex tg tx.subV (fun vs H Q E h => ?_) (fun A outer s H vs Q E hr h => ?_), tx.oex, hi, ht, tx.g, hb, .nil⟩
  · obtain ⟨a, ws, rfl, hl, _⟩ := h
    show ws.length + 1 = 2
    omega
  · obtain ⟨a, ws, rfl, hl, he, k⟩ := h
    obtain ⟨y, rfl⟩ : ∃ y, ws = [y] := by
      cases ws with
      | nil => cases hl
      | cons y r => cases r with
        | nil => exact ⟨y, rfl⟩
        | cons _ _ => cases hl
    exact ⟨a, _, _, rfl, he, pa_cons pe_str pa_nil, pss_one (ps_ost (pv 0) (pv 1)), Nat.le_of_ble_eq_true rfl, he, y, rfl, .ref a, rfl, a, CF, rfl, tx.oex, no, .inl ⟨he, fun dx nd ne => k dx nd ne⟩⟩
theorem sc_TableTreeU_initU : FnScope ["self", "size", "parents", "own", "tops", "below", "reached", "table", "children", "parent", "_"] ["self", "size", "parents", "own"] (defScope s_TableTreeU_initU) := ⟨rfl, rfl, rfl, by decide +kernel, rfl, by decide +kernel, by decide +kernel⟩
theorem m_init {dvs : List V} (tx : TxI K mg CT "TableTree" "TableTree.__init__" s_TableTreeU_initU ["self", "size", "parents", "own"] dvs) [T : Txt K mg CT CN CV CF CI CL CO] (Dchildren_lists : FnD P w K mg base "children_lists" 1 ["parents"] [] (spKids (fun _ => True))) (Dtables_down : FnD P w K mg base "tables_down" 2 ["parents"] [] (spOrder (fun _ => True))) (Dtable_weights : FnD P w K mg base "table_weights" 3 ["size", "parents", "own"] [] spTW) (R_InvalidTree : RsD P w K mg base CI "InvalidTree" 1 ["self", "table"] [] (spErr CI 1 gTa)) : MkD P w K mg base CT "TableTree" 4 ["self", "size", "parents", "own"] dvs (spInitT CT) := by
  obtain ⟨f, fd, ds, F, M, hm, hb, hd⟩ := tx.ex
  refine ⟨f, fd, ds, okN F sc_TableTreeU_initU (fun vs H Q E h => ?_) (fun cdv A outer s H vs Q E hr tk hp h => ?_), M, hm, hb, hd⟩
  · obtain ⟨x, dx, pa, oa, z, ps, own, T', R, rfl, ok, r1, r2, hs, ht, k⟩ := h
    rfl
  · obtain ⟨x, dx, pa, oa, z, ps, own, T', R, rfl, ok, r1, r2, hs, ht, k⟩ := h
    have nd := sc_TableTreeU_initU.nd
    refine ⟨_, (pss_cons (ps_setLc (i := 4) (own := [("table", 7), ("parent", 9)]) rfl nd rfl rfl (sw_true rfl rfl rfl (by decide +kernel)) (pi_enum (by rfl) T.n_enumerate (pa_cons (pv 2) pa_nil)) (blkOk_by (own := [("table", 7), ("parent", 9)]) (N := ["self", "size", "parents", "own", "tops", "below", "reached", "table", "children", "parent", "_"]) (sc := defScope s_TableTreeU_initU) (by decide +kernel)) (fun _ _ _ _ _ => (pg_tupK (K := K) (n := 2) rfl (pgs_cons (pg_name (i := 7) nd rfl (Or.inl rfl)) (pgs_cons (pg_name (i := 9) nd rfl (Or.inl rfl)) pgs_nil)))) (fun _ _ _ _ _ => (pts_one (pt_cmpR opIsN (pv 9) pe_non (nomark _)))) (fun _ _ _ _ _ => (pv 7)))
  (pss_cons (ps_if (PW.pt (pw_or (pt_cmpR (opNeK (K := K) hr.units) (pe_callB (callLenK (K := K)) (by rfl) T.n_len (by decide +kernel) (pa_cons (pv 2) pa_nil)) (pe_callB (callLenK (K := K)) (by rfl) T.n_len (by decide +kernel) (pa_cons (pv 3) pa_nil)) (nomark _)) (pw_or1 (pt_cmpR (opNeK (K := K) hr.units) (pe_callB (callLenK (K := K)) (by rfl) T.n_len (by decide +kernel) (pa_cons (pv 4) pa_nil)) pe_int (nomark _))))) (pss_one (L2N.ps_raise rfl tk (pmk_D R_InvalidTree (hr.mono (by decide)) rfl (pa_cons pe_non pa_nil)))) pss_nil)
  (pss_cons (ps_set (i := 5) nd rfl (Or.inl rfl) (pe_clD Dchildren_lists (hr.mono (by decide)) rfl (fun σ => L2N.passAt tk σ) (pa_cons (pv 2) pa_nil)))
  (pss_cons (ps_setLc (i := 6) (own := [("_", 10)]) (tt := tYes) rfl nd rfl rfl (sw_true rfl rfl rfl (by decide +kernel)) (pi_list (pv 2)) (blkOk_by (own := [("_", 10)]) (N := ["self", "size", "parents", "own", "tops", "below", "reached", "table", "children", "parent", "_"]) (sc := defScope s_TableTreeU_initU) (by decide +kernel)) (fun _ _ _ _ _ => (pg_name (i := 10) nd rfl (Or.inl rfl))) (fun _ _ _ _ _ => pts_nil) (fun _ _ _ _ _ => pe_bl))
  (pss_cons (ps_for hp rfl (pi_list (pe_clD Dtables_down (hr.mono (by decide)) rfl (fun σ => L2N.passAt tk σ) (pa_cons (pv 2) pa_nil))) (pg_name (i := 7) nd rfl (Or.inl rfl))
  (pss_one (ps_asg pe_bl (pg_sub (pv 6) (pv 7) set_list))))
  (pss_cons (ps_for hp rfl (pi_enum (by rfl) T.n_enumerate (pa_cons (pv 5) pa_nil)) (pg_tupK (K := K) (n := 2) rfl (pgs_cons (pg_name (i := 7) nd rfl (Or.inl rfl)) (pgs_cons (pg_name (i := 8) nd rfl (Or.inl rfl)) pgs_nil)))
  (pss_one (ps_if (PW.pt (pw_or (pt_not (pt_val (pe_ix (ixSeqK (K := K)) (pv 6) (pv 7) (fun _ _ => rfl)))) (pw_or1 (pt_cmpR op_gt (pe_op opAdd (pe_ix (ixSeqK (K := K)) (pv 3) (pv 7) (fun _ _ => rfl)) (pe_callB (callLenK (K := K)) (by rfl) T.n_len (by decide +kernel) (pa_cons (pv 8) pa_nil))) (pv 1) (nomark _))))) (pss_one (L2N.ps_raise rfl tk (pmk_D R_InvalidTree (hr.mono (by decide)) rfl (pa_cons (pv 7) pa_nil)))) pss_nil)))
  (pss_cons (ps_fld (pv 0) (pv 1) rfl)
  (pss_cons (ps_fld (pv 0) (pe_callTy (callListK (K := K)) (by rfl) T.n_list (by decide +kernel) (pa_cons (pv 2) pa_nil)) rfl)
  (pss_cons (ps_fld (pv 0) (pe_callTy (callListK (K := K)) (by rfl) T.n_list (by decide +kernel) (pa_cons (pv 3) pa_nil)) rfl)
  (pss_cons (ps_fld (pv 0) (pv 5) rfl)
  (pss_one (ps_fld (pv 0) (pe_clD Dtable_weights (hr.mono (by decide)) rfl (fun σ => L2N.passAt tk σ) (pa_cons (pv 1) (pa_cons (pv 2) (pa_cons (pv 3) pa_nil)))) rfl)))))))))))), ?_⟩
    refine go_start hs ht ?_
    try dsimp only [cxOf, WOf]
    rw [show L2.start _ _ = [some (.ref x), some (.int z), some (.ref pa), some (.ref oa), none, none, none, none, none, none, none] from rfl]
    haveI := r1
    haveI := r2
    obtain ⟨wf, hlen, hfew, hfit⟩ := id ok
    repeat walk_at "oc"
    refine go_lce (xs := ps.map PV) (σw := [some (.ref x), some (.int z), some (.ref pa), some (.ref oa), none, none, none, none, none, none, none]) rfl (fun i T1 L1 acc => T1 = T' ∧ L1 = pt x (.ins CT dx []) :: R ∧ acc = VN ((List.range i).filter fun c => decide (ps[c]? = some none))) ⟨rfl, rfl, rfl⟩ ?_ ?_ ?_
    · rintro i T1 L1 acc ⟨rfl, rfl, rfl⟩
      infer_instance
    · rintro i v T1 L1 acc Dl q hv ⟨rfl, rfl, rfl⟩
      have hi := (List.getElem?_eq_some_iff.mp hv).1
      rw [List.length_map] at hi
      obtain ⟨o, ho⟩ : ∃ o, ps[i]? = some o := ⟨ps[i], List.getElem?_eq_getElem hi⟩
      rw [pv_get ho] at hv
      cases hv
      have hb : (VN ((List.range i).filter fun c => decide (ps[c]? = some none))).length < 1000000 := by
        rw [VN_len]
        have := roots_le (ps := ps) i
        omega
      cases o with
      | none =>
        rw [show PV none = V.non from rfl]
        repeat walk_at "oc"
        refine go_item' (T' := T1) (sz100l hb) ⟨rfl, rfl, ?_⟩
        rw [roots_get, if_pos ho, VN_app]
        rfl
      | some z =>
        rw [show PV (some z) = V.int z from rfl]
        repeat walk_at "oc"
        refine Go.lift (T := T1) ?_
        refine go_skip ⟨rfl, rfl, ?_⟩
        rw [roots_get, if_neg (fun z => by rw [ho] at z; cases z), List.append_nil]
    · rintro T1 L1 acc Dl ⟨rfl, rfl, rfl⟩
      rw [List.length_map, show ((List.range ps.length).filter fun c => decide (ps[c]? = some none)) = roots ps from rfl]
      repeat walk_at "oc"
      rw [List.length_map, List.length_map, hlen]
      refine go_nF rfl ?_
      repeat walk_at "oc"
      rw [VN_len, wf.top]
      refine go_nF rfl ?_
      repeat walk_at "oc"
      refine go_kids trivial hfew inferInstance fun kk as hl => ?_
      repeat walk_at "oc"
      refine go_lcl (xs := ps.map PV) (σw := [some (.ref x), some (.int z), some (.ref pa), some (.ref oa), some (.ref Dl), some (.ref kk), none, none, none, none, none]) rfl (fun i T2 L1 acc => T2 = T1 ∧ L1 = pt kk (.lst (as.map V.ref)) :: rowsC as (rowsF ps) :: pt Dl (.lst (VN (roots ps))) :: pt x (.ins CT dx []) :: R ∧ acc = (List.replicate i false).map V.bl) ⟨rfl, ?_, rfl⟩ ?_ ?_ ?_
      · rfl
      · rintro i T1 L1 acc ⟨rfl, rfl, rfl⟩
        infer_instance
      · rintro i v T1 L1 acc D2 hv ⟨rfl, rfl, rfl⟩
        have hi := (List.getElem?_eq_some_iff.mp hv).1
        rw [List.length_map] at hi
        repeat walk_at "oc"
        refine go_item (sz100l (by rw [List.length_map, List.length_replicate]; omega)) ⟨rfl, rfl, ?_⟩
        rw [List.replicate_succ', List.map_append]
        rfl
      · rintro T1 L1 acc D2 ⟨rfl, rfl, rfl⟩
        rw [List.length_map]
        repeat walk_at "oc"
        refine go_order trivial hfew inferInstance fun o => ?_
        repeat walk_at "oc"
        refine Go.ent (L' := pt D2 (.lst ((List.replicate ps.length false).map V.bl)) :: pt o (.lst (VN (ordK ps ps.length))) :: pt kk (.lst (as.map V.ref)) :: rowsC as (rowsF ps) :: pt Dl (.lst (VN (roots ps))) :: pt x (.ins CT dx []) :: R) ?_
        refine go_over (xs := VN (ordK ps ps.length)) (fun i σ1 T2 L2 => T2 = T1 ∧ (∃ v7, σ1 = [some (.ref x), some (.int z), some (.ref pa), some (.ref oa), some (.ref Dl), some (.ref kk), some (.ref D2), v7, none, none, none]) ∧ ∃ rs : List Bool, rs.length = ps.length ∧ (∀ c ∈ (ordK ps ps.length).take i, rs[c]? = some true) ∧ L2 = pt D2 (.lst (rs.map V.bl)) :: pt o (.lst (VN (ordK ps ps.length))) :: pt kk (.lst (as.map V.ref)) :: rowsC as (rowsF ps) :: pt Dl (.lst (VN (roots ps))) :: pt x (.ins CT dx []) :: R) ⟨rfl, ⟨_, rfl⟩, List.replicate ps.length false, List.length_replicate, (fun c hc => by cases hc), ?_⟩ ?_ ?_ ?_
        · rfl
        · rintro i σ1 T2 L2 ⟨rfl, ⟨v7, rfl⟩, rs, _, _, rfl⟩
          infer_instance
        · rintro i v σ1 T2 L2 hv ⟨rfl, ⟨v7, rfl⟩, rs, hrl, hrs, rfl⟩
          have hi := (List.getElem?_eq_some_iff.mp hv).1
          rw [VN_len] at hi
          have e := List.getElem?_eq_getElem hi
          rw [VN_get e] at hv
          cases hv
          generalize hu : (ordK ps ps.length)[i] = u at e
          have hun : u < ps.length := ord_lt (List.mem_of_getElem? e)
          repeat walk_at "oc"
          refine' go_setL (k := u) (by exact ixN_nat (by rw [List.length_map]; omega)) (by exact List.map_set.symm) ?_
          dsimp only
          refine go_at ⟨rfl, ⟨_, rfl⟩, rs.set u true, by rw [List.length_set]; exact hrl, fun c hc => ?_, rfl⟩
          rw [List.getElem?_set]
          by_cases hcu : u = c
          · rw [if_pos hcu, if_pos (by omega)]
          · rw [if_neg hcu]
            rw [List.take_add_one, e] at hc
            rcases List.mem_append.mp hc with hc | hc
            · exact hrs c hc
            · exact absurd (by simpa using hc : c = u).symm hcu
        · rintro σ1 T2 L2 ⟨rfl, ⟨v7, rfl⟩, rs, hrl, hrs, rfl⟩
          rw [VN_len, List.take_length] at hrs
          repeat walk_at "oc"
          refine Go.ent (L' := pt kk (.lst (as.map V.ref)) :: rowsC as (rowsF ps) :: pt D2 (.lst (rs.map V.bl)) :: pt x (.ins CT dx []) :: R) ?_
          refine go_enum (xs := as.map V.ref) (fun i σ1 T3 L3 => T3 = T2 ∧ (∃ v7 v8, σ1 = [some (.ref x), some (.int z), some (.ref pa), some (.ref oa), some (.ref Dl), some (.ref kk), some (.ref D2), v7, v8, none, none]) ∧ L3 = pt kk (.lst (as.map V.ref)) :: rowsC as (rowsF ps) :: pt D2 (.lst (rs.map V.bl)) :: pt x (.ins CT dx []) :: R) ⟨rfl, ⟨_, _, rfl⟩, ?_⟩ ?_ ?_ ?_
          · rfl
          · rintro i σ1 T3 L3 ⟨rfl, ⟨v7, v8, rfl⟩, rfl⟩
            infer_instance
          · rintro i v σ1 T3 L3 q hv ⟨rfl, ⟨v7, v8, rfl⟩, rfl⟩
            have hi := (List.getElem?_eq_some_iff.mp hv).1
            rw [List.length_map] at hi
            have hin : i < ps.length := by omega
            have e := List.getElem?_eq_getElem hi
            rw [vref_get e] at hv
            cases hv
            have hr1 : rs[i]? = some true := hrs i (ord_reach (wf.all i hin))
            repeat walk_at "oc"
            refine go_sqL (v := .bl true) (atI_of (by rw [List.getElem?_map, hr1]; rfl)) ?_
            repeat walk_at "oc"
            refine go_sqL (atI_of (int_get (getD_at (w := own) (c := i) (by omega)))) ?_
            haveI := rd_rows (L := pt kk (.lst (as.map V.ref)) :: rowsC as (rowsF ps) :: pt D2 (.lst (rs.map V.bl)) :: pt x (.ins CT dx []) :: R) e (rowsF_get hin)
            repeat walk_at "oc"
            rw [VN_len]
            have hf := (hfit i hin).2
            refine go_dF (by omega) ?_
            repeat walk_at "oc"
            dsimp only
            exact go_at' (T' := T3) ⟨rfl, ⟨_, _, rfl⟩, rfl⟩
          · rintro σ1 T3 L3 ⟨rfl, ⟨v7, v8, rfl⟩, rfl⟩
            repeat walk_at "oc"
            rename_i qp qo
            refine go_tw hlen hfew inferInstance inferInstance fun wa => ?_
            repeat walk_at "oc"
            exact Go.ent (tree_close (k ⟨dx, qp, qo, kk, wa, as, z, ps, own⟩ rfl rfl rfl ⟨ok, hl⟩))

end


theorem Has.pull2 {H : Hp} {L R1 R2 : List Chunk} {A B : Type} {F : Addr → A → Chunk} {G : Addr → B → Chunk} {a b : Addr} {x : A} {y : B} (h : Has H L) [p : Pull F L a x R1] [q : Pull G R1 b y R2] : Has H (F a x :: G b y :: R2) :=
  h.perm (p.perm.trans (List.Perm.append_left _ q.perm))
instance {CT t : Addr} {D : Tr} {L : List Chunk} : InsA (treeC CT t D :: L) t CT (dfT D.z D.pa D.oa D.ba D.wa) := ⟨fun H h => by
  have x := h.perm (L' := treeL CT t D L) (.of_eq tree_perm)
  exact ⟨D.dx, x.at_ (t, .ins CT D.dx (dfT D.z D.pa D.oa D.ba D.wa)) (by unfold treeL; exact List.mem_cons_self)⟩⟩
theorem tree_close1 {CT t : Addr} {D : Tr} {T : Tups} {R : List Chunk} {c : Chunk} {N : Hp → Prop} (h : Go T (c :: treeC CT t D :: R) N) : Go T (c :: treeL CT t D R) N := h.perm (.of_eq (by
  show c ++ (treeL CT t D R).flatten = c ++ (treeC CT t D :: R).flatten
  rw [tree_perm]))
def spGet (CT : Addr) (f : Tr → List V) : Sp := fun vs H Q E => ∃ (t : Addr) (D : Tr) (T : Tups) (R : List Chunk), vs = [.ref t] ∧ Has H (treeC CT t D :: R) ∧ HasT H T ∧ ∀ q, Go T (pt q (.lst (f D)) :: treeC CT t D :: R) (Q (.ref q))
theorem go_get {CT : Addr} {f : Tr → List V} {T : Tups} {L R : List Chunk} {t : Addr} {D : Tr} {Q : VK} {E : XK} [q : Pull (treeC CT) L t D R] (k : ∀ q, Go T (pt q (.lst (f D)) :: treeC CT t D :: R) fun H => Q (.ref q) H) : Go T L fun H => spGet CT f [.ref t] H Q E := fun H x y =>
  ⟨t, D, T, R, rfl, x.pull (F := treeC CT), y, k⟩
def fPs (D : Tr) : List V := D.ps.map PV
def fOwn (D : Tr) : List V := D.own.map V.int
def fWs (D : Tr) : List V := (weightsF D.z D.ps D.own D.own).map V.int
def spChk (CT CN : Addr) : Sp := fun vs H Q E => ∃ (t : Addr) (i : Int) (D : Tr) (T : Tups) (R : List Chunk), vs = [.ref t, .int i] ∧ Has H (treeC CT t D :: R) ∧ HasT H T ∧ (¬ (0 ≤ i ∧ i < D.ps.length) → Rs T (treeC CT t D :: R) E CN [(("table" : Str), .int i)]) ∧ ((0 ≤ i ∧ i < D.ps.length) → Go T (treeC CT t D :: R) (Q .non))
def spEqT (CT : Addr) : Sp := fun vs H Q E => ∃ (a b : Addr) (D D2 : Tr) (T : Tups) (R : List Chunk), vs = [.ref a, .ref b] ∧ Has H (treeC CT a D :: treeC CT b D2 :: R) ∧ HasT H T ∧ Go T (treeC CT a D :: treeC CT b D2 :: R) (Q (.bl (decide (D.z = D2.z ∧ D.ps = D2.ps ∧ D.own = D2.own))))
theorem go_eqT {CT : Addr} {T : Tups} {L R1 R2 : List Chunk} {a b : Addr} {D D2 : Tr} {Q : VK} {E : XK} [q1 : Pull (treeC CT) L a D R1] [q2 : Pull (treeC CT) R1 b D2 R2] (k : Go T (treeC CT a D :: treeC CT b D2 :: R2) fun H => Q (.bl (decide (D.z = D2.z ∧ D.ps = D2.ps ∧ D.own = D2.own))) H) : Go T L fun H => spEqT CT [.ref a, .ref b] H Q E := fun H x t =>
  ⟨a, b, D, D2, T, R2, rfl, x.pull2 (F := treeC CT) (G := treeC CT), t, k⟩
section
variable {P : Program} {w : World} {K : PySem.W.Frag} {mg : Str → Option Value} {base : Heap} {CT CN CV CF CI CL CO : Addr}
theorem sc_TableTree_parents : FnScope ["self"] ["self"] (defScope s_TableTree_parents) := ⟨rfl, rfl, rfl, by decide +kernel, rfl, by decide +kernel, by decide +kernel⟩
theorem m_parents {dvs : List V} (tx : TxM K CT "parents" "TableTree.parents" s_TableTree_parents ["self"] dvs) [T : Txt K mg CT CN CV CF CI CL CO]  : MeD P w K mg base CT "parents" 1 ["self"] dvs (spGet CT fPs) := by
  obtain ⟨f, fd, ds, F, M, hb, hd⟩ := tx.ex
  refine ⟨f, fd, ds, okN F sc_TableTree_parents (fun vs H Q E h => ?_) (fun cdv A outer s H vs Q E hr tk hp h => ?_), M, hb, hd⟩
  · obtain ⟨t, D, T', R, rfl, hs, ht, k⟩ := h
    rfl
  · obtain ⟨t, D, T', R, rfl, hs, ht, k⟩ := h
    have nd := sc_TableTree_parents.nd
    refine ⟨_, (pss_one (ps_ret (pe_callTy (callListK (K := K)) (by rfl) T.n_list (by decide +kernel) (pa_cons (pe_fldK (K := K) (pv 0)) pa_nil)))), ?_⟩
    refine go_start hs ht ?_
    try dsimp only [cxOf, WOf]
    rw [show L2.start _ _ = [some (.ref t)] from rfl]
    refine tree_open ?_
    unfold treeL
    repeat walk_at "oc"
    rename_i q
    exact Go.ent (L' := pt q (.lst (D.ps.map PV)) :: treeL CT t D R) (tree_close1 (k q))

theorem sc_TableTree_own : FnScope ["self"] ["self"] (defScope s_TableTree_own) := ⟨rfl, rfl, rfl, by decide +kernel, rfl, by decide +kernel, by decide +kernel⟩
theorem m_own {dvs : List V} (tx : TxM K CT "own" "TableTree.own" s_TableTree_own ["self"] dvs) [T : Txt K mg CT CN CV CF CI CL CO]  : MeD P w K mg base CT "own" 1 ["self"] dvs (spGet CT fOwn) := by
  obtain ⟨f, fd, ds, F, M, hb, hd⟩ := tx.ex
  refine ⟨f, fd, ds, okN F sc_TableTree_own (fun vs H Q E h => ?_) (fun cdv A outer s H vs Q E hr tk hp h => ?_), M, hb, hd⟩
  · obtain ⟨t, D, T', R, rfl, hs, ht, k⟩ := h
    rfl
  · obtain ⟨t, D, T', R, rfl, hs, ht, k⟩ := h
    have nd := sc_TableTree_own.nd
    refine ⟨_, (pss_one (ps_ret (pe_callTy (callListK (K := K)) (by rfl) T.n_list (by decide +kernel) (pa_cons (pe_fldK (K := K) (pv 0)) pa_nil)))), ?_⟩
    refine go_start hs ht ?_
    try dsimp only [cxOf, WOf]
    rw [show L2.start _ _ = [some (.ref t)] from rfl]
    refine tree_open ?_
    unfold treeL
    repeat walk_at "oc"
    rename_i q
    exact Go.ent (L' := pt q (.lst (D.own.map V.int)) :: treeL CT t D R) (tree_close1 (k q))

theorem sc_TableTree_weights : FnScope ["self"] ["self"] (defScope s_TableTree_weights) := ⟨rfl, rfl, rfl, by decide +kernel, rfl, by decide +kernel, by decide +kernel⟩
theorem m_weights {dvs : List V} (tx : TxM K CT "weights" "TableTree.weights" s_TableTree_weights ["self"] dvs) [T : Txt K mg CT CN CV CF CI CL CO]  : MeD P w K mg base CT "weights" 1 ["self"] dvs (spGet CT fWs) := by
  obtain ⟨f, fd, ds, F, M, hb, hd⟩ := tx.ex
  refine ⟨f, fd, ds, okN F sc_TableTree_weights (fun vs H Q E h => ?_) (fun cdv A outer s H vs Q E hr tk hp h => ?_), M, hb, hd⟩
  · obtain ⟨t, D, T', R, rfl, hs, ht, k⟩ := h
    rfl
  · obtain ⟨t, D, T', R, rfl, hs, ht, k⟩ := h
    have nd := sc_TableTree_weights.nd
    refine ⟨_, (pss_one (ps_ret (pe_callTy (callListK (K := K)) (by rfl) T.n_list (by decide +kernel) (pa_cons (pe_fldK (K := K) (pv 0)) pa_nil)))), ?_⟩
    refine go_start hs ht ?_
    try dsimp only [cxOf, WOf]
    rw [show L2.start _ _ = [some (.ref t)] from rfl]
    refine tree_open ?_
    unfold treeL
    repeat walk_at "oc"
    rename_i q
    exact Go.ent (L' := pt q (.lst ((weightsF D.z D.ps D.own D.own).map V.int)) :: treeL CT t D R) (tree_close1 (k q))

theorem sc_TableTreeUcheck_table : FnScope ["self", "table"] ["self", "table"] (defScope s_TableTreeUcheck_table) := ⟨rfl, rfl, rfl, by decide +kernel, rfl, by decide +kernel, by decide +kernel⟩
theorem m_chk {dvs : List V} (tx : TxM K CT "_check_table" "TableTree._check_table" s_TableTreeUcheck_table ["self", "table"] dvs) [T : Txt K mg CT CN CV CF CI CL CO] (R_NoTable : RsD P w K mg base CN "NoTable" 1 ["self", "table"] [] (spErr CN 1 gTa)) : MeD P w K mg base CT "_check_table" 3 ["self", "table"] dvs (spChk CT CN) := by
  obtain ⟨f, fd, ds, F, M, hb, hd⟩ := tx.ex
  refine ⟨f, fd, ds, okN F sc_TableTreeUcheck_table (fun vs H Q E h => ?_) (fun cdv A outer s H vs Q E hr tk hp h => ?_), M, hb, hd⟩
  · obtain ⟨t, i, D, T', R, rfl, hs, ht, k0, k1⟩ := h
    rfl
  · obtain ⟨t, i, D, T', R, rfl, hs, ht, k0, k1⟩ := h
    have nd := sc_TableTreeUcheck_table.nd
    refine ⟨_, (pss_one (ps_if (pt_not (pt_chain op_le op_lt pe_int (pv 1) (pe_callB (callLenK (K := K)) (by rfl) T.n_len (by decide +kernel) (pa_cons (pe_fldK (K := K) (pv 0)) pa_nil)))) (pss_one (L2N.ps_raise rfl tk (pmk_D R_NoTable (hr.mono (by decide)) rfl (pa_cons (pv 1) pa_nil)))) pss_nil)), ?_⟩
    refine go_start hs ht ?_
    try dsimp only [cxOf, WOf]
    rw [show L2.start _ _ = [some (.ref t), some (.int i)] from rfl]
    have k0' : ¬ (0 ≤ i ∧ i < D.ps.length) → Rs T' (treeL CT t D R) E CN [(("table" : Str), .int i)] := fun h d => tree_close1 ((k0 h) d)
    refine tree_open ?_
    unfold treeL at *
    repeat walk_at "oc"
    refine go_d (fun h => ?_) (fun h => ?_)
    · repeat walk_at "oc"
      rw [List.length_map]
      by_cases h2 : i < D.ps.length
      · rw [decide_eq_true h2]
        repeat walk_at "oc"
        exact tree_close (k1 ⟨h, h2⟩)
      · rw [decide_eq_false h2]
        repeat walk_at "oc"
        exact k0' fun z => h2 z.2
    · repeat walk_at "oc"
      exact k0' fun z => h z.1

theorem sc_TableTreeU_eqU : FnScope ["self", "other"] ["self", "other"] (defScope s_TableTreeU_eqU) := ⟨rfl, rfl, rfl, by decide +kernel, rfl, by decide +kernel, by decide +kernel⟩
theorem m_eq {dvs : List V} (tx : TxM K CT "__eq__" "TableTree.__eq__" s_TableTreeU_eqU ["self", "other"] dvs) [T : Txt K mg CT CN CV CF CI CL CO] [IC : InsC K CT] : MeD P w K mg base CT "__eq__" 3 ["self", "other"] dvs (spEqT CT) := by
  obtain ⟨f, fd, ds, F, M, hb, hd⟩ := tx.ex
  refine ⟨f, fd, ds, okN F sc_TableTreeU_eqU (fun vs H Q E h => ?_) (fun cdv A outer s H vs Q E hr tk hp h => ?_), M, hb, hd⟩
  · obtain ⟨a, b, D, D2, T', R, rfl, hs, ht, k⟩ := h
    rfl
  · obtain ⟨a, b, D, D2, T', R, rfl, hs, ht, k⟩ := h
    have nd := sc_TableTreeU_eqU.nd
    refine ⟨_, (pss_one (ps_ret (pe_and (pe_callB (callIsiK (K := K)) (by rfl) T.n_isinstance (by decide +kernel) (pa_cons (pv 1) (pa_cons (pe_glob (v := .ref _) rfl T.gTableTree rfl) pa_nil))) (pe_and (pe_cmpR (opEqK (K := K) hr.units) (pe_fldK (K := K) (pv 0)) (pe_fldK (K := K) (pv 1)) (nomark _)) (pe_and (pe_cmpR (opEqK (K := K) hr.units) (pe_fldK (K := K) (pv 0)) (pe_fldK (K := K) (pv 1)) (nomark _)) (pe_one (pe_cmpR (opEqK (K := K) hr.units) (pe_fldK (K := K) (pv 0)) (pe_fldK (K := K) (pv 1)) (nomark _)))))))), ?_⟩
    refine go_start hs ht ?_
    try dsimp only [cxOf, WOf]
    rw [show L2.start _ _ = [some (.ref a), some (.ref b)] from rfl]
    refine tree_open ?_
    refine Go.ent (L' := treeC CT b D2 :: treeL CT a D R) ?_
    refine tree_open ?_
    have k2 : Go T' (treeL CT b D2 (treeL CT a D R)) (Q (.bl (decide (D.z = D2.z ∧ D.ps = D2.ps ∧ D.own = D2.own)))) := tree_close (Go.ent (L' := treeL CT a D (treeC CT b D2 :: R)) (tree_close k))
    unfold treeL at *
    repeat walk_at "oc"
    refine go_if (fun h => ?_) (fun h => ?_)
    · have h1 := of_decide_eq_true h
      repeat walk_at "oc"
      refine go_if (fun h => ?_) (fun h => ?_)
      · have h2 := of_decide_eq_true h
        repeat walk_at "oc"
        rw [show decide (D.own = D2.own) = decide (D.z = D2.z ∧ D.ps = D2.ps ∧ D.own = D2.own) by simp [h1, h2]]
        exact k2
      · have h2 := of_decide_eq_false h
        rw [show decide (D.z = D2.z ∧ D.ps = D2.ps ∧ D.own = D2.own) = false by simp [h2]] at k2
        exact k2
    · have h1 := of_decide_eq_false h
      rw [show decide (D.z = D2.z ∧ D.ps = D2.ps ∧ D.own = D2.own) = false by simp [h1]] at k2
      exact k2

end


def spWholeN : Sp := fun vs H Q E => ∃ (i j : Int) (T : Tups) (L : List Chunk), vs = [.int i, .int j] ∧ Has H L ∧ HasT H T ∧ Go T L (Q (.bl (decide (i = j))))
theorem go_wholeN {T : Tups} {L : List Chunk} {i j : Int} {Q : VK} {E : XK} (k : Go T L fun H => Q (.bl (decide (i = j))) H) : Go T L fun H => spWholeN [.int i, .int j] H Q E := fun H x t => ⟨i, j, T, L, rfl, x, t, k⟩
def spFlag : Sp := fun vs H Q E => ∃ (i j : Bool) (T : Tups) (L : List Chunk), vs = [.bl i, .bl j] ∧ Has H L ∧ HasT H T ∧ Go T L (Q (.bl (decide (i = j))))
theorem go_flag {T : Tups} {L : List Chunk} {i j : Bool} {Q : VK} {E : XK} (k : Go T L fun H => Q (.bl (decide (i = j))) H) : Go T L fun H => spFlag [.bl i, .bl j] H Q E := fun H x t => ⟨i, j, T, L, rfl, x, t, k⟩
def spRow : Sp := fun vs H Q E => ∃ (a b : Addr) (os : List (Option Int)) (T : Tups) (L : List Chunk), vs = [.ref a, .ref b] ∧ os.length ≤ 100000 ∧ RdL L a (os.map PV) ∧ RdL L b (os.map PV) ∧ Has H L ∧ HasT H T ∧ Go T L (Q (.bl true))
theorem go_row {T : Tups} {L : List Chunk} {a b : Addr} {os : List (Option Int)} {Q : VK} {E : XK} (hz : os.length ≤ 100000) (r1 : RdL L a (os.map PV)) (r2 : RdL L b (os.map PV)) (k : Go T L fun H => Q (.bl true) H) : Go T L fun H => spRow [.ref a, .ref b] H Q E := fun H x t => ⟨a, b, os, T, L, rfl, hz, r1, r2, x, t, k⟩
theorem go_rowI {T : Tups} {L : List Chunk} {a b : Addr} {ns : List Int} {Q : VK} {E : XK} (hz : ns.length ≤ 100000) (r1 : RdL L a (ns.map V.int)) (r2 : RdL L b (ns.map V.int)) (k : Go T L fun H => Q (.bl true) H) : Go T L fun H => spRow [.ref a, .ref b] H Q E :=
  go_row (os := ns.map some) (by rw [List.length_map]; exact hz) (by rw [← ints_pv]; exact r1) (by rw [← ints_pv]; exact r2) k
def spMade (CT : Addr) : Sp := fun vs H Q E => ∃ (a : Addr) (W : Wo) (T : Tups) (R : List Chunk), vs = [.ref a] ∧ OkT W.z W.ps W.own ∧ Has H (woodC a W :: R) ∧ HasT H T ∧ ∀ t D, D.z = W.z → D.ps = W.ps → D.own = W.own → OkTr D → Go T (treeC CT t D :: woodC a W :: R) (Q (.ref t))
theorem go_made {CT : Addr} {T : Tups} {L R : List Chunk} {a : Addr} {W : Wo} {Q : VK} {E : XK} [q : Pull woodC L a W R] (ok : OkT W.z W.ps W.own) (k : ∀ t D, D.z = W.z → D.ps = W.ps → D.own = W.own → OkTr D → Go T (treeC CT t D :: woodC a W :: R) fun H => Q (.ref t) H) : Go T L fun H => spMade CT [.ref a] H Q E := fun H x y =>
  ⟨a, W, T, R, rfl, ok, x.pull (F := woodC), y, k⟩
def spTells (CT : Addr) : Sp := fun vs H Q E => ∃ (t a : Addr) (D : Tr) (W : Wo) (T : Tups) (R : List Chunk), vs = [.ref t, .ref a] ∧ D.z = W.z ∧ D.ps = W.ps ∧ D.own = W.own ∧ OkTr D ∧ Has H (treeC CT t D :: woodC a W :: R) ∧ HasT H T ∧ Go T (treeC CT t D :: woodC a W :: R) (Q (.bl true))
theorem go_tells {CT : Addr} {T : Tups} {L R1 R2 : List Chunk} {t a : Addr} {D : Tr} {W : Wo} {Q : VK} {E : XK} [q1 : Pull (treeC CT) L t D R1] [q2 : Pull woodC R1 a W R2] (h1 : D.z = W.z) (h2 : D.ps = W.ps) (h3 : D.own = W.own) (ok : OkTr D) (k : Go T (treeC CT t D :: woodC a W :: R2) fun H => Q (.bl true) H) : Go T L fun H => spTells CT [.ref t, .ref a] H Q E := fun H x y =>
  ⟨t, a, D, W, T, R2, rfl, h1, h2, h3, ok, x.pull2 (F := treeC CT) (G := woodC), y, k⟩
theorem go_initT {CT : Addr} {T : Tups} {L R : List Chunk} {x dx pa oa : Addr} {z : Int} {ps : Ps} {own : List Int} {Q : VK} {E : XK} [q : Pull pt L x (.ins CT dx []) R] (ok : OkT z ps own) (r1 : RdL R pa (ps.map PV)) (r2 : RdL R oa (own.map V.int)) (k : ∀ D : Tr, D.z = z → D.ps = ps → D.own = own → OkTr D → Go T (treeC CT x D :: R) fun H => Q .non H) : Go T L fun H => spInitT CT [.ref x, .int z, .ref pa, .ref oa] H Q E := fun H h t =>
  ⟨x, dx, pa, oa, z, ps, own, T, R, rfl, ok, r1, r2, h.pull (F := pt), t, k⟩
section
variable {P : Program} {w : World} {K : PySem.W.Frag} {mg : Str → Option Value} {base : Heap} {CT CN CV CF CI CL CO : Addr}
theorem sc_law_whole : FnScope ["actual", "due"] ["actual", "due"] (defScope s_law_whole) := ⟨rfl, rfl, rfl, by decide +kernel, rfl, by decide +kernel, by decide +kernel⟩
theorem d_whole {dvs : List V} (tx : Tx K mg "_law_whole" "_law_whole" s_law_whole ["actual", "due"] dvs) [T : Txt K mg CT CN CV CF CI CL CO]  : FnD P w K mg base "_law_whole" 1 ["actual", "due"] dvs (spWholeN) := by
  obtain ⟨f, fd, ds, F, hm, hb, hd⟩ := tx.ex
  refine ⟨f, fd, ds, okN F sc_law_whole (fun vs H Q E h => ?_) (fun cdv A outer s H vs Q E hr tk hp h => ?_), hm, F.kp, hb, hd⟩
  · obtain ⟨i, j, T', L, rfl, hs, ht, k⟩ := h
    rfl
  · obtain ⟨i, j, T', L, rfl, hs, ht, k⟩ := h
    have nd := sc_law_whole.nd
    refine ⟨_, (pss_one (ps_ret (pe_and (pe_callB (callIsiK (K := K)) (by rfl) T.n_isinstance (by decide +kernel) (pa_cons (pv 0) (pa_cons (pe_bltn rfl T.n_int (by decide +kernel) (v := .ty "int") rfl) pa_nil))) (pe_and (pe_not (pe_callB (callIsiK (K := K)) (by rfl) T.n_isinstance (by decide +kernel) (pa_cons (pv 0) (pa_cons (pe_bltn rfl T.n_bool (by decide +kernel) (v := .ty "bool") rfl) pa_nil)))) (pe_one (pe_cmpR (opEqK (K := K) hr.units) (pv 0) (pv 1) (nomark _))))))), ?_⟩
    refine go_start hs ht ?_
    try dsimp only [cxOf, WOf]
    rw [show L2.start _ _ = [some (.int i), some (.int j)] from rfl]
    repeat walk_at "oc"
    exact k

theorem sc_law_flag : FnScope ["actual", "due"] ["actual", "due"] (defScope s_law_flag) := ⟨rfl, rfl, rfl, by decide +kernel, rfl, by decide +kernel, by decide +kernel⟩
theorem d_flag {dvs : List V} (tx : Tx K mg "_law_flag" "_law_flag" s_law_flag ["actual", "due"] dvs) [T : Txt K mg CT CN CV CF CI CL CO]  : FnD P w K mg base "_law_flag" 1 ["actual", "due"] dvs (spFlag) := by
  obtain ⟨f, fd, ds, F, hm, hb, hd⟩ := tx.ex
  refine ⟨f, fd, ds, okN F sc_law_flag (fun vs H Q E h => ?_) (fun cdv A outer s H vs Q E hr tk hp h => ?_), hm, F.kp, hb, hd⟩
  · obtain ⟨i, j, T', L, rfl, hs, ht, k⟩ := h
    rfl
  · obtain ⟨i, j, T', L, rfl, hs, ht, k⟩ := h
    have nd := sc_law_flag.nd
    refine ⟨_, (pss_one (ps_ret (pe_and (pe_callB (callIsiK (K := K)) (by rfl) T.n_isinstance (by decide +kernel) (pa_cons (pv 0) (pa_cons (pe_bltn rfl T.n_bool (by decide +kernel) (v := .ty "bool") rfl) pa_nil))) (pe_one (pe_cmpR (opEqK (K := K) hr.units) (pv 0) (pv 1) (nomark _)))))), ?_⟩
    refine go_start hs ht ?_
    try dsimp only [cxOf, WOf]
    rw [show L2.start _ _ = [some (.bl i), some (.bl j)] from rfl]
    repeat walk_at "oc"
    rw [show decide (V.bl i = V.bl j) = decide (i = j) by cases i <;> cases j <;> rfl]
    exact k

theorem sc_law_row : FnScope ["actual", "due", "k"] ["actual", "due"] (defScope s_law_row) := ⟨rfl, rfl, rfl, by decide +kernel, rfl, by decide +kernel, by decide +kernel⟩
theorem d_row {dvs : List V} (tx : Tx K mg "_law_row" "_law_row" s_law_row ["actual", "due"] dvs) [T : Txt K mg CT CN CV CF CI CL CO] (D_law_whole : FnD P w K mg base "_law_whole" 1 ["actual", "due"] [] spWholeN) : FnD P w K mg base "_law_row" 2 ["actual", "due"] dvs (spRow) := by
  obtain ⟨f, fd, ds, F, hm, hb, hd⟩ := tx.ex
  refine ⟨f, fd, ds, okN F sc_law_row (fun vs H Q E h => ?_) (fun cdv A outer s H vs Q E hr tk hp h => ?_), hm, F.kp, hb, hd⟩
  · obtain ⟨a, b, os, T', L, rfl, hz, r1, r2, hs, ht, k⟩ := h
    rfl
  · obtain ⟨a, b, os, T', L, rfl, hz, r1, r2, hs, ht, k⟩ := h
    have nd := sc_law_row.nd
    refine ⟨_, (pss_cons (ps_if (PW.pt (pw_or (pt_not (pt_val (pe_callB (callIsiK (K := K)) (by rfl) T.n_isinstance (by decide +kernel) (pa_cons (pv 0) (pa_cons (pe_bltn rfl T.n_list (by decide +kernel) (v := .ty "list") rfl) pa_nil))))) (pw_or1 (pt_cmpR (opNeK (K := K) hr.units) (pe_callB (callLenK (K := K)) (by rfl) T.n_len (by decide +kernel) (pa_cons (pv 0) pa_nil)) (pe_callB (callLenK (K := K)) (by rfl) T.n_len (by decide +kernel) (pa_cons (pv 1) pa_nil)) (nomark _))))) (pss_one (ps_ret pe_bl)) pss_nil)
  (pss_cons (ps_for hp rfl (pi_range1 rfl T.n_range (pa_cons (pe_callB (callLenK (K := K)) (by rfl) T.n_len (by decide +kernel) (pa_cons (pv 1) pa_nil)) pa_nil)) (pg_name (i := 2) nd rfl (Or.inl rfl))
  (pss_one (ps_if (pt_cmpR opIsN (pe_ix (ixSeqK (K := K)) (pv 1) (pv 2) (fun _ _ => rfl)) pe_non (nomark _)) (pss_one (ps_if (pt_cmpR opNotN (pe_ix (ixSeqK (K := K)) (pv 0) (pv 2) (fun _ _ => rfl)) pe_non (nomark _)) (pss_one (ps_ret pe_bl)) pss_nil)) (pss_one (ps_if (pt_not (pt_val (pe_clD D_law_whole (hr.mono (by decide)) rfl (fun σ => L2N.passAt tk σ) (pa_cons (pe_ix (ixSeqK (K := K)) (pv 0) (pv 2) (fun _ _ => rfl)) (pa_cons (pe_ix (ixSeqK (K := K)) (pv 1) (pv 2) (fun _ _ => rfl)) pa_nil))))) (pss_one (ps_ret pe_bl)) pss_nil)))))
  (pss_one (ps_ret pe_bl)))), ?_⟩
    refine go_start hs ht ?_
    try dsimp only [cxOf, WOf]
    rw [show L2.start _ _ = [some (.ref a), some (.ref b), none] from rfl]
    haveI := r1
    haveI := r2
    repeat walk_at "oc"
    rw [List.length_map]
    repeat walk_at "oc"
    refine go_range (fun i σ1 T1 L1 => T1 = T' ∧ L1 = L ∧ ∃ v, σ1 = [some (.ref a), some (.ref b), v]) ⟨rfl, rfl, _, rfl⟩ ?_ ?_
    · rintro i σ1 T1 L1 hi ⟨rfl, rfl, v, rfl⟩
      have hi : i < os.length := by omega
      rw [show (0 : Int) + (i : Int) = (i : Int) by omega]
      have e := List.getElem?_eq_getElem hi
      repeat walk_at "oc"
      refine go_sqL (atI_of (pv_get e)) ?_
      cases ho : os[i] with
      | none =>
        rw [ho] at e
        rw [show PV none = V.non from rfl]
        repeat walk_at "oc"
        refine go_sqL (atI_of (pv_get e)) ?_
        rw [show PV none = V.non from rfl]
        repeat walk_at "oc"
        dsimp only
        exact go_at ⟨rfl, rfl, _, rfl⟩
      | some z =>
        rw [ho] at e
        rw [show PV (some z) = V.int z from rfl]
        repeat walk_at "oc"
        refine go_sqL (atI_of (pv_get e)) ?_
        rw [show PV (some z) = V.int z from rfl]
        repeat walk_at "oc"
        refine go_sqL (atI_of (pv_get e)) ?_
        rw [show PV (some z) = V.int z from rfl]
        repeat walk_at "oc"
        refine go_wholeN ?_
        rw [show decide (z = z) = true from decide_eq_true rfl]
        repeat walk_at "oc"
        dsimp only
        exact go_at ⟨rfl, rfl, _, rfl⟩
    · rintro σ1 T1 L1 ⟨rfl, rfl, v, rfl⟩
      repeat walk_at "oc"
      exact k

theorem sc_law_made : FnScope ["wood"] ["wood"] (defScope s_law_made) := ⟨rfl, rfl, rfl, by decide +kernel, rfl, by decide +kernel, by decide +kernel⟩
theorem d_made {dvs : List V} (tx : Tx K mg "_law_made" "_law_made" s_law_made ["wood"] dvs) [T : Txt K mg CT CN CV CF CI CL CO] (M_TableTree : MkD P w K mg base CT "TableTree" 4 ["self", "size", "parents", "own"] [] (spInitT CT)) : FnD P w K mg base "_law_made" 6 ["wood"] dvs (spMade CT) := by
  obtain ⟨f, fd, ds, F, hm, hb, hd⟩ := tx.ex
  refine ⟨f, fd, ds, okN F sc_law_made (fun vs H Q E h => ?_) (fun cdv A outer s H vs Q E hr tk hp h => ?_), hm, F.kp, hb, hd⟩
  · obtain ⟨a, W, T', R, rfl, ok, hs, ht, k⟩ := h
    rfl
  · obtain ⟨a, W, T', R, rfl, ok, hs, ht, k⟩ := h
    have nd := sc_law_made.nd
    refine ⟨_, (pss_one (ps_ret (pe_mkD M_TableTree (hr.mono (by decide)) rfl (fun σ => L2N.passAt tk σ) (pa_cons (pe_ix (ixSeqK (K := K)) (pv 0) pe_int (fun _ _ => rfl)) (pa_cons (pe_callTy (callListK (K := K)) (by rfl) T.n_list (by decide +kernel) (pa_cons (pe_ix (ixSeqK (K := K)) (pv 0) pe_int (fun _ _ => rfl)) pa_nil)) (pa_cons (pe_callTy (callListK (K := K)) (by rfl) T.n_list (by decide +kernel) (pa_cons (pe_ix (ixSeqK (K := K)) (pv 0) pe_int (fun _ _ => rfl)) pa_nil)) pa_nil)))))), ?_⟩
    refine go_start hs ht ?_
    try dsimp only [cxOf, WOf]
    rw [show L2.start _ _ = [some (.ref a)] from rfl]
    obtain ⟨pa, oa, z, ps, own⟩ := W
    dsimp only at ok k
    refine wood_open ?_
    dsimp only
    repeat walk_at "oc"
    rename_i x dx
    refine go_initT ok inferInstance inferInstance fun D h1 h2 h3 h4 => ?_
    repeat walk_at "oc"
    exact Go.ent (L' := treeC CT x D :: pt a (.lst [.int z, .ref pa, .ref oa]) :: pt pa (.lst (ps.map PV)) :: pt oa (.lst (own.map V.int)) :: R) ((k x D h1 h2 h3 h4).perm (.of_eq rfl))

theorem sc_law_tells : FnScope ["tree", "wood"] ["tree", "wood"] (defScope s_law_tells) := ⟨rfl, rfl, rfl, by decide +kernel, rfl, by decide +kernel, by decide +kernel⟩
theorem d_tells {dvs : List V} (tx : Tx K mg "_law_tells" "_law_tells" s_law_tells ["tree", "wood"] dvs) [T : Txt K mg CT CN CV CF CI CL CO] [IC : InsC K CT] (D_law_whole : FnD P w K mg base "_law_whole" 1 ["actual", "due"] [] spWholeN) (D_law_row : FnD P w K mg base "_law_row" 2 ["actual", "due"] [] spRow) (D_law_weights : FnD P w K mg base "_law_weights" 3 ["wood"] [] spLW) (M_TableTree_parents : MeD P w K mg base CT "parents" 1 ["self"] [] (spGet CT fPs)) (M_TableTree_own : MeD P w K mg base CT "own" 1 ["self"] [] (spGet CT fOwn)) (M_TableTree_weights : MeD P w K mg base CT "weights" 1 ["self"] [] (spGet CT fWs)) : FnD P w K mg base "_law_tells" 4 ["tree", "wood"] dvs (spTells CT) := by
  obtain ⟨f, fd, ds, F, hm, hb, hd⟩ := tx.ex
  refine ⟨f, fd, ds, okN F sc_law_tells (fun vs H Q E h => ?_) (fun cdv A outer s H vs Q E hr tk hp h => ?_), hm, F.kp, hb, hd⟩
  · obtain ⟨t, a, D, W, T', R, rfl, h1, h2, h3, ok, hs, ht, k⟩ := h
    rfl
  · obtain ⟨t, a, D, W, T', R, rfl, h1, h2, h3, ok, hs, ht, k⟩ := h
    have nd := sc_law_tells.nd
    refine ⟨_, (pss_cons (ps_if (PW.pt (pw_or (pt_not (pt_val (pe_callB (callIsiK (K := K)) (by rfl) T.n_isinstance (by decide +kernel) (pa_cons (pv 0) (pa_cons (pe_glob (v := .ref _) rfl T.gTableTree rfl) pa_nil))))) (pw_or1 (pt_not (pt_val (pe_clD D_law_whole (hr.mono (by decide)) rfl (fun σ => L2N.passAt tk σ) (pa_cons (pe_fldK (K := K) (pv 0)) (pa_cons (pe_ix (ixSeqK (K := K)) (pv 1) pe_int (fun _ _ => rfl)) pa_nil)))))))) (pss_one (ps_ret pe_bl)) pss_nil)
  (pss_cons (ps_if (PW.pt (pw_or (pt_not (pt_val (pe_clD D_law_row (hr.mono (by decide)) rfl (fun σ => L2N.passAt tk σ) (pa_cons (pe_meD0 (pv 0) T.cTableTree M_TableTree_parents (hr.mono (by decide)) (fun σ => L2N.passAt tk σ)) (pa_cons (pe_ix (ixSeqK (K := K)) (pv 1) pe_int (fun _ _ => rfl)) pa_nil))))) (pw_or1 (pt_not (pt_val (pe_clD D_law_row (hr.mono (by decide)) rfl (fun σ => L2N.passAt tk σ) (pa_cons (pe_meD0 (pv 0) T.cTableTree M_TableTree_own (hr.mono (by decide)) (fun σ => L2N.passAt tk σ)) (pa_cons (pe_ix (ixSeqK (K := K)) (pv 1) pe_int (fun _ _ => rfl)) pa_nil)))))))) (pss_one (ps_ret pe_bl)) pss_nil)
  (pss_one (ps_ret (pe_clD D_law_row (hr.mono (by decide)) rfl (fun σ => L2N.passAt tk σ) (pa_cons (pe_meD0 (pv 0) T.cTableTree M_TableTree_weights (hr.mono (by decide)) (fun σ => L2N.passAt tk σ)) (pa_cons (pe_clD D_law_weights (hr.mono (by decide)) rfl (fun σ => L2N.passAt tk σ) (pa_cons (pv 1) pa_nil)) pa_nil))))))), ?_⟩
    refine go_start hs ht ?_
    try dsimp only [cxOf, WOf]
    rw [show L2.start _ _ = [some (.ref t), some (.ref a)] from rfl]
    obtain ⟨dx, pa2, oa2, ba2, wa2, as2, z2, ps2, own2⟩ := D
    obtain ⟨pa, oa, z, ps, own⟩ := W
    dsimp only at h1 h2 h3
    subst h1 h2 h3
    obtain ⟨okT, las⟩ := id ok
    dsimp only at okT las
    refine Go.ent (L' := woodC a ⟨pa, oa, z2, ps2, own2⟩ :: treeC CT t ⟨dx, pa2, oa2, ba2, wa2, as2, z2, ps2, own2⟩ :: R) ?_
    refine wood_open ?_
    dsimp only
    repeat walk_at "oc"
    refine go_wholeN ?_
    rw [show decide (z2 = z2) = true from decide_eq_true rfl]
    repeat walk_at "oc"
    refine go_get fun q => ?_
    repeat walk_at "oc"
    refine go_row (os := ps2) (by have := okT.few; omega) inferInstance inferInstance ?_
    repeat walk_at "oc"
    refine go_get fun q => ?_
    repeat walk_at "oc"
    refine go_rowI (ns := own2) (by have := okT.few; have := okT.len; omega) inferInstance inferInstance ?_
    repeat walk_at "oc"
    refine go_get fun q => ?_
    repeat walk_at "oc"
    rw [show fWs ⟨dx, pa2, oa2, ba2, wa2, as2, z2, ps2, own2⟩ = (wsL z2 ps2 own2).map V.int from congrArg (List.map V.int) (weights_eq okT.wf okT.len List.length_replicate)]
    refine Go.ent (wood_close (a := a) (pa := pa) (oa := oa) (z := z2) (ps := ps2) (own := own2) (R := pt q (.lst ((wsL z2 ps2 own2).map V.int)) :: treeC CT t ⟨dx, pa2, oa2, ba2, wa2, as2, z2, ps2, own2⟩ :: R) ?_)
    refine go_lw okT fun q3 => ?_
    repeat walk_at "oc"
    refine go_rowI (ns := wsL z2 ps2 own2) ?_ inferInstance inferInstance ?_
    · rw [show (wsL z2 ps2 own2).length = ps2.length from (wFold_len _ _).trans List.length_replicate]
      have := okT.few
      omega
    exact Go.ent k

end


def spBuild : Sp := fun vs H Q E => ∃ (p : Addr) (P : Pu) (z : Int) (T : Tups) (R : List Chunk), vs = [.ref p, .int z] ∧ 0 < z ∧ Has H (purseC p P :: R) ∧ HasT H T ∧ ∀ q sh P', Sh z sh → sh.length ≤ 100 → Go T (pt q (.lst (sh.map PV)) :: purseC p P' :: R) (Q (.ref q))
theorem go_build {T : Tups} {L R : List Chunk} {p : Addr} {P : Pu} {z : Int} {Q : VK} {E : XK} [q : Pull purseC L p P R] (hz : 0 < z) (k : ∀ q sh P', Sh z sh → sh.length ≤ 100 → Go T (pt q (.lst (sh.map PV)) :: purseC p P' :: R) fun H => Q (.ref q) H) : Go T L fun H => spBuild [.ref p, .int z] H Q E := fun H x t =>
  ⟨p, P, z, T, R, rfl, hz, x.pull (F := purseC), t, k⟩
section
variable {P : Program} {w : World} {K : PySem.W.Frag} {mg : Str → Option Value} {base : Heap} {CT CN CV CF CI CL CO : Addr}
theorem sc_law_build : FnScope ["purse", "size", "many", "form", "shape", "cards", "table", "free", "at", "one"] ["purse", "size"] (defScope s_law_build) := ⟨rfl, rfl, rfl, by decide +kernel, rfl, by decide +kernel, by decide +kernel⟩
theorem d_build {dvs : List V} (tx : Tx K mg "_law_build" "_law_build" s_law_build ["purse", "size"] dvs) [T : Txt K mg CT CN CV CF CI CL CO] (D_law_take : FnD P w K mg base "_law_take" 1 ["purse", "many"] [] spTake) : FnD P w K mg base "_law_build" 2 ["purse", "size"] dvs (spBuild) := by
  obtain ⟨f, fd, ds, F, hm, hb, hd⟩ := tx.ex
  refine ⟨f, fd, ds, okN F sc_law_build (fun vs H Q E h => ?_) (fun cdv A outer s H vs Q E hr tk hp h => ?_), hm, F.kp, hb, hd⟩
  · obtain ⟨p, P0, z, T', R, rfl, hz, hs, ht, k⟩ := h
    rfl
  · obtain ⟨p, P0, z, T', R, rfl, hz, hs, ht, k⟩ := h
    have nd := sc_law_build.nd
    refine ⟨_, (pss_cons (ps_set (i := 2) nd rfl (Or.inl rfl) (pe_op opAdd pe_int (pe_clD D_law_take (hr.mono (by decide)) rfl (fun σ => L2N.passAt tk σ) (pa_cons (pv 0) (pa_cons pe_int pa_nil)))))
  (pss_cons (ps_set (i := 3) nd rfl (Or.inl rfl) pe_int)
  (Evl.pss_cut (ps_if (pt_cmpR (opEqK (K := K) hr.units) (pe_clD D_law_take (hr.mono (by decide)) rfl (fun σ => L2N.passAt tk σ) (pa_cons (pv 0) (pa_cons pe_int pa_nil))) pe_int (nomark _)) (pss_cons (ps_set (i := 2) nd rfl (Or.inl rfl) (pe_op opAdd pe_int (pe_clD D_law_take (hr.mono (by decide)) rfl (fun σ => L2N.passAt tk σ) (pa_cons (pv 0) (pa_cons pe_int pa_nil)))))
  (pss_one (ps_set (i := 3) nd rfl (Or.inl rfl) (pe_clD D_law_take (hr.mono (by decide)) rfl (fun σ => L2N.passAt tk σ) (pa_cons (pv 0) (pa_cons pe_int pa_nil)))))) pss_nil)
  (pss_cons (ps_set (i := 4) nd rfl (Or.inl rfl) (pe_lst (pa_cons pe_non pa_nil)))
  (pss_cons (ps_set (i := 5) nd rfl (Or.inr rfl) (pe_lst (pa_cons pe_int pa_nil)))
  (pss_cons (ps_for hp rfl (pi_range2 rfl T.n_range (pa_cons pe_int (pa_cons (pv 2) pa_nil))) (pg_name (i := 6) nd rfl (Or.inl rfl))
  (pss_cons (ps_setLc (i := 7) (own := [("one", 9)]) rfl nd rfl rfl (sw_true rfl rfl rfl (by decide +kernel)) (pi_range1 rfl T.n_range (pa_cons (pv 6) pa_nil)) (blkOk_by (own := [("one", 9)]) (N := ["purse", "size", "many", "form", "shape", "cards", "table", "free", "at", "one"]) (sc := defScope s_law_build) (by decide +kernel)) (fun _ _ _ _ _ => (pg_name (i := 9) nd rfl (Or.inl rfl))) (fun _ _ _ _ _ => (pts_one (pt_cmpR op_lt (pe_ix (ixSeqK (K := K)) (pv 5) (pv 9) (fun _ _ => rfl)) (pv 1) (nomark _)))) (fun _ _ _ _ _ => (pv 9)))
  (pss_cons (ps_set (i := 8) nd rfl (Or.inl rfl) pe_int)
  (Evl.pss_cut (ps_if (pt_cmpR (opEqK (K := K) hr.units) (pv 3) pe_int (nomark _)) (pss_one (ps_set (i := 8) nd rfl (Or.inl rfl) (pe_clD D_law_take (hr.mono (by decide)) rfl (fun σ => L2N.passAt tk σ) (pa_cons (pv 0) (pa_cons (pe_callB (callLenK (K := K)) (by rfl) T.n_len (by decide +kernel) (pa_cons (pv 7) pa_nil)) pa_nil))))) pss_nil)
  (Evl.pss_cut (ps_if (pt_cmpR (opEqK (K := K) hr.units) (pv 3) pe_int (nomark _)) (pss_one (ps_set (i := 8) nd rfl (Or.inl rfl) (pe_op op_sub (pe_callB (callLenK (K := K)) (by rfl) T.n_len (by decide +kernel) (pa_cons (pv 7) pa_nil)) pe_int))) pss_nil)
  (Evl.pss_cut (ps_if (pt_cmpR (opEqK (K := K) hr.units) (pv 3) pe_int (nomark _)) (pss_one (ps_set (i := 8) nd rfl (Or.inl rfl) (pe_op op_fdivW (pe_callB (callLenK (K := K)) (by rfl) T.n_len (by decide +kernel) (pa_cons (pv 7) pa_nil)) pe_int))) pss_nil)
  (pss_cons (ps_expr (pe_bmK (K := K) PySem.F.plainAttrs_list PySem.F.slot_list_append PySem.F.type_list_append mt_append (pv 4) (pa_cons (pe_ix (ixSeqK (K := K)) (pv 7) (pv 8) (fun _ _ => rfl)) pa_nil)))
  (pss_cons (ps_asg (pe_op opAdd (pe_ix (ixSeqK (K := K)) (pv 5) (pe_ix (ixSeqK (K := K)) (pv 7) (pv 8) (fun _ _ => rfl)) (fun _ _ => rfl)) pe_int) (pg_sub (pv 5) (pe_ix (ixSeqK (K := K)) (pv 7) (pv 8) (fun _ _ => rfl)) set_list))
  (pss_one (ps_expr (pe_bmK (K := K) PySem.F.plainAttrs_list PySem.F.slot_list_append PySem.F.type_list_append mt_append (pv 5) (pa_cons pe_int pa_nil))))))))))))
  (pss_one (ps_ret (pv 4))))))))), ?_⟩
    refine go_start hs ht ?_
    try dsimp only [cxOf, WOf]
    rw [show L2.start _ _ = [some (.ref p), some (.int z), none, none, none, none, none, none, none, none] from rfl]
    repeat walk_at "oc"
    refine go_take (by decide) (by decide) fun r1 P1 h0 h1 => ?_
    repeat walk_at "oc"
    refine go_cut (fun σ1 T1 L1 => T1 = T' ∧ ∃ (m fo : Int) (P2 : Pu), 1 ≤ m ∧ m ≤ 60 ∧ σ1 = [some (.ref p), some (.int z), some (.int m), some (.int fo), none, none, none, none, none, none] ∧ L1 = purseC p P2 :: R) ?_ ?_
    · repeat walk_at "oc"
      refine go_take (by decide) (by decide) fun r2 P2 h2 h3 => ?_
      repeat walk_at "oc"
      refine go_d (fun e3 => ?_) (fun e3 => ?_)
      · repeat walk_at "oc"
        refine go_take (by decide) (by decide) fun r3 P3 h4 h5 => ?_
        repeat walk_at "oc"
        refine go_take (by decide) (by decide) fun r4 P4 h6 h7 => ?_
        repeat walk_at "oc"
        dsimp only
        exact go_at ⟨rfl, _, _, P4, by omega, by omega, rfl, rfl⟩
      · repeat walk_at "oc"
        dsimp only
        exact go_at ⟨rfl, _, _, P2, by omega, by omega, rfl, rfl⟩
    · rintro σ1 T1 L1 ⟨rfl, m, fo, P2, hm0, hm, rfl, rfl⟩
      repeat walk_at "oc"
      rename_i qs qc
      refine Go.ent (L' := pt qs (.lst [V.non]) :: pt qc (.lst [V.int 0]) :: purseC p P2 :: R) ?_
      refine go_range (fun i σ1 T2 L2 => T2 = T1 ∧ ∃ (sh : Ps) (P3 : Pu) (v6 v7 v8 v9 : Option V), sh.length = i + 1 ∧ Sh z sh ∧ σ1 = [some (.ref p), some (.int z), some (.int m), some (.int fo), some (.ref qs), some (.ref qc), v6, v7, v8, v9] ∧ L2 = pt qs (.lst (sh.map PV)) :: pt qc (.lst ((cardsL sh sh.length).map V.int)) :: purseC p P3 :: R) ⟨rfl, [none], P2, _, _, _, _, rfl, Sh.one (by omega), rfl, rfl⟩ ?_ ?_
      · rintro i σ1 T2 L2 hi ⟨rfl, sh, P3, v6, v7, v8, v9, hl, hsh, rfl, rfl⟩
        rw [show (1 : Int) + (i : Int) = (sh.length : Int) by omega]
        have hn : sh.length ≤ 100 := by omega
        repeat walk_at "oc"
        refine go_lcr (σw := [some (.ref p), some (.int z), some (.int m), some (.int fo), some (.ref qs), some (.ref qc), some (.int (sh.length : Int)), v7, v8, none]) rfl (fun j T3 L3 acc => T3 = T2 ∧ L3 = pt qs (.lst (sh.map PV)) :: pt qc (.lst ((cardsL sh sh.length).map V.int)) :: purseC p P3 :: R ∧ acc = VN (freeF z sh j)) ⟨rfl, rfl, rfl⟩ ?_ ?_
        · rintro j T3 L3 acc Dl hj ⟨rfl, rfl, rfl⟩
          have hj : j < sh.length := by omega
          rw [show (0 : Int) + (j : Int) = (j : Int) by omega]
          have hb1 : (VN (freeF z sh j)).length < 1000000 := by
            rw [VN_len]
            have := freeF_le (z := z) (sh := sh) (i := j)
            omega
          repeat walk_at "oc"
          refine go_sqL (atI_of (int_get (cardsL_get hj))) ?_
          repeat walk_at "oc"
          refine go_d (fun h => ?_) (fun h => ?_)
          · repeat walk_at "oc"
            refine go_item (sz100l hb1) ⟨rfl, rfl, ?_⟩
            rw [freeF_snoc, if_pos h, VN_app]
            rfl
          · repeat walk_at "oc"
            refine go_skip ⟨rfl, rfl, ?_⟩
            rw [freeF_snoc, if_neg h, List.append_nil]
        · rintro T3 L3 acc fr ⟨rfl, rfl, rfl⟩
          rw [show ((sh.length : Int)).toNat = sh.length by omega]
          have hfl := hsh.free (by omega)
          have hfle := freeF_le (z := z) (sh := sh) (i := sh.length)
          generalize hF : freeF z sh sh.length = F at hfl hfle
          repeat walk_at "oc"
          refine go_cut (fun σ1 T4 L4 => T4 = T3 ∧ ∃ (kk : Nat) (P5 : Pu), kk < F.length ∧ σ1 = [some (.ref p), some (.int z), some (.int m), some (.int fo), some (.ref qs), some (.ref qc), some (.int (sh.length : Int)), some (.ref fr), some (.int (kk : Int)), v9] ∧ L4 = pt fr (.lst (VN F)) :: pt qs (.lst (sh.map PV)) :: pt qc (.lst ((cardsL sh sh.length).map V.int)) :: purseC p P5 :: R) ?_ ?_
          · repeat walk_at "oc"
            refine go_d (fun h => ?_) (fun h => ?_)
            · repeat walk_at "oc"
              rw [VN_len]
              refine go_take (by omega) (by omega) fun r5 P5 g0 g1 => ?_
              repeat walk_at "oc"
              dsimp only
              refine go_at' (L' := pt fr (.lst (VN F)) :: pt qs (.lst (sh.map PV)) :: pt qc (.lst ((cardsL sh sh.length).map V.int)) :: purseC p P5 :: R) ⟨rfl, r5.toNat, P5, by omega, by rw [show ((r5.toNat : Nat) : Int) = r5 by omega], rfl⟩
            · repeat walk_at "oc"
              dsimp only
              exact go_at' (L' := pt fr (.lst (VN F)) :: pt qs (.lst (sh.map PV)) :: pt qc (.lst ((cardsL sh sh.length).map V.int)) :: purseC p P3 :: R) ⟨rfl, 0, P3, hfl, rfl, rfl⟩
          · rintro σ1 T4 L4 ⟨rfl, kk, P5, hk, rfl, rfl⟩
            refine go_cut (fun σ1 T5 L4 => T5 = T4 ∧ ∃ (kk : Nat) (P5 : Pu), kk < F.length ∧ σ1 = [some (.ref p), some (.int z), some (.int m), some (.int fo), some (.ref qs), some (.ref qc), some (.int (sh.length : Int)), some (.ref fr), some (.int (kk : Int)), v9] ∧ L4 = pt fr (.lst (VN F)) :: pt qs (.lst (sh.map PV)) :: pt qc (.lst ((cardsL sh sh.length).map V.int)) :: purseC p P5 :: R) ?_ ?_
            · repeat walk_at "oc"
              refine go_d (fun h => ?_) (fun h => ?_)
              · repeat walk_at "oc"
                rw [VN_len]
                dsimp only
                refine go_at' (L' := pt fr (.lst (VN F)) :: pt qs (.lst (sh.map PV)) :: pt qc (.lst ((cardsL sh sh.length).map V.int)) :: purseC p P5 :: R) ⟨rfl, F.length - 1, P5, by omega, by rw [show ((F.length - 1 : Nat) : Int) = (F.length : Int) - 1 by omega], rfl⟩
              · repeat walk_at "oc"
                dsimp only
                exact go_at' (L' := pt fr (.lst (VN F)) :: pt qs (.lst (sh.map PV)) :: pt qc (.lst ((cardsL sh sh.length).map V.int)) :: purseC p P5 :: R) ⟨rfl, kk, P5, hk, rfl, rfl⟩
            · rintro σ1 T5 L4 ⟨rfl, kk, P5, hk, rfl, rfl⟩
              refine go_cut (fun σ1 T6 L4 => T6 = T5 ∧ ∃ (kk : Nat) (P5 : Pu), kk < F.length ∧ σ1 = [some (.ref p), some (.int z), some (.int m), some (.int fo), some (.ref qs), some (.ref qc), some (.int (sh.length : Int)), some (.ref fr), some (.int (kk : Int)), v9] ∧ L4 = pt fr (.lst (VN F)) :: pt qs (.lst (sh.map PV)) :: pt qc (.lst ((cardsL sh sh.length).map V.int)) :: purseC p P5 :: R) ?_ ?_
              · repeat walk_at "oc"
                refine go_d (fun h => ?_) (fun h => ?_)
                · repeat walk_at "oc"
                  rw [VN_len]
                  dsimp only
                  refine go_at' (L' := pt fr (.lst (VN F)) :: pt qs (.lst (sh.map PV)) :: pt qc (.lst ((cardsL sh sh.length).map V.int)) :: purseC p P5 :: R) ⟨rfl, F.length / 2, P5, by omega, by rw [show ((F.length / 2 : Nat) : Int) = (F.length : Int) / 2 by omega], rfl⟩
                · repeat walk_at "oc"
                  dsimp only
                  exact go_at' (L' := pt fr (.lst (VN F)) :: pt qs (.lst (sh.map PV)) :: pt qc (.lst ((cardsL sh sh.length).map V.int)) :: purseC p P5 :: R) ⟨rfl, kk, P5, hk, rfl, rfl⟩
              · rintro σ1 T6 L4 ⟨rfl, kk, P5, hk, rfl, rfl⟩
                have e := List.getElem?_eq_getElem hk
                have hmem := freeF_mem (z := z) (sh := sh) (i := sh.length) (p := F[kk]) (by rw [hF]; exact List.getElem_mem hk)
                generalize F[kk] = u at e hmem
                repeat walk_at "oc"
                refine go_sqL (atI_of (VN_get e)) ?_
                repeat walk_at "oc"
                refine go_sqL (atI_of (VN_get e)) ?_
                repeat walk_at "oc"
                refine go_sqL (atI_of (int_get (cardsL_get hmem.1))) ?_
                repeat walk_at "oc"
                refine go_sqL (atI_of (VN_get e)) ?_
                repeat walk_at "oc"
                refine' go_setL (k := u) (by exact ixN_nat (by rw [List.length_map, cardsL_len]; exact hmem.1)) (by exact set_ints) ?_
                repeat walk_at "oc"
                refine go_app ?zz ?_
                case zz => exact sz100l (by rw [List.length_map, List.length_set, cardsL_len]; omega)
                rw [show ((cardsL sh sh.length).set u (((sh.count (some (u : Int)) : Nat) : Int) + 1)).map V.int ++ [V.int 0] = (cardsL (sh ++ [some (u : Int)]) (sh.length + 1)).map V.int by rw [← cards_snoc hsh hmem.1, List.map_append]; rfl, show sh.map PV ++ [V.int (u : Int)] = (sh ++ [some (u : Int)]).map PV by rw [List.map_append]; rfl]
                repeat walk_at "oc"
                dsimp only
                have e1 : (sh ++ [some (u : Int)]).length = sh.length + 1 := by rw [List.length_append]; rfl
                refine go_at' (L' := pt qs (.lst ((sh ++ [some (u : Int)]).map PV)) :: pt qc (.lst ((cardsL (sh ++ [some (u : Int)]) (sh.length + 1)).map V.int)) :: purseC p P5 :: R) ⟨rfl, sh ++ [some (u : Int)], P5, _, _, _, _, by omega, hsh.snoc hmem.1 hmem.2, rfl, by rw [e1]⟩
      · rintro σ1 T2 L2 ⟨rfl, sh, P3, v6, v7, v8, v9, hl, hsh, rfl, rfl⟩
        repeat walk_at "oc"
        exact Go.ent (k qs sh P3 hsh (by omega))

end


abbrev FillOk (z : Int) (sh : Ps) (own : List Int) : Prop := own.length = sh.length ∧ ∀ t : Nat, t < sh.length → 0 ≤ own.getD t 0 ∧ own.getD t 0 + ((sh.count (some (t : Int)) : Nat) : Int) ≤ z
def spFill : Sp := fun vs H Q E => ∃ (p sa : Addr) (P : Pu) (z : Int) (sh : Ps) (T : Tups) (R : List Chunk), vs = [.ref p, .int z, .ref sa] ∧ 0 < z ∧ z ≤ 100 ∧ Sh z sh ∧ sh.length ≤ 100 ∧ RdL R sa (sh.map PV) ∧ Has H (purseC p P :: R) ∧ HasT H T ∧ ∀ q own P', FillOk z sh own → Go T (pt q (.lst (own.map V.int)) :: purseC p P' :: R) (Q (.ref q))
theorem go_fill {T : Tups} {L R : List Chunk} {p sa : Addr} {P : Pu} {z : Int} {sh : Ps} {Q : VK} {E : XK} [q : Pull purseC L p P R] (h0 : 0 < z) (h1 : z ≤ 100) (hs : Sh z sh) (hl : sh.length ≤ 100) (r : RdL R sa (sh.map PV)) (k : ∀ q own P', FillOk z sh own → Go T (pt q (.lst (own.map V.int)) :: purseC p P' :: R) fun H => Q (.ref q) H) : Go T L fun H => spFill [.ref p, .int z, .ref sa] H Q E := fun H x t =>
  ⟨p, sa, P, z, sh, T, R, rfl, h0, h1, hs, hl, r, x.pull (F := purseC), t, k⟩
section
variable {P : Program} {w : World} {K : PySem.W.Frag} {mg : Str → Option Value} {base : Heap} {CT CN CV CF CI CL CO : Addr}
theorem sc_law_fill : FnScope ["purse", "size", "shape", "many", "cards", "due", "own", "back", "table", "room", "way", "blank"] ["purse", "size", "shape"] (defScope s_law_fill) := ⟨rfl, rfl, rfl, by decide +kernel, rfl, by decide +kernel, by decide +kernel⟩
theorem d_fill {dvs : List V} (tx : Tx K mg "_law_fill" "_law_fill" s_law_fill ["purse", "size", "shape"] dvs) [T : Txt K mg CT CN CV CF CI CL CO] (D_law_take : FnD P w K mg base "_law_take" 1 ["purse", "many"] [] spTake) : FnD P w K mg base "_law_fill" 2 ["purse", "size", "shape"] dvs (spFill) := by
  obtain ⟨f, fd, ds, F, hm, hb, hd⟩ := tx.ex
  refine ⟨f, fd, ds, okN F sc_law_fill (fun vs H Q E h => ?_) (fun cdv A outer s H vs Q E hr tk hp h => ?_), hm, F.kp, hb, hd⟩
  · obtain ⟨p, sa, P0, z, sh, T', R, rfl, hz0, hz1, hsh, hl, rs, hs, ht, k⟩ := h
    rfl
  · obtain ⟨p, sa, P0, z, sh, T', R, rfl, hz0, hz1, hsh, hl, rs, hs, ht, k⟩ := h
    have nd := sc_law_fill.nd
    refine ⟨_, (pss_cons (ps_set (i := 3) nd rfl (Or.inl rfl) (pe_callB (callLenK (K := K)) (by rfl) T.n_len (by decide +kernel) (pa_cons (pv 2) pa_nil)))
  (pss_cons (ps_setLc (i := 4) (own := [("table", 8)]) (tt := tYes) rfl nd rfl rfl (sw_true rfl rfl rfl (by decide +kernel)) (pi_range1 rfl T.n_range (pa_cons (pv 3) pa_nil)) (blkOk_by (own := [("table", 8)]) (N := ["purse", "size", "shape", "many", "cards", "due", "own", "back", "table", "room", "way", "blank"]) (sc := defScope s_law_fill) (by decide +kernel)) (fun _ _ _ _ _ => (pg_name (i := 8) nd rfl (Or.inl rfl))) (fun _ _ _ _ _ => pts_nil) (fun _ _ _ _ _ => (pe_bmK (K := K) PySem.F.plainAttrs_list PySem.F.slot_list_count PySem.F.type_list_count (mt_countVK (K := K)) (pv 2) (pa_cons (pv 8) pa_nil))))
  (pss_cons (ps_set (i := 5) nd rfl (Or.inl rfl) (pe_op opMul (pe_lst (pa_cons pe_int pa_nil)) (pv 3)))
  (pss_cons (ps_set (i := 6) nd rfl (Or.inl rfl) (pe_op opMul (pe_lst (pa_cons pe_int pa_nil)) (pv 3)))
  (pss_cons (ps_for hp rfl (pi_range1 rfl T.n_range (pa_cons (pv 3) pa_nil)) (pg_name (i := 7) nd rfl (Or.inl rfl))
  (pss_cons (ps_set (i := 8) nd rfl (Or.inl rfl) (pe_op op_sub (pe_op op_sub (pv 3) pe_int) (pv 7)))
  (pss_cons (ps_set (i := 9) nd rfl (Or.inl rfl) (pe_op op_sub (pv 1) (pe_ix (ixSeqK (K := K)) (pv 4) (pv 8) (fun _ _ => rfl))))
  (pss_cons (ps_set (i := 10) nd rfl (Or.inl rfl) (pe_clD D_law_take (hr.mono (by decide)) rfl (fun σ => L2N.passAt tk σ) (pa_cons (pv 0) (pa_cons pe_int pa_nil))))
  (pss_cons (ps_set (i := 11) nd rfl (Or.inl rfl) (pe_callB (callMin rfl) (by rfl) T.n_min (by decide +kernel) (pa_cons (pe_ix (ixSeqK (K := K)) (pv 5) (pv 8) (fun _ _ => rfl)) (pa_cons (pv 9) pa_nil))))
  (Evl.pss_cut (ps_if (pt_cmpR (opEqK (K := K) hr.units) (pv 10) pe_int (nomark _)) (pss_one (ps_set (i := 11) nd rfl (Or.inl rfl) (pe_callB (callMin rfl) (by rfl) T.n_min (by decide +kernel) (pa_cons (pe_op opAdd (pe_ix (ixSeqK (K := K)) (pv 5) (pv 8) (fun _ _ => rfl)) pe_int) (pa_cons (pv 9) pa_nil))))) pss_nil)
  (Evl.pss_cut (ps_if (pt_cmpR (opEqK (K := K) hr.units) (pv 10) pe_int (nomark _)) (pss_one (ps_set (i := 11) nd rfl (Or.inl rfl) pe_int)) pss_nil)
  (Evl.pss_cut (ps_if (pt_cmpR (opEqK (K := K) hr.units) (pv 10) pe_int (nomark _)) (pss_one (ps_set (i := 11) nd rfl (Or.inl rfl) (pe_clD D_law_take (hr.mono (by decide)) rfl (fun σ => L2N.passAt tk σ) (pa_cons (pv 0) (pa_cons (pe_op opAdd (pv 9) pe_int) pa_nil))))) pss_nil)
  (pss_cons (ps_asg (pe_op op_sub (pv 9) (pv 11)) (pg_sub (pv 6) (pv 8) set_list))
  (pss_one (ps_if (PW.pt (pw_and (pt_cmpR op_gt (pv 8) pe_int (nomark _)) (pw_and1 (pt_cmpR op_le (pv 11) (pe_ix (ixSeqK (K := K)) (pv 5) (pv 8) (fun _ _ => rfl)) (nomark _))))) (pss_one (ps_asg (pe_op opAdd (pe_ix (ixSeqK (K := K)) (pv 5) (pe_ix (ixSeqK (K := K)) (pv 2) (pv 8) (fun _ _ => rfl)) (fun _ _ => rfl)) pe_int) (pg_sub (pv 5) (pe_ix (ixSeqK (K := K)) (pv 2) (pv 8) (fun _ _ => rfl)) set_list))) pss_nil)))))))))))
  (pss_one (ps_ret (pv 6)))))))), ?_⟩
    refine go_start hs ht ?_
    try dsimp only [cxOf, WOf]
    rw [show L2.start _ _ = [some (.ref p), some (.int z), some (.ref sa), none, none, none, none, none, none, none, none, none] from rfl]
    haveI := rs
    have hz62 : (sh.length : Int) ≤ 100 := by omega
    repeat walk_at "oc"
    rw [List.length_map]
    repeat walk_at "oc"
    refine go_lcr (σw := [some (.ref p), some (.int z), some (.ref sa), some (.int (sh.length : Int)), none, none, none, none, none, none, none, none]) rfl (fun i T1 L1 acc => T1 = T' ∧ L1 = purseC p P0 :: R ∧ acc = (cardsL sh i).map V.int) ⟨rfl, rfl, rfl⟩ ?_ ?_
    · rintro i T1 L1 acc Dl hi ⟨rfl, rfl, rfl⟩
      rw [show (0 : Int) + (i : Int) = (i : Int) by omega]
      repeat walk_at "oc"
      refine go_item (sz100l (by rw [List.length_map, cardsL_len]; omega)) ⟨rfl, rfl, ?_⟩
      unfold cardsL
      rw [List.range_succ, List.map_append, List.map_append]
      rfl
    · rintro T1 L1 acc qc ⟨rfl, rfl, rfl⟩
      rw [show ((sh.length : Int)).toNat = sh.length by omega]
      repeat walk_at "oc"
      rename_i a1 qd a2 qo
      rw [show (sh.length : Int).toNat = sh.length by omega]
      refine Go.ent (L' := pt qo (.lst (List.replicate sh.length (V.int 0))) :: pt qd (.lst (List.replicate sh.length (V.int 0))) :: pt qc (.lst ((cardsL sh sh.length).map V.int)) :: purseC p P0 :: R) ?_
      refine go_range (fun i σ1 T2 L2 => T2 = T1 ∧ ∃ (own due : List Int) (P3 : Pu) (v7 v8 v9 v10 v11 : Option V), own.length = sh.length ∧ due.length = sh.length ∧ (∀ t : Nat, t < sh.length → 0 ≤ own.getD t 0 ∧ own.getD t 0 + ((sh.count (some (t : Int)) : Nat) : Int) ≤ z) ∧ (∀ t : Nat, t < sh.length → 0 ≤ due.getD t 0) ∧ σ1 = [some (.ref p), some (.int z), some (.ref sa), some (.int (sh.length : Int)), some (.ref qc), some (.ref qd), some (.ref qo), v7, v8, v9, v10, v11] ∧ L2 = pt qo (.lst (own.map V.int)) :: pt qd (.lst (due.map V.int)) :: pt qc (.lst ((cardsL sh sh.length).map V.int)) :: purseC p P3 :: R) ⟨rfl, List.replicate sh.length 0, List.replicate sh.length 0, P0, _, _, _, _, _, List.length_replicate, List.length_replicate, fun t ht => ?_, fun t ht => ?_, rfl, ?_⟩ ?_ ?_
      · have := hsh.cnt t
        rw [List.getD_eq_getElem?_getD, List.getElem?_replicate, if_pos ht, Option.getD_some]
        omega
      · rw [List.getD_eq_getElem?_getD, List.getElem?_replicate, if_pos ht, Option.getD_some]
        omega
      · rw [List.map_replicate]
      · rintro i σ1 T2 L2 hi ⟨rfl, own, due, P3, v7, v8, v9, v10, v11, hol, hdl, hown, hdue, rfl, rfl⟩
        rw [show (0 : Int) + (i : Int) = (i : Int) by omega]
        repeat walk_at "oc"
        generalize hu : sh.length - 1 - i = u
        have hun : u < sh.length := by omega
        rw [show (sh.length : Int) - 1 - (i : Int) = (u : Int) by omega]
        refine go_sqL (atI_of (int_get (cardsL_get hun))) ?_
        have hc := hsh.cnt u
        have hdu := hdue u hun
        repeat walk_at "oc"
        generalize hrm : z - ((sh.count (some (u : Int)) : Nat) : Int) = rm
        refine go_take (by decide) (by decide) fun wy P4 g0 g1 => ?_
        repeat walk_at "oc"
        refine go_sqL (atI_of (int_get (getD_at (w := due) (c := u) (by omega)))) ?_
        repeat walk_at "oc"
        generalize hb : (if rm < due.getD u 0 then rm else due.getD u 0) = b
        have hb0 : 0 ≤ b := by rw [← hb]; split <;> omega
        have hb1 : b ≤ rm := by rw [← hb]; split <;> omega
        refine go_cut (fun σ1 T3 L4 => T3 = T2 ∧ ∃ (b : Int) (P5 : Pu), 0 ≤ b ∧ b ≤ rm ∧ σ1 = [some (.ref p), some (.int z), some (.ref sa), some (.int (sh.length : Int)), some (.ref qc), some (.ref qd), some (.ref qo), some (.int (i : Int)), some (.int (u : Int)), some (.int rm), some (.int wy), some (.int b)] ∧ L4 = pt qo (.lst (own.map V.int)) :: pt qd (.lst (due.map V.int)) :: pt qc (.lst ((cardsL sh sh.length).map V.int)) :: purseC p P5 :: R) ?_ ?_
        · repeat walk_at "oc"
          refine go_d (fun h => ?_) (fun h => ?_)
          · repeat walk_at "oc"
            refine go_sqL (atI_of (int_get (getD_at (w := due) (c := u) (by omega)))) ?_
            repeat walk_at "oc"
            dsimp only
            refine go_at' (L' := pt qo (.lst (own.map V.int)) :: pt qd (.lst (due.map V.int)) :: pt qc (.lst ((cardsL sh sh.length).map V.int)) :: purseC p P4 :: R) ⟨rfl, _, P4, ?_, ?_, rfl, rfl⟩
            · split <;> omega
            · split <;> omega
          · repeat walk_at "oc"
            dsimp only
            exact go_at' (L' := pt qo (.lst (own.map V.int)) :: pt qd (.lst (due.map V.int)) :: pt qc (.lst ((cardsL sh sh.length).map V.int)) :: purseC p P4 :: R) ⟨rfl, b, P4, hb0, hb1, rfl, rfl⟩
        · rintro σ1 T3 L4 ⟨rfl, b, P5, hb0, hb1, rfl, rfl⟩
          refine go_cut (fun σ1 T4 L4 => T4 = T3 ∧ ∃ (b : Int) (P5 : Pu), 0 ≤ b ∧ b ≤ rm ∧ σ1 = [some (.ref p), some (.int z), some (.ref sa), some (.int (sh.length : Int)), some (.ref qc), some (.ref qd), some (.ref qo), some (.int (i : Int)), some (.int (u : Int)), some (.int rm), some (.int wy), some (.int b)] ∧ L4 = pt qo (.lst (own.map V.int)) :: pt qd (.lst (due.map V.int)) :: pt qc (.lst ((cardsL sh sh.length).map V.int)) :: purseC p P5 :: R) ?_ ?_
          · repeat walk_at "oc"
            refine go_d (fun h => ?_) (fun h => ?_)
            · repeat walk_at "oc"
              dsimp only
              exact go_at' (L' := pt qo (.lst (own.map V.int)) :: pt qd (.lst (due.map V.int)) :: pt qc (.lst ((cardsL sh sh.length).map V.int)) :: purseC p P5 :: R) ⟨rfl, 0, P5, by omega, by omega, rfl, rfl⟩
            · repeat walk_at "oc"
              dsimp only
              exact go_at' (L' := pt qo (.lst (own.map V.int)) :: pt qd (.lst (due.map V.int)) :: pt qc (.lst ((cardsL sh sh.length).map V.int)) :: purseC p P5 :: R) ⟨rfl, b, P5, hb0, hb1, rfl, rfl⟩
          · rintro σ1 T4 L4 ⟨rfl, b, P5, hb0, hb1, rfl, rfl⟩
            refine go_cut (fun σ1 T5 L4 => T5 = T4 ∧ ∃ (b : Int) (P5 : Pu), 0 ≤ b ∧ b ≤ rm ∧ σ1 = [some (.ref p), some (.int z), some (.ref sa), some (.int (sh.length : Int)), some (.ref qc), some (.ref qd), some (.ref qo), some (.int (i : Int)), some (.int (u : Int)), some (.int rm), some (.int wy), some (.int b)] ∧ L4 = pt qo (.lst (own.map V.int)) :: pt qd (.lst (due.map V.int)) :: pt qc (.lst ((cardsL sh sh.length).map V.int)) :: purseC p P5 :: R) ?_ ?_
            · repeat walk_at "oc"
              refine go_d (fun h => ?_) (fun h => ?_)
              · repeat walk_at "oc"
                refine go_take (by omega) (by omega) fun r5 P6 g0 g1 => ?_
                repeat walk_at "oc"
                dsimp only
                exact go_at' (L' := pt qo (.lst (own.map V.int)) :: pt qd (.lst (due.map V.int)) :: pt qc (.lst ((cardsL sh sh.length).map V.int)) :: purseC p P6 :: R) ⟨rfl, r5, P6, by omega, by omega, rfl, rfl⟩
              · repeat walk_at "oc"
                dsimp only
                exact go_at' (L' := pt qo (.lst (own.map V.int)) :: pt qd (.lst (due.map V.int)) :: pt qc (.lst ((cardsL sh sh.length).map V.int)) :: purseC p P5 :: R) ⟨rfl, b, P5, hb0, hb1, rfl, rfl⟩
            · rintro σ1 T5 L4 ⟨rfl, b, P5, hb0, hb1, rfl, rfl⟩
              repeat walk_at "oc"
              refine' go_setL (k := u) (by exact ixN_nat (by rw [List.length_map]; omega)) (by exact set_ints) ?_
              repeat walk_at "oc"
              have hown2 : ∀ t : Nat, t < sh.length → 0 ≤ (own.set u (rm - b)).getD t 0 ∧ (own.set u (rm - b)).getD t 0 + ((sh.count (some (t : Int)) : Nat) : Int) ≤ z := fun t ht => by
                rw [getD_set (by omega)]
                by_cases e : t = u
                · rw [if_pos e, e]
                  omega
                · rw [if_neg e]
                  exact hown t ht
              by_cases hu0 : 0 < u
              · refine go_dT (by omega) ?_
                repeat walk_at "oc"
                refine go_sqL (atI_of (int_get (getD_at (w := due) (c := u) (by omega)))) ?_
                repeat walk_at "oc"
                refine go_d (fun h => ?_) (fun h => ?_)
                · obtain ⟨pp, epp, hpp⟩ := hsh.par u hu0 hun
                  repeat walk_at "oc"
                  refine go_sqL (atI_of (pv_get epp)) ?_
                  rw [show PV (some (pp : Int)) = V.int (pp : Int) from rfl]
                  repeat walk_at "oc"
                  refine go_sqL (atI_of (int_get (getD_at (w := due) (c := pp) (by omega)))) ?_
                  repeat walk_at "oc"
                  refine go_sqL (atI_of (pv_get epp)) ?_
                  rw [show PV (some (pp : Int)) = V.int (pp : Int) from rfl]
                  repeat walk_at "oc"
                  refine' go_setL (k := pp) (by exact ixN_nat (by rw [List.length_map]; omega)) (by exact set_ints) ?_
                  dsimp only
                  refine go_at' (L' := pt qo (.lst ((own.set u (rm - b)).map V.int)) :: pt qd (.lst ((due.set pp (due.getD pp 0 + 1)).map V.int)) :: pt qc (.lst ((cardsL sh sh.length).map V.int)) :: purseC p P5 :: R) ⟨rfl, own.set u (rm - b), due.set pp (due.getD pp 0 + 1), P5, _, _, _, _, _, by rw [List.length_set]; exact hol, by rw [List.length_set]; exact hdl, hown2, fun t ht => ?_, rfl, rfl⟩
                  rw [getD_set (by omega)]
                  have := hdue t ht
                  have := hdue pp (by omega)
                  split <;> omega
                · repeat walk_at "oc"
                  dsimp only
                  exact go_at' (L' := pt qo (.lst ((own.set u (rm - b)).map V.int)) :: pt qd (.lst (due.map V.int)) :: pt qc (.lst ((cardsL sh sh.length).map V.int)) :: purseC p P5 :: R) ⟨rfl, own.set u (rm - b), due, P5, _, _, _, _, _, by rw [List.length_set]; exact hol, hdl, hown2, hdue, rfl, rfl⟩
              · refine go_dF (by omega) ?_
                repeat walk_at "oc"
                dsimp only
                exact go_at' (L' := pt qo (.lst ((own.set u (rm - b)).map V.int)) :: pt qd (.lst (due.map V.int)) :: pt qc (.lst ((cardsL sh sh.length).map V.int)) :: purseC p P5 :: R) ⟨rfl, own.set u (rm - b), due, P5, _, _, _, _, _, by rw [List.length_set]; exact hol, hdl, hown2, hdue, rfl, rfl⟩
      · rintro σ1 T2 L2 ⟨rfl, own, due, P3, v7, v8, v9, v10, v11, hol, hdl, hown, hdue, rfl, rfl⟩
        repeat walk_at "oc"
        exact Go.ent (k qo own P3 ⟨hol, hown⟩)

end


def spLabels : Sp := fun vs H Q E => ∃ (p : Addr) (P : Pu) (n : Nat) (T : Tups) (R : List Chunk), vs = [.ref p, .int n] ∧ 0 < n ∧ n ≤ 100 ∧ Has H (purseC p P :: R) ∧ HasT H T ∧ ∀ q ls P', Lb n ls → Go T (pt q (.lst (VN ls)) :: purseC p P' :: R) (Q (.ref q))
theorem go_labels {T : Tups} {L R : List Chunk} {p : Addr} {P : Pu} {n : Nat} {Q : VK} {E : XK} [q : Pull purseC L p P R] (h0 : 0 < n) (h1 : n ≤ 100) (k : ∀ q ls P', Lb n ls → Go T (pt q (.lst (VN ls)) :: purseC p P' :: R) fun H => Q (.ref q) H) : Go T L fun H => spLabels [.ref p, .int n] H Q E := fun H x t =>
  ⟨p, P, n, T, R, rfl, h0, h1, x.pull (F := purseC), t, k⟩
def spLabelled : Sp := fun vs H Q E => ∃ (z : Int) (sa fa la : Addr) (sh : Ps) (fl : List Int) (ls : List Nat) (T : Tups) (L : List Chunk), vs = [.int z, .ref sa, .ref fa, .ref la] ∧ sh.length ≤ 100 ∧ Sh z sh ∧ FillOk z sh fl ∧ Lb sh.length ls ∧ RdL L sa (sh.map PV) ∧ RdL L fa (fl.map V.int) ∧ RdL L la (VN ls) ∧ Has H L ∧ HasT H T ∧
  ∀ a W, W.z = z → W.ps.length ≤ 100 → OkT W.z W.ps W.own → Go T (woodC a W :: L) (Q (.ref a))
theorem go_labelled {T : Tups} {L : List Chunk} {z : Int} {sa fa la : Addr} {sh : Ps} {fl : List Int} {ls : List Nat} {Q : VK} {E : XK} (hl : sh.length ≤ 100) (hsh : Sh z sh) (hf : FillOk z sh fl) (lb : Lb sh.length ls) (r1 : RdL L sa (sh.map PV)) (r2 : RdL L fa (fl.map V.int)) (r3 : RdL L la (VN ls))
    (k : ∀ a W, W.z = z → W.ps.length ≤ 100 → OkT W.z W.ps W.own → Go T (woodC a W :: L) fun H => Q (.ref a) H) : Go T L fun H => spLabelled [.int z, .ref sa, .ref fa, .ref la] H Q E := fun H x t => ⟨z, sa, fa, la, sh, fl, ls, T, L, rfl, hl, hsh, hf, lb, r1, r2, r3, x, t, k⟩
def spWood (K : PySem.W.Frag) : Sp := fun vs H Q E => ∃ (s : Addr) (ns : List Int) (z : Int) (T : Tups) (L : List Chunk), vs = [.ref s, .int z] ∧ ScrAt K L s ns ∧ Has H L ∧ HasT H T ∧ ∀ a W, W.z ≤ 100 → W.ps.length ≤ 100 → OkT W.z W.ps W.own → Go T (woodC a W :: L) (Q (.ref a))
theorem lb_range (n : Nat) : Lb n (List.range n) := ⟨List.length_range, List.nodup_range, fun x hx => List.mem_range.mp hx⟩
theorem nd_map {f : Nat → Nat} {l : List Nat} (nd : l.Nodup) (hi : ∀ x ∈ l, ∀ y ∈ l, f x = f y → x = y) : (l.map f).Nodup := by
  induction l with
  | nil => exact .nil
  | cons a l ih =>
    rw [List.nodup_cons] at nd
    rw [List.map_cons, List.nodup_cons]
    refine ⟨fun hm => ?_, ih nd.2 fun x hx y hy => hi x (List.mem_cons_of_mem _ hx) y (List.mem_cons_of_mem _ hy)⟩
    obtain ⟨b, hb, e⟩ := List.mem_map.mp hm
    have := hi b (List.mem_cons_of_mem _ hb) a List.mem_cons_self e
    exact nd.1 (this ▸ hb)
theorem lb_rev (n : Nat) : Lb n ((List.range n).map fun k => n - 1 - k) := ⟨by rw [List.length_map, List.length_range], nd_map List.nodup_range fun x hx y hy e => by
  have h1 := List.mem_range.mp hx
  have h2 := List.mem_range.mp hy
  omega, fun x hx => by
  obtain ⟨k, hk, rfl⟩ := List.mem_map.mp hx
  have := List.mem_range.mp hk
  omega⟩
theorem lb_shift (n s : Nat) (hs : s < n) : Lb n ((List.range n).map fun k => (k + s) % n) := ⟨by rw [List.length_map, List.length_range], nd_map List.nodup_range fun x hx y hy e => by
  have h1 := List.mem_range.mp hx
  have h2 := List.mem_range.mp hy
  have m : ∀ x, x < n → (x + s) % n = if x + s < n then x + s else x + s - n := fun x hx => by
    split
    · exact Nat.mod_eq_of_lt (by assumption)
    · rw [Nat.mod_eq_sub_mod (by omega)]
      exact Nat.mod_eq_of_lt (by omega)
  rw [m x h1, m y h2] at e
  split at e <;> split at e <;> omega, fun x hx => by
  obtain ⟨k, hk, rfl⟩ := List.mem_map.mp hx
  exact Nat.mod_lt _ (by omega)⟩
theorem lb_ins {n : Nat} {l : List Nat} (h : Lb n l) (j : Nat) : Lb (n + 1) (l.take j ++ [n] ++ l.drop j) := by
  have p : (l.take j ++ [n] ++ l.drop j).Perm (n :: l) := by
    rw [List.append_assoc]
    refine List.perm_append_comm.trans ?_
    rw [List.cons_append, List.nil_append, List.cons_append]
    refine List.Perm.cons _ (List.perm_append_comm.trans ?_)
    rw [List.take_append_drop]
  refine ⟨by rw [p.length_eq, List.length_cons, h.len], p.nodup_iff.mpr (List.nodup_cons.mpr ⟨fun hm => by have := h.lt n hm; omega, h.nd⟩), fun x hx => ?_⟩
  rcases List.mem_cons.mp (p.mem_iff.mp hx) with rfl | hx
  · omega
  · have := h.lt x hx
    omega
theorem VN_take (l : List Nat) (j : Nat) : (VN l).take j = VN (l.take j) := by
  unfold VN
  rw [List.map_take]
theorem VN_drop (l : List Nat) (j : Nat) : (VN l).drop j = VN (l.drop j) := by
  unfold VN
  rw [List.map_drop]
section
variable {P : Program} {w : World} {K : PySem.W.Frag} {mg : Str → Option Value} {base : Heap} {CT CN CV CF CI CL CO : Addr}
theorem sc_law_labels : FnScope ["purse", "many", "way", "shift", "order", "k"] ["purse", "many"] (defScope s_law_labels) := ⟨rfl, rfl, rfl, by decide +kernel, rfl, by decide +kernel, by decide +kernel⟩
theorem d_labels {dvs : List V} (tx : Tx K mg "_law_labels" "_law_labels" s_law_labels ["purse", "many"] dvs) [T : Txt K mg CT CN CV CF CI CL CO] (D_law_take : FnD P w K mg base "_law_take" 1 ["purse", "many"] [] spTake) : FnD P w K mg base "_law_labels" 2 ["purse", "many"] dvs (spLabels) := by
  obtain ⟨f, fd, ds, F, hm, hb, hd⟩ := tx.ex
  refine ⟨f, fd, ds, okN F sc_law_labels (fun vs H Q E h => ?_) (fun cdv A outer s H vs Q E hr tk hp h => ?_), hm, F.kp, hb, hd⟩
  · obtain ⟨p, P0, n, T', R, rfl, hn0, hn1, hs, ht, k⟩ := h
    rfl
  · obtain ⟨p, P0, n, T', R, rfl, hn0, hn1, hs, ht, k⟩ := h
    have nd := sc_law_labels.nd
    refine ⟨_, (pss_cons (ps_set (i := 2) nd rfl (Or.inl rfl) (pe_clD D_law_take (hr.mono (by decide)) rfl (fun σ => L2N.passAt tk σ) (pa_cons (pv 0) (pa_cons pe_int pa_nil))))
  (pss_cons (ps_if (pt_cmpR (opEqK (K := K) hr.units) (pv 2) pe_int (nomark _)) (pss_one (ps_ret (pe_lc (own := [("k", 5)]) (tt := tYes) rfl nd (pi_range1 rfl T.n_range (pa_cons (pv 1) pa_nil)) (blkOk_by (own := [("k", 5)]) (N := ["purse", "many", "way", "shift", "order", "k"]) (sc := defScope s_law_labels) (by decide +kernel)) (fun _ _ _ _ _ => (pg_name (i := 5) nd rfl (Or.inl rfl))) (fun _ _ _ _ _ => pts_nil) (fun _ _ _ _ _ => (pv 5))))) pss_nil)
  (pss_cons (ps_if (pt_cmpR (opEqK (K := K) hr.units) (pv 2) pe_int (nomark _)) (pss_one (ps_ret (pe_lc (own := [("k", 5)]) (tt := tYes) rfl nd (pi_range1 rfl T.n_range (pa_cons (pv 1) pa_nil)) (blkOk_by (own := [("k", 5)]) (N := ["purse", "many", "way", "shift", "order", "k"]) (sc := defScope s_law_labels) (by decide +kernel)) (fun _ _ _ _ _ => (pg_name (i := 5) nd rfl (Or.inl rfl))) (fun _ _ _ _ _ => pts_nil) (fun _ _ _ _ _ => (pe_op op_sub (pe_op op_sub (pv 1) pe_int) (pv 5)))))) pss_nil)
  (pss_cons (ps_if (pt_cmpR (opEqK (K := K) hr.units) (pv 2) pe_int (nomark _)) (pss_cons (ps_set (i := 3) nd rfl (Or.inr rfl) (pe_clD D_law_take (hr.mono (by decide)) rfl (fun σ => L2N.passAt tk σ) (pa_cons (pv 0) (pa_cons (pv 1) pa_nil))))
  (pss_one (ps_ret (pe_lc (own := [("k", 5)]) (tt := tYes) rfl nd (pi_range1 rfl T.n_range (pa_cons (pv 1) pa_nil)) (blkOk_by (own := [("k", 5)]) (N := ["purse", "many", "way", "shift", "order", "k"]) (sc := defScope s_law_labels) (by decide +kernel)) (fun _ _ _ _ _ => (pg_name (i := 5) nd rfl (Or.inl rfl))) (fun _ _ _ _ _ => pts_nil) (fun _ _ _ _ _ => (pe_op op_mod (pe_callTy callInt (by rfl) T.n_int (by decide +kernel) (pa_cons (pe_op opAdd (pv 5) (pv 3)) pa_nil)) (pv 1))))))) pss_nil)
  (pss_cons (ps_set (i := 4) nd rfl (Or.inl rfl) (pe_lst pa_nil))
  (pss_cons (ps_for hp rfl (pi_range1 rfl T.n_range (pa_cons (pv 1) pa_nil)) (pg_name (i := 5) nd rfl (Or.inl rfl))
  (pss_one (ps_expr (pe_bmK (K := K) PySem.F.plainAttrs_list PySem.F.slot_list_insert PySem.F.type_list_insert mtInsert (pv 4) (pa_cons (pe_clD D_law_take (hr.mono (by decide)) rfl (fun σ => L2N.passAt tk σ) (pa_cons (pv 0) (pa_cons (pe_op opAdd (pv 5) pe_int) pa_nil))) (pa_cons (pv 5) pa_nil))))))
  (pss_one (ps_ret (pv 4))))))))), ?_⟩
    refine go_start hs ht ?_
    try dsimp only [cxOf, WOf]
    rw [show L2.start _ _ = [some (.ref p), some (.int n), none, none, none, none] from rfl]
    repeat walk_at "oc"
    refine go_take (by decide) (by decide) fun r1 P1 h0 h1 => ?_
    repeat walk_at "oc"
    refine go_d (fun h => ?_) (fun h => ?_)
    · repeat walk_at "oc"
      refine go_lcr (σw := [some (.ref p), some (.int n), some (.int r1), none, none, none]) rfl (fun j T3 L3 acc => T3 = T' ∧ L3 = purseC p P1 :: R ∧ acc = VN (List.range j)) ⟨rfl, rfl, rfl⟩ ?_ ?_
      · rintro j T3 L3 acc Dl hj ⟨rfl, rfl, rfl⟩
        rw [show (0 : Int) + (j : Int) = (j : Int) by omega]
        repeat walk_at "oc"
        refine go_item (sz100l (by rw [VN_len, List.length_range]; omega)) ⟨rfl, rfl, ?_⟩
        rw [List.range_succ, VN_app]
        rfl
      · rintro T3 L3 acc Dl ⟨rfl, rfl, rfl⟩
        rw [show ((n : Int)).toNat = n by omega]
        exact Go.ent (k Dl _ P1 (lb_range n))
    · repeat walk_at "oc"
      refine go_d (fun h => ?_) (fun h => ?_)
      · repeat walk_at "oc"
        refine go_lcr (σw := [some (.ref p), some (.int n), some (.int r1), none, none, none]) rfl (fun j T3 L3 acc => T3 = T' ∧ L3 = purseC p P1 :: R ∧ acc = VN ((List.range j).map fun k => n - 1 - k)) ⟨rfl, rfl, rfl⟩ ?_ ?_
        · rintro j T3 L3 acc Dl hj ⟨rfl, rfl, rfl⟩
          rw [show (0 : Int) + (j : Int) = (j : Int) by omega]
          repeat walk_at "oc"
          refine go_item (sz100l (by rw [VN_len, List.length_map, List.length_range]; omega)) ⟨rfl, rfl, ?_⟩
          rw [List.range_succ, List.map_append, VN_app, show (n : Int) - 1 - (j : Int) = ((n - 1 - j : Nat) : Int) by omega]
          rfl
        · rintro T3 L3 acc Dl ⟨rfl, rfl, rfl⟩
          rw [show ((n : Int)).toNat = n by omega]
          exact Go.ent (k Dl _ P1 (lb_rev n))
      · repeat walk_at "oc"
        refine go_d (fun h => ?_) (fun h => ?_)
        · repeat walk_at "oc"
          refine go_take (by omega) (by omega) fun r2 P2 h2 h3 => ?_
          obtain ⟨s, rfl⟩ : ∃ s : Nat, r2 = s := ⟨r2.toNat, by omega⟩
          repeat walk_at "oc"
          refine go_lcr (σw := [some (.ref p), some (.int n), some (.int r1), some (.int (s : Int)), none, none]) rfl (fun j T3 L3 acc => T3 = T' ∧ L3 = purseC p P2 :: R ∧ acc = VN ((List.range j).map fun k => (k + s) % n)) ⟨rfl, rfl, rfl⟩ ?_ ?_
          · rintro j T3 L3 acc Dl hj ⟨rfl, rfl, rfl⟩
            rw [show (0 : Int) + (j : Int) = (j : Int) by omega]
            repeat walk_at "oc"
            refine go_item (sz100l (by rw [VN_len, List.length_map, List.length_range]; omega)) ⟨rfl, rfl, ?_⟩
            rw [List.range_succ, List.map_append, VN_app]
            rfl
          · rintro T3 L3 acc Dl ⟨rfl, rfl, rfl⟩
            rw [show ((n : Int)).toNat = n by omega]
            exact Go.ent (k Dl _ P2 (lb_shift n s (by omega)))
        · repeat walk_at "oc"
          rename_i qo
          refine go_range (fun i σ1 T2 L2 => T2 = T' ∧ ∃ (l : List Nat) (P3 : Pu) (v5 : Option V), Lb i l ∧ σ1 = [some (.ref p), some (.int n), some (.int r1), none, some (.ref qo), v5] ∧ L2 = pt qo (.lst (VN l)) :: purseC p P3 :: R) ⟨rfl, [], P1, _, ⟨rfl, .nil, fun x hx => by cases hx⟩, rfl, rfl⟩ ?_ ?_
          · rintro i σ1 T2 L2 hi ⟨rfl, l, P3, v5, hl, rfl, rfl⟩
            rw [show (0 : Int) + (i : Int) = (i : Int) by omega]
            repeat walk_at "oc"
            refine go_take (by omega) (by omega) fun r2 P4 h2 h3 => ?_
            repeat walk_at "oc"
            refine go_ins (sz100l (by rw [VN_len, hl.len]; omega)) h2 (by omega) ?_
            repeat walk_at "oc"
            dsimp only
            rw [VN_take, VN_drop]
            refine go_at ⟨rfl, l.take r2.toNat ++ [i] ++ l.drop r2.toNat, P4, _, lb_ins hl _, rfl, ?_⟩
            rw [VN_app, VN_app]
            rfl
          · rintro σ1 T2 L2 ⟨rfl, l, P3, v5, hl, rfl, rfl⟩
            repeat walk_at "oc"
            rw [show ((n : Int)).toNat = n by omega] at hl
            exact Go.ent (k qo l P3 hl)

end


theorem set_pv {ps : Ps} {u : Nat} {o : Option Int} : (ps.map PV).set u (PV o) = (ps.set u o).map PV := List.map_set.symm
section
variable {P : Program} {w : World} {K : PySem.W.Frag} {mg : Str → Option Value} {base : Heap} {CT CN CV CF CI CL CO : Addr}
theorem sc_law_labelled : FnScope ["size", "shape", "filled", "labels", "parents", "own", "table"] ["size", "shape", "filled", "labels"] (defScope s_law_labelled) := ⟨rfl, rfl, rfl, by decide +kernel, rfl, by decide +kernel, by decide +kernel⟩
theorem d_labelled {dvs : List V} (tx : Tx K mg "_law_labelled" "_law_labelled" s_law_labelled ["size", "shape", "filled", "labels"] dvs) [T : Txt K mg CT CN CV CF CI CL CO]  : FnD P w K mg base "_law_labelled" 1 ["size", "shape", "filled", "labels"] dvs (spLabelled) := by
  obtain ⟨f, fd, ds, F, hm, hb, hd⟩ := tx.ex
  refine ⟨f, fd, ds, okN F sc_law_labelled (fun vs H Q E h => ?_) (fun cdv A outer s H vs Q E hr tk hp h => ?_), hm, F.kp, hb, hd⟩
  · obtain ⟨z, sa, fa, la, sh, fl, ls, T', L, rfl, hn, hsh, hf, lb, r1, r2, r3, hs, ht, k⟩ := h
    rfl
  · obtain ⟨z, sa, fa, la, sh, fl, ls, T', L, rfl, hn, hsh, hf, lb, r1, r2, r3, hs, ht, k⟩ := h
    have nd := sc_law_labelled.nd
    refine ⟨_, (pss_cons (ps_set (i := 4) nd rfl (Or.inl rfl) (pe_op opMul (pe_lst (pa_cons pe_non pa_nil)) (pe_callB (callLenK (K := K)) (by rfl) T.n_len (by decide +kernel) (pa_cons (pv 1) pa_nil))))
  (pss_cons (ps_set (i := 5) nd rfl (Or.inl rfl) (pe_op opMul (pe_lst (pa_cons pe_int pa_nil)) (pe_callB (callLenK (K := K)) (by rfl) T.n_len (by decide +kernel) (pa_cons (pv 1) pa_nil))))
  (pss_cons (ps_for hp rfl (pi_range1 rfl T.n_range (pa_cons (pe_callB (callLenK (K := K)) (by rfl) T.n_len (by decide +kernel) (pa_cons (pv 1) pa_nil)) pa_nil)) (pg_name (i := 6) nd rfl (Or.inl rfl))
  (pss_cons (ps_asg (pe_ix (ixSeqK (K := K)) (pv 2) (pv 6) (fun _ _ => rfl)) (pg_sub (pv 5) (pe_ix (ixSeqK (K := K)) (pv 3) (pv 6) (fun _ _ => rfl)) set_list))
  (pss_one (ps_if (pt_cmpR opNotN (pe_ix (ixSeqK (K := K)) (pv 1) (pv 6) (fun _ _ => rfl)) pe_non (nomark _)) (pss_one (ps_asg (pe_ix (ixSeqK (K := K)) (pv 3) (pe_ix (ixSeqK (K := K)) (pv 1) (pv 6) (fun _ _ => rfl)) (fun _ _ => rfl)) (pg_sub (pv 4) (pe_ix (ixSeqK (K := K)) (pv 3) (pv 6) (fun _ _ => rfl)) set_list))) pss_nil))))
  (pss_one (ps_ret (pe_lst (pa_cons (pv 0) (pa_cons (pv 4) (pa_cons (pv 5) pa_nil))))))))), ?_⟩
    refine go_start hs ht ?_
    try dsimp only [cxOf, WOf]
    rw [show L2.start _ _ = [some (.int z), some (.ref sa), some (.ref fa), some (.ref la), none, none, none] from rfl]
    haveI := r1
    haveI := r2
    haveI := r3
    have hn0 := hsh.pos
    have hn1 : (sh.length : Int) ≤ 100 := by omega
    repeat walk_at "oc"
    rw [List.length_map]
    repeat walk_at "oc"
    rw [List.length_map]
    repeat walk_at "oc"
    rename_i a1 qp a2 qo
    rw [List.length_map]
    repeat walk_at "oc"
    rw [show (sh.length : Int).toNat = sh.length by omega]
    refine Go.ent (L' := pt qp (.lst (List.replicate sh.length V.non)) :: pt qo (.lst (List.replicate sh.length (V.int 0))) :: L) ?_
    refine go_range (fun i σ1 T2 L2 => T2 = T' ∧ ∃ (ps : Ps) (own : List Int) (v6 : Option V), LbI sh.length sh fl ls i ps own ∧ σ1 = [some (.int z), some (.ref sa), some (.ref fa), some (.ref la), some (.ref qp), some (.ref qo), v6] ∧ L2 = pt qp (.lst (ps.map PV)) :: pt qo (.lst (own.map V.int)) :: L) ⟨rfl, List.replicate sh.length none, List.replicate sh.length 0, _, .zero, rfl, by rw [List.map_replicate, List.map_replicate]; rfl⟩ ?_ ?_
    · rintro i σ1 T2 L2 hi ⟨rfl, ps, own, v6, hI, rfl, rfl⟩
      rw [show (0 : Int) + (i : Int) = (i : Int) by omega]
      obtain ⟨u, hu⟩ : ∃ u, ls[i]? = some u := ⟨ls[i]'(by rw [lb.len]; exact hi), List.getElem?_eq_getElem _⟩
      have hun := lb.lt u (List.mem_of_getElem? hu)
      repeat walk_at "oc"
      refine go_sqL (atI_of (int_get (getD_at (w := fl) (c := i) (by rw [hf.1]; exact hi)))) ?_
      repeat walk_at "oc"
      refine go_sqL (atI_of (VN_get hu)) ?_
      refine' go_setL (k := u) (by exact ixN_nat (by rw [List.length_map, hI.lo]; exact hun)) (by exact set_ints) ?_
      repeat walk_at "oc"
      by_cases h0 : 0 < i
      · obtain ⟨pp, epp, hpp⟩ := hsh.par i h0 hi
        have hs2 : sh.getD i none = some (pp : Int) := by
          rw [List.getD_eq_getElem?_getD, epp]
          rfl
        obtain ⟨v, hv⟩ : ∃ v, ls[pp]? = some v := ⟨ls[pp]'(by rw [lb.len]; omega), List.getElem?_eq_getElem _⟩
        have hv2 : ls.getD pp 0 = v := by
          rw [List.getD_eq_getElem?_getD, hv]
          rfl
        refine go_sqL (atI_of (pv_get epp)) ?_
        rw [show PV (some (pp : Int)) = V.int (pp : Int) from rfl]
        repeat walk_at "oc"
        refine go_sqL (atI_of (pv_get epp)) ?_
        rw [show PV (some (pp : Int)) = V.int (pp : Int) from rfl]
        repeat walk_at "oc"
        refine go_sqL (atI_of (VN_get hv)) ?_
        repeat walk_at "oc"
        refine go_sqL (atI_of (VN_get hu)) ?_
        refine' go_setL (k := u) (by exact ixN_nat (by rw [List.length_map, hI.lp]; exact hun)) (by exact set_pv (o := some (v : Int))) ?_
        dsimp only
        exact go_at' (L' := pt qp (.lst ((ps.set u (some (v : Int))).map PV)) :: pt qo (.lst ((own.set u (fl.getD i 0)).map V.int)) :: L) ⟨rfl, _, _, _, hI.step lb hu (by rw [lbP, hs2, ← hv2]; rfl), rfl, rfl⟩
      · have e : i = 0 := by omega
        subst e
        refine go_sqL (atI_of (pv_get hsh.zero)) ?_
        rw [show PV none = V.non from rfl]
        repeat walk_at "oc"
        dsimp only
        have hs2 : sh.getD 0 none = none := by
          rw [List.getD_eq_getElem?_getD, hsh.zero]
          rfl
        exact go_at' (L' := pt qp (.lst (ps.map PV)) :: pt qo (.lst ((own.set u (fl.getD 0 0)).map V.int)) :: L) ⟨rfl, ps, _, _, hI.step lb hu (by rw [lbP, hs2]; exact (set_none (hI.out u hun (by rw [List.take_zero]; exact List.not_mem_nil))).symm), rfl, rfl⟩
    · rintro σ1 T2 L2 ⟨rfl, ps, own, v6, hI, rfl, rfl⟩
      repeat walk_at "oc"
      rename_i qw
      obtain ⟨wf, hfit⟩ := lab_wf hsh hf lb hI
      exact Go.ent (wood_close (k qw ⟨qp, qo, z, ps, own⟩ rfl (by show ps.length ≤ 100; rw [hI.lp]; exact hn) ⟨wf, by show own.length = ps.length; rw [hI.lo, hI.lp], by show ps.length ≤ 1000; rw [hI.lp]; omega, hfit⟩))

theorem sc_law_wood : FnScope ["script", "seed", "purse", "size", "shape", "filled", "labels"] ["script", "seed"] (defScope s_law_wood) := ⟨rfl, rfl, rfl, by decide +kernel, rfl, by decide +kernel, by decide +kernel⟩
theorem d_wood {dvs : List V} (tx : Tx K mg "_law_wood" "_law_wood" s_law_wood ["script", "seed"] dvs) [T : Txt K mg CT CN CV CF CI CL CO] (D_law_purse : FnD P w K mg base "_law_purse" 1 ["script", "k", "seed"] [] (spPurse K)) (D_law_take : FnD P w K mg base "_law_take" 1 ["purse", "many"] [] spTake) (D_law_build : FnD P w K mg base "_law_build" 2 ["purse", "size"] [] spBuild) (D_law_fill : FnD P w K mg base "_law_fill" 2 ["purse", "size", "shape"] [] spFill) (D_law_labels : FnD P w K mg base "_law_labels" 2 ["purse", "many"] [] spLabels) (D_law_labelled : FnD P w K mg base "_law_labelled" 1 ["size", "shape", "filled", "labels"] [] spLabelled) : FnD P w K mg base "_law_wood" 3 ["script", "seed"] dvs (spWood K) := by
  obtain ⟨f, fd, ds, F, hm, hb, hd⟩ := tx.ex
  refine ⟨f, fd, ds, okN F sc_law_wood (fun vs H Q E h => ?_) (fun cdv A outer s H vs Q E hr tk hp h => ?_), hm, F.kp, hb, hd⟩
  · obtain ⟨s, ns, z, T', L, rfl, hr0, hs, ht, k⟩ := h
    rfl
  · obtain ⟨s, ns, z, T', L, rfl, hr0, hs, ht, k⟩ := h
    have nd := sc_law_wood.nd
    refine ⟨_, (pss_cons (ps_set (i := 2) nd rfl (Or.inl rfl) (pe_clD D_law_purse (hr.mono (by decide)) rfl (fun σ => L2N.passAt tk σ) (pa_cons (pv 0) (pa_cons pe_int (pa_cons (pv 1) pa_nil)))))
  (pss_cons (ps_set (i := 3) nd rfl (Or.inl rfl) (pe_op opAdd pe_int (pe_clD D_law_take (hr.mono (by decide)) rfl (fun σ => L2N.passAt tk σ) (pa_cons (pv 2) (pa_cons pe_int pa_nil)))))
  (Evl.pss_cut (ps_if (pt_cmpR (opEqK (K := K) hr.units) (pe_clD D_law_take (hr.mono (by decide)) rfl (fun σ => L2N.passAt tk σ) (pa_cons (pv 2) (pa_cons pe_int pa_nil))) pe_int (nomark _)) (pss_one (ps_set (i := 3) nd rfl (Or.inl rfl) (pe_op opAdd pe_int (pe_clD D_law_take (hr.mono (by decide)) rfl (fun σ => L2N.passAt tk σ) (pa_cons (pv 2) (pa_cons pe_int pa_nil)))))) pss_nil)
  (pss_cons (ps_set (i := 4) nd rfl (Or.inl rfl) (pe_clD D_law_build (hr.mono (by decide)) rfl (fun σ => L2N.passAt tk σ) (pa_cons (pv 2) (pa_cons (pv 3) pa_nil))))
  (pss_cons (ps_set (i := 5) nd rfl (Or.inl rfl) (pe_clD D_law_fill (hr.mono (by decide)) rfl (fun σ => L2N.passAt tk σ) (pa_cons (pe_clD D_law_purse (hr.mono (by decide)) rfl (fun σ => L2N.passAt tk σ) (pa_cons (pv 0) (pa_cons pe_int (pa_cons (pv 1) pa_nil)))) (pa_cons (pv 3) (pa_cons (pv 4) pa_nil)))))
  (pss_cons (ps_set (i := 6) nd rfl (Or.inl rfl) (pe_clD D_law_labels (hr.mono (by decide)) rfl (fun σ => L2N.passAt tk σ) (pa_cons (pe_clD D_law_purse (hr.mono (by decide)) rfl (fun σ => L2N.passAt tk σ) (pa_cons (pv 0) (pa_cons pe_int (pa_cons (pv 1) pa_nil)))) (pa_cons (pe_callB (callLenK (K := K)) (by rfl) T.n_len (by decide +kernel) (pa_cons (pv 4) pa_nil)) pa_nil))))
  (pss_one (ps_ret (pe_clD D_law_labelled (hr.mono (by decide)) rfl (fun σ => L2N.passAt tk σ) (pa_cons (pv 3) (pa_cons (pv 4) (pa_cons (pv 5) (pa_cons (pv 6) pa_nil))))))))))))), ?_⟩
    refine go_start hs ht ?_
    try dsimp only [cxOf, WOf]
    rw [show L2.start _ _ = [some (.ref s), some (.int z), none, none, none, none, none] from rfl]
    repeat walk_at "oc"
    refine go_purse (k := 0) hr0 fun p P0 => ?_
    repeat walk_at "oc"
    refine go_take (by decide) (by decide) fun r1 P1 h0 h1 => ?_
    repeat walk_at "oc"
    refine go_cut (fun σ1 T1 L1 => T1 = T' ∧ ∃ (z2 : Int) (P2 : Pu), 0 < z2 ∧ z2 ≤ 100 ∧ σ1 = [some (.ref s), some (.int z), some (.ref p), some (.int z2), none, none, none] ∧ L1 = purseC p P2 :: L) ?_ ?_
    · repeat walk_at "oc"
      refine go_take (by decide) (by decide) fun r2 P2 h2 h3 => ?_
      repeat walk_at "oc"
      refine go_d (fun e3 => ?_) (fun e3 => ?_)
      · repeat walk_at "oc"
        refine go_take (by decide) (by decide) fun r3 P3 h4 h5 => ?_
        repeat walk_at "oc"
        dsimp only
        exact go_at ⟨rfl, _, P3, by omega, by omega, rfl, rfl⟩
      · repeat walk_at "oc"
        dsimp only
        exact go_at ⟨rfl, _, P2, by omega, by omega, rfl, rfl⟩
    · rintro σ1 T1 L1 ⟨rfl, z2, P2, hz0, hz1, rfl, rfl⟩
      repeat walk_at "oc"
      refine go_build hz0 fun qs sh P3 hsh hln => ?_
      repeat walk_at "oc"
      refine go_purse (k := 1) ⟨fun H x => hr0.1 H x.tail.tail, hr0.2⟩ fun p2 P4 => ?_
      repeat walk_at "oc"
      refine go_fill hz0 hz1 hsh hln inferInstance fun qf fl P5 hf => ?_
      repeat walk_at "oc"
      refine go_purse (k := 2) ⟨fun H x => hr0.1 H x.tail.tail.tail.tail, hr0.2⟩ fun p3 P6 => ?_
      repeat walk_at "oc"
      rw [List.length_map]
      refine go_labels hsh.pos hln fun ql ls P7 lb => ?_
      repeat walk_at "oc"
      refine go_labelled hln hsh hf lb inferInstance inferInstance inferInstance fun a W w1 w2 w3 => ?_
      exact Go.ent (k a W (by omega) w2 w3)

end


def spChkDiv (CT CV : Addr) : Sp := fun vs H Q E => ∃ (t oa d c : Addr) (D : Tr) (own : List Int) (s e : Int) (ch : List Int) (T : Tups) (R : List Chunk), vs = [.ref t, .ref oa, .ref d] ∧ OkTr D ∧ own.length = D.ps.length ∧ ch.length < 1000 ∧ Kn T d [.int s, .int e, .ref c] ∧ RdL R oa (own.map V.int) ∧ RdL R c (ch.map V.int) ∧ Has H (treeC CT t D :: R) ∧ HasT H T ∧
  (¬ GoodDiv D.ps own s e ch → Rs T (treeC CT t D :: R) E CV [(("table" : Str), .int s)]) ∧ (GoodDiv D.ps own s e ch → Go T (treeC CT t D :: R) (Q .non))
def spDivL : Sp := fun vs H Q E => ∃ (pa oa d c : Addr) (ps : Ps) (own : List Int) (s : Nat) (e : Int) (ch : List Int) (T : Tups) (L : List Chunk), vs = [.ref pa, .ref oa, .ref d] ∧ s < ps.length ∧ own.length = ps.length ∧ ps.length ≤ 1000 ∧ Kn T d [.int (s : Int), .int e, .ref c] ∧ RdL L pa (ps.map PV) ∧ RdL L oa (own.map V.int) ∧ RdL L c (ch.map V.int) ∧ Has H L ∧ HasT H T ∧
  ∀ l r q, Go ((q, [.ref l, .ref r]) :: T) (pt l (.lst ((divPs ps s ch).map PV)) :: pt r (.lst ((divOwn ps own s e).map V.int)) :: L) (Q (.ref q))
theorem strange_snoc {ch : List Int} {ks : List Int} {c : Int} : (ch ++ [c]).filter (fun x => !decide (x ∈ ks)) = ch.filter (fun x => !decide (x ∈ ks)) ++ (if c ∈ ks then [] else [c]) := by
  rw [List.filter_append]
  by_cases h : c ∈ ks
  · rw [if_pos h, List.filter_cons_of_neg (by simpa using h), List.filter_nil]
  · rw [if_neg h, List.filter_cons_of_pos (by simpa using h), List.filter_nil]
theorem strange_zero {ch ks : List Int} : ¬ 0 < (ch.filter (fun x => !decide (x ∈ ks))).length ↔ ∀ c ∈ ch, c ∈ ks := by
  rw [Nat.not_lt, Nat.le_zero, List.length_eq_zero_iff, List.filter_eq_nil_iff]
  constructor
  · intro h c hc
    have := h c hc
    simpa using this
  · intro h c hc
    simpa using h c hc
section
variable {P : Program} {w : World} {K : PySem.W.Frag} {mg : Str → Option Value} {base : Heap} {CT CN CV CF CI CL CO : Addr}
theorem sc_TableTreeUcheck_division : FnScope ["self", "own", "division", "divided", "entries", "children", "known", "strange", "taken", "child"] ["self", "own", "division"] (defScope s_TableTreeUcheck_division) := ⟨rfl, rfl, rfl, by decide +kernel, rfl, by decide +kernel, by decide +kernel⟩
theorem m_chkdiv {dvs : List V} (tx : TxM K CT "_check_division" "TableTree._check_division" s_TableTreeUcheck_division ["self", "own", "division"] dvs) [T : Txt K mg CT CN CV CF CI CL CO] (R_InvalidDivision : RsD P w K mg base CV "InvalidDivision" 1 ["self", "table"] [] (spErr CV 1 gTa)) : MeD P w K mg base CT "_check_division" 3 ["self", "own", "division"] dvs (spChkDiv CT CV) := by
  obtain ⟨f, fd, ds, F, M, hb, hd⟩ := tx.ex
  refine ⟨f, fd, ds, okN F sc_TableTreeUcheck_division (fun vs H Q E h => ?_) (fun cdv A outer s H vs Q E hr tk hp h => ?_), M, hb, hd⟩
  · obtain ⟨t, oa, d, c, D, own, s1, e1, ch, T', R, rfl, okD, hol, hcl, kd, r1, r2, hs, ht, k0, k1⟩ := h
    rfl
  · obtain ⟨t, oa, d, c, D, own, s1, e1, ch, T', R, rfl, okD, hol, hcl, kd, r1, r2, hs, ht, k0, k1⟩ := h
    have nd := sc_TableTreeUcheck_division.nd
    refine ⟨_, (pss_cons (ps_asg (pv 2) (pg_tupK (K := K) (n := 3) rfl (pgs_cons (pg_name (i := 3) nd rfl (Or.inl rfl)) (pgs_cons (pg_name (i := 4) nd rfl (Or.inl rfl)) (pgs_cons (pg_name (i := 5) nd rfl (Or.inl rfl)) pgs_nil)))))
  (pss_cons (ps_if (pt_not (pt_chain op_le op_lt pe_int (pv 3) (pe_callB (callLenK (K := K)) (by rfl) T.n_len (by decide +kernel) (pa_cons (pv 1) pa_nil)))) (pss_one (L2N.ps_raise rfl tk (pmk_D R_InvalidDivision (hr.mono (by decide)) rfl (pa_cons (pv 3) pa_nil)))) pss_nil)
  (pss_cons (ps_set (i := 6) nd rfl (Or.inr rfl) (pe_ix (ixSeqK (K := K)) (pe_fldK (K := K) (pv 0)) (pv 3) (fun _ _ => rfl)))
  (pss_cons (ps_setLc (i := 7) (own := [("child", 9)]) rfl nd rfl rfl (sw_true rfl rfl rfl (by decide +kernel)) (pi_list (pv 5)) (blkOk_by (own := [("child", 9)]) (N := ["self", "own", "division", "divided", "entries", "children", "known", "strange", "taken", "child"]) (sc := defScope s_TableTreeUcheck_division) (by decide +kernel)) (fun _ _ _ _ _ => (pg_name (i := 9) nd rfl (Or.inl rfl))) (fun _ _ _ _ _ => (pts_one (pt_cmpR (opNotInK (K := K)) (pv 9) (pv 6) (by rfl)))) (fun _ _ _ _ _ => (pv 9)))
  (pss_cons (ps_if (PW.pt (pw_or (pt_not (pt_chain op_le op_le pe_int (pv 4) (pe_ix (ixSeqK (K := K)) (pv 1) (pv 3) (fun _ _ => rfl)))) (pw_or1 (pt_cmpR op_gt (pe_callB (callLenK (K := K)) (by rfl) T.n_len (by decide +kernel) (pa_cons (pv 7) pa_nil)) pe_int (nomark _))))) (pss_one (L2N.ps_raise rfl tk (pmk_D R_InvalidDivision (hr.mono (by decide)) rfl (pa_cons (pv 3) pa_nil)))) pss_nil)
  (pss_cons (ps_if (pt_cmpR op_lt (pe_lenSK (K := K) rfl (by rfl) T.n_len (by rfl) T.n_set (pv 5)) (pe_callB (callLenK (K := K)) (by rfl) T.n_len (by decide +kernel) (pa_cons (pv 5) pa_nil)) (nomark _)) (pss_one (L2N.ps_raise rfl tk (pmk_D R_InvalidDivision (hr.mono (by decide)) rfl (pa_cons (pv 3) pa_nil)))) pss_nil)
  (pss_cons (ps_set (i := 8) nd rfl (Or.inl rfl) (pe_op opAdd (pv 4) (pe_callB (callLenK (K := K)) (by rfl) T.n_len (by decide +kernel) (pa_cons (pv 5) pa_nil))))
  (pss_one (ps_if (pt_not (pt_chain op_lt op_lt pe_int (pv 8) (pe_op opAdd (pe_ix (ixSeqK (K := K)) (pv 1) (pv 3) (fun _ _ => rfl)) (pe_callB (callLenK (K := K)) (by rfl) T.n_len (by decide +kernel) (pa_cons (pv 6) pa_nil))))) (pss_one (L2N.ps_raise rfl tk (pmk_D R_InvalidDivision (hr.mono (by decide)) rfl (pa_cons (pv 3) pa_nil)))) pss_nil))))))))), ?_⟩
    refine go_start hs ht ?_
    try dsimp only [cxOf, WOf]
    rw [show L2.start _ _ = [some (.ref t), some (.ref oa), some (.ref d), none, none, none, none, none, none, none] from rfl]
    haveI := kd
    haveI := r1
    haveI := r2
    have k0' : ¬ GoodDiv D.ps own s1 e1 ch → Rs T' (treeL CT t D R) E CV [(("table" : Str), .int s1)] := fun h d => tree_close1 ((k0 h) d)
    have k1' : GoodDiv D.ps own s1 e1 ch → Go T' (treeL CT t D R) (Q .non) := fun h => tree_close (k1 h)
    refine tree_open ?_
    unfold treeL at *
    have hdl := dlen_le (ns := ch)
    have bad : ∀ {x : List Chunk} [Ent x (treeL CT t D R)], ¬ GoodDiv D.ps own s1 e1 ch → Rs T' x E CV [(("table" : Str), .int s1)] := fun {x} _ h d => Go.ent (L' := pt d (.xd [(("table" : Str), .int s1)]) :: treeL CT t D R) (k0' h d)
    repeat walk_at "oc"
    by_cases g0 : 0 ≤ s1
    rotate_left
    · refine go_dF g0 ?_
      repeat walk_at "oc"
      exact bad fun g => g0 g.s0
    refine go_dT g0 ?_
    repeat walk_at "oc"
    rw [List.length_map, hol]
    by_cases g1 : s1 < D.ps.length
    rotate_left
    · rw [decide_eq_false g1]
      repeat walk_at "oc"
      exact bad fun g => g1 g.s1
    rw [decide_eq_true g1]
    obtain ⟨s, rfl⟩ : ∃ s : Nat, s1 = s := ⟨s1.toNat, by omega⟩
    have hsn : s < D.ps.length := by omega
    have hst : ((s : Int)).toNat = s := by omega
    obtain ⟨b, hb⟩ : ∃ b, D.as[s]? = some b := ⟨D.as[s]'(by rw [okD.las]; exact hsn), List.getElem?_eq_getElem _⟩
    repeat walk_at "oc"
    refine go_sqL (atI_of (vref_get hb)) ?_
    haveI hrow : RdL (treeL CT t D R) b ((kidsZ D.ps s).map V.int) := by
      unfold kidsZ
      rw [← VN_int]
      exact rd_rows hb (rowsF_get hsn)
    have hkl : (kidsZ D.ps s).length = (kidsF D.ps s).length := List.length_map _
    repeat walk_at "oc"
    refine go_lcl (xs := ch.map V.int) (σw := [some (.ref t), some (.ref oa), some (.ref d), some (.int (s : Int)), some (.int e1), some (.ref c), some (.ref b), none, none, none]) rfl (fun j T1 L1 acc => T1 = T' ∧ L1 = treeL CT t D R ∧ acc = ((ch.take j).filter fun x => !decide (x ∈ kidsZ D.ps s)).map V.int) ⟨rfl, rfl, rfl⟩ ?_ ?_ ?_
    · rintro j T1 L1 acc ⟨rfl, rfl, rfl⟩
      infer_instance
    · rintro j v T1 L1 acc Dl hv ⟨rfl, rfl, rfl⟩
      have hj := (List.getElem?_eq_some_iff.mp hv).1
      rw [List.length_map] at hj
      have e := List.getElem?_eq_getElem hj
      rw [int_get e] at hv
      cases hv
      have hb1 : (((ch.take j).filter fun x => !decide (x ∈ kidsZ D.ps s)).map V.int).length < 1000000 := by
        rw [List.length_map]
        have := List.length_filter_le (fun x => !decide (x ∈ kidsZ D.ps s)) (ch.take j)
        rw [List.length_take] at this
        omega
      repeat walk_at "oc"
      by_cases hm : ch[j] ∈ kidsZ D.ps s
      · refine go_nF hm ?_
        repeat walk_at "oc"
        refine go_skip ⟨rfl, rfl, ?_⟩
        rw [List.take_add_one, e, Option.toList_some, strange_snoc, if_pos hm, List.append_nil]
      · refine go_nT hm ?_
        repeat walk_at "oc"
        refine go_item (sz100l hb1) ⟨rfl, rfl, ?_⟩
        rw [List.take_add_one, e, Option.toList_some, strange_snoc, if_neg hm, List.map_append]
        rfl
    · rintro T1 L1 acc Dl ⟨rfl, rfl, rfl⟩
      rw [List.length_map, List.take_length]
      repeat walk_at "oc"
      by_cases g2 : 0 ≤ e1
      rotate_left
      · refine go_dF g2 ?_
        repeat walk_at "oc"
        exact bad fun g => g2 g.e0
      refine go_dT g2 ?_
      repeat walk_at "oc"
      refine go_sqL (atI_of (int_get (getD_at (w := own) (c := s) (by omega)))) ?_
      repeat walk_at "oc"
      by_cases g3 : e1 ≤ own.getD s 0
      rotate_left
      · rw [decide_eq_false g3]
        repeat walk_at "oc"
        exact bad fun g => g3 (by have := g.e1; rw [hst] at this; exact this)
      rw [decide_eq_true g3]
      repeat walk_at "oc"
      rw [List.length_map]
      by_cases g4 : 0 < (ch.filter fun x => !decide (x ∈ kidsZ D.ps s)).length
      · refine go_dT (by omega) ?_
        repeat walk_at "oc"
        exact bad fun g => strange_zero.mpr (by have := g.sub; rw [hst] at this; exact this) g4
      refine go_dF (by omega) ?_
      have hsub := strange_zero.mp g4
      repeat walk_at "oc"
      refine go_lenS0 ?_
      repeat walk_at "oc"
      refine go_lenS hcl ?_
      repeat walk_at "oc"
      rw [List.length_map]
      by_cases g5 : dlen ch < ch.length
      · refine go_dT (by omega) ?_
        repeat walk_at "oc"
        exact bad fun g => by have := dlen_nd g.nd; omega
      refine go_dF (by omega) ?_
      have hnd := nd_dlen g5
      repeat walk_at "oc"
      rw [List.length_map]
      repeat walk_at "oc"
      by_cases g6 : 0 < e1 + (ch.length : Int)
      rotate_left
      · refine go_dF g6 ?_
        repeat walk_at "oc"
        exact bad fun g => g6 g.m0
      refine go_dT g6 ?_
      repeat walk_at "oc"
      refine go_sqL (atI_of (int_get (getD_at (w := own) (c := s) (by omega)))) ?_
      repeat walk_at "oc"
      rw [List.length_map, hkl]
      repeat walk_at "oc"
      by_cases g7 : e1 + (ch.length : Int) < own.getD s 0 + ((kidsF D.ps s).length : Int)
      rotate_left
      · rw [decide_eq_false g7]
        repeat walk_at "oc"
        exact bad fun g => g7 (by have := g.m1; rw [hst] at this; exact this)
      rw [decide_eq_true g7]
      repeat walk_at "oc"
      exact Go.ent (L' := treeL CT t D R) (k1' ⟨g0, g1, g2, by rw [hst]; exact g3, by rw [hst]; exact hsub, hnd, g6, by rw [hst]; exact g7⟩)

end


section
variable {P : Program} {w : World} {K : PySem.W.Frag} {mg : Str → Option Value} {base : Heap} {CT CN CV CF CI CL CO : Addr}
theorem sc_divided_lists : FnScope ["parents", "own", "division", "divided", "entries", "children", "made", "later", "rest", "table", "parent"] ["parents", "own", "division"] (defScope s_divided_lists) := ⟨rfl, rfl, rfl, by decide +kernel, rfl, by decide +kernel, by decide +kernel⟩
theorem d_divl {dvs : List V} (tx : Tx K mg "divided_lists" "divided_lists" s_divided_lists ["parents", "own", "division"] dvs) [T : Txt K mg CT CN CV CF CI CL CO]  : FnD P w K mg base "divided_lists" 1 ["parents", "own", "division"] dvs (spDivL) := by
  obtain ⟨f, fd, ds, F, hm, hb, hd⟩ := tx.ex
  refine ⟨f, fd, ds, okN F sc_divided_lists (fun vs H Q E h => ?_) (fun cdv A outer s H vs Q E hr tk hp h => ?_), hm, F.kp, hb, hd⟩
  · obtain ⟨pa, oa, d, c, ps, own, s1, e1, ch, T', L, rfl, hsn, hol, hfew, kd, r1, r2, r3, hs, ht, k⟩ := h
    rfl
  · obtain ⟨pa, oa, d, c, ps, own, s1, e1, ch, T', L, rfl, hsn, hol, hfew, kd, r1, r2, r3, hs, ht, k⟩ := h
    have nd := sc_divided_lists.nd
    refine ⟨_, (pss_cons (ps_asg (pv 2) (pg_tupK (K := K) (n := 3) rfl (pgs_cons (pg_name (i := 3) nd rfl (Or.inl rfl)) (pgs_cons (pg_name (i := 4) nd rfl (Or.inl rfl)) (pgs_cons (pg_name (i := 5) nd rfl (Or.inr rfl)) pgs_nil)))))
  (pss_cons (ps_set (i := 6) nd rfl (Or.inr rfl) (pe_callB (callLenK (K := K)) (by rfl) T.n_len (by decide +kernel) (pa_cons (pv 0) pa_nil)))
  (pss_cons (ps_setLc (i := 7) (own := [("table", 9), ("parent", 10)]) (tt := tYes) rfl nd rfl rfl (sw_true rfl rfl rfl (by decide +kernel)) (pi_enum (by rfl) T.n_enumerate (pa_cons (pv 0) pa_nil)) (blkOk_by (own := [("table", 9), ("parent", 10)]) (N := ["parents", "own", "division", "divided", "entries", "children", "made", "later", "rest", "table", "parent"]) (sc := defScope s_divided_lists) (by decide +kernel)) (fun _ _ _ _ _ => (pg_tupK (K := K) (n := 2) rfl (pgs_cons (pg_name (i := 9) nd rfl (Or.inl rfl)) (pgs_cons (pg_name (i := 10) nd rfl (Or.inl rfl)) pgs_nil)))) (fun _ _ _ _ _ => pts_nil) (fun _ _ _ _ _ => (pe_ifExp (pt_cmpR (opInK (K := K)) (pv 9) (pv 5) (by rfl)) (pv 6) (pv 10))))
  (pss_cons (ps_expr (pe_bmK (K := K) PySem.F.plainAttrs_list PySem.F.slot_list_append PySem.F.type_list_append mt_append (pv 7) (pa_cons (pe_ix (ixSeqK (K := K)) (pv 0) (pv 3) (fun _ _ => rfl)) pa_nil)))
  (pss_cons (ps_set (i := 8) nd rfl (Or.inl rfl) (pe_callTy (callListK (K := K)) (by rfl) T.n_list (by decide +kernel) (pa_cons (pv 1) pa_nil)))
  (pss_cons (ps_asg (pe_op op_sub (pe_ix (ixSeqK (K := K)) (pv 1) (pv 3) (fun _ _ => rfl)) (pv 4)) (pg_sub (pv 8) (pv 3) set_list))
  (pss_cons (ps_expr (pe_bmK (K := K) PySem.F.plainAttrs_list PySem.F.slot_list_append PySem.F.type_list_append mt_append (pv 8) (pa_cons (pv 4) pa_nil)))
  (pss_cons (ps_if (pt_cmpR opIsN (pe_ix (ixSeqK (K := K)) (pv 0) (pv 3) (fun _ _ => rfl)) pe_non (nomark _)) (pss_cons (ps_asg (pe_op opAdd (pv 6) pe_int) (pg_sub (pv 7) (pv 3) set_list))
  (pss_cons (ps_asg (pe_op opAdd (pv 6) pe_int) (pg_sub (pv 7) (pv 6) set_list))
  (pss_cons (ps_expr (pe_bmK (K := K) PySem.F.plainAttrs_list PySem.F.slot_list_append PySem.F.type_list_append mt_append (pv 7) (pa_cons pe_non pa_nil)))
  (pss_one (ps_expr (pe_bmK (K := K) PySem.F.plainAttrs_list PySem.F.slot_list_append PySem.F.type_list_append mt_append (pv 8) (pa_cons pe_int pa_nil))))))) pss_nil)
  (pss_one (ps_ret (pe_tup (pa_cons (pv 7) (pa_cons (pv 8) pa_nil))))))))))))), ?_⟩
    refine go_start hs ht ?_
    try dsimp only [cxOf, WOf]
    rw [show L2.start _ _ = [some (.ref pa), some (.ref oa), some (.ref d), none, none, none, none, none, none, none, none] from rfl]
    haveI := kd
    haveI := r1
    haveI := r2
    haveI := r3
    repeat walk_at "oc"
    rw [List.length_map]
    repeat walk_at "oc"
    refine go_lce (xs := ps.map PV) (σw := [some (.ref pa), some (.ref oa), some (.ref d), some (.int (s1 : Int)), some (.int e1), some (.ref c), some (.int (ps.length : Int)), none, none, none, none]) rfl (fun i T1 L1 acc => T1 = T' ∧ L1 = L ∧ acc = ((List.range i).map fun (t : Nat) => if (t : Int) ∈ ch then some (ps.length : Int) else ps.getD t none).map PV) ⟨rfl, rfl, rfl⟩ ?_ ?_ ?_
    · rintro i T1 L1 acc ⟨rfl, rfl, rfl⟩
      infer_instance
    · rintro i v T1 L1 acc Dl q hv ⟨rfl, rfl, rfl⟩
      have hi := (List.getElem?_eq_some_iff.mp hv).1
      rw [List.length_map] at hi
      rw [pv_get (some_getD hi)] at hv
      cases hv
      have hb1 : (((List.range i).map fun (t : Nat) => if (t : Int) ∈ ch then some (ps.length : Int) else ps.getD t none).map PV).length < 1000000 := by
        rw [List.length_map, List.length_map, List.length_range]
        omega
      repeat walk_at "oc"
      by_cases hm : (i : Int) ∈ ch
      · refine go_dT hm ?_
        repeat walk_at "oc"
        refine go_item' (T' := T1) (sz100l hb1) ⟨rfl, rfl, ?_⟩
        rw [List.range_succ, List.map_append, List.map_append, List.map_singleton, if_pos hm]
        rfl
      · refine go_dF hm ?_
        repeat walk_at "oc"
        refine go_item' (T' := T1) (sz100l hb1) ⟨rfl, rfl, ?_⟩
        rw [List.range_succ, List.map_append, List.map_append, List.map_singleton, if_neg hm]
        rfl
    · rintro T1 L1 acc ql ⟨rfl, rfl, rfl⟩
      rw [List.length_map, show ((List.range ps.length).map fun (t : Nat) => if (t : Int) ∈ ch then some (ps.length : Int) else ps.getD t none) = later ps ch from rfl]
      have hll := later_len (ps := ps) (ch := ch)
      have hg := pv_get (some_getD hsn)
      repeat walk_at "oc"
      refine go_sqL (atI_of hg) ?_
      repeat walk_at "oc"
      rename_i qr
      refine go_sqL (atI_of (int_get (getD_at (w := own) (c := s1) (by omega)))) ?_
      repeat walk_at "oc"
      refine' go_setL (k := s1) (by exact ixN_nat (by rw [List.length_map]; omega)) rfl ?_
      repeat walk_at "oc"
      refine go_sqL (atI_of hg) ?_
      cases hq : ps.getD s1 none with
      | none =>
        have ed : divPs ps s1 ch = (((later ps ch ++ [none]).set s1 (some ((ps.length : Int) + 1))).set ps.length (some ((ps.length : Int) + 1))) ++ [none] := by
          unfold divPs
          rw [hq, if_pos rfl]
        have eo : divOwn ps own s1 e1 = own.set s1 (own.getD s1 0 - e1) ++ [e1] ++ [0] := by
          unfold divOwn
          rw [hq, if_pos rfl]
        have m1 : (((List.map PV (later ps ch) ++ [V.non]).set s1 (.int ((ps.length : Int) + 1))).set ps.length (.int ((ps.length : Int) + 1))) ++ [V.non] = (divPs ps s1 ch).map PV := by
          rw [ed, List.map_append, List.map_set, List.map_set, List.map_append]
          rfl
        have m2 : (List.map V.int own).set s1 (.int (own.getD s1 0 - e1)) ++ [V.int e1] ++ [V.int 0] = (divOwn ps own s1 e1).map V.int := by
          rw [eo, List.map_append, List.map_append, List.map_set]
          rfl
        rw [show PV none = V.non from rfl]
        repeat walk_at "oc"
        refine' go_setL (k := s1) (by exact ixN_nat (by rw [List.length_append, List.length_map, hll]; omega)) rfl ?_
        repeat walk_at "oc"
        refine' go_setL (k := ps.length) (by exact ixN_nat (by rw [List.length_set, List.length_append, List.length_map, hll]; exact Nat.lt_succ_self _)) rfl ?_
        repeat walk_at "oc"
        rename_i q
        rw [m1, m2]
        exact Go.ent (k ql qr q)
      | some y =>
        have ed : divPs ps s1 ch = later ps ch ++ [some y] := by
          unfold divPs
          rw [hq, if_neg (by intro z; cases z)]
        have eo : divOwn ps own s1 e1 = own.set s1 (own.getD s1 0 - e1) ++ [e1] := by
          unfold divOwn
          rw [hq, if_neg (by intro z; cases z)]
        have m1 : List.map PV (later ps ch) ++ [PV (some y)] = (divPs ps s1 ch).map PV := by
          rw [ed, List.map_append]
          rfl
        have m2 : (List.map V.int own).set s1 (.int (own.getD s1 0 - e1)) ++ [V.int e1] = (divOwn ps own s1 e1).map V.int := by
          rw [eo, List.map_append, List.map_set]
          rfl
        rw [m1, m2, show PV (some y) = V.int y from rfl]
        repeat walk_at "oc"
        rename_i q
        exact Go.ent (k ql qr q)

end


theorem over_some {z : Int} {ps : Ps} {own : List Int} {i : Nat} (hi : i < ps.length) (h : z < own.getD i 0 + (kidsF ps i).length) (hn : ∀ t, t < i → ¬ z < own.getD t 0 + (kidsF ps t).length) : overF z ps own = some i := by
  unfold overF
  rw [List.find?_eq_some_iff_getElem]
  refine ⟨by simpa using h, i, by rw [List.length_range]; exact hi, by rw [List.getElem_range], fun j hj => ?_⟩
  rw [List.getElem_range]
  have := hn j hj
  simpa using this
theorem over_all {z : Int} {ps : Ps} {own : List Int} (hn : ∀ t, t < ps.length → ¬ z < own.getD t 0 + (kidsF ps t).length) : overF z ps own = none := by
  unfold overF
  rw [List.find?_eq_none]
  intro t ht
  have := hn t (List.mem_range.mp ht)
  simpa using this
inductive DivAt (T : Tups) (R : List Chunk) : V → Option (Int × Int × List Int) → Prop
  | non : DivAt T R .non none
  | tup {d c : Addr} {s e : Int} {ch : List Int} (kn : Kn T d [.int s, .int e, .ref c]) (rd : RdL R c (ch.map V.int)) (hl : ch.length < 1000) : DivAt T R (.ref d) (some (s, e, ch))
def clsA (CN CV CF : Addr) (code : Int) : Addr := if code = 1 then CN else if code = 2 then CV else CF
def spArrive (CT CN CV CF : Addr) : Sp := fun vs H Q E => ∃ (t : Addr) (table : Int) (v : V) (dv : Option (Int × Int × List Int)) (D : Tr) (T : Tups) (R : List Chunk), vs = [.ref t, .int table, v] ∧ OkTr D ∧ D.ps.length ≤ 900 ∧ DivAt T R v dv ∧ Has H (treeC CT t D :: R) ∧ HasT H T ∧
  (∀ code x, arrF D.z D.ps D.own table dv = .no code x → Rs T (treeC CT t D :: R) E (clsA CN CV CF code) [(("table" : Str), .int x)]) ∧
  (∀ ps2 own2, arrF D.z D.ps D.own table dv = .ok ps2 own2 → ∀ t2 D2, D2.z = D.z → D2.ps = ps2 → D2.own = own2 → OkTr D2 → Go T (treeC CT t2 D2 :: treeC CT t D :: R) (Q (.ref t2)))
theorem go_chk {CT CN : Addr} {T : Tups} {L R : List Chunk} {t : Addr} {i : Int} {D : Tr} {Q : VK} {E : XK} [q : Pull (treeC CT) L t D R] (k0 : ¬ (0 ≤ i ∧ i < D.ps.length) → Rs T (treeC CT t D :: R) E CN [(("table" : Str), .int i)]) (k1 : (0 ≤ i ∧ i < D.ps.length) → Go T (treeC CT t D :: R) fun H => Q .non H) : Go T L fun H => spChk CT CN [.ref t, .int i] H Q E := fun H x y =>
  ⟨t, i, D, T, R, rfl, x.pull (F := treeC CT), y, k0, k1⟩
theorem go_chkdiv {CT CV : Addr} {T : Tups} {L R : List Chunk} {t oa d c : Addr} {D : Tr} {own : List Int} {s e : Int} {ch : List Int} {Q : VK} {E : XK} [q : Pull (treeC CT) L t D R] (ok : OkTr D) (hl : own.length = D.ps.length) (hc : ch.length < 1000) (kn : Kn T d [.int s, .int e, .ref c]) (r1 : RdL R oa (own.map V.int)) (r2 : RdL R c (ch.map V.int))
    (k0 : ¬ GoodDiv D.ps own s e ch → Rs T (treeC CT t D :: R) E CV [(("table" : Str), .int s)]) (k1 : GoodDiv D.ps own s e ch → Go T (treeC CT t D :: R) fun H => Q .non H) : Go T L fun H => spChkDiv CT CV [.ref t, .ref oa, .ref d] H Q E := fun H x y =>
  ⟨t, oa, d, c, D, own, s, e, ch, T, R, rfl, ok, hl, hc, kn, r1, r2, x.pull (F := treeC CT), y, k0, k1⟩
theorem go_divl {T : Tups} {L : List Chunk} {pa oa d c : Addr} {ps : Ps} {own : List Int} {s : Nat} {e : Int} {ch : List Int} {Q : VK} {E : XK} (h1 : s < ps.length) (h2 : own.length = ps.length) (h3 : ps.length ≤ 1000) (kn : Kn T d [.int (s : Int), .int e, .ref c]) (r1 : RdL L pa (ps.map PV)) (r2 : RdL L oa (own.map V.int)) (r3 : RdL L c (ch.map V.int))
    (k : ∀ l r q, Go ((q, [.ref l, .ref r]) :: T) (pt l (.lst ((divPs ps s ch).map PV)) :: pt r (.lst ((divOwn ps own s e).map V.int)) :: L) fun H => Q (.ref q) H) : Go T L fun H => spDivL [.ref pa, .ref oa, .ref d] H Q E := fun H x y =>
  ⟨pa, oa, d, c, ps, own, s, e, ch, T, L, rfl, h1, h2, h3, kn, r1, r2, r3, x, y, k⟩
section
variable {P : Program} {w : World} {K : PySem.W.Frag} {mg : Str → Option Value} {base : Heap} {CT CN CV CF CI CL CO : Addr}
theorem sc_TableTree_arrive : FnScope ["self", "table", "division", "parents", "own", "other", "children"] ["self", "table", "division"] (defScope s_TableTree_arrive) := ⟨rfl, rfl, rfl, by decide +kernel, rfl, by decide +kernel, by decide +kernel⟩
theorem m_arrive {dvs : List V} (tx : TxM K CT "arrive" "TableTree.arrive" s_TableTree_arrive ["self", "table", "division"] dvs) [T : Txt K mg CT CN CV CF CI CL CO] (M_TableTree_check_table : MeD P w K mg base CT "_check_table" 3 ["self", "table"] [] (spChk CT CN)) (M_TableTree_check_division : MeD P w K mg base CT "_check_division" 3 ["self", "own", "division"] [] (spChkDiv CT CV)) (Ddivided_lists : FnD P w K mg base "divided_lists" 1 ["parents", "own", "division"] [] spDivL) (Dchildren_lists : FnD P w K mg base "children_lists" 1 ["parents"] [] (spKids (fun _ => True))) (R_Overfull : RsD P w K mg base CF "Overfull" 1 ["self", "table"] [] (spErr CF 1 gTa)) (M_TableTree : MkD P w K mg base CT "TableTree" 4 ["self", "size", "parents", "own"] [] (spInitT CT)) : MeD P w K mg base CT "arrive" 6 ["self", "table", "division"] dvs (spArrive CT CN CV CF) := by
  obtain ⟨f, fd, ds, F, M, hb, hd⟩ := tx.ex
  refine ⟨f, fd, ds, okN F sc_TableTree_arrive (fun vs H Q E h => ?_) (fun cdv A outer s H vs Q E hr tk hp h => ?_), M, hb, hd⟩
  · obtain ⟨t, table, v, dv, D, T', R, rfl, okD, hfew, hdv, hs, ht, k0, k1⟩ := h
    rfl
  · obtain ⟨t, table, v, dv, D, T', R, rfl, okD, hfew, hdv, hs, ht, k0, k1⟩ := h
    have nd := sc_TableTree_arrive.nd
    refine ⟨_, (pss_cons (ps_expr (pe_meD (pv 0) T.cTableTree M_TableTree_check_table (hr.mono (by decide)) (fun σ => L2N.passAt tk σ) (pa_cons (pv 1) pa_nil)))
  (pss_cons (ps_set (i := 3) nd rfl (Or.inl rfl) (pe_callTy (callListK (K := K)) (by rfl) T.n_list (by decide +kernel) (pa_cons (pe_fldK (K := K) (pv 0)) pa_nil)))
  (pss_cons (ps_set (i := 4) nd rfl (Or.inl rfl) (pe_callTy (callListK (K := K)) (by rfl) T.n_list (by decide +kernel) (pa_cons (pe_fldK (K := K) (pv 0)) pa_nil)))
  (pss_cons (ps_asg (pe_op opAdd (pe_ix (ixSeqK (K := K)) (pv 4) (pv 1) (fun _ _ => rfl)) pe_int) (pg_sub (pv 4) (pv 1) set_list))
  (Evl.pss_cut (ps_if (pt_cmpR opNotN (pv 2) pe_non (nomark _)) (pss_cons (ps_expr (pe_meD (pv 0) T.cTableTree M_TableTree_check_division (hr.mono (by decide)) (fun σ => L2N.passAt tk σ) (pa_cons (pv 4) (pa_cons (pv 2) pa_nil))))
  (pss_one (ps_asg (pe_clD Ddivided_lists (hr.mono (by decide)) rfl (fun σ => L2N.passAt tk σ) (pa_cons (pv 3) (pa_cons (pv 4) (pa_cons (pv 2) pa_nil)))) (pg_tupK (K := K) (n := 2) rfl (pgs_cons (pg_name (i := 3) nd rfl (Or.inl rfl)) (pgs_cons (pg_name (i := 4) nd rfl (Or.inl rfl)) pgs_nil)))))) pss_nil)
  (pss_cons (ps_for hp rfl (pi_enum (by rfl) T.n_enumerate (pa_cons (pe_clD Dchildren_lists (hr.mono (by decide)) rfl (fun σ => L2N.passAt tk σ) (pa_cons (pv 3) pa_nil)) pa_nil)) (pg_tupK (K := K) (n := 2) rfl (pgs_cons (pg_name (i := 5) nd rfl (Or.inl rfl)) (pgs_cons (pg_name (i := 6) nd rfl (Or.inl rfl)) pgs_nil)))
  (pss_one (ps_if (pt_cmpR op_gt (pe_op opAdd (pe_ix (ixSeqK (K := K)) (pv 4) (pv 5) (fun _ _ => rfl)) (pe_callB (callLenK (K := K)) (by rfl) T.n_len (by decide +kernel) (pa_cons (pv 6) pa_nil))) (pe_fldK (K := K) (pv 0)) (nomark _)) (pss_one (L2N.ps_raise rfl tk (pmk_D R_Overfull (hr.mono (by decide)) rfl (pa_cons (pv 5) pa_nil)))) pss_nil)))
  (pss_one (ps_ret (pe_mkD M_TableTree (hr.mono (by decide)) rfl (fun σ => L2N.passAt tk σ) (pa_cons (pe_fldK (K := K) (pv 0)) (pa_cons (pv 3) (pa_cons (pv 4) pa_nil)))))))))))), ?_⟩
    refine go_start hs ht ?_
    try dsimp only [cxOf, WOf]
    rw [show L2.start _ _ = [some (.ref t), some (.int table), some v, none, none, none, none] from rfl]
    have okw : Okw D.z D.ps D.own 900 := ⟨okD.ok.wf, okD.ok.len, hfew, okD.ok.fit⟩
    have n0 : ∀ u, u < D.ps.length → 0 ≤ D.own.getD u 0 := fun u hu => (okw.fit u hu).1
    have hol : D.own.length = D.ps.length := okw.len
    repeat walk_at "oc"
    refine go_chk (fun h => ?_) (fun h => ?_)
    · have e : arrF D.z D.ps D.own table dv = .no 1 table := by unfold arrF; rw [if_neg h]
      exact k0 1 table e
    obtain ⟨tb, rfl⟩ : ∃ tb : Nat, table = tb := ⟨table.toNat, by omega⟩
    have htn : tb < D.ps.length := by omega
    refine tree_open ?_
    unfold treeL
    repeat walk_at "oc"
    rename_i qp qo
    refine go_sqL (atI_of (int_get (getD_at (w := D.own) (c := tb) (by omega)))) ?_
    repeat walk_at "oc"
    refine' go_setL (k := tb) (by exact ixN_nat (by rw [List.length_map]; omega)) (by exact set_ints) ?_
    rw [show D.own.set tb (D.own.getD tb 0 + 1) = inc D.own tb from rfl]
    have l1 : (inc D.own tb).length = D.ps.length := inc_len.trans hol
    have n1 := inc_nonneg (t := tb) hol n0
    have htt : ((tb : Int)).toNat = tb := by omega
    refine Go.ent (L' := treeL CT t D (pt qo (.lst ((inc D.own tb).map V.int)) :: pt qp (.lst (D.ps.map PV)) :: R)) (tree_close ?_)
    repeat walk_at "oc"
    refine go_cut (fun σ1 T1 L1 => Mo T' T1 ∧ ∃ (a b : Addr) (ps1 : Ps) (own1 : List Int), Wf ps1 ∧ own1.length = ps1.length ∧ ps1.length ≤ 902 ∧ (∀ u, u < ps1.length → 0 ≤ own1.getD u 0) ∧ arrF D.z D.ps D.own (tb : Int) dv = fin_ D.z ps1 own1 ∧ σ1 = [some (.ref t), some (.int (tb : Int)), some v, some (.ref a), some (.ref b), none, none] ∧ L1 = treeC CT t D :: pt b (.lst (own1.map V.int)) :: pt a (.lst (ps1.map PV)) :: R) ?_ ?_
    · cases hdv with
      | non =>
        repeat walk_at "oc"
        dsimp only
        refine go_at ⟨inferInstance, qp, qo, D.ps, inc D.own tb, okw.wf, l1, by omega, n1, ?_, rfl, rfl⟩
        unfold arrF
        rw [if_pos h, htt]
      | tup kn rd hcl =>
        rename_i d c s e ch
        haveI := kn
        haveI := rd
        repeat walk_at "oc"
        refine go_chkdiv okD l1 hcl kn inferInstance inferInstance (fun g => ?_) (fun g => ?_)
        · have e2 : arrF D.z D.ps D.own (tb : Int) (some (s, e, ch)) = .no 2 s := by
            unfold arrF
            rw [if_pos h, htt]
            dsimp only
            rw [if_neg g]
          exact fun d => Go.ent (L' := pt d (.xd [(("table" : Str), .int s)]) :: treeC CT t D :: R) (k0 2 s e2 d)
        · obtain ⟨sn, rfl⟩ : ∃ sn : Nat, s = sn := ⟨s.toNat, by have := g.s0; omega⟩
          have hsn : sn < D.ps.length := by have := g.s1; omega
          have hst : ((sn : Int)).toNat = sn := by omega
          repeat walk_at "oc"
          refine go_divl (c := c) (ch := ch) (e := e) hsn l1 (by omega) kn inferInstance inferInstance inferInstance fun l r q => ?_
          repeat walk_at "oc"
          dsimp only
          obtain ⟨d1, d2, d3⟩ := div_len (ps := D.ps) (s := sn) (ch := ch) (own := inc D.own tb) (e := e) l1
          refine go_at' (T' := T') (L' := treeC CT t D :: pt r (.lst ((divOwn D.ps (inc D.own tb) sn e).map V.int)) :: pt l (.lst ((divPs D.ps sn ch).map PV)) :: R) ⟨inferInstance, l, r, _, _, div_wf okw.wf hsn (by have := g.sub; rw [hst] at this; exact this), d1, by omega, fun u _ => div_nonneg l1 hsn n1 g.e0 (by have := g.e1; rw [hst] at this; exact this) u, ?_, rfl, rfl⟩
          unfold arrF
          rw [if_pos h, htt]
          dsimp only
          rw [if_pos g, hst]
    · rintro σ1 T1 L1 ⟨m1, a, b, ps1, own1, wf1, ol1, f1, nn1, ea, rfl, rfl⟩
      repeat walk_at "oc"
      refine go_kids trivial (by omega) inferInstance fun kk as hl => ?_
      repeat walk_at "oc"
      refine Go.ent (L' := pt kk (.lst (as.map V.ref)) :: rowsC as (rowsF ps1) :: treeC CT t D :: pt b (.lst (own1.map V.int)) :: pt a (.lst (ps1.map PV)) :: R) ?_
      refine go_enum (xs := as.map V.ref) (fun i σ1 T2 L2 => T2 = T1 ∧ (∃ v5 v6, σ1 = [some (.ref t), some (.int (tb : Int)), some v, some (.ref a), some (.ref b), v5, v6]) ∧ (∀ u, u < i → ¬ D.z < own1.getD u 0 + (kidsF ps1 u).length) ∧ L2 = pt kk (.lst (as.map V.ref)) :: rowsC as (rowsF ps1) :: treeC CT t D :: pt b (.lst (own1.map V.int)) :: pt a (.lst (ps1.map PV)) :: R) ⟨rfl, ⟨_, _, rfl⟩, (fun u hu => by omega), rfl⟩ ?_ ?_ ?_
      · rintro i σ1 T2 L2 ⟨rfl, ⟨v5, v6, rfl⟩, hno, rfl⟩
        infer_instance
      · rintro i w2 σ1 T2 L2 q hv ⟨rfl, ⟨v5, v6, rfl⟩, hno, rfl⟩
        have hi := (List.getElem?_eq_some_iff.mp hv).1
        rw [List.length_map] at hi
        have hin : i < ps1.length := by omega
        have e := List.getElem?_eq_getElem hi
        rw [vref_get e] at hv
        cases hv
        haveI := rd_rows (L := pt kk (.lst (as.map V.ref)) :: rowsC as (rowsF ps1) :: treeC CT t D :: pt b (.lst (own1.map V.int)) :: pt a (.lst (ps1.map PV)) :: R) e (rowsF_get hin)
        repeat walk_at "oc"
        refine go_sqL (atI_of (int_get (getD_at (w := own1) (c := i) (by omega)))) ?_
        repeat walk_at "oc"
        rw [VN_len]
        by_cases ho : D.z < own1.getD i 0 + (kidsF ps1 i).length
        · refine go_dT ho ?_
          repeat walk_at "oc"
          have e4 : arrF D.z D.ps D.own (tb : Int) dv = .no 4 (i : Int) := by
            rw [ea]
            unfold fin_
            rw [over_some hin ho hno]
          exact fun d => Go.entT (L' := pt d (.xd (gTa [V.int (i : Int)])) :: treeC CT t D :: R) (T' := T') (k0 4 (i : Int) e4 d)
        · refine go_dF ho ?_
          repeat walk_at "oc"
          dsimp only
          refine go_at' (T' := T2) (L' := pt kk (.lst (as.map V.ref)) :: rowsC as (rowsF ps1) :: treeC CT t D :: pt b (.lst (own1.map V.int)) :: pt a (.lst (ps1.map PV)) :: R) ⟨rfl, ⟨_, _, rfl⟩, fun u hu => ?_, rfl⟩
          by_cases eu : u = i
          · rw [eu]
            exact ho
          · exact hno u (by omega)
      · rintro σ1 T2 L2 ⟨rfl, ⟨v5, v6, rfl⟩, hno, rfl⟩
        rw [List.length_map, hl] at hno
        have e5 : arrF D.z D.ps D.own (tb : Int) dv = .ok ps1 own1 := by
          rw [ea]
          unfold fin_
          rw [over_all hno]
        repeat walk_at "oc"
        rename_i t2 dx2
        refine go_initT ⟨wf1, ol1, by omega, fun u hu => ⟨nn1 u hu, by have := hno u hu; omega⟩⟩ inferInstance inferInstance fun D2 g1 g2 g3 g4 => ?_
        repeat walk_at "oc"
        exact Go.entT (L' := treeC CT t2 D2 :: treeC CT t D :: R) (T' := T') (k1 ps1 own1 e5 t2 D2 g1 g2 g3 g4)

end


def spLArr : Sp := fun vs H Q E => ∃ (a : Addr) (table : Int) (v : V) (dv : Option (Int × Int × List Int)) (W : Wo) (T : Tups) (R : List Chunk), vs = [.ref a, .int table, v] ∧ Okw W.z W.ps W.own 900 ∧ DivAt T R v dv ∧ Has H (woodC a W :: R) ∧ HasT H T ∧
  (∀ code x, arrF W.z W.ps W.own table dv = .no code x → ∀ q, Go T (pt q (.lst [.int code, .int x]) :: woodC a W :: R) (Q (.ref q))) ∧
  (∀ ps2 own2, arrF W.z W.ps W.own table dv = .ok ps2 own2 → ∀ q a2 W2, W2.z = W.z → W2.ps = ps2 → W2.own = own2 → Go T (pt q (.lst [.int 0, .ref a2]) :: woodC a2 W2 :: woodC a W :: R) (Q (.ref q)))
theorem go_larr {T : Tups} {L R : List Chunk} {a : Addr} {table : Int} {v : V} {dv : Option (Int × Int × List Int)} {W : Wo} {Q : VK} {E : XK} [q : Pull woodC L a W R] (ok : Okw W.z W.ps W.own 900) (hd : DivAt T R v dv)
    (k0 : ∀ code x, arrF W.z W.ps W.own table dv = .no code x → ∀ q, Go T (pt q (.lst [.int code, .int x]) :: woodC a W :: R) fun H => Q (.ref q) H)
    (k1 : ∀ ps2 own2, arrF W.z W.ps W.own table dv = .ok ps2 own2 → ∀ q a2 W2, W2.z = W.z → W2.ps = ps2 → W2.own = own2 → Go T (pt q (.lst [.int 0, .ref a2]) :: woodC a2 W2 :: woodC a W :: R) fun H => Q (.ref q) H) : Go T L fun H => spLArr [.ref a, .int table, v] H Q E := fun H x y =>
  ⟨a, table, v, dv, W, T, R, rfl, ok, hd, x.pull (F := woodC), y, k0, k1⟩
theorem take_notZ {ls : List Int} (nd : ls.Nodup) {i : Nat} {u : Int} (h : ls[i]? = some u) : ¬ u ∈ ls.take i := fun hm => by
  obtain ⟨j, hj⟩ := List.getElem?_of_mem hm
  rw [List.getElem?_take] at hj
  split at hj
  · have := nodup_inj nd hj h
    omega
  · cases hj
structure MvI (ps : Ps) (s : Nat) (ch : List Int) (qs : Ps) : Prop where
  len : qs.length = ps.length + 1
  lo : ∀ t : Nat, t < ps.length → qs[t]? = some (if (t : Int) ∈ ch then some (ps.length : Int) else ps.getD t none)
  hi : qs[ps.length]? = some (ps.getD s none)
theorem MvI.zero {ps : Ps} {s : Nat} : MvI ps s [] (ps ++ [ps.getD s none]) := ⟨by rw [List.length_append]; rfl, fun t ht => by rw [List.getElem?_append_left ht, some_getD ht, if_neg List.not_mem_nil], by rw [List.getElem?_append_right (Nat.le_refl _), Nat.sub_self]; rfl⟩
theorem MvI.step {ps : Ps} {s : Nat} {ch : List Int} {qs : Ps} (h : MvI ps s ch qs) {u : Nat} (hu : u < ps.length) : MvI ps s (ch ++ [(u : Int)]) (qs.set u (some (ps.length : Int))) := by
  refine ⟨by rw [List.length_set]; exact h.len, fun t ht => ?_, by rw [List.getElem?_set, if_neg (by omega)]; exact h.hi⟩
  rw [List.getElem?_set]
  by_cases e : u = t
  · subst e
    rw [if_pos rfl, if_pos (by rw [h.len]; omega), if_pos (List.mem_append_right _ (List.mem_singleton.mpr rfl))]
  · rw [if_neg e, h.lo t ht]
    by_cases m : (t : Int) ∈ ch
    · rw [if_pos m, if_pos (List.mem_append_left _ m)]
    · rw [if_neg m, if_neg (fun z => by
        rcases List.mem_append.mp z with z | z
        · exact m z
        · rw [List.mem_singleton] at z
          omega)]
theorem MvI.eq {ps : Ps} {s : Nat} {ch : List Int} {qs : Ps} (h : MvI ps s ch qs) : qs = later ps ch ++ [ps.getD s none] := by
  refine List.ext_getElem? fun t => ?_
  by_cases ht : t < ps.length
  · rw [h.lo t ht, List.getElem?_append_left (by rw [later_len]; exact ht), later_get ht]
  · by_cases e : t = ps.length
    · subst e
      rw [h.hi, List.getElem?_append_right (by rw [later_len]; exact Nat.le_refl _), later_len, Nat.sub_self]
      rfl
    · rw [List.getElem?_eq_none (by rw [h.len]; omega), List.getElem?_eq_none (by rw [List.length_append, later_len, List.length_singleton]; omega)]
section
variable {P : Program} {w : World} {K : PySem.W.Frag} {mg : Str → Option Value} {base : Heap} {CT CN CV CF CI CL CO : Addr}
theorem sc_law_arrive : FnScope ["wood", "table", "division", "size", "many", "parents", "own", "split", "kids", "seen", "kid", "moved", "one"] ["wood", "table", "division"] (defScope s_law_arrive) := ⟨rfl, rfl, rfl, by decide +kernel, rfl, by decide +kernel, by decide +kernel⟩
theorem d_larr {dvs : List V} (tx : Tx K mg "_law_arrive" "_law_arrive" s_law_arrive ["wood", "table", "division"] dvs) [T : Txt K mg CT CN CV CF CI CL CO] (D_law_kids : FnD P w K mg base "_law_kids" 1 ["parents"] [] (spKids Wf)) : FnD P w K mg base "_law_arrive" 2 ["wood", "table", "division"] dvs (spLArr) := by
  obtain ⟨f, fd, ds, F, hm, hb, hd⟩ := tx.ex
  refine ⟨f, fd, ds, okN F sc_law_arrive (fun vs H Q E h => ?_) (fun cdv A outer s H vs Q E hr tk hp h => ?_), hm, F.kp, hb, hd⟩
  · obtain ⟨a, table, v, dv, W, T', R, rfl, okw, hdv, hs, ht, k0, k1⟩ := h
    rfl
  · obtain ⟨a, table, v, dv, W, T', R, rfl, okw, hdv, hs, ht, k0, k1⟩ := h
    have nd := sc_law_arrive.nd
    refine ⟨_, (pss_cons (ps_set (i := 3) nd rfl (Or.inl rfl) (pe_ix (ixSeqK (K := K)) (pv 0) pe_int (fun _ _ => rfl)))
  (pss_cons (ps_set (i := 4) nd rfl (Or.inl rfl) (pe_callB (callLenK (K := K)) (by rfl) T.n_len (by decide +kernel) (pa_cons (pe_ix (ixSeqK (K := K)) (pv 0) pe_int (fun _ _ => rfl)) pa_nil)))
  (pss_cons (ps_if (pt_not (pt_chain op_le op_lt pe_int (pv 1) (pv 4))) (pss_one (ps_ret (pe_lst (pa_cons pe_int (pa_cons (pv 1) pa_nil))))) pss_nil)
  (pss_cons (ps_set (i := 5) nd rfl (Or.inl rfl) (pe_callTy (callListK (K := K)) (by rfl) T.n_list (by decide +kernel) (pa_cons (pe_ix (ixSeqK (K := K)) (pv 0) pe_int (fun _ _ => rfl)) pa_nil)))
  (pss_cons (ps_set (i := 6) nd rfl (Or.inl rfl) (pe_callTy (callListK (K := K)) (by rfl) T.n_list (by decide +kernel) (pa_cons (pe_ix (ixSeqK (K := K)) (pv 0) pe_int (fun _ _ => rfl)) pa_nil)))
  (pss_cons (ps_asg (pe_op opAdd (pe_ix (ixSeqK (K := K)) (pv 6) (pv 1) (fun _ _ => rfl)) pe_int) (pg_sub (pv 6) (pv 1) set_list))
  (Evl.pss_cut (ps_if (pt_cmpR opNotN (pv 2) pe_non (nomark _)) (pss_cons (ps_set (i := 7) nd rfl (Or.inl rfl) (pe_ix (ixSeqK (K := K)) (pv 2) pe_int (fun _ _ => rfl)))
  (pss_cons (ps_if (pt_not (pt_chain op_le op_lt pe_int (pv 7) (pv 4))) (pss_one (ps_ret (pe_lst (pa_cons pe_int (pa_cons (pv 7) pa_nil))))) pss_nil)
  (pss_cons (ps_set (i := 8) nd rfl (Or.inl rfl) (pe_ix (ixSeqK (K := K)) (pe_clD D_law_kids (hr.mono (by decide)) rfl (fun σ => L2N.passAt tk σ) (pa_cons (pv 5) pa_nil)) (pv 7) (fun _ _ => rfl)))
  (pss_cons (ps_if (pt_not (pt_chain op_le op_le pe_int (pe_ix (ixSeqK (K := K)) (pv 2) pe_int (fun _ _ => rfl)) (pe_ix (ixSeqK (K := K)) (pv 6) (pv 7) (fun _ _ => rfl)))) (pss_one (ps_ret (pe_lst (pa_cons pe_int (pa_cons (pv 7) pa_nil))))) pss_nil)
  (pss_cons (ps_set (i := 9) nd rfl (Or.inl rfl) (pe_lst pa_nil))
  (pss_cons (ps_for hp rfl (pi_list (pe_ix (ixSeqK (K := K)) (pv 2) pe_int (fun _ _ => rfl))) (pg_name (i := 10) nd rfl (Or.inl rfl))
  (pss_cons (ps_if (PW.pt (pw_or (pt_cmpR (opNotInK (K := K)) (pv 10) (pv 8) (by rfl)) (pw_or1 (pt_cmpR (opInK (K := K)) (pv 10) (pv 9) (by rfl))))) (pss_one (ps_ret (pe_lst (pa_cons pe_int (pa_cons (pv 7) pa_nil))))) pss_nil)
  (pss_one (ps_expr (pe_bmK (K := K) PySem.F.plainAttrs_list PySem.F.slot_list_append PySem.F.type_list_append mt_append (pv 9) (pa_cons (pv 10) pa_nil))))))
  (pss_cons (ps_set (i := 11) nd rfl (Or.inl rfl) (pe_op opAdd (pe_ix (ixSeqK (K := K)) (pv 2) pe_int (fun _ _ => rfl)) (pe_callB (callLenK (K := K)) (by rfl) T.n_len (by decide +kernel) (pa_cons (pv 9) pa_nil))))
  (pss_cons (ps_if (PW.pt (pw_or (pt_cmpR op_lt (pv 11) pe_int (nomark _)) (pw_or1 (pt_cmpR op_lt (pe_op op_sub (pe_op opAdd (pe_ix (ixSeqK (K := K)) (pv 6) (pv 7) (fun _ _ => rfl)) (pe_callB (callLenK (K := K)) (by rfl) T.n_len (by decide +kernel) (pa_cons (pv 8) pa_nil))) (pv 11)) pe_int (nomark _))))) (pss_one (ps_ret (pe_lst (pa_cons pe_int (pa_cons (pv 7) pa_nil))))) pss_nil)
  (pss_cons (ps_asg (pe_op op_sub (pe_ix (ixSeqK (K := K)) (pv 6) (pv 7) (fun _ _ => rfl)) (pe_ix (ixSeqK (K := K)) (pv 2) pe_int (fun _ _ => rfl))) (pg_sub (pv 6) (pv 7) set_list))
  (pss_cons (ps_expr (pe_bmK (K := K) PySem.F.plainAttrs_list PySem.F.slot_list_append PySem.F.type_list_append mt_append (pv 6) (pa_cons (pe_ix (ixSeqK (K := K)) (pv 2) pe_int (fun _ _ => rfl)) pa_nil)))
  (pss_cons (ps_expr (pe_bmK (K := K) PySem.F.plainAttrs_list PySem.F.slot_list_append PySem.F.type_list_append mt_append (pv 5) (pa_cons (pe_ix (ixSeqK (K := K)) (pv 5) (pv 7) (fun _ _ => rfl)) pa_nil)))
  (pss_cons (ps_for hp rfl (pi_list (pv 9)) (pg_name (i := 10) nd rfl (Or.inl rfl))
  (pss_one (ps_asg (pv 4) (pg_sub (pv 5) (pv 10) set_list))))
  (pss_one (ps_if (pt_cmpR opIsN (pe_ix (ixSeqK (K := K)) (pv 5) (pv 7) (fun _ _ => rfl)) pe_non (nomark _)) (pss_cons (ps_asg (pe_op opAdd (pv 4) pe_int) (pg_sub (pv 5) (pv 7) set_list))
  (pss_cons (ps_asg (pe_op opAdd (pv 4) pe_int) (pg_sub (pv 5) (pv 4) set_list))
  (pss_cons (ps_expr (pe_bmK (K := K) PySem.F.plainAttrs_list PySem.F.slot_list_append PySem.F.type_list_append mt_append (pv 5) (pa_cons pe_non pa_nil)))
  (pss_one (ps_expr (pe_bmK (K := K) PySem.F.plainAttrs_list PySem.F.slot_list_append PySem.F.type_list_append mt_append (pv 6) (pa_cons pe_int pa_nil))))))) pss_nil)))))))))))))) pss_nil)
  (pss_cons (ps_for hp rfl (pi_range1 rfl T.n_range (pa_cons (pe_callB (callLenK (K := K)) (by rfl) T.n_len (by decide +kernel) (pa_cons (pv 5) pa_nil)) pa_nil)) (pg_name (i := 12) nd rfl (Or.inl rfl))
  (pss_one (ps_if (pt_cmpR op_gt (pe_op opAdd (pe_ix (ixSeqK (K := K)) (pv 6) (pv 12) (fun _ _ => rfl)) (pe_bmK (K := K) PySem.F.plainAttrs_list PySem.F.slot_list_count PySem.F.type_list_count (mt_countVK (K := K)) (pv 5) (pa_cons (pv 12) pa_nil))) (pv 3) (nomark _)) (pss_one (ps_ret (pe_lst (pa_cons pe_int (pa_cons (pv 12) pa_nil))))) pss_nil)))
  (pss_one (ps_ret (pe_lst (pa_cons pe_int (pa_cons (pe_lst (pa_cons (pv 3) (pa_cons (pv 5) (pa_cons (pv 6) pa_nil)))) pa_nil))))))))))))), ?_⟩
    refine go_start hs ht ?_
    try dsimp only [cxOf, WOf]
    rw [show L2.start _ _ = [some (.ref a), some (.int table), some v, none, none, none, none, none, none, none, none, none, none] from rfl]
    obtain ⟨pa, oa, z, ps, own⟩ := W
    obtain ⟨wf, hol, hfew, hfit⟩ := id okw
    dsimp only at wf hol hfew hfit k0 k1 okw ⊢
    have n0 : ∀ u, u < ps.length → 0 ≤ own.getD u 0 := fun u hu => (hfit u hu).1
    have no : ∀ {code x : Int} {q : Addr} {L : List Chunk} [Ent L (pt q (.lst [.int code, .int x]) :: pt a (.lst [.int z, .ref pa, .ref oa]) :: pt pa (.lst (ps.map PV)) :: pt oa (.lst (own.map V.int)) :: R)], arrF z ps own table dv = .no code x → Go T' L (Q (.ref q)) := fun {code x q L} _ e => Go.ent (L' := pt q (.lst [.int code, .int x]) :: pt a (.lst [.int z, .ref pa, .ref oa]) :: pt pa (.lst (ps.map PV)) :: pt oa (.lst (own.map V.int)) :: R) ((k0 code x e q).perm (.of_eq rfl))
    refine wood_open ?_
    dsimp only
    repeat walk_at "oc"
    rw [List.length_map]
    by_cases g0 : 0 ≤ table
    rotate_left
    · refine go_dF g0 ?_
      repeat walk_at "oc"
      exact no (by unfold arrF; rw [if_neg fun z => g0 z.1])
    refine go_dT g0 ?_
    repeat walk_at "oc"
    by_cases g1 : table < ps.length
    rotate_left
    · rw [decide_eq_false g1]
      repeat walk_at "oc"
      exact no (by unfold arrF; rw [if_neg fun z => g1 z.2])
    rw [decide_eq_true g1]
    obtain ⟨tb, rfl⟩ : ∃ tb : Nat, table = tb := ⟨table.toNat, by omega⟩
    have h : 0 ≤ (tb : Int) ∧ (tb : Int) < ps.length := ⟨g0, g1⟩
    have htt : ((tb : Int)).toNat = tb := by omega
    repeat walk_at "oc"
    rename_i qp qo
    refine go_sqL (atI_of (int_get (getD_at (w := own) (c := tb) (by omega)))) ?_
    repeat walk_at "oc"
    refine' go_setL (k := tb) (by exact ixN_nat (by rw [List.length_map]; omega)) (by exact set_ints) ?_
    rw [show own.set tb (own.getD tb 0 + 1) = inc own tb from rfl]
    have l1 : (inc own tb).length = ps.length := inc_len.trans hol
    repeat walk_at "oc"
    refine go_cut (fun σ1 T1 L1 => T1 = T' ∧ ∃ (c d : Addr) (ps1 : Ps) (own1 : List Int) (v7 v8 v9 v10 v11 : Option V), own1.length = ps1.length ∧ ps1.length ≤ 902 ∧ arrF z ps own (tb : Int) dv = fin_ z ps1 own1 ∧ σ1 = [some (.ref a), some (.int (tb : Int)), some v, some (.int z), some (.int (ps.length : Int)), some (.ref c), some (.ref d), v7, v8, v9, v10, v11, none] ∧ L1 = pt d (.lst (own1.map V.int)) :: pt c (.lst (ps1.map PV)) :: pt a (.lst [.int z, .ref pa, .ref oa]) :: pt pa (.lst (ps.map PV)) :: pt oa (.lst (own.map V.int)) :: R) ?_ ?_
    · cases hdv with
      | non =>
        repeat walk_at "oc"
        dsimp only
        refine go_at ⟨rfl, qp, qo, ps, inc own tb, _, _, _, _, _, l1, by omega, ?_, rfl, rfl⟩
        unfold arrF
        rw [if_pos h, htt]
      | tup kn rd hcl =>
        rename_i d c s e ch
        haveI := kn
        haveI := rd
        have bad : ¬ GoodDiv ps (inc own tb) s e ch → arrF z ps own (tb : Int) (some (s, e, ch)) = .no 2 s := fun g => by
          unfold arrF
          rw [if_pos h, htt]
          dsimp only
          rw [if_neg g]
        repeat walk_at "oc"
        by_cases g2 : 0 ≤ s
        rotate_left
        · refine go_dF g2 ?_
          repeat walk_at "oc"
          exact no (bad fun g => g2 g.s0)
        refine go_dT g2 ?_
        repeat walk_at "oc"
        by_cases g3 : s < ps.length
        rotate_left
        · rw [decide_eq_false g3]
          repeat walk_at "oc"
          exact no (bad fun g => g3 g.s1)
        rw [decide_eq_true g3]
        obtain ⟨sn, rfl⟩ : ∃ sn : Nat, s = sn := ⟨s.toNat, by omega⟩
        have hsn : sn < ps.length := by omega
        have hst : ((sn : Int)).toNat = sn := by omega
        repeat walk_at "oc"
        refine go_kids wf (by omega) inferInstance fun kk as hl => ?_
        obtain ⟨b, hb⟩ : ∃ b, as[sn]? = some b := ⟨as[sn]'(by omega), List.getElem?_eq_getElem _⟩
        repeat walk_at "oc"
        refine go_sqL (atI_of (vref_get hb)) ?_
        have hkl : (kidsZ ps sn).length = (kidsF ps sn).length := List.length_map _
        repeat walk_at "oc"
        by_cases g4 : 0 ≤ e
        rotate_left
        · refine go_dF g4 ?_
          repeat walk_at "oc"
          exact no (bad fun g => g4 g.e0)
        refine go_dT g4 ?_
        repeat walk_at "oc"
        refine go_sqL (atI_of (int_get (getD_at (w := inc own tb) (c := sn) (by omega)))) ?_
        repeat walk_at "oc"
        by_cases g5 : e ≤ (inc own tb).getD sn 0
        rotate_left
        · rw [decide_eq_false g5]
          repeat walk_at "oc"
          exact no (bad fun g => g5 (by have := g.e1; rw [hst] at this; exact this))
        rw [decide_eq_true g5]
        repeat walk_at "oc"
        rename_i qs
        refine go_over (xs := ch.map V.int) (fun j σ1 T2 L2 => T2 = T' ∧ (∃ v10, σ1 = [some (.ref a), some (.int (tb : Int)), some (.ref d), some (.int z), some (.int (ps.length : Int)), some (.ref qp), some (.ref qo), some (.int (sn : Int)), some (.ref b), some (.ref qs), v10, none, none]) ∧ (∀ c ∈ ch.take j, c ∈ kidsZ ps sn) ∧ (ch.take j).Nodup ∧ L2 = pt qs (.lst ((ch.take j).map V.int)) :: pt kk (.lst (as.map V.ref)) :: rowsC as (rowsF ps) :: pt qo (.lst ((inc own tb).map V.int)) :: pt qp (.lst (ps.map PV)) :: pt a (.lst [.int z, .ref pa, .ref oa]) :: pt pa (.lst (ps.map PV)) :: pt oa (.lst (own.map V.int)) :: R) ⟨rfl, ⟨_, rfl⟩, (fun c hc => by cases hc), .nil, rfl⟩ ?_ ?_ ?_
        · rintro j σ1 T2 L2 ⟨rfl, ⟨v10, rfl⟩, _, _, rfl⟩
          infer_instance
        · rintro j w2 σ1 T2 L2 hv ⟨rfl, ⟨v10, rfl⟩, hsub, hnd, rfl⟩
          have hj := (List.getElem?_eq_some_iff.mp hv).1
          rw [List.length_map] at hj
          have ee := List.getElem?_eq_getElem hj
          rw [int_get ee] at hv
          cases hv
          haveI hrow : RdL (pt qs (.lst ((ch.take j).map V.int)) :: pt kk (.lst (as.map V.ref)) :: rowsC as (rowsF ps) :: pt qo (.lst ((inc own tb).map V.int)) :: pt qp (.lst (ps.map PV)) :: pt a (.lst [.int z, .ref pa, .ref oa]) :: pt pa (.lst (ps.map PV)) :: pt oa (.lst (own.map V.int)) :: R) b ((kidsZ ps sn).map V.int) := by
            unfold kidsZ
            rw [← VN_int]
            exact rd_rows hb (rowsF_get hsn)
          repeat walk_at "oc"
          by_cases hm : ch[j] ∈ kidsZ ps sn
          rotate_left
          · refine go_nT hm ?_
            repeat walk_at "oc"
            exact no (bad fun g => hm (by have := g.sub _ (List.getElem_mem hj); rw [hst] at this; exact this))
          refine go_nF hm ?_
          repeat walk_at "oc"
          by_cases hd2 : ch[j] ∈ ch.take j
          · refine go_dT hd2 ?_
            repeat walk_at "oc"
            exact no (bad fun g => take_notZ g.nd ee hd2)
          refine go_dF hd2 ?_
          have hb1 : ((ch.take j).map V.int).length < 1000000 := by
            rw [List.length_map, List.length_take]
            omega
          repeat walk_at "oc"
          refine go_app (sz100l hb1) ?_
          repeat walk_at "oc"
          dsimp only
          have et : ch.take (j + 1) = ch.take j ++ [ch[j]] := by rw [List.take_add_one, ee]; rfl
          refine go_at ⟨rfl, ⟨_, rfl⟩, ?_, ?_, ?_⟩
          · rw [et]
            intro c hc
            rcases List.mem_append.mp hc with hc | hc
            · exact hsub c hc
            · rw [List.mem_singleton] at hc
              rw [hc]
              exact hm
          · rw [et]
            exact List.nodup_append.mpr ⟨hnd, List.nodup_cons.mpr ⟨List.not_mem_nil, .nil⟩, fun x hx y hy z => by
              rw [List.mem_singleton] at hy
              subst hy
              subst z
              exact hd2 hx⟩
          · rw [et, List.map_append]
            rfl
        · rintro σ1 T2 L2 ⟨rfl, ⟨v10, rfl⟩, hsub, hnd, rfl⟩
          rw [List.length_map, List.take_length] at *
          haveI hrow : RdL (pt qs (.lst (ch.map V.int)) :: pt kk (.lst (as.map V.ref)) :: rowsC as (rowsF ps) :: pt qo (.lst ((inc own tb).map V.int)) :: pt qp (.lst (ps.map PV)) :: pt a (.lst [.int z, .ref pa, .ref oa]) :: pt pa (.lst (ps.map PV)) :: pt oa (.lst (own.map V.int)) :: R) b ((kidsZ ps sn).map V.int) := by
            unfold kidsZ
            rw [← VN_int]
            exact rd_rows hb (rowsF_get hsn)
          repeat walk_at "oc"
          rw [List.length_map]
          by_cases g6 : 0 < e + (ch.length : Int)
          rotate_left
          · refine go_dT (by omega) ?_
            repeat walk_at "oc"
            exact no (bad fun g => g6 g.m0)
          refine go_dF (by omega) ?_
          repeat walk_at "oc"
          refine go_sqL (atI_of (int_get (getD_at (w := inc own tb) (c := sn) (by omega)))) ?_
          repeat walk_at "oc"
          rw [List.length_map, hkl]
          repeat walk_at "oc"
          by_cases g7 : e + (ch.length : Int) < (inc own tb).getD sn 0 + ((kidsF ps sn).length : Int)
          rotate_left
          · refine go_dT (by omega) ?_
            repeat walk_at "oc"
            exact no (bad fun g => g7 (by have := g.m1; rw [hst] at this; exact this))
          refine go_dF (by omega) ?_
          have good : GoodDiv ps (inc own tb) (sn : Int) e ch := ⟨g2, g3, g4, by rw [hst]; exact g5, by rw [hst]; exact hsub, hnd, g6, by rw [hst]; exact g7⟩
          repeat walk_at "oc"
          refine go_sqL (atI_of (int_get (getD_at (w := inc own tb) (c := sn) (by omega)))) ?_
          repeat walk_at "oc"
          refine' go_setL (k := sn) (by exact ixN_nat (by rw [List.length_map]; omega)) rfl ?_
          repeat walk_at "oc"
          refine go_sqL (atI_of (pv_get (some_getD hsn))) ?_
          repeat walk_at "oc"
          refine Go.ent (L' := pt qp (.lst (ps.map PV ++ [PV (ps.getD sn none)])) :: pt qo (.lst (((inc own tb).map V.int).set sn (.int ((inc own tb).getD sn 0 - e)) ++ [.int e])) :: pt qs (.lst (ch.map V.int)) :: pt kk (.lst (as.map V.ref)) :: rowsC as (rowsF ps) :: pt a (.lst [.int z, .ref pa, .ref oa]) :: pt pa (.lst (ps.map PV)) :: pt oa (.lst (own.map V.int)) :: R) ?_
          refine go_over (xs := ch.map V.int) (fun j σ1 T3 L3 => T3 = T2 ∧ (∃ v10 v11, σ1 = [some (.ref a), some (.int (tb : Int)), some (.ref d), some (.int z), some (.int (ps.length : Int)), some (.ref qp), some (.ref qo), some (.int (sn : Int)), some (.ref b), some (.ref qs), v10, v11, none]) ∧ ∃ qps : Ps, MvI ps sn (ch.take j) qps ∧ L3 = pt qp (.lst (qps.map PV)) :: pt qo (.lst (((inc own tb).map V.int).set sn (.int ((inc own tb).getD sn 0 - e)) ++ [.int e])) :: pt qs (.lst (ch.map V.int)) :: pt kk (.lst (as.map V.ref)) :: rowsC as (rowsF ps) :: pt a (.lst [.int z, .ref pa, .ref oa]) :: pt pa (.lst (ps.map PV)) :: pt oa (.lst (own.map V.int)) :: R) ⟨rfl, ⟨_, _, rfl⟩, ps ++ [ps.getD sn none], .zero, by rw [List.map_append]; rfl⟩ ?_ ?_ ?_
          · rintro j σ1 T3 L3 ⟨rfl, ⟨v10, v11, rfl⟩, qps, _, rfl⟩
            infer_instance
          · rintro j w2 σ1 T3 L3 hv ⟨rfl, ⟨v10, v11, rfl⟩, qps, hmv, rfl⟩
            have hj := (List.getElem?_eq_some_iff.mp hv).1
            rw [List.length_map] at hj
            have ee := List.getElem?_eq_getElem hj
            rw [int_get ee] at hv
            cases hv
            obtain ⟨u, hu, hpu⟩ := mem_kidsZ (hsub _ (List.getElem_mem hj))
            have hun := (List.getElem?_eq_some_iff.mp hpu).1
            have et : ch.take (j + 1) = ch.take j ++ [(u : Int)] := by rw [List.take_add_one, ee, hu]; rfl
            rw [hu]
            repeat walk_at "oc"
            refine' go_setL (k := u) (by exact ixN_nat (by rw [List.length_map, hmv.len]; omega)) (by exact set_pv (o := some (ps.length : Int))) ?_
            dsimp only
            exact go_at ⟨rfl, ⟨_, _, rfl⟩, _, by rw [et]; exact hmv.step hun, rfl⟩
          · rintro σ1 T3 L3 ⟨rfl, ⟨v10, v11, rfl⟩, qps, hmv, rfl⟩
            rw [List.length_map, List.take_length] at hmv
            have hns : (sn : Int) ∉ ch := fun hm => by
              obtain ⟨u, hu, hpu⟩ := mem_kidsZ (hsub _ hm)
              have : u = sn := by omega
              subst this
              exact no_self (wf.all u hsn) hpu
            have hqs : qps[sn]? = some (ps.getD sn none) := by rw [hmv.lo sn hsn, if_neg hns]
            have hql := hmv.len
            have heq := hmv.eq
            obtain ⟨d1, d2, d3⟩ := div_len (ps := ps) (s := sn) (ch := ch) (own := inc own tb) (e := e) l1
            have earr : arrF z ps own (tb : Int) (some ((sn : Int), e, ch)) = fin_ z (divPs ps sn ch) (divOwn ps (inc own tb) sn e) := by
              unfold arrF
              rw [if_pos h, htt]
              dsimp only
              rw [if_pos good, hst]
            repeat walk_at "oc"
            refine go_sqL (atI_of (pv_get hqs)) ?_
            cases hq : ps.getD sn none with
            | none =>
              have ed : divPs ps sn ch = (((later ps ch ++ [none]).set sn (some ((ps.length : Int) + 1))).set ps.length (some ((ps.length : Int) + 1))) ++ [none] := by
                unfold divPs
                rw [hq, if_pos rfl]
              have eo : divOwn ps (inc own tb) sn e = (inc own tb).set sn ((inc own tb).getD sn 0 - e) ++ [e] ++ [0] := by
                unfold divOwn
                rw [hq, if_pos rfl]
              rw [hq] at heq
              have m1 : ((qps.map PV).set sn (.int ((ps.length : Int) + 1))).set ps.length (.int ((ps.length : Int) + 1)) ++ [V.non] = (divPs ps sn ch).map PV := by
                rw [ed, heq]
                simp only [List.map_append, List.map_set]
                rfl
              have m2 : ((inc own tb).map V.int).set sn (V.int ((inc own tb).getD sn 0 - e)) ++ [.int e] ++ [V.int 0] = (divOwn ps (inc own tb) sn e).map V.int := by
                rw [eo, List.map_append, List.map_append, List.map_set]
                rfl
              rw [show PV none = V.non from rfl]
              repeat walk_at "oc"
              refine' go_setL (k := sn) (by exact ixN_nat (by rw [List.length_map, hql]; omega)) rfl ?_
              repeat walk_at "oc"
              refine' go_setL (k := ps.length) (by exact ixN_nat (by rw [List.length_set, List.length_map, hql]; exact Nat.lt_succ_self _)) rfl ?_
              repeat walk_at "oc"
              dsimp only
              rw [m1, m2]
              exact go_at' (L' := pt qo (.lst ((divOwn ps (inc own tb) sn e).map V.int)) :: pt qp (.lst ((divPs ps sn ch).map PV)) :: pt a (.lst [.int z, .ref pa, .ref oa]) :: pt pa (.lst (ps.map PV)) :: pt oa (.lst (own.map V.int)) :: R) ⟨rfl, qp, qo, _, _, _, _, _, _, _, d1, by omega, earr, rfl, rfl⟩
            | some y =>
              have ed : divPs ps sn ch = later ps ch ++ [some y] := by
                unfold divPs
                rw [hq, if_neg (by intro z; cases z)]
              have eo : divOwn ps (inc own tb) sn e = (inc own tb).set sn ((inc own tb).getD sn 0 - e) ++ [e] := by
                unfold divOwn
                rw [hq, if_neg (by intro z; cases z)]
              rw [hq] at heq
              have m1 : qps = divPs ps sn ch := by rw [ed, heq]
              have m2 : ((inc own tb).map V.int).set sn (V.int ((inc own tb).getD sn 0 - e)) ++ [.int e] = (divOwn ps (inc own tb) sn e).map V.int := by
                rw [eo, List.map_append, List.map_set]
                rfl
              rw [show PV (some y) = V.int y from rfl, m1, m2]
              repeat walk_at "oc"
              dsimp only
              exact go_at' (L' := pt qo (.lst ((divOwn ps (inc own tb) sn e).map V.int)) :: pt qp (.lst ((divPs ps sn ch).map PV)) :: pt a (.lst [.int z, .ref pa, .ref oa]) :: pt pa (.lst (ps.map PV)) :: pt oa (.lst (own.map V.int)) :: R) ⟨rfl, qp, qo, _, _, _, _, _, _, _, d1, by omega, earr, rfl, rfl⟩
    · rintro σ1 T1 L1 ⟨rfl, c, d, ps1, own1, v7, v8, v9, v10, v11, ol1, f1, ea, rfl, rfl⟩
      repeat walk_at "oc"
      rw [List.length_map]
      repeat walk_at "oc"
      refine go_range (fun i σ1 T2 L2 => T2 = T1 ∧ (∃ v12, σ1 = [some (.ref a), some (.int (tb : Int)), some v, some (.int z), some (.int (ps.length : Int)), some (.ref c), some (.ref d), v7, v8, v9, v10, v11, v12]) ∧ (∀ u, u < i → ¬ z < own1.getD u 0 + (kidsF ps1 u).length) ∧ L2 = pt d (.lst (own1.map V.int)) :: pt c (.lst (ps1.map PV)) :: pt a (.lst [.int z, .ref pa, .ref oa]) :: pt pa (.lst (ps.map PV)) :: pt oa (.lst (own.map V.int)) :: R) ⟨rfl, ⟨_, rfl⟩, (fun u hu => by omega), rfl⟩ ?_ ?_
      · rintro i σ1 T2 L2 hi ⟨rfl, ⟨v12, rfl⟩, hno, rfl⟩
        have hin : i < ps1.length := by omega
        rw [show (0 : Int) + (i : Int) = (i : Int) by omega]
        repeat walk_at "oc"
        refine go_sqL (atI_of (int_get (getD_at (w := own1) (c := i) (by omega)))) ?_
        repeat walk_at "oc"
        rw [← kids_count]
        by_cases ho : z < own1.getD i 0 + (kidsF ps1 i).length
        · refine go_dT ho ?_
          repeat walk_at "oc"
          refine no (code := 4) (x := (i : Int)) ?_
          rw [ea]
          unfold fin_
          rw [over_some hin ho hno]
        · refine go_dF ho ?_
          repeat walk_at "oc"
          dsimp only
          refine go_at ⟨rfl, ⟨_, rfl⟩, fun u hu => ?_, rfl⟩
          by_cases eu : u = i
          · rw [eu]
            exact ho
          · exact hno u (by omega)
      · rintro σ1 T2 L2 ⟨rfl, ⟨v12, rfl⟩, hno, rfl⟩
        rw [show ((ps1.length : Int)).toNat = ps1.length by omega] at hno
        have e5 : arrF z ps own (tb : Int) dv = .ok ps1 own1 := by
          rw [ea]
          unfold fin_
          rw [over_all hno]
        repeat walk_at "oc"
        rename_i a2 q
        exact Go.ent (L' := pt q (.lst [.int 0, .ref a2]) :: pt a2 (.lst [.int z, .ref c, .ref d]) :: pt c (.lst (ps1.map PV)) :: pt d (.lst (own1.map V.int)) :: pt a (.lst [.int z, .ref pa, .ref oa]) :: pt pa (.lst (ps.map PV)) :: pt oa (.lst (own.map V.int)) :: R) ((k1 ps1 own1 e5 q a2 ⟨c, d, z, ps1, own1⟩ rfl rfl rfl).perm (.of_eq rfl))

end


def spWrong : Sp := fun vs H Q E => ∃ (p : Addr) (P : Pu) (n : Nat) (T : Tups) (R : List Chunk), vs = [.ref p, .int n] ∧ Has H (purseC p P :: R) ∧ HasT H T ∧ ∀ (z : Int) P', Go T (purseC p P' :: R) (Q (.int z))
theorem go_wrong {T : Tups} {L R : List Chunk} {p : Addr} {P : Pu} {n : Nat} {Q : VK} {E : XK} [q : Pull purseC L p P R] (k : ∀ (z : Int) P', Go T (purseC p P' :: R) fun H => Q (.int z) H) : Go T L fun H => spWrong [.ref p, .int n] H Q E := fun H x t => ⟨p, P, n, T, R, rfl, x.pull (F := purseC), t, k⟩
def spSome : Sp := fun vs H Q E => ∃ (p b : Addr) (P : Pu) (ks : List Int) (T : Tups) (R : List Chunk), vs = [.ref p, .ref b] ∧ ks.length ≤ 200 ∧ RdL R b (ks.map V.int) ∧ Has H (purseC p P :: R) ∧ HasT H T ∧ ∀ q (ch : List Int) P', ch.length ≤ 400 → Go T (pt q (.lst (ch.map V.int)) :: purseC p P' :: R) (Q (.ref q))
theorem go_some {T : Tups} {L R : List Chunk} {p b : Addr} {P : Pu} {ks : List Int} {Q : VK} {E : XK} [q : Pull purseC L p P R] (hl : ks.length ≤ 200) (r : RdL R b (ks.map V.int)) (k : ∀ q (ch : List Int) P', ch.length ≤ 400 → Go T (pt q (.lst (ch.map V.int)) :: purseC p P' :: R) fun H => Q (.ref q) H) : Go T L fun H => spSome [.ref p, .ref b] H Q E := fun H x t =>
  ⟨p, b, P, ks, T, R, rfl, hl, r, x.pull (F := purseC), t, k⟩
theorem ints_of : ∀ {ys : List V}, (∀ y ∈ ys, ∃ z, y = V.int z) → ∃ zs : List Int, ys = zs.map V.int ∧ zs.length = ys.length
  | [], _ => ⟨[], rfl, rfl⟩
  | y :: r, h => by
    obtain ⟨z, rfl⟩ := h y List.mem_cons_self
    obtain ⟨zs, rfl, e⟩ := ints_of fun x hx => h x (List.mem_cons_of_mem _ hx)
    exact ⟨z :: zs, rfl, by rw [List.length_cons, List.length_cons, e]⟩
theorem cut_ints {ch : List Int} {lo hi : Option Int} : ∃ zs : List Int, cutV (ch.map V.int) lo hi = zs.map V.int ∧ zs.length ≤ ch.length := by
  obtain ⟨zs, e, l⟩ := ints_of (ys := cutV (ch.map V.int) lo hi) fun y hy => by
    unfold cutV at hy
    obtain ⟨z, _, e⟩ := List.mem_map.mp (List.mem_of_mem_drop (List.mem_of_mem_take hy))
    exact ⟨z, e.symm⟩
  refine ⟨zs, e, ?_⟩
  rw [l]
  unfold cutV
  rw [List.length_take, List.length_drop, List.length_map]
  omega
theorem go_rows_out {T : Tups} {L R : List Chunk} {as : List Addr} {rows : List (List V)} {i : Nat} {a : Addr} {r : List V} {N : Hp → Prop} [q : PullC L (rowsC as rows) R] (h1 : as[i]? = some a) (h2 : rows[i]? = some r) (h : Go T (pt a (.lst r) :: R) N) : Go T L N := by
  obtain ⟨X, hX⟩ := rows_at h1 h2
  have p1 := hX r
  rw [set_same h2] at p1
  refine Go.perm (L' := pt a (.lst r) :: X :: R) (Go.ent h) (q.perm.trans ?_)
  rw [List.flatten_cons, List.flatten_cons, ← List.append_assoc]
  exact List.Perm.append_right _ p1
section
variable {P : Program} {w : World} {K : PySem.W.Frag} {mg : Str → Option Value} {base : Heap} {CT CN CV CF CI CL CO : Addr}
theorem sc_law_wrong : FnScope ["purse", "many", "far"] ["purse", "many"] (defScope s_law_wrong) := ⟨rfl, rfl, rfl, by decide +kernel, rfl, by decide +kernel, by decide +kernel⟩
theorem d_wrong {dvs : List V} (tx : Tx K mg "_law_wrong" "_law_wrong" s_law_wrong ["purse", "many"] dvs) [T : Txt K mg CT CN CV CF CI CL CO] (D_law_take : FnD P w K mg base "_law_take" 1 ["purse", "many"] [] spTake) : FnD P w K mg base "_law_wrong" 2 ["purse", "many"] dvs (spWrong) := by
  obtain ⟨f, fd, ds, F, hm, hb, hd⟩ := tx.ex
  refine ⟨f, fd, ds, okN F sc_law_wrong (fun vs H Q E h => ?_) (fun cdv A outer s H vs Q E hr tk hp h => ?_), hm, F.kp, hb, hd⟩
  · obtain ⟨p, P0, n, T', R, rfl, hs, ht, k⟩ := h
    rfl
  · obtain ⟨p, P0, n, T', R, rfl, hs, ht, k⟩ := h
    have nd := sc_law_wrong.nd
    refine ⟨_, (pss_cons (ps_set (i := 2) nd rfl (Or.inl rfl) (pe_op opAdd (pe_op opAdd (pv 1) pe_int) (pe_clD D_law_take (hr.mono (by decide)) rfl (fun σ => L2N.passAt tk σ) (pa_cons (pv 0) (pa_cons pe_int pa_nil)))))
  (pss_one (ps_ret (pe_ix (ixSeqK (K := K)) (pe_lst (pa_cons (pe_un un_neg pe_int) (pa_cons (pe_op op_sub pe_int (pv 1)) (pa_cons (pv 1) (pa_cons (pv 2) pa_nil))))) (pe_clD D_law_take (hr.mono (by decide)) rfl (fun σ => L2N.passAt tk σ) (pa_cons (pv 0) (pa_cons pe_int pa_nil))) (fun _ _ => rfl))))), ?_⟩
    refine go_start hs ht ?_
    try dsimp only [cxOf, WOf]
    rw [show L2.start _ _ = [some (.ref p), some (.int n), none] from rfl]
    repeat walk_at "oc"
    refine go_take (by decide) (by decide) fun r1 P1 h0 h1 => ?_
    repeat walk_at "oc"
    rename_i q
    refine go_take (by decide) (by decide) fun r2 P2 h2 h3 => ?_
    obtain rfl | rfl | rfl | rfl : r2 = 0 ∨ r2 = 1 ∨ r2 = 2 ∨ r2 = 3 := by omega
    all_goals
      repeat walk_at "oc"
      exact Go.ent (k _ P2)

theorem sc_law_some : FnScope ["purse", "kids", "chosen", "stride", "shift", "kid", "turn", "k"] ["purse", "kids"] (defScope s_law_some) := ⟨rfl, rfl, rfl, by decide +kernel, rfl, by decide +kernel, by decide +kernel⟩
theorem d_some {dvs : List V} (tx : Tx K mg "_law_some" "_law_some" s_law_some ["purse", "kids"] dvs) [T : Txt K mg CT CN CV CF CI CL CO] (D_law_take : FnD P w K mg base "_law_take" 1 ["purse", "many"] [] spTake) : FnD P w K mg base "_law_some" 2 ["purse", "kids"] dvs (spSome) := by
  obtain ⟨f, fd, ds, F, hm, hb, hd⟩ := tx.ex
  refine ⟨f, fd, ds, okN F sc_law_some (fun vs H Q E h => ?_) (fun cdv A outer s H vs Q E hr tk hp h => ?_), hm, F.kp, hb, hd⟩
  · obtain ⟨p, b, P0, ks, T', R, rfl, hl, rb, hs, ht, k⟩ := h
    rfl
  · obtain ⟨p, b, P0, ks, T', R, rfl, hl, rb, hs, ht, k⟩ := h
    have nd := sc_law_some.nd
    refine ⟨_, (pss_cons (ps_set (i := 2) nd rfl (Or.inr rfl) (pe_lst pa_nil))
  (Evl.pss_cut (ps_if (pt_cmpR op_gt (pe_callB (callLenK (K := K)) (by rfl) T.n_len (by decide +kernel) (pa_cons (pv 1) pa_nil)) pe_int (nomark _)) (pss_cons (ps_set (i := 3) nd rfl (Or.inr rfl) (pe_op opAdd pe_int (pe_clD D_law_take (hr.mono (by decide)) rfl (fun σ => L2N.passAt tk σ) (pa_cons (pv 0) (pa_cons pe_int pa_nil)))))
  (pss_cons (ps_set (i := 4) nd rfl (Or.inr rfl) (pe_clD D_law_take (hr.mono (by decide)) rfl (fun σ => L2N.passAt tk σ) (pa_cons (pv 0) (pa_cons (pv 3) pa_nil))))
  (pss_one (ps_set (i := 2) nd rfl (Or.inr rfl) (pe_lc (own := [("k", 7)]) rfl nd (pi_range1 rfl T.n_range (pa_cons (pe_callB (callLenK (K := K)) (by rfl) T.n_len (by decide +kernel) (pa_cons (pv 1) pa_nil)) pa_nil)) (blkOk_by (own := [("k", 7)]) (N := ["purse", "kids", "chosen", "stride", "shift", "kid", "turn", "k"]) (sc := defScope s_law_some) (by decide +kernel)) (fun _ _ _ _ _ => (pg_name (i := 7) nd rfl (Or.inl rfl))) (fun _ _ _ _ _ => (pts_one (pt_cmpR (opEqK (K := K) hr.units) (pe_op op_mod (pe_callTy callInt (by rfl) T.n_int (by decide +kernel) (pa_cons (pv 7) pa_nil)) (pv 3)) (pv 4) (nomark _)))) (fun _ _ _ _ _ => (pe_ix (ixSeqK (K := K)) (pv 1) (pv 7) (fun _ _ => rfl)))))))) (pss_one (ps_for hp rfl (pi_list (pv 1)) (pg_name (i := 5) nd rfl (Or.inl rfl))
  (pss_one (ps_if (pt_cmpR (opEqK (K := K) hr.units) (pe_clD D_law_take (hr.mono (by decide)) rfl (fun σ => L2N.passAt tk σ) (pa_cons (pv 0) (pa_cons pe_int pa_nil))) pe_int (nomark _)) (pss_one (ps_expr (pe_bmK (K := K) PySem.F.plainAttrs_list PySem.F.slot_list_append PySem.F.type_list_append mt_append (pv 2) (pa_cons (pv 5) pa_nil)))) pss_nil)))))
  (pss_cons (ps_set (i := 6) nd rfl (Or.inl rfl) (pe_clD D_law_take (hr.mono (by decide)) rfl (fun σ => L2N.passAt tk σ) (pa_cons (pv 0) (pa_cons pe_int pa_nil))))
  (Evl.pss_cut (ps_if (pt_cmpR (opEqK (K := K) hr.units) (pv 6) pe_int (nomark _)) (pss_one (ps_set (i := 2) nd rfl (Or.inr rfl) (pe_lc (own := [("k", 7)]) (tt := tYes) rfl nd (pi_range1 rfl T.n_range (pa_cons (pe_callB (callLenK (K := K)) (by rfl) T.n_len (by decide +kernel) (pa_cons (pv 2) pa_nil)) pa_nil)) (blkOk_by (own := [("k", 7)]) (N := ["purse", "kids", "chosen", "stride", "shift", "kid", "turn", "k"]) (sc := defScope s_law_some) (by decide +kernel)) (fun _ _ _ _ _ => (pg_name (i := 7) nd rfl (Or.inl rfl))) (fun _ _ _ _ _ => pts_nil) (fun _ _ _ _ _ => (pe_ix (ixSeqK (K := K)) (pv 2) (pe_op op_sub (pe_op op_sub (pe_callB (callLenK (K := K)) (by rfl) T.n_len (by decide +kernel) (pa_cons (pv 2) pa_nil)) pe_int) (pv 7)) (fun _ _ => rfl)))))) pss_nil)
  (Evl.pss_cut (ps_if (pt_cmpR (opEqK (K := K) hr.units) (pv 6) pe_int (nomark _)) (pss_one (ps_set (i := 2) nd rfl (Or.inr rfl) (pe_op opAdd (pe_slice (slListK (K := K)) (pv 2) (po_some pe_int) po_none) (pe_slice (slListK (K := K)) (pv 2) po_none (po_some pe_int))))) pss_nil)
  (pss_one (ps_ret (pv 2)))))))), ?_⟩
    refine go_start hs ht ?_
    try dsimp only [cxOf, WOf]
    rw [show L2.start _ _ = [some (.ref p), some (.ref b), none, none, none, none, none, none] from rfl]
    haveI := rb
    repeat walk_at "oc"
    rename_i q0
    refine go_cut (fun σ1 T1 L1 => T1 = T' ∧ ∃ (q : Addr) (ch : List Int) (P1 : Pu) (v3 v4 v5 : Option V), ch.length ≤ ks.length ∧ σ1 = [some (.ref p), some (.ref b), some (.ref q), v3, v4, v5, none, none] ∧ L1 = pt q (.lst (ch.map V.int)) :: purseC p P1 :: R) ?_ ?_
    · repeat walk_at "oc"
      rw [List.length_map]
      refine go_d (fun h => ?_) (fun h => ?_)
      · repeat walk_at "oc"
        refine go_take (by decide) (by decide) fun r1 P1 h0 h1 => ?_
        repeat walk_at "oc"
        refine go_take (by omega) (by omega) fun r2 P2 h2 h3 => ?_
        repeat walk_at "oc"
        rw [List.length_map]
        repeat walk_at "oc"
        refine go_lcr (σw := [some (.ref p), some (.ref b), some (.ref q0), some (.int (1 + r1)), some (.int r2), none, none, none]) rfl (fun j T3 L3 acc => T3 = T' ∧ L3 = purseC p P2 :: pt q0 (.lst []) :: R ∧ ∃ zs : List Int, acc = zs.map V.int ∧ zs.length ≤ j) ⟨rfl, rfl, [], rfl, Nat.le_refl _⟩ ?_ ?_
        · rintro j T3 L3 acc Dl hj ⟨rfl, rfl, zs, rfl, hzs⟩
          have hj : j < ks.length := by omega
          rw [show (0 : Int) + (j : Int) = (j : Int) by omega]
          repeat walk_at "oc"
          refine go_d (fun h => ?_) (fun h => ?_)
          · repeat walk_at "oc"
            refine go_sqL (atI_of (int_get (List.getElem?_eq_getElem hj))) ?_
            refine go_item (sz100l (by rw [List.length_map]; omega)) ⟨rfl, rfl, zs ++ [ks[j]], by rw [List.map_append]; rfl, by rw [List.length_append, List.length_singleton]; omega⟩
          · repeat walk_at "oc"
            exact go_skip ⟨rfl, rfl, zs, rfl, by omega⟩
        · rintro T3 L3 acc Dl ⟨rfl, rfl, zs, rfl, hzs⟩
          repeat walk_at "oc"
          dsimp only
          exact go_at' (L' := pt Dl (.lst (zs.map V.int)) :: purseC p P2 :: R) ⟨rfl, Dl, zs, P2, _, _, _, by omega, rfl, rfl⟩
      · repeat walk_at "oc"
        refine go_over (xs := ks.map V.int) (fun j σ1 T3 L3 => T3 = T' ∧ ∃ (zs : List Int) (P1 : Pu) (v5 : Option V), zs.length ≤ j ∧ σ1 = [some (.ref p), some (.ref b), some (.ref q0), none, none, v5, none, none] ∧ L3 = pt q0 (.lst (zs.map V.int)) :: purseC p P1 :: R) ⟨rfl, [], P0, _, Nat.le_refl _, rfl, rfl⟩ ?_ ?_ ?_
        · rintro j σ1 T3 L3 ⟨rfl, zs, P1, v5, _, rfl, rfl⟩
          infer_instance
        · rintro j w2 σ1 T3 L3 hv ⟨rfl, zs, P1, v5, hzs, rfl, rfl⟩
          have hj := (List.getElem?_eq_some_iff.mp hv).1
          rw [List.length_map] at hj
          rw [int_get (List.getElem?_eq_getElem hj)] at hv
          cases hv
          repeat walk_at "oc"
          refine go_take (by decide) (by decide) fun r1 P2 h0 h1 => ?_
          repeat walk_at "oc"
          refine go_d (fun h => ?_) (fun h => ?_)
          · repeat walk_at "oc"
            dsimp only
            exact go_at' (L' := pt q0 (.lst (zs.map V.int ++ [V.int ks[j]])) :: purseC p P2 :: R) ⟨rfl, zs ++ [ks[j]], P2, _, by rw [List.length_append, List.length_singleton]; omega, rfl, by rw [List.map_append]; rfl⟩
          · repeat walk_at "oc"
            dsimp only
            exact go_at' (L' := pt q0 (.lst (zs.map V.int)) :: purseC p P2 :: R) ⟨rfl, zs, P2, _, by omega, rfl, rfl⟩
        · rintro σ1 T3 L3 ⟨rfl, zs, P1, v5, hzs, rfl, rfl⟩
          rw [List.length_map] at hzs
          dsimp only
          exact go_at' (L' := pt q0 (.lst (zs.map V.int)) :: purseC p P1 :: R) ⟨rfl, q0, zs, P1, _, _, _, hzs, rfl, rfl⟩
    · rintro σ1 T1 L1 ⟨rfl, q, ch, P1, v3, v4, v5, hc, rfl, rfl⟩
      repeat walk_at "oc"
      refine go_take (by decide) (by decide) fun r1 P2 h0 h1 => ?_
      repeat walk_at "oc"
      refine go_cut (fun σ1 T2 L2 => T2 = T1 ∧ ∃ (q : Addr) (ch : List Int), ch.length ≤ ks.length ∧ σ1 = [some (.ref p), some (.ref b), some (.ref q), v3, v4, v5, some (.int r1), none] ∧ L2 = pt q (.lst (ch.map V.int)) :: purseC p P2 :: R) ?_ ?_
      · repeat walk_at "oc"
        refine go_d (fun h => ?_) (fun h => ?_)
        · repeat walk_at "oc"
          rw [List.length_map]
          repeat walk_at "oc"
          refine go_lcr (σw := [some (.ref p), some (.ref b), some (.ref q), v3, v4, v5, some (.int r1), none]) rfl (fun j T3 L3 acc => T3 = T1 ∧ L3 = purseC p P2 :: pt q (.lst (ch.map V.int)) :: R ∧ ∃ zs : List Int, acc = zs.map V.int ∧ zs.length ≤ j) ⟨rfl, rfl, [], rfl, Nat.le_refl _⟩ ?_ ?_
          · rintro j T3 L3 acc Dl hj ⟨rfl, rfl, zs, rfl, hzs⟩
            have hj : j < ch.length := by omega
            rw [show (0 : Int) + (j : Int) = (j : Int) by omega]
            repeat walk_at "oc"
            rw [List.length_map]
            repeat walk_at "oc"
            rw [show (ch.length : Int) - 1 - (j : Int) = ((ch.length - 1 - j : Nat) : Int) by omega]
            have hj2 : ch.length - 1 - j < ch.length := by omega
            refine go_sqL (atI_of (int_get (List.getElem?_eq_getElem hj2))) ?_
            refine go_item (sz100l (by rw [List.length_map]; omega)) ⟨rfl, rfl, zs ++ [ch[ch.length - 1 - j]], by rw [List.map_append]; rfl, by rw [List.length_append, List.length_singleton]; omega⟩
          · rintro T3 L3 acc Dl ⟨rfl, rfl, zs, rfl, hzs⟩
            repeat walk_at "oc"
            dsimp only
            exact go_at' (L' := pt Dl (.lst (zs.map V.int)) :: purseC p P2 :: R) ⟨rfl, Dl, zs, by omega, rfl, rfl⟩
        · repeat walk_at "oc"
          dsimp only
          exact go_at' (L' := pt q (.lst (ch.map V.int)) :: purseC p P2 :: R) ⟨rfl, q, ch, hc, rfl, rfl⟩
      · rintro σ1 T2 L2 ⟨rfl, q, ch, hc, rfl, rfl⟩
        refine go_cut (fun σ1 T3 L2 => T3 = T2 ∧ ∃ (q : Addr) (ch : List Int), ch.length ≤ 400 ∧ σ1 = [some (.ref p), some (.ref b), some (.ref q), v3, v4, v5, some (.int r1), none] ∧ L2 = pt q (.lst (ch.map V.int)) :: purseC p P2 :: R) ?_ ?_
        · repeat walk_at "oc"
          refine go_d (fun h => ?_) (fun h => ?_)
          · repeat walk_at "oc"
            obtain ⟨z1, e1, l1⟩ := cut_ints (ch := ch) (lo := some 1) (hi := none)
            obtain ⟨z2, e2, l2⟩ := cut_ints (ch := ch) (lo := none) (hi := some 1)
            rw [e1, e2]
            repeat walk_at "oc"
            dsimp only
            rename_i q1 q2 q3
            exact go_at' (L' := pt q3 (.lst (z1.map V.int ++ z2.map V.int)) :: purseC p P2 :: R) ⟨rfl, q3, z1 ++ z2, by rw [List.length_append]; omega, rfl, by rw [List.map_append]⟩
          · repeat walk_at "oc"
            dsimp only
            exact go_at' (L' := pt q (.lst (ch.map V.int)) :: purseC p P2 :: R) ⟨rfl, q, ch, by omega, rfl, rfl⟩
        · rintro σ1 T3 L2 ⟨rfl, q, ch, hc2, rfl, rfl⟩
          repeat walk_at "oc"
          exact Go.ent (k q ch P2 hc2)

end


structure OkD (W : Wo) : Prop where
  ok : Okw W.z W.ps W.own 190
  z1 : W.z ≤ 100
def spDivision : Sp := fun vs H Q E => ∃ (p a : Addr) (P : Pu) (W : Wo) (table split : Int) (T : Tups) (R : List Chunk), vs = [.ref p, .ref a, .int table, .int split] ∧ OkD W ∧ Has H (purseC p P :: woodC a W :: R) ∧ HasT H T ∧
  ∀ (d c : Addr) (e : Int) (ch : List Int) P', ch.length < 1000 → Go ((d, [.int split, .int e, .ref c]) :: T) (pt c (.lst (ch.map V.int)) :: purseC p P' :: woodC a W :: R) (Q (.ref d))
theorem go_division {T : Tups} {L R1 R2 : List Chunk} {p a : Addr} {P : Pu} {W : Wo} {table split : Int} {Q : VK} {E : XK} [q1 : Pull purseC L p P R1] [q2 : Pull woodC R1 a W R2] (ok : OkD W)
    (k : ∀ (d c : Addr) (e : Int) (ch : List Int) P', ch.length < 1000 → Go ((d, [.int split, .int e, .ref c]) :: T) (pt c (.lst (ch.map V.int)) :: purseC p P' :: woodC a W :: R2) fun H => Q (.ref d) H) : Go T L fun H => spDivision [.ref p, .ref a, .int table, .int split] H Q E := fun H x t =>
  ⟨p, a, P, W, table, split, T, R2, rfl, ok, x.pull2 (F := purseC) (G := woodC), t, k⟩
def spDeed : Sp := fun vs H Q E => ∃ (p a : Addr) (P : Pu) (W : Wo) (T : Tups) (R : List Chunk), vs = [.ref p, .ref a] ∧ OkD W ∧ Has H (purseC p P :: woodC a W :: R) ∧ HasT H T ∧
  ∀ (q : Addr) (table : Int) (v : V) (dv : Option (Int × Int × List Int)) (bare : Bool) (P' : Pu) (T' : Tups) (X : List Chunk), Mo T T' → DivAt T' X v dv → (bare = true → v = .non) → Go T' (pt q (.lst [.int table, v, .bl bare]) :: purseC p P' :: woodC a W :: X.flatten :: R) (Q (.ref q))
section
variable {P : Program} {w : World} {K : PySem.W.Frag} {mg : Str → Option Value} {base : Heap} {CT CN CV CF CI CL CO : Addr}
theorem sc_law_division : FnScope ["purse", "wood", "table", "split", "many", "own", "kids", "form", "chosen", "entries", "odd", "strange", "pick"] ["purse", "wood", "table", "split"] (defScope s_law_division) := ⟨rfl, rfl, rfl, by decide +kernel, rfl, by decide +kernel, by decide +kernel⟩
theorem d_division {dvs : List V} (tx : Tx K mg "_law_division" "_law_division" s_law_division ["purse", "wood", "table", "split"] dvs) [T : Txt K mg CT CN CV CF CI CL CO] (D_law_take : FnD P w K mg base "_law_take" 1 ["purse", "many"] [] spTake) (D_law_kids : FnD P w K mg base "_law_kids" 1 ["parents"] [] (spKids Wf)) (D_law_some : FnD P w K mg base "_law_some" 2 ["purse", "kids"] [] spSome) (D_law_wrong : FnD P w K mg base "_law_wrong" 2 ["purse", "many"] [] spWrong) : FnD P w K mg base "_law_division" 3 ["purse", "wood", "table", "split"] dvs (spDivision) := by
  obtain ⟨f, fd, ds, F, hm, hb, hd⟩ := tx.ex
  refine ⟨f, fd, ds, okN F sc_law_division (fun vs H Q E h => ?_) (fun cdv A outer s H vs Q E hr tk hp h => ?_), hm, F.kp, hb, hd⟩
  · obtain ⟨p, a, P0, W, table, split, T', R, rfl, okD, hs, ht, k⟩ := h
    rfl
  · obtain ⟨p, a, P0, W, table, split, T', R, rfl, okD, hs, ht, k⟩ := h
    have nd := sc_law_division.nd
    refine ⟨_, (pss_cons (ps_set (i := 4) nd rfl (Or.inl rfl) (pe_callB (callLenK (K := K)) (by rfl) T.n_len (by decide +kernel) (pa_cons (pe_ix (ixSeqK (K := K)) (pv 1) pe_int (fun _ _ => rfl)) pa_nil)))
  (pss_cons (ps_set (i := 5) nd rfl (Or.inl rfl) pe_int)
  (pss_cons (ps_set (i := 6) nd rfl (Or.inl rfl) (pe_lst pa_nil))
  (Evl.pss_cut (ps_if (pt_chain op_le op_lt pe_int (pv 3) (pv 4)) (pss_cons (ps_set (i := 5) nd rfl (Or.inl rfl) (pe_op opAdd (pe_ix (ixSeqK (K := K)) (pe_ix (ixSeqK (K := K)) (pv 1) pe_int (fun _ _ => rfl)) (pv 3) (fun _ _ => rfl)) (pe_callTy callInt (by rfl) T.n_int (by decide +kernel) (pa_cons (pe_cmpR (opEqK (K := K) hr.units) (pv 3) (pv 2) (nomark _)) pa_nil))))
  (pss_one (ps_set (i := 6) nd rfl (Or.inl rfl) (pe_ix (ixSeqK (K := K)) (pe_clD D_law_kids (hr.mono (by decide)) rfl (fun σ => L2N.passAt tk σ) (pa_cons (pe_ix (ixSeqK (K := K)) (pv 1) pe_int (fun _ _ => rfl)) pa_nil)) (pv 3) (fun _ _ => rfl))))) pss_nil)
  (pss_cons (ps_set (i := 7) nd rfl (Or.inl rfl) (pe_clD D_law_take (hr.mono (by decide)) rfl (fun σ => L2N.passAt tk σ) (pa_cons (pv 0) (pa_cons pe_int pa_nil))))
  (pss_cons (ps_if (pt_cmpR (opEqK (K := K) hr.units) (pv 7) pe_int (nomark _)) (pss_one (ps_ret (pe_tup (pa_cons (pv 3) (pa_cons pe_int (pa_cons (pe_lst pa_nil) pa_nil)))))) pss_nil)
  (pss_cons (ps_if (pt_cmpR (opEqK (K := K) hr.units) (pv 7) pe_int (nomark _)) (pss_one (ps_ret (pe_tup (pa_cons (pv 3) (pa_cons (pv 5) (pa_cons (pv 6) pa_nil)))))) pss_nil)
  (pss_cons (ps_if (PW.pt (pw_and (pt_cmpR (opEqK (K := K) hr.units) (pv 7) pe_int (nomark _)) (pw_and1 (pt_cmpR op_gt (pv 5) pe_int (nomark _))))) (pss_one (ps_ret (pe_tup (pa_cons (pv 3) (pa_cons (pe_op op_sub (pv 5) pe_int) (pa_cons (pv 6) pa_nil)))))) pss_nil)
  (pss_cons (ps_if (pt_cmpR (opEqK (K := K) hr.units) (pv 7) pe_int (nomark _)) (pss_one (ps_ret (pe_tup (pa_cons (pv 3) (pa_cons pe_int (pa_cons (pe_slice (slListK (K := K)) (pv 6) (po_some pe_int) po_none) pa_nil)))))) pss_nil)
  (pss_cons (ps_set (i := 8) nd rfl (Or.inl rfl) (pe_clD D_law_some (hr.mono (by decide)) rfl (fun σ => L2N.passAt tk σ) (pa_cons (pv 0) (pa_cons (pv 6) pa_nil))))
  (pss_cons (ps_set (i := 9) nd rfl (Or.inl rfl) (pe_clD D_law_take (hr.mono (by decide)) rfl (fun σ => L2N.passAt tk σ) (pa_cons (pv 0) (pa_cons (pe_op opAdd (pv 5) pe_int) pa_nil))))
  (pss_cons (ps_set (i := 10) nd rfl (Or.inl rfl) (pe_clD D_law_take (hr.mono (by decide)) rfl (fun σ => L2N.passAt tk σ) (pa_cons (pv 0) (pa_cons pe_int pa_nil))))
  (Evl.pss_cut (ps_if (pt_cmpR (opEqK (K := K) hr.units) (pv 10) pe_int (nomark _)) (pss_one (ps_set (i := 9) nd rfl (Or.inl rfl) (pe_op opAdd (pe_op opAdd (pv 5) pe_int) (pe_clD D_law_take (hr.mono (by decide)) rfl (fun σ => L2N.passAt tk σ) (pa_cons (pv 0) (pa_cons pe_int pa_nil)))))) pss_nil)
  (Evl.pss_cut (ps_if (pt_cmpR (opEqK (K := K) hr.units) (pv 10) pe_int (nomark _)) (pss_one (ps_set (i := 9) nd rfl (Or.inl rfl) (pe_op op_sub (pe_un un_neg pe_int) (pe_clD D_law_take (hr.mono (by decide)) rfl (fun σ => L2N.passAt tk σ) (pa_cons (pv 0) (pa_cons pe_int pa_nil)))))) pss_nil)
  (pss_cons (ps_if (pt_cmpR (opEqK (K := K) hr.units) (pv 10) pe_int (nomark _)) (pss_cons (ps_set (i := 11) nd rfl (Or.inl rfl) (pe_clD D_law_wrong (hr.mono (by decide)) rfl (fun σ => L2N.passAt tk σ) (pa_cons (pv 0) (pa_cons (pv 4) pa_nil))))
  (pss_cons (ps_set (i := 12) nd rfl (Or.inl rfl) (pe_clD D_law_take (hr.mono (by decide)) rfl (fun σ => L2N.passAt tk σ) (pa_cons (pv 0) (pa_cons pe_int pa_nil))))
  (Evl.pss_cut (ps_if (PW.pt (pw_and (pt_cmpR op_lt (pv 12) pe_int (nomark _)) (pw_and1 (pt_cmpR (opNeK (K := K) hr.units) (pv 8) (pe_lst pa_nil) (nomark _))))) (pss_one (ps_set (i := 11) nd rfl (Or.inl rfl) (pe_ix (ixSeqK (K := K)) (pv 8) (pe_clD D_law_take (hr.mono (by decide)) rfl (fun σ => L2N.passAt tk σ) (pa_cons (pv 0) (pa_cons (pe_callB (callLenK (K := K)) (by rfl) T.n_len (by decide +kernel) (pa_cons (pv 8) pa_nil)) pa_nil))) (fun _ _ => rfl)))) pss_nil)
  (Evl.pss_cut (ps_if (pt_cmpR (opEqK (K := K) hr.units) (pv 12) pe_int (nomark _)) (pss_one (ps_set (i := 11) nd rfl (Or.inl rfl) (pe_clD D_law_take (hr.mono (by decide)) rfl (fun σ => L2N.passAt tk σ) (pa_cons (pv 0) (pa_cons (pv 4) pa_nil))))) pss_nil)
  (pss_one (ps_expr (pe_bmK (K := K) PySem.F.plainAttrs_list PySem.F.slot_list_insert PySem.F.type_list_insert mtInsert (pv 8) (pa_cons (pe_clD D_law_take (hr.mono (by decide)) rfl (fun σ => L2N.passAt tk σ) (pa_cons (pv 0) (pa_cons (pe_op opAdd (pe_callB (callLenK (K := K)) (by rfl) T.n_len (by decide +kernel) (pa_cons (pv 8) pa_nil)) pe_int) pa_nil))) (pa_cons (pv 11) pa_nil))))))))) pss_nil)
  (pss_one (ps_ret (pe_tup (pa_cons (pv 3) (pa_cons (pv 9) (pa_cons (pv 8) pa_nil))))))))))))))))))))), ?_⟩
    refine go_start hs ht ?_
    try dsimp only [cxOf, WOf]
    rw [show L2.start _ _ = [some (.ref p), some (.ref a), some (.int table), some (.int split), none, none, none, none, none, none, none, none, none] from rfl]
    obtain ⟨pa, oa, z, ps, own⟩ := W
    obtain ⟨⟨wf, hol, hfew, hfit⟩, hz1⟩ := id okD
    dsimp only at wf hol hfew hfit hz1 k okD ⊢
    refine Go.perm (L' := purseC p P0 :: pt a (.lst [.int z, .ref pa, .ref oa]) :: pt pa (.lst (ps.map PV)) :: pt oa (.lst (own.map V.int)) :: R) ?_ (.of_eq rfl)
    have fin : ∀ {d c : Addr} {e : Int} {vs : List V} {P' : Pu} {T2 : Tups} {L : List Chunk} [Ent L (pt c (.lst vs) :: purseC p P' :: pt a (.lst [.int z, .ref pa, .ref oa]) :: pt pa (.lst (ps.map PV)) :: pt oa (.lst (own.map V.int)) :: R)] [Mo ((d, [.int split, .int e, .ref c]) :: T') T2] (ch : List Int), vs = ch.map V.int → ch.length < 1000 → Go T2 L (Q (.ref d)) := fun {d c e vs P' T2 L} _ _ ch he h => by
      subst he
      exact Go.entT (T' := (d, [.int split, .int e, .ref c]) :: T') (L' := pt c (.lst (ch.map V.int)) :: purseC p P' :: pt a (.lst [.int z, .ref pa, .ref oa]) :: pt pa (.lst (ps.map PV)) :: pt oa (.lst (own.map V.int)) :: R) ((k d c e ch P' h).perm (.of_eq rfl))
    repeat walk_at "oc"
    rw [List.length_map]
    repeat walk_at "oc"
    rename_i q0
    refine go_cut (fun σ1 T1 L1 => T1 = T' ∧ ∃ (ow : Int) (b : Addr) (ks : List Int), 0 ≤ ow ∧ ow ≤ 200 ∧ ks.length ≤ 200 ∧ σ1 = [some (.ref p), some (.ref a), some (.int table), some (.int split), some (.int (ps.length : Int)), some (.int ow), some (.ref b), none, none, none, none, none, none] ∧ L1 = pt b (.lst (ks.map V.int)) :: purseC p P0 :: pt a (.lst [.int z, .ref pa, .ref oa]) :: pt pa (.lst (ps.map PV)) :: pt oa (.lst (own.map V.int)) :: R) ?_ ?_
    · repeat walk_at "oc"
      by_cases g0 : 0 ≤ split
      rotate_left
      · refine go_dF g0 ?_
        repeat walk_at "oc"
        dsimp only
        exact go_at' (L' := pt q0 (.lst []) :: purseC p P0 :: pt a (.lst [.int z, .ref pa, .ref oa]) :: pt pa (.lst (ps.map PV)) :: pt oa (.lst (own.map V.int)) :: R) ⟨rfl, 0, q0, [], by omega, by omega, by decide, rfl, rfl⟩
      refine go_dT g0 ?_
      repeat walk_at "oc"
      by_cases g1 : split < ps.length
      rotate_left
      · rw [decide_eq_false g1]
        repeat walk_at "oc"
        dsimp only
        exact go_at' (L' := pt q0 (.lst []) :: purseC p P0 :: pt a (.lst [.int z, .ref pa, .ref oa]) :: pt pa (.lst (ps.map PV)) :: pt oa (.lst (own.map V.int)) :: R) ⟨rfl, 0, q0, [], by omega, by omega, by decide, rfl, rfl⟩
      rw [decide_eq_true g1]
      obtain ⟨sn, rfl⟩ : ∃ sn : Nat, split = sn := ⟨split.toNat, by omega⟩
      have hsn : sn < ps.length := by omega
      obtain ⟨f0, f1⟩ := hfit sn hsn
      repeat walk_at "oc"
      refine go_sqL (atI_of (int_get (getD_at (w := own) (c := sn) (by omega)))) ?_
      repeat walk_at "oc"
      refine go_kids wf (by omega) inferInstance fun kk as hl => ?_
      obtain ⟨b, hb⟩ : ∃ b, as[sn]? = some b := ⟨as[sn]'(by omega), List.getElem?_eq_getElem _⟩
      repeat walk_at "oc"
      refine go_sqL (atI_of (vref_get hb)) ?_
      repeat walk_at "oc"
      dsimp only
      refine go_rows_out hb (rowsF_get hsn) ?_
      have hkz := kidsI_le (ps := ps) ps.length sn
      rw [kidsI_full] at hkz
      rw [show VN (kidsF ps sn) = (kidsZ ps sn).map V.int from VN_int _]
      refine go_at' (L' := pt b (.lst ((kidsZ ps sn).map V.int)) :: purseC p P0 :: pt a (.lst [.int z, .ref pa, .ref oa]) :: pt pa (.lst (ps.map PV)) :: pt oa (.lst (own.map V.int)) :: R) ⟨rfl, _, b, kidsZ ps sn, ?_, ?_, by unfold kidsZ; rw [List.length_map]; omega, rfl, rfl⟩
      · split <;> omega
      · split <;> omega
    · rintro σ1 T1 L1 ⟨rfl, ow, b, ks, ho0, ho1, hkl, rfl, rfl⟩
      repeat walk_at "oc"
      refine go_take (by decide) (by decide) fun r1 P1 h0 h1 => ?_
      repeat walk_at "oc"
      refine go_d (fun h => ?_) (fun h => ?_)
      · repeat walk_at "oc"
        rename_i c d
        exact fin (vs := []) (e := 0) (P' := P1) (c := c) [] rfl (by decide)
      · repeat walk_at "oc"
        refine go_d (fun h => ?_) (fun h => ?_)
        · repeat walk_at "oc"
          rename_i d
          exact fin (vs := ks.map V.int) (e := ow) (P' := P1) (c := b) ks rfl (by omega)
        · repeat walk_at "oc"
          refine go_d (fun h => ?_) (fun h => ?_)
          · repeat walk_at "oc"
            refine go_d (fun h7 => ?_) (fun h7 => ?_)
            · repeat walk_at "oc"
              rename_i d
              exact fin (vs := ks.map V.int) (e := ow - 1) (P' := P1) (c := b) ks rfl (by omega)
            · repeat walk_at "oc"
              obtain ⟨z1, e1, l1⟩ := cut_ints (ch := ks) (lo := some 1) (hi := none)
              rw [e1]
              repeat walk_at "oc"
              rename_i c d
              exact fin (vs := z1.map V.int) (e := 0) (P' := P1) (c := c) z1 rfl (by omega)
          · repeat walk_at "oc"
            refine go_some hkl inferInstance fun qc ch P2 hcl => ?_
            repeat walk_at "oc"
            refine go_take (by omega) (by omega) fun e1 P3 h2 h3 => ?_
            repeat walk_at "oc"
            refine go_take (by decide) (by decide) fun od P4 h4 h5 => ?_
            repeat walk_at "oc"
            refine go_cut (fun σ1 T2 L4 => T2 = T1 ∧ ∃ (e : Int) (P5 : Pu), σ1 = [some (.ref p), some (.ref a), some (.int table), some (.int split), some (.int (ps.length : Int)), some (.int ow), some (.ref b), some (.int r1), some (.ref qc), some (.int e), some (.int od), none, none] ∧ L4 = pt qc (.lst (ch.map V.int)) :: purseC p P5 :: pt a (.lst [.int z, .ref pa, .ref oa]) :: pt pa (.lst (ps.map PV)) :: pt oa (.lst (own.map V.int)) :: R) ?_ ?_
            · repeat walk_at "oc"
              refine go_d (fun h => ?_) (fun h => ?_)
              · repeat walk_at "oc"
                refine go_take (by decide) (by decide) fun r6 P6 h6 h7 => ?_
                repeat walk_at "oc"
                dsimp only
                exact go_at' (L' := pt qc (.lst (ch.map V.int)) :: purseC p P6 :: pt a (.lst [.int z, .ref pa, .ref oa]) :: pt pa (.lst (ps.map PV)) :: pt oa (.lst (own.map V.int)) :: R) ⟨rfl, _, P6, rfl, rfl⟩
              · repeat walk_at "oc"
                dsimp only
                exact go_at' (L' := pt qc (.lst (ch.map V.int)) :: purseC p P4 :: pt a (.lst [.int z, .ref pa, .ref oa]) :: pt pa (.lst (ps.map PV)) :: pt oa (.lst (own.map V.int)) :: R) ⟨rfl, _, P4, rfl, rfl⟩
            · rintro σ1 T2 L4 ⟨rfl, e, P5, rfl, rfl⟩
              refine go_cut (fun σ1 T3 L4 => T3 = T2 ∧ ∃ (e : Int) (P5 : Pu), σ1 = [some (.ref p), some (.ref a), some (.int table), some (.int split), some (.int (ps.length : Int)), some (.int ow), some (.ref b), some (.int r1), some (.ref qc), some (.int e), some (.int od), none, none] ∧ L4 = pt qc (.lst (ch.map V.int)) :: purseC p P5 :: pt a (.lst [.int z, .ref pa, .ref oa]) :: pt pa (.lst (ps.map PV)) :: pt oa (.lst (own.map V.int)) :: R) ?_ ?_
              · repeat walk_at "oc"
                refine go_d (fun h => ?_) (fun h => ?_)
                · repeat walk_at "oc"
                  refine go_take (by decide) (by decide) fun r6 P6 h6 h7 => ?_
                  repeat walk_at "oc"
                  dsimp only
                  exact go_at' (L' := pt qc (.lst (ch.map V.int)) :: purseC p P6 :: pt a (.lst [.int z, .ref pa, .ref oa]) :: pt pa (.lst (ps.map PV)) :: pt oa (.lst (own.map V.int)) :: R) ⟨rfl, _, P6, rfl, rfl⟩
                · repeat walk_at "oc"
                  dsimp only
                  exact go_at' (L' := pt qc (.lst (ch.map V.int)) :: purseC p P5 :: pt a (.lst [.int z, .ref pa, .ref oa]) :: pt pa (.lst (ps.map PV)) :: pt oa (.lst (own.map V.int)) :: R) ⟨rfl, _, P5, rfl, rfl⟩
              · rintro σ1 T3 L4 ⟨rfl, e, P5, rfl, rfl⟩
                repeat walk_at "oc"
                refine go_d (fun h => ?_) (fun h => ?_)
                · repeat walk_at "oc"
                  refine go_wrong fun sg P6 => ?_
                  repeat walk_at "oc"
                  refine go_take (by decide) (by decide) fun pk P7 h6 h7 => ?_
                  repeat walk_at "oc"
                  refine go_cut (fun σ1 T4 L4 => T4 = T3 ∧ ∃ (sg : Int) (P6 : Pu), σ1 = [some (.ref p), some (.ref a), some (.int table), some (.int split), some (.int (ps.length : Int)), some (.int ow), some (.ref b), some (.int r1), some (.ref qc), some (.int e), some (.int od), some (.int sg), some (.int pk)] ∧ L4 = pt qc (.lst (ch.map V.int)) :: purseC p P6 :: pt a (.lst [.int z, .ref pa, .ref oa]) :: pt pa (.lst (ps.map PV)) :: pt oa (.lst (own.map V.int)) :: R) ?_ ?_
                  · repeat walk_at "oc"
                    refine go_d (fun h8 => ?_) (fun h8 => ?_)
                    · repeat walk_at "oc"
                      rename_i qe
                      haveI : RdL (pt qe (.lst []) :: purseC p P7 :: pt qc (.lst (ch.map V.int)) :: pt a (.lst [.int z, .ref pa, .ref oa]) :: pt pa (.lst (ps.map PV)) :: pt oa (.lst (own.map V.int)) :: R) qe ((([] : List Int)).map V.int) := (inferInstance : RdL (pt qe (.lst []) :: purseC p P7 :: pt qc (.lst (ch.map V.int)) :: pt a (.lst [.int z, .ref pa, .ref oa]) :: pt pa (.lst (ps.map PV)) :: pt oa (.lst (own.map V.int)) :: R) qe [])
                      refine go_neIS (ns := ch) (ms := []) ?_
                      repeat walk_at "oc"
                      refine go_n (fun hne => ?_) (fun hne => ?_)
                      · have hp : 0 < ch.length := List.length_pos_iff.mpr hne
                        repeat walk_at "oc"
                        rw [List.length_map]
                        refine go_take (by omega) (by omega) fun r8 P8 g8 g9 => ?_
                        obtain ⟨n8, rfl⟩ : ∃ n8 : Nat, r8 = n8 := ⟨r8.toNat, by omega⟩
                        have hn8 : n8 < ch.length := by omega
                        repeat walk_at "oc"
                        refine go_sqL (atI_of (int_get (List.getElem?_eq_getElem hn8))) ?_
                        repeat walk_at "oc"
                        dsimp only
                        exact go_at' (L' := pt qc (.lst (ch.map V.int)) :: purseC p P8 :: pt a (.lst [.int z, .ref pa, .ref oa]) :: pt pa (.lst (ps.map PV)) :: pt oa (.lst (own.map V.int)) :: R) ⟨rfl, _, P8, rfl, rfl⟩
                      · repeat walk_at "oc"
                        dsimp only
                        exact go_at' (L' := pt qc (.lst (ch.map V.int)) :: purseC p P7 :: pt a (.lst [.int z, .ref pa, .ref oa]) :: pt pa (.lst (ps.map PV)) :: pt oa (.lst (own.map V.int)) :: R) ⟨rfl, _, P7, rfl, rfl⟩
                    · repeat walk_at "oc"
                      dsimp only
                      exact go_at' (L' := pt qc (.lst (ch.map V.int)) :: purseC p P7 :: pt a (.lst [.int z, .ref pa, .ref oa]) :: pt pa (.lst (ps.map PV)) :: pt oa (.lst (own.map V.int)) :: R) ⟨rfl, _, P7, rfl, rfl⟩
                  · rintro σ1 T4 L4 ⟨rfl, sg, P7, rfl, rfl⟩
                    refine go_cut (fun σ1 T5 L4 => T5 = T4 ∧ ∃ (sg : Int) (P6 : Pu), σ1 = [some (.ref p), some (.ref a), some (.int table), some (.int split), some (.int (ps.length : Int)), some (.int ow), some (.ref b), some (.int r1), some (.ref qc), some (.int e), some (.int od), some (.int sg), some (.int pk)] ∧ L4 = pt qc (.lst (ch.map V.int)) :: purseC p P6 :: pt a (.lst [.int z, .ref pa, .ref oa]) :: pt pa (.lst (ps.map PV)) :: pt oa (.lst (own.map V.int)) :: R) ?_ ?_
                    · repeat walk_at "oc"
                      refine go_d (fun h8 => ?_) (fun h8 => ?_)
                      · repeat walk_at "oc"
                        refine go_take (by have := wf.pos; omega) (by omega) fun r6 P6 h6 h7 => ?_
                        repeat walk_at "oc"
                        dsimp only
                        exact go_at' (L' := pt qc (.lst (ch.map V.int)) :: purseC p P6 :: pt a (.lst [.int z, .ref pa, .ref oa]) :: pt pa (.lst (ps.map PV)) :: pt oa (.lst (own.map V.int)) :: R) ⟨rfl, _, P6, rfl, rfl⟩
                      · repeat walk_at "oc"
                        dsimp only
                        exact go_at' (L' := pt qc (.lst (ch.map V.int)) :: purseC p P7 :: pt a (.lst [.int z, .ref pa, .ref oa]) :: pt pa (.lst (ps.map PV)) :: pt oa (.lst (own.map V.int)) :: R) ⟨rfl, _, P7, rfl, rfl⟩
                    · rintro σ1 T5 L4 ⟨rfl, sg, P8, rfl, rfl⟩
                      repeat walk_at "oc"
                      rw [List.length_map]
                      repeat walk_at "oc"
                      refine go_take (by omega) (by omega) fun r7 P9 h8 h9 => ?_
                      repeat walk_at "oc"
                      refine go_ins (sz100l (by rw [List.length_map]; omega)) h8 (by omega) ?_
                      repeat walk_at "oc"
                      rename_i d
                      exact fin (vs := (ch.map V.int).take r7.toNat ++ [V.int sg] ++ (ch.map V.int).drop r7.toNat) (e := e) (P' := P9) (c := qc) (ch.take r7.toNat ++ [sg] ++ ch.drop r7.toNat) (by simp only [List.map_append, List.map_take, List.map_drop]; rfl) (by simp only [List.length_append, List.length_take, List.length_drop, List.length_singleton]; omega)
                · repeat walk_at "oc"
                  rename_i d
                  exact fin (vs := ch.map V.int) (e := e) (P' := P5) (c := qc) ch rfl (by omega)

theorem sc_law_deed : FnScope ["purse", "wood", "many", "table", "way", "split"] ["purse", "wood"] (defScope s_law_deed) := ⟨rfl, rfl, rfl, by decide +kernel, rfl, by decide +kernel, by decide +kernel⟩
theorem d_deed {dvs : List V} (tx : Tx K mg "_law_deed" "_law_deed" s_law_deed ["purse", "wood"] dvs) [T : Txt K mg CT CN CV CF CI CL CO] (D_law_take : FnD P w K mg base "_law_take" 1 ["purse", "many"] [] spTake) (D_law_wrong : FnD P w K mg base "_law_wrong" 2 ["purse", "many"] [] spWrong) (D_law_division : FnD P w K mg base "_law_division" 3 ["purse", "wood", "table", "split"] [] spDivision) : FnD P w K mg base "_law_deed" 4 ["purse", "wood"] dvs (spDeed) := by
  obtain ⟨f, fd, ds, F, hm, hb, hd⟩ := tx.ex
  refine ⟨f, fd, ds, okN F sc_law_deed (fun vs H Q E h => ?_) (fun cdv A outer s H vs Q E hr tk hp h => ?_), hm, F.kp, hb, hd⟩
  · obtain ⟨p, a, P0, W, T', R, rfl, okD, hs, ht, k⟩ := h
    rfl
  · obtain ⟨p, a, P0, W, T', R, rfl, okD, hs, ht, k⟩ := h
    have nd := sc_law_deed.nd
    refine ⟨_, (pss_cons (ps_set (i := 2) nd rfl (Or.inl rfl) (pe_callB (callLenK (K := K)) (by rfl) T.n_len (by decide +kernel) (pa_cons (pe_ix (ixSeqK (K := K)) (pv 1) pe_int (fun _ _ => rfl)) pa_nil)))
  (pss_cons (ps_set (i := 3) nd rfl (Or.inl rfl) (pe_clD D_law_take (hr.mono (by decide)) rfl (fun σ => L2N.passAt tk σ) (pa_cons (pv 0) (pa_cons (pv 2) pa_nil))))
  (Evl.pss_cut (ps_if (pt_cmpR (opEqK (K := K) hr.units) (pe_clD D_law_take (hr.mono (by decide)) rfl (fun σ => L2N.passAt tk σ) (pa_cons (pv 0) (pa_cons pe_int pa_nil))) pe_int (nomark _)) (pss_one (ps_set (i := 3) nd rfl (Or.inl rfl) (pe_clD D_law_wrong (hr.mono (by decide)) rfl (fun σ => L2N.passAt tk σ) (pa_cons (pv 0) (pa_cons (pv 2) pa_nil))))) pss_nil)
  (pss_cons (ps_set (i := 4) nd rfl (Or.inl rfl) (pe_clD D_law_take (hr.mono (by decide)) rfl (fun σ => L2N.passAt tk σ) (pa_cons (pv 0) (pa_cons pe_int pa_nil))))
  (pss_cons (ps_if (pt_cmpR op_lt (pv 4) pe_int (nomark _)) (pss_one (ps_ret (pe_lst (pa_cons (pv 3) (pa_cons pe_non (pa_cons (pe_cmpR (opEqK (K := K) hr.units) (pv 4) pe_int (nomark _)) pa_nil)))))) pss_nil)
  (pss_cons (ps_set (i := 5) nd rfl (Or.inl rfl) (pv 3))
  (Evl.pss_cut (ps_if (PW.pt (pw_or (pt_cmpR (opEqK (K := K) hr.units) (pv 4) pe_int (nomark _)) (pw_or1 (pt_cmpR (opEqK (K := K) hr.units) (pv 4) pe_int (nomark _))))) (pss_one (ps_set (i := 5) nd rfl (Or.inl rfl) (pe_clD D_law_take (hr.mono (by decide)) rfl (fun σ => L2N.passAt tk σ) (pa_cons (pv 0) (pa_cons (pv 2) pa_nil))))) pss_nil)
  (Evl.pss_cut (ps_if (pt_cmpR (opEqK (K := K) hr.units) (pv 4) pe_int (nomark _)) (pss_one (ps_set (i := 5) nd rfl (Or.inl rfl) (pe_clD D_law_wrong (hr.mono (by decide)) rfl (fun σ => L2N.passAt tk σ) (pa_cons (pv 0) (pa_cons (pv 2) pa_nil))))) pss_nil)
  (pss_one (ps_ret (pe_lst (pa_cons (pv 3) (pa_cons (pe_clD D_law_division (hr.mono (by decide)) rfl (fun σ => L2N.passAt tk σ) (pa_cons (pv 0) (pa_cons (pv 1) (pa_cons (pv 3) (pa_cons (pv 5) pa_nil))))) (pa_cons pe_bl pa_nil)))))))))))))), ?_⟩
    refine go_start hs ht ?_
    try dsimp only [cxOf, WOf]
    rw [show L2.start _ _ = [some (.ref p), some (.ref a), none, none, none, none] from rfl]
    have wf := okD.ok.wf
    have hfew := okD.ok.few
    have n0 := wf.pos
    obtain ⟨pa, oa, z, ps, own⟩ := W
    dsimp only at wf hfew n0
    refine Go.perm (L' := purseC p P0 :: pt a (.lst [.int z, .ref pa, .ref oa]) :: pt pa (.lst (ps.map PV)) :: pt oa (.lst (own.map V.int)) :: R) ?_ (.of_eq rfl)
    repeat walk_at "oc"
    rw [List.length_map]
    repeat walk_at "oc"
    refine go_take (by omega) (by omega) fun r1 P1 h0 h1 => ?_
    repeat walk_at "oc"
    refine go_cut (fun σ1 T1 L1 => T1 = T' ∧ ∃ (tb : Int) (P2 : Pu), σ1 = [some (.ref p), some (.ref a), some (.int (ps.length : Int)), some (.int tb), none, none] ∧ L1 = purseC p P2 :: woodC a ⟨pa, oa, z, ps, own⟩ :: R) ?_ ?_
    · repeat walk_at "oc"
      refine go_take (by decide) (by decide) fun r2 P2 h2 h3 => ?_
      repeat walk_at "oc"
      refine go_d (fun h => ?_) (fun h => ?_)
      · repeat walk_at "oc"
        refine go_wrong fun sg P3 => ?_
        repeat walk_at "oc"
        dsimp only
        refine Go.ent (wood_close (a := a) (pa := pa) (oa := oa) (z := z) (ps := ps) (own := own) (R := purseC p P3 :: R) ?_)
        exact go_at' (L' := purseC p P3 :: woodC a ⟨pa, oa, z, ps, own⟩ :: R) ⟨rfl, _, P3, rfl, rfl⟩
      · repeat walk_at "oc"
        dsimp only
        refine Go.ent (wood_close (a := a) (pa := pa) (oa := oa) (z := z) (ps := ps) (own := own) (R := purseC p P2 :: R) ?_)
        exact go_at' (L' := purseC p P2 :: woodC a ⟨pa, oa, z, ps, own⟩ :: R) ⟨rfl, _, P2, rfl, rfl⟩
    · rintro σ1 T1 L1 ⟨rfl, tb, P2, rfl, rfl⟩
      repeat walk_at "oc"
      refine go_take (by decide) (by decide) fun wy P3 h2 h3 => ?_
      repeat walk_at "oc"
      refine go_d (fun h => ?_) (fun h => ?_)
      · repeat walk_at "oc"
        rename_i q
        have k2 := k q tb .non none (decide (wy = 0)) P3 T1 [] inferInstance .non (fun _ => rfl)
        exact Go.ent (L' := pt q (.lst [.int tb, .non, .bl (decide (wy = 0))]) :: purseC p P3 :: woodC a ⟨pa, oa, z, ps, own⟩ :: R) (k2.perm (.of_eq rfl))
      · repeat walk_at "oc"
        refine go_cut (fun σ1 T2 L1 => T2 = T1 ∧ ∃ (sp : Int) (P4 : Pu), σ1 = [some (.ref p), some (.ref a), some (.int (ps.length : Int)), some (.int tb), some (.int wy), some (.int sp)] ∧ L1 = purseC p P4 :: woodC a ⟨pa, oa, z, ps, own⟩ :: R) ?_ ?_
        · repeat walk_at "oc"
          by_cases h4 : wy = 4
          · refine go_dT h4 ?_
            repeat walk_at "oc"
            refine go_take (by omega) (by omega) fun r5 P5 h5 h6 => ?_
            repeat walk_at "oc"
            dsimp only
            exact go_at' (L' := purseC p P5 :: woodC a ⟨pa, oa, z, ps, own⟩ :: R) ⟨rfl, _, P5, rfl, rfl⟩
          · refine go_dF h4 ?_
            repeat walk_at "oc"
            refine go_d (fun h5 => ?_) (fun h5 => ?_)
            · repeat walk_at "oc"
              refine go_take (by omega) (by omega) fun r5 P5 h5 h6 => ?_
              repeat walk_at "oc"
              dsimp only
              exact go_at' (L' := purseC p P5 :: woodC a ⟨pa, oa, z, ps, own⟩ :: R) ⟨rfl, _, P5, rfl, rfl⟩
            · repeat walk_at "oc"
              dsimp only
              exact go_at' (L' := purseC p P3 :: woodC a ⟨pa, oa, z, ps, own⟩ :: R) ⟨rfl, _, P3, rfl, rfl⟩
        · rintro σ1 T2 L1 ⟨rfl, sp, P4, rfl, rfl⟩
          refine go_cut (fun σ1 T3 L1 => T3 = T2 ∧ ∃ (sp : Int) (P4 : Pu), σ1 = [some (.ref p), some (.ref a), some (.int (ps.length : Int)), some (.int tb), some (.int wy), some (.int sp)] ∧ L1 = purseC p P4 :: woodC a ⟨pa, oa, z, ps, own⟩ :: R) ?_ ?_
          · repeat walk_at "oc"
            refine go_d (fun h5 => ?_) (fun h5 => ?_)
            · repeat walk_at "oc"
              refine go_wrong fun sg P5 => ?_
              repeat walk_at "oc"
              dsimp only
              exact go_at' (L' := purseC p P5 :: woodC a ⟨pa, oa, z, ps, own⟩ :: R) ⟨rfl, _, P5, rfl, rfl⟩
            · repeat walk_at "oc"
              dsimp only
              exact go_at' (L' := purseC p P4 :: woodC a ⟨pa, oa, z, ps, own⟩ :: R) ⟨rfl, _, P4, rfl, rfl⟩
          · rintro σ1 T3 L1 ⟨rfl, sp, P5, rfl, rfl⟩
            repeat walk_at "oc"
            refine go_division okD fun d c e ch P6 hch => ?_
            repeat walk_at "oc"
            rename_i q
            have k2 := k q tb (.ref d) (some (sp, e, ch)) false P6 ((d, [.int sp, .int e, .ref c]) :: T3) [pt c (.lst (ch.map V.int))] inferInstance (.tup ⟨.head _⟩ inferInstance hch) (fun h => by cases h)
            exact Go.ent (L' := pt q (.lst [.int tb, .ref d, .bl false]) :: purseC p P6 :: woodC a ⟨pa, oa, z, ps, own⟩ :: pt c (.lst (ch.map V.int)) :: R) (k2.perm (.of_eq rfl))

end


structure EK (K : PySem.W.Frag) (D CN CV CF CI CL CO : Addr) (n1 n2 n3 : Bool) : Prop where
  e : ExcC K D
  x : XfC K D
  n : PySem.W.findIn K (.ref D) "table" = some none
  k1 : PySem.W.kitOne K (.ref D) (.ref CN) = some n1
  k2 : PySem.W.kitOne K (.ref D) (.ref CV) = some n2
  k3 : PySem.W.kitOne K (.ref D) (.ref CF) = some n3
  k4 : PySem.W.kitOne K (.ref D) (.ref CI) = some false
  k5 : PySem.W.kitOne K (.ref D) (.ref CL) = some false
  kV : PySem.W.kitOne K (.ref D) (.type "ValueError") = some true
  h : PySem.W.exmOne K (.ref D) (.ref CO) = some true
class TxtX (K : PySem.W.Frag) (CN CV CF CI CL CO : Addr) : Prop where
  eN : EK K CN CN CV CF CI CL CO true false false
  eV : EK K CV CN CV CF CI CL CO false true false
  eF : EK K CF CN CV CF CI CL CO false false true
theorem fin_code {z : Int} {ps : Ps} {own : List Int} {c x : Int} (h : fin_ z ps own = .no c x) : c = 4 := by
  unfold fin_ at h
  split at h
  · injection h with a b
    exact a.symm
  · cases h
theorem arr_code {z : Int} {ps : Ps} {own : List Int} {table : Int} {dv : Option (Int × Int × List Int)} {c x : Int} (h : arrF z ps own table dv = .no c x) : c = 1 ∨ c = 2 ∨ c = 4 := by
  unfold arrF at h
  split at h
  · split at h
    · exact .inr (.inr (fin_code h))
    · split at h
      · exact .inr (.inr (fin_code h))
      · injection h with a b
        exact .inr (.inl a.symm)
  · injection h with a b
    exact .inl a.symm
def spOut (CT : Addr) : Sp := fun vs H Q E => ∃ (t : Addr) (table : Int) (v : V) (dv : Option (Int × Int × List Int)) (bare : Bool) (D : Tr) (T : Tups) (R : List Chunk), vs = [.ref t, .int table, v, .bl bare] ∧ (bare = true → v = .non) ∧ OkTr D ∧ D.ps.length ≤ 900 ∧ DivAt T R v dv ∧ Has H (treeC CT t D :: R) ∧ HasT H T ∧
  (∀ code x, arrF D.z D.ps D.own table dv = .no code x → ∀ q, Go T (pt q (.lst [.int code, .int x, .non]) :: treeC CT t D :: R) (Q (.ref q))) ∧
  (∀ ps2 own2, arrF D.z D.ps D.own table dv = .ok ps2 own2 → ∀ q t2 D2, D2.z = D.z → D2.ps = ps2 → D2.own = own2 → OkTr D2 → Go T (pt q (.lst [.int 0, .non, .ref t2]) :: treeC CT t2 D2 :: treeC CT t D :: R) (Q (.ref q)))
theorem go_arrive {CT CN CV CF : Addr} {T : Tups} {L R : List Chunk} {t : Addr} {table : Int} {v : V} {dv : Option (Int × Int × List Int)} {D : Tr} {Q : VK} {E : XK} [q : Pull (treeC CT) L t D R] (ok : OkTr D) (hf : D.ps.length ≤ 900) (hd : DivAt T R v dv)
    (k0 : ∀ code x, arrF D.z D.ps D.own table dv = .no code x → Rs T (treeC CT t D :: R) E (clsA CN CV CF code) [(("table" : Str), .int x)])
    (k1 : ∀ ps2 own2, arrF D.z D.ps D.own table dv = .ok ps2 own2 → ∀ t2 D2, D2.z = D.z → D2.ps = ps2 → D2.own = own2 → OkTr D2 → Go T (treeC CT t2 D2 :: treeC CT t D :: R) fun H => Q (.ref t2) H) : Go T L fun H => spArrive CT CN CV CF [.ref t, .int table, v] H Q E := fun H x y =>
  ⟨t, table, v, dv, D, T, R, rfl, ok, hf, hd, x.pull (F := treeC CT), y, k0, k1⟩
section
variable {P : Program} {w : World} {K : PySem.W.Frag} {mg : Str → Option Value} {base : Heap} {CT CN CV CF CI CL CO : Addr}
theorem sc_law_outcome : FnScope ["tree", "table", "division", "bare", "after", "marks", "told", "e"] ["tree", "table", "division", "bare"] (defScope s_law_outcome) := ⟨rfl, rfl, rfl, by decide +kernel, rfl, by decide +kernel, by decide +kernel⟩
theorem d_out {dvs : List V} (tx : Tx K mg "_law_outcome" "_law_outcome" s_law_outcome ["tree", "table", "division", "bare"] dvs) [T : Txt K mg CT CN CV CF CI CL CO] [U : TxtX K CN CV CF CI CL CO] (M_TableTree_arrive : MeD P w K mg base CT "arrive" 6 ["self", "table", "division"] [] (spArrive CT CN CV CF)) (M_TableTree_arrive0 : MeD P w K mg base CT "arrive" 6 ["self", "table", "division"] [.non] (spArrive CT CN CV CF)) : FnD P w K mg base "_law_outcome" 9 ["tree", "table", "division", "bare"] dvs (spOut CT) := by
  obtain ⟨f, fd, ds, F, hm, hb, hd⟩ := tx.ex
  refine ⟨f, fd, ds, okN F sc_law_outcome (fun vs H Q E h => ?_) (fun cdv A outer s H vs Q E hr tk hp h => ?_), hm, F.kp, hb, hd⟩
  · obtain ⟨t, table, v, dv, bare, D, T', R, rfl, hbare, okD, hfew, hdv, hs, ht, k0, k1⟩ := h
    rfl
  · obtain ⟨t, table, v, dv, bare, D, T', R, rfl, hbare, okD, hfew, hdv, hs, ht, k0, k1⟩ := h
    have nd := sc_law_outcome.nd
    refine ⟨_, (pss_cons (ps_set (i := 4) nd rfl (Or.inl rfl) pe_non)
  (pss_cons (ps_set (i := 5) nd rfl (Or.inl rfl) pe_int)
  (pss_cons (ps_set (i := 6) nd rfl (Or.inl rfl) pe_non)
  (pss_cons (L2N.ps_try_as (i := 7) rfl rfl nd rfl rfl ⟨rfl, by decide, .inl T.gOnecopyError⟩ tk (fun W pn xe tk hp => (pss_one (ps_if (pt_val (pv 3)) (pss_one (ps_set (i := 4) nd rfl (Or.inl rfl) (pe_meD (pv 0) T.cTableTree M_TableTree_arrive0 (hr.mono (by decide)) (fun σ => L2N.passAt tk σ) (pa_cons (pv 1) pa_nil)))) (pss_one (ps_set (i := 4) nd rfl (Or.inl rfl) (pe_meD (pv 0) T.cTableTree M_TableTree_arrive (hr.mono (by decide)) (fun σ => L2N.passAt tk σ) (pa_cons (pv 1) (pa_cons (pv 2) pa_nil))))))))
  (fun xa xo xc xd pn xz xf => (pss_cons (ps_set (i := 5) nd rfl (Or.inl rfl) (pe_op opAdd (pe_callTy callInt (by rfl) T.n_int (by decide +kernel) (pa_cons (pe_callB (call_isXK (K := K) (List.mem_cons_self) xz.zc xf) (by rfl) T.n_isinstance (by decide +kernel) (pa_cons (pv 7) (pa_cons (pe_glob (v := .ref _) rfl T.gNoTable rfl) pa_nil))) pa_nil)) (pe_op opMul pe_int (pe_callTy callInt (by rfl) T.n_int (by decide +kernel) (pa_cons (pe_callB (call_isXK (K := K) (List.mem_cons_self) xz.zc xf) (by rfl) T.n_isinstance (by decide +kernel) (pa_cons (pv 7) (pa_cons (pe_glob (v := .ref _) rfl T.gInvalidDivision rfl) pa_nil))) pa_nil)))))
  (pss_cons (ps_set (i := 5) nd rfl (Or.inl rfl) (pe_op opAdd (pe_op opAdd (pv 5) (pe_op opMul pe_int (pe_callTy callInt (by rfl) T.n_int (by decide +kernel) (pa_cons (pe_callB (call_isXK (K := K) (List.mem_cons_self) xz.zc xf) (by rfl) T.n_isinstance (by decide +kernel) (pa_cons (pv 7) (pa_cons (pe_glob (v := .ref _) rfl T.gOverfull rfl) pa_nil))) pa_nil)))) (pe_op opMul pe_int (pe_callTy callInt (by rfl) T.n_int (by decide +kernel) (pa_cons (pe_callB (call_isXK (K := K) (List.mem_cons_self) xz.zc xf) (by rfl) T.n_isinstance (by decide +kernel) (pa_cons (pv 7) (pa_cons (pe_glob (v := .ref _) rfl T.gInvalidTree rfl) pa_nil))) pa_nil)))))
  (pss_cons (ps_set (i := 5) nd rfl (Or.inl rfl) (pe_op opAdd (pe_op opAdd (pv 5) (pe_op opMul pe_int (pe_callTy callInt (by rfl) T.n_int (by decide +kernel) (pa_cons (pe_callB (call_isXK (K := K) (List.mem_cons_self) xz.zc xf) (by rfl) T.n_isinstance (by decide +kernel) (pa_cons (pv 7) (pa_cons (pe_glob (v := .ref _) rfl T.gLotError rfl) pa_nil))) pa_nil)))) (pe_op opMul pe_int (pe_callTy callInt (by rfl) T.n_int (by decide +kernel) (pa_cons (pe_not (pe_callB (call_isXK (K := K) (List.mem_cons_self) xz.zc xf) (by rfl) T.n_isinstance (by decide +kernel) (pa_cons (pv 7) (pa_cons (pe_bltn rfl T.n_ValueError (by decide +kernel) (v := .ty "ValueError") rfl) pa_nil)))) pa_nil)))))
  (pss_cons (ps_if (pt_cmpR (opEqK (K := K) hr.units) (pv 5) pe_int (nomark _)) (pss_one (ps_set (i := 5) nd rfl (Or.inl rfl) pe_int)) pss_nil)
  (pss_one (ps_if (PW.pt (pw_or (pt_cmpR (opEqK (K := K) hr.units) (pv 5) pe_int (nomark _)) (pw_or (pt_cmpR (opEqK (K := K) hr.units) (pv 5) pe_int (nomark _)) (pw_or1 (pt_cmpR (opEqK (K := K) hr.units) (pv 5) pe_int (nomark _)))))) (pss_one (ps_set (i := 6) nd rfl (Or.inl rfl) (pe_xFK (K := K) (List.mem_cons_self) xz.zc xf (pv 7)))) pss_nil))))))))
  (pss_one (ps_ret (pe_lst (pa_cons (pv 5) (pa_cons (pv 6) (pa_cons (pv 4) pa_nil)))))))))), ?_⟩
    refine go_start hs ht ?_
    try dsimp only [cxOf, WOf]
    rw [show L2.start _ _ = [some (.ref t), some (.int table), some v, some (.bl bare), none, none, none, none] from rfl]
    cases bare with
    | true =>
      have hv := hbare rfl
      subst hv
      repeat walk_at "oc"
      refine go_arrive okD hfew hdv (fun code x e d => ?_) (fun ps2 own2 e t2 D2 g1 g2 g3 g4 => ?_)
      · rcases arr_code e with rfl | rfl | rfl
        · rw [show clsA CN CV CF 1 = CN from rfl]
          refine go_wAs U.eN.h fun a => ?_
          rw [show List.set _ 7 _ = [some (.ref t), some (.int table), some V.non, some (.bl true), some .non, some (.int 0), some .non, some (.ref a)] from rfl]
          repeat walk_at "oc"
          refine go_isX U.eN.e (fun u h => h) U.eN.k1 ?_
          repeat walk_at "oc"
          refine go_isX U.eN.e (fun u h => h) U.eN.k2 ?_
          repeat walk_at "oc"
          refine go_isX U.eN.e (fun u h => h) U.eN.k3 ?_
          repeat walk_at "oc"
          refine go_isX U.eN.e (fun u h => h) U.eN.k4 ?_
          repeat walk_at "oc"
          refine go_isX U.eN.e (fun u h => h) U.eN.k5 ?_
          repeat walk_at "oc"
          refine go_isX U.eN.e (fun u h => h) U.eN.kV ?_
          repeat walk_at "oc"
          simp only [Bool.false_eq_true, if_false, if_true, Bool.not_true, Int.mul_zero, Int.add_zero, Int.zero_add, Int.mul_one]
          repeat walk_at "oc"
          refine go_xF0 ?_
          repeat walk_at "oc"
          refine go_xF U.eN.x U.eN.n rfl ?_
          repeat walk_at "oc"
          dsimp only [List.set]
          repeat walk_at "oc"
          rename_i q
          exact Go.ent (k0 1 x e q)
        · rw [show clsA CN CV CF 2 = CV from rfl]
          refine go_wAs U.eV.h fun a => ?_
          rw [show List.set _ 7 _ = [some (.ref t), some (.int table), some V.non, some (.bl true), some .non, some (.int 0), some .non, some (.ref a)] from rfl]
          repeat walk_at "oc"
          refine go_isX U.eV.e (fun u h => h) U.eV.k1 ?_
          repeat walk_at "oc"
          refine go_isX U.eV.e (fun u h => h) U.eV.k2 ?_
          repeat walk_at "oc"
          refine go_isX U.eV.e (fun u h => h) U.eV.k3 ?_
          repeat walk_at "oc"
          refine go_isX U.eV.e (fun u h => h) U.eV.k4 ?_
          repeat walk_at "oc"
          refine go_isX U.eV.e (fun u h => h) U.eV.k5 ?_
          repeat walk_at "oc"
          refine go_isX U.eV.e (fun u h => h) U.eV.kV ?_
          repeat walk_at "oc"
          simp only [Bool.false_eq_true, if_false, if_true, Bool.not_true, Int.mul_zero, Int.add_zero, Int.zero_add, Int.mul_one]
          repeat walk_at "oc"
          refine go_xF0 ?_
          repeat walk_at "oc"
          refine go_xF U.eV.x U.eV.n rfl ?_
          repeat walk_at "oc"
          dsimp only [List.set]
          repeat walk_at "oc"
          rename_i q
          exact Go.ent (k0 2 x e q)
        · rw [show clsA CN CV CF 4 = CF from rfl]
          refine go_wAs U.eF.h fun a => ?_
          rw [show List.set _ 7 _ = [some (.ref t), some (.int table), some V.non, some (.bl true), some .non, some (.int 0), some .non, some (.ref a)] from rfl]
          repeat walk_at "oc"
          refine go_isX U.eF.e (fun u h => h) U.eF.k1 ?_
          repeat walk_at "oc"
          refine go_isX U.eF.e (fun u h => h) U.eF.k2 ?_
          repeat walk_at "oc"
          refine go_isX U.eF.e (fun u h => h) U.eF.k3 ?_
          repeat walk_at "oc"
          refine go_isX U.eF.e (fun u h => h) U.eF.k4 ?_
          repeat walk_at "oc"
          refine go_isX U.eF.e (fun u h => h) U.eF.k5 ?_
          repeat walk_at "oc"
          refine go_isX U.eF.e (fun u h => h) U.eF.kV ?_
          repeat walk_at "oc"
          simp only [Bool.false_eq_true, if_false, if_true, Bool.not_true, Int.mul_zero, Int.add_zero, Int.zero_add, Int.mul_one]
          repeat walk_at "oc"
          refine go_xF0 ?_
          repeat walk_at "oc"
          refine go_xF U.eF.x U.eF.n rfl ?_
          repeat walk_at "oc"
          dsimp only [List.set]
          repeat walk_at "oc"
          rename_i q
          exact Go.ent (k0 4 x e q)
      · repeat walk_at "oc"
        dsimp only
        repeat walk_at "oc"
        rename_i q
        exact Go.ent (k1 ps2 own2 e q t2 D2 g1 g2 g3 g4)
    | false =>
      repeat walk_at "oc"
      refine go_arrive okD hfew hdv (fun code x e d => ?_) (fun ps2 own2 e t2 D2 g1 g2 g3 g4 => ?_)
      · rcases arr_code e with rfl | rfl | rfl
        · rw [show clsA CN CV CF 1 = CN from rfl]
          refine go_wAs U.eN.h fun a => ?_
          rw [show List.set _ 7 _ = [some (.ref t), some (.int table), some v, some (.bl false), some .non, some (.int 0), some .non, some (.ref a)] from rfl]
          repeat walk_at "oc"
          refine go_isX U.eN.e (fun u h => h) U.eN.k1 ?_
          repeat walk_at "oc"
          refine go_isX U.eN.e (fun u h => h) U.eN.k2 ?_
          repeat walk_at "oc"
          refine go_isX U.eN.e (fun u h => h) U.eN.k3 ?_
          repeat walk_at "oc"
          refine go_isX U.eN.e (fun u h => h) U.eN.k4 ?_
          repeat walk_at "oc"
          refine go_isX U.eN.e (fun u h => h) U.eN.k5 ?_
          repeat walk_at "oc"
          refine go_isX U.eN.e (fun u h => h) U.eN.kV ?_
          repeat walk_at "oc"
          simp only [Bool.false_eq_true, if_false, if_true, Bool.not_true, Int.mul_zero, Int.add_zero, Int.zero_add, Int.mul_one]
          repeat walk_at "oc"
          refine go_xF0 ?_
          repeat walk_at "oc"
          refine go_xF U.eN.x U.eN.n rfl ?_
          repeat walk_at "oc"
          dsimp only [List.set]
          repeat walk_at "oc"
          rename_i q
          exact Go.ent (k0 1 x e q)
        · rw [show clsA CN CV CF 2 = CV from rfl]
          refine go_wAs U.eV.h fun a => ?_
          rw [show List.set _ 7 _ = [some (.ref t), some (.int table), some v, some (.bl false), some .non, some (.int 0), some .non, some (.ref a)] from rfl]
          repeat walk_at "oc"
          refine go_isX U.eV.e (fun u h => h) U.eV.k1 ?_
          repeat walk_at "oc"
          refine go_isX U.eV.e (fun u h => h) U.eV.k2 ?_
          repeat walk_at "oc"
          refine go_isX U.eV.e (fun u h => h) U.eV.k3 ?_
          repeat walk_at "oc"
          refine go_isX U.eV.e (fun u h => h) U.eV.k4 ?_
          repeat walk_at "oc"
          refine go_isX U.eV.e (fun u h => h) U.eV.k5 ?_
          repeat walk_at "oc"
          refine go_isX U.eV.e (fun u h => h) U.eV.kV ?_
          repeat walk_at "oc"
          simp only [Bool.false_eq_true, if_false, if_true, Bool.not_true, Int.mul_zero, Int.add_zero, Int.zero_add, Int.mul_one]
          repeat walk_at "oc"
          refine go_xF0 ?_
          repeat walk_at "oc"
          refine go_xF U.eV.x U.eV.n rfl ?_
          repeat walk_at "oc"
          dsimp only [List.set]
          repeat walk_at "oc"
          rename_i q
          exact Go.ent (k0 2 x e q)
        · rw [show clsA CN CV CF 4 = CF from rfl]
          refine go_wAs U.eF.h fun a => ?_
          rw [show List.set _ 7 _ = [some (.ref t), some (.int table), some v, some (.bl false), some .non, some (.int 0), some .non, some (.ref a)] from rfl]
          repeat walk_at "oc"
          refine go_isX U.eF.e (fun u h => h) U.eF.k1 ?_
          repeat walk_at "oc"
          refine go_isX U.eF.e (fun u h => h) U.eF.k2 ?_
          repeat walk_at "oc"
          refine go_isX U.eF.e (fun u h => h) U.eF.k3 ?_
          repeat walk_at "oc"
          refine go_isX U.eF.e (fun u h => h) U.eF.k4 ?_
          repeat walk_at "oc"
          refine go_isX U.eF.e (fun u h => h) U.eF.k5 ?_
          repeat walk_at "oc"
          refine go_isX U.eF.e (fun u h => h) U.eF.kV ?_
          repeat walk_at "oc"
          simp only [Bool.false_eq_true, if_false, if_true, Bool.not_true, Int.mul_zero, Int.add_zero, Int.zero_add, Int.mul_one]
          repeat walk_at "oc"
          refine go_xF0 ?_
          repeat walk_at "oc"
          refine go_xF U.eF.x U.eF.n rfl ?_
          repeat walk_at "oc"
          dsimp only [List.set]
          repeat walk_at "oc"
          rename_i q
          exact Go.ent (k0 4 x e q)
      · repeat walk_at "oc"
        dsimp only
        repeat walk_at "oc"
        rename_i q
        exact Go.ent (k1 ps2 own2 e q t2 D2 g1 g2 g3 g4)

end


theorem go_out {CT : Addr} {T : Tups} {L R : List Chunk} {t : Addr} {table : Int} {v : V} {dv : Option (Int × Int × List Int)} {bare : Bool} {D : Tr} {Q : VK} {E : XK} [q : Pull (treeC CT) L t D R] (hb : bare = true → v = .non) (ok : OkTr D) (hf : D.ps.length ≤ 900) (hd : DivAt T R v dv)
    (k0 : ∀ code x, arrF D.z D.ps D.own table dv = .no code x → ∀ q, Go T (pt q (.lst [.int code, .int x, .non]) :: treeC CT t D :: R) fun H => Q (.ref q) H)
    (k1 : ∀ ps2 own2, arrF D.z D.ps D.own table dv = .ok ps2 own2 → ∀ q t2 D2, D2.z = D.z → D2.ps = ps2 → D2.own = own2 → OkTr D2 → Go T (pt q (.lst [.int 0, .non, .ref t2]) :: treeC CT t2 D2 :: treeC CT t D :: R) fun H => Q (.ref q) H) : Go T L fun H => spOut CT [.ref t, .int table, v, .bl bare] H Q E := fun H x y =>
  ⟨t, table, v, dv, bare, D, T, R, rfl, hb, ok, hf, hd, x.pull (F := treeC CT), y, k0, k1⟩
def spOne (CT : Addr) : Sp := fun vs H Q E => ∃ (t a q : Addr) (D : Tr) (W : Wo) (table : Int) (v : V) (dv : Option (Int × Int × List Int)) (bare : Bool) (T : Tups) (R : List Chunk), vs = [.ref t, .ref a, .ref q] ∧ D.z = W.z ∧ D.ps = W.ps ∧ D.own = W.own ∧ OkTr D ∧ Okw W.z W.ps W.own 190 ∧ (bare = true → v = .non) ∧ DivAt T R v dv ∧ Has H (treeC CT t D :: woodC a W :: pt q (.lst [.int table, v, .bl bare]) :: R) ∧ HasT H T ∧
  (∀ code x, arrF W.z W.ps W.own table dv = .no code x → ∀ r, Go T (pt r (.lst [.bl true, .non]) :: treeC CT t D :: woodC a W :: pt q (.lst [.int table, v, .bl bare]) :: R) (Q (.ref r))) ∧
  (∀ ps2 own2, arrF W.z W.ps W.own table dv = .ok ps2 own2 → ∀ r t2 D2, D2.z = W.z → D2.ps = ps2 → D2.own = own2 → OkTr D2 → Go T (pt r (.lst [.bl true, .ref t2]) :: treeC CT t2 D2 :: treeC CT t D :: woodC a W :: pt q (.lst [.int table, v, .bl bare]) :: R) (Q (.ref r)))
section
variable {P : Program} {w : World} {K : PySem.W.Frag} {mg : Str → Option Value} {base : Heap} {CT CN CV CF CI CL CO : Addr}
theorem sc_law_one : FnScope ["tree", "wood", "deed", "due", "handed", "cards", "result", "after", "own", "parents", "same", "good"] ["tree", "wood", "deed"] (defScope s_law_one) := ⟨rfl, rfl, rfl, by decide +kernel, rfl, by decide +kernel, by decide +kernel⟩
theorem d_one {dvs : List V} (tx : Tx K mg "_law_one" "_law_one" s_law_one ["tree", "wood", "deed"] dvs) [T : Txt K mg CT CN CV CF CI CL CO] [IC : InsC K CT] (D_law_arrive : FnD P w K mg base "_law_arrive" 2 ["wood", "table", "division"] [] spLArr) (D_law_outcome : FnD P w K mg base "_law_outcome" 9 ["tree", "table", "division", "bare"] [] (spOut CT)) (D_law_whole : FnD P w K mg base "_law_whole" 1 ["actual", "due"] [] spWholeN) (D_law_flag : FnD P w K mg base "_law_flag" 1 ["actual", "due"] [] spFlag) (D_law_tells : FnD P w K mg base "_law_tells" 4 ["tree", "wood"] [] (spTells CT)) (D_law_made : FnD P w K mg base "_law_made" 6 ["wood"] [] (spMade CT)) (M_TableTree_own : MeD P w K mg base CT "own" 1 ["self"] [] (spGet CT fOwn)) (M_TableTree_parents : MeD P w K mg base CT "parents" 1 ["self"] [] (spGet CT fPs)) (M_TableTree_eq : MeD P w K mg base CT "__eq__" 3 ["self", "other"] [] (spEqT CT)) : FnD P w K mg base "_law_one" 11 ["tree", "wood", "deed"] dvs (spOne CT) := by
  obtain ⟨f, fd, ds, F, hm, hb, hd⟩ := tx.ex
  refine ⟨f, fd, ds, okN F sc_law_one (fun vs H Q E h => ?_) (fun cdv A outer s H vs Q E hr tk hp h => ?_), hm, F.kp, hb, hd⟩
  · obtain ⟨t, a, q, D, W, table, v, dv, bare, T', R, rfl, h1, h2, h3, okD, okw, hbare, hdv, hs, ht, k0, k1⟩ := h
    rfl
  · obtain ⟨t, a, q, D, W, table, v, dv, bare, T', R, rfl, h1, h2, h3, okD, okw, hbare, hdv, hs, ht, k0, k1⟩ := h
    have nd := sc_law_one.nd
    refine ⟨_, (pss_cons (ps_set (i := 3) nd rfl (Or.inl rfl) (pe_clD D_law_arrive (hr.mono (by decide)) rfl (fun σ => L2N.passAt tk σ) (pa_cons (pv 1) (pa_cons (pe_ix (ixSeqK (K := K)) (pv 2) pe_int (fun _ _ => rfl)) (pa_cons (pe_ix (ixSeqK (K := K)) (pv 2) pe_int (fun _ _ => rfl)) pa_nil)))))
  (pss_cons (ps_set (i := 4) nd rfl (Or.inl rfl) pe_non)
  (pss_cons (ps_set (i := 5) nd rfl (Or.inl rfl) (pe_lst pa_nil))
  (pss_cons (ps_if (pt_cmpR opNotN (pe_ix (ixSeqK (K := K)) (pv 2) pe_int (fun _ _ => rfl)) pe_non (nomark _)) (pss_cons (ps_set (i := 5) nd rfl (Or.inl rfl) (pe_callTy (callListK (K := K)) (by rfl) T.n_list (by decide +kernel) (pa_cons (pe_ix (ixSeqK (K := K)) (pe_ix (ixSeqK (K := K)) (pv 2) pe_int (fun _ _ => rfl)) pe_int (fun _ _ => rfl)) pa_nil)))
  (pss_one (ps_set (i := 4) nd rfl (Or.inl rfl) (pe_tup (pa_cons (pe_ix (ixSeqK (K := K)) (pe_ix (ixSeqK (K := K)) (pv 2) pe_int (fun _ _ => rfl)) pe_int (fun _ _ => rfl)) (pa_cons (pe_ix (ixSeqK (K := K)) (pe_ix (ixSeqK (K := K)) (pv 2) pe_int (fun _ _ => rfl)) pe_int (fun _ _ => rfl)) (pa_cons (pv 5) pa_nil))))))) pss_nil)
  (pss_cons (ps_set (i := 6) nd rfl (Or.inl rfl) (pe_clD D_law_outcome (hr.mono (by decide)) rfl (fun σ => L2N.passAt tk σ) (pa_cons (pv 0) (pa_cons (pe_ix (ixSeqK (K := K)) (pv 2) pe_int (fun _ _ => rfl)) (pa_cons (pv 4) (pa_cons (pe_ix (ixSeqK (K := K)) (pv 2) pe_int (fun _ _ => rfl)) pa_nil))))))
  (pss_cons (ps_if (PW.pt (pw_and (pt_cmpR opNotN (pv 4) pe_non (nomark _)) (pw_and1 (pt_cmpR (opNeK (K := K) hr.units) (pv 5) (pe_ix (ixSeqK (K := K)) (pe_ix (ixSeqK (K := K)) (pv 2) pe_int (fun _ _ => rfl)) pe_int (fun _ _ => rfl)) (nomark _))))) (pss_one (ps_ret (pe_lst (pa_cons pe_bl (pa_cons pe_non pa_nil))))) pss_nil)
  (pss_cons (ps_expr (pe_bmK (K := K) PySem.F.plainAttrs_list PySem.F.slot_list_append PySem.F.type_list_append mt_append (pv 5) (pa_cons (pe_ix (ixSeqK (K := K)) (pv 2) pe_int (fun _ _ => rfl)) pa_nil)))
  (pss_cons (ps_if (pt_cmpR (opNeK (K := K) hr.units) (pe_ix (ixSeqK (K := K)) (pv 6) pe_int (fun _ _ => rfl)) (pe_ix (ixSeqK (K := K)) (pv 3) pe_int (fun _ _ => rfl)) (nomark _)) (pss_one (ps_ret (pe_lst (pa_cons pe_bl (pa_cons pe_non pa_nil))))) pss_nil)
  (pss_cons (ps_if (pt_cmpR op_gt (pe_ix (ixSeqK (K := K)) (pv 3) pe_int (fun _ _ => rfl)) pe_int (nomark _)) (pss_one (ps_ret (pe_lst (pa_cons (pe_and (pe_clD D_law_whole (hr.mono (by decide)) rfl (fun σ => L2N.passAt tk σ) (pa_cons (pe_ix (ixSeqK (K := K)) (pv 6) pe_int (fun _ _ => rfl)) (pa_cons (pe_ix (ixSeqK (K := K)) (pv 3) pe_int (fun _ _ => rfl)) pa_nil))) (pe_one (pe_clD D_law_tells (hr.mono (by decide)) rfl (fun σ => L2N.passAt tk σ) (pa_cons (pv 0) (pa_cons (pv 1) pa_nil))))) (pa_cons pe_non pa_nil))))) pss_nil)
  (pss_cons (ps_set (i := 7) nd rfl (Or.inl rfl) (pe_ix (ixSeqK (K := K)) (pv 6) pe_int (fun _ _ => rfl)))
  (pss_cons (ps_if (PW.pt (pw_or (pt_not (pt_val (pe_clD D_law_tells (hr.mono (by decide)) rfl (fun σ => L2N.passAt tk σ) (pa_cons (pv 7) (pa_cons (pe_ix (ixSeqK (K := K)) (pv 3) pe_int (fun _ _ => rfl)) pa_nil))))) (pw_or1 (pt_not (pt_val (pe_clD D_law_tells (hr.mono (by decide)) rfl (fun σ => L2N.passAt tk σ) (pa_cons (pv 0) (pa_cons (pv 1) pa_nil)))))))) (pss_one (ps_ret (pe_lst (pa_cons pe_bl (pa_cons pe_non pa_nil))))) pss_nil)
  (pss_cons (ps_set (i := 8) nd rfl (Or.inl rfl) (pe_meD0 (pv 7) T.cTableTree M_TableTree_own (hr.mono (by decide)) (fun σ => L2N.passAt tk σ)))
  (pss_cons (ps_asg pe_int (pg_sub (pv 8) pe_int set_list))
  (pss_cons (ps_set (i := 9) nd rfl (Or.inl rfl) (pe_meD0 (pv 7) T.cTableTree M_TableTree_parents (hr.mono (by decide)) (fun σ => L2N.passAt tk σ)))
  (pss_cons (ps_expr (pe_bmK (K := K) PySem.F.plainAttrs_list PySem.F.slot_list_append PySem.F.type_list_append mt_append (pv 9) (pa_cons pe_int pa_nil)))
  (pss_cons (ps_set (i := 10) nd rfl (Or.inl rfl) (pe_clD D_law_made (hr.mono (by decide)) rfl (fun σ => L2N.passAt tk σ) (pa_cons (pe_ix (ixSeqK (K := K)) (pv 3) pe_int (fun _ _ => rfl)) pa_nil)))
  (pss_cons (ps_set (i := 11) nd rfl (Or.inl rfl) (pe_and (pe_clD D_law_flag (hr.mono (by decide)) rfl (fun σ => L2N.passAt tk σ) (pa_cons (pe_cmpR (opEqO M_TableTree_eq (hr.mono (by decide))) (pv 7) (pv 10) (nomark _)) (pa_cons pe_bl pa_nil))) (pe_one (pe_clD D_law_flag (hr.mono (by decide)) rfl (fun σ => L2N.passAt tk σ) (pa_cons (pe_cmpR (opEqO M_TableTree_eq (hr.mono (by decide))) (pv 10) (pv 7) (nomark _)) (pa_cons pe_bl pa_nil))))))
  (pss_one (ps_ret (pe_lst (pa_cons (pe_and (pv 11) (pe_and (pe_clD D_law_flag (hr.mono (by decide)) rfl (fun σ => L2N.passAt tk σ) (pa_cons (pe_cmpR (opEqO M_TableTree_eq (hr.mono (by decide))) (pv 7) (pv 0) (nomark _)) (pa_cons pe_bl pa_nil))) (pe_one (pe_clD D_law_tells (hr.mono (by decide)) rfl (fun σ => L2N.passAt tk σ) (pa_cons (pv 7) (pa_cons (pe_ix (ixSeqK (K := K)) (pv 3) pe_int (fun _ _ => rfl)) pa_nil)))))) (pa_cons (pv 7) pa_nil)))))))))))))))))))))), ?_⟩
    refine go_start hs ht ?_
    try dsimp only [cxOf, WOf]
    rw [show L2.start _ _ = [some (.ref t), some (.ref a), some (.ref q), none, none, none, none, none, none, none, none, none] from rfl]
    have hdv2 := hdv
    have okw2 : Okw W.z W.ps W.own 900 := ⟨okw.wf, okw.len, by have := okw.few; omega, okw.fit⟩
    have hpos := okw.wf.pos
    have mono : ∀ {T2 : Tups} {R2 : List Chunk} {v : V} {dv : Option (Int × Int × List Int)} [Mo T' T2] [Ent R2 R], DivAt T' R v dv → DivAt T2 R2 v dv := fun {T2 R2 v dv} m n h => by
      cases h with
      | non => exact .non
      | tup kn rd hl => exact .tup ⟨m.sub _ kn.mem⟩ ⟨fun H x => rd.rd H x.ent⟩ hl
    cases hdv with
    | non =>
      repeat walk_at "oc"
      refine go_larr okw2 (mono hdv2) (fun code x ea qd => ?_) (fun ps2 own2 ea qd a2 W2 w1 w2 w3 => ?_)
      · repeat walk_at "oc"
        refine go_out (CT := CT) (t := t) (D := D) (fun h => rfl) okD (by rw [h2]; have := okw.few; omega) (mono hdv2) (fun code2 x2 ea2 qr => ?_) (fun ps3 own3 ea2 qr t2 D2 g1 g2 g3 g4 => ?_)
        all_goals rw [h1, h2, h3, ea] at ea2
        · injection ea2 with e1 e2
          subst e1 e2
          have hc := arr_code ea
          repeat walk_at "oc"
          refine go_wholeN ?_
          rw [show decide (x = x) = true from decide_eq_true rfl]
          repeat walk_at "oc"
          refine go_tells h1 h2 h3 okD ?_
          repeat walk_at "oc"
          rename_i r
          exact Go.entT (k0 code x ea r)
        · cases ea2
      · repeat walk_at "oc"
        refine go_out (CT := CT) (t := t) (D := D) (fun h => rfl) okD (by rw [h2]; have := okw.few; omega) (mono hdv2) (fun code2 x2 ea2 qr => ?_) (fun ps3 own3 ea2 qr t2 D2 g1 g2 g3 g4 => ?_)
        all_goals rw [h1, h2, h3, ea] at ea2
        · cases ea2
        · injection ea2 with e1 e2
          repeat walk_at "oc"
          have q1 : D2.z = W2.z := g1.trans (h1.trans w1.symm)
          have q2 : D2.ps = W2.ps := g2.trans (e1.symm.trans w2.symm)
          have q3 : D2.own = W2.own := g3.trans (e2.symm.trans w3.symm)
          have okT2 : OkT W2.z W2.ps W2.own := by rw [← q1, ← q2, ← q3]; exact g4.ok
          have hne := (arr_ok okw ea).2
          have hpos2 := g4.ok.wf.pos
          have hl2 := g4.ok.len
          have hf2 := g4.ok.few
          refine go_tells q1 q2 q3 g4 ?_
          repeat walk_at "oc"
          refine go_tells h1 h2 h3 okD ?_
          repeat walk_at "oc"
          refine go_get fun qa => ?_
          repeat walk_at "oc"
          refine' go_setL (k := 0) (by exact ixN_nat (by show 0 < (D2.own.map V.int).length; rw [List.length_map]; omega)) rfl ?_
          repeat walk_at "oc"
          refine go_get fun qb => ?_
          repeat walk_at "oc"
          refine go_app ?zz ?_
          case zz => exact sz100l (by show (D2.ps.map PV).length < 1000000; rw [List.length_map]; omega)
          repeat walk_at "oc"
          refine go_made okT2 fun t3 D3 m1 m2 m3 m4 => ?_
          repeat walk_at "oc"
          refine go_eqT (a := t2) (b := t3) (D := D2) (D2 := D3) ?_
          rw [show decide (D2.z = D3.z ∧ D2.ps = D3.ps ∧ D2.own = D3.own) = true from decide_eq_true ⟨q1.trans m1.symm, q2.trans m2.symm, q3.trans m3.symm⟩]
          repeat walk_at "oc"
          refine go_flag ?_
          rw [show decide (true = true) = true from rfl]
          repeat walk_at "oc"
          refine go_eqT (a := t3) (b := t2) (D := D3) (D2 := D2) ?_
          rw [show decide (D3.z = D2.z ∧ D3.ps = D2.ps ∧ D3.own = D2.own) = true from decide_eq_true ⟨m1.trans q1.symm, m2.trans q2.symm, m3.trans q3.symm⟩]
          repeat walk_at "oc"
          refine go_flag ?_
          rw [show decide (true = true) = true from rfl]
          repeat walk_at "oc"
          refine go_eqT (a := t2) (b := t) (D := D2) (D2 := D) ?_
          rw [show decide (D2.z = D.z ∧ D2.ps = D.ps ∧ D2.own = D.own) = false from decide_eq_false fun z => hne ⟨w2.symm.trans (q2.symm.trans (z.2.1.trans h2)), w3.symm.trans (q3.symm.trans (z.2.2.trans h3))⟩]
          repeat walk_at "oc"
          refine go_flag ?_
          rw [show decide (false = false) = true from rfl]
          repeat walk_at "oc"
          refine go_tells q1 q2 q3 g4 ?_
          repeat walk_at "oc"
          rename_i r
          exact Go.entT (k1 ps2 own2 ea r t2 D2 (g1.trans h1) (q2.trans w2) (q3.trans w3) g4)
    | tup kn rd hcl =>
      rename_i d c s e ch
      haveI := kn
      haveI : RdL R c (ch.map V.int) := rd
      repeat walk_at "oc"
      refine go_larr okw2 (mono hdv2) (fun code x ea qd => ?_) (fun ps2 own2 ea qd a2 W2 w1 w2 w3 => ?_)
      · repeat walk_at "oc"
        refine go_out (CT := CT) (t := t) (D := D) (fun h => by cases hbare h) okD (by rw [h2]; have := okw.few; omega) (.tup ⟨.head _⟩ inferInstance hcl) (fun code2 x2 ea2 qr => ?_) (fun ps3 own3 ea2 qr t2 D2 g1 g2 g3 g4 => ?_)
        all_goals rw [h1, h2, h3, ea] at ea2
        · injection ea2 with e1 e2
          subst e1 e2
          have hc := arr_code ea
          repeat walk_at "oc"
          refine go_nF (p := ch = ch) rfl ?_
          repeat walk_at "oc"
          refine go_wholeN ?_
          rw [show decide (x = x) = true from decide_eq_true rfl]
          repeat walk_at "oc"
          refine go_tells h1 h2 h3 okD ?_
          repeat walk_at "oc"
          rename_i r
          exact Go.entT (k0 code x ea r)
        · cases ea2
      · repeat walk_at "oc"
        refine go_out (CT := CT) (t := t) (D := D) (fun h => by cases hbare h) okD (by rw [h2]; have := okw.few; omega) (.tup ⟨.head _⟩ inferInstance hcl) (fun code2 x2 ea2 qr => ?_) (fun ps3 own3 ea2 qr t2 D2 g1 g2 g3 g4 => ?_)
        all_goals rw [h1, h2, h3, ea] at ea2
        · cases ea2
        · injection ea2 with e1 e2
          repeat walk_at "oc"
          refine go_nF (p := ch = ch) rfl ?_
          repeat walk_at "oc"
          have q1 : D2.z = W2.z := g1.trans (h1.trans w1.symm)
          have q2 : D2.ps = W2.ps := g2.trans (e1.symm.trans w2.symm)
          have q3 : D2.own = W2.own := g3.trans (e2.symm.trans w3.symm)
          have okT2 : OkT W2.z W2.ps W2.own := by rw [← q1, ← q2, ← q3]; exact g4.ok
          have hne := (arr_ok okw ea).2
          have hpos2 := g4.ok.wf.pos
          have hl2 := g4.ok.len
          have hf2 := g4.ok.few
          refine go_tells q1 q2 q3 g4 ?_
          repeat walk_at "oc"
          refine go_tells h1 h2 h3 okD ?_
          repeat walk_at "oc"
          refine go_get fun qa => ?_
          repeat walk_at "oc"
          refine' go_setL (k := 0) (by exact ixN_nat (by show 0 < (D2.own.map V.int).length; rw [List.length_map]; omega)) rfl ?_
          repeat walk_at "oc"
          refine go_get fun qb => ?_
          repeat walk_at "oc"
          refine go_app ?zz ?_
          case zz => exact sz100l (by show (D2.ps.map PV).length < 1000000; rw [List.length_map]; omega)
          repeat walk_at "oc"
          refine go_made okT2 fun t3 D3 m1 m2 m3 m4 => ?_
          repeat walk_at "oc"
          refine go_eqT (a := t2) (b := t3) (D := D2) (D2 := D3) ?_
          rw [show decide (D2.z = D3.z ∧ D2.ps = D3.ps ∧ D2.own = D3.own) = true from decide_eq_true ⟨q1.trans m1.symm, q2.trans m2.symm, q3.trans m3.symm⟩]
          repeat walk_at "oc"
          refine go_flag ?_
          rw [show decide (true = true) = true from rfl]
          repeat walk_at "oc"
          refine go_eqT (a := t3) (b := t2) (D := D3) (D2 := D2) ?_
          rw [show decide (D3.z = D2.z ∧ D3.ps = D2.ps ∧ D3.own = D2.own) = true from decide_eq_true ⟨m1.trans q1.symm, m2.trans q2.symm, m3.trans q3.symm⟩]
          repeat walk_at "oc"
          refine go_flag ?_
          rw [show decide (true = true) = true from rfl]
          repeat walk_at "oc"
          refine go_eqT (a := t2) (b := t) (D := D2) (D2 := D) ?_
          rw [show decide (D2.z = D.z ∧ D2.ps = D.ps ∧ D2.own = D.own) = false from decide_eq_false fun z => hne ⟨w2.symm.trans (q2.symm.trans (z.2.1.trans h2)), w3.symm.trans (q3.symm.trans (z.2.2.trans h3))⟩]
          repeat walk_at "oc"
          refine go_flag ?_
          rw [show decide (false = false) = true from rfl]
          repeat walk_at "oc"
          refine go_tells q1 q2 q3 g4 ?_
          repeat walk_at "oc"
          rename_i r
          exact Go.entT (k1 ps2 own2 ea r t2 D2 (g1.trans h1) (q2.trans w2) (q3.trans w3) g4)

end


structure Itm where
  t : Addr
  a : Addr
  D : Tr
  W : Wo
structure OkI (m : Nat) (x : Itm) : Prop where
  h1 : x.D.z = x.W.z
  h2 : x.D.ps = x.W.ps
  h3 : x.D.own = x.W.own
  ok : OkTr x.D
  okw : Okw x.W.z x.W.ps x.W.own m
  z1 : x.W.z ≤ 100
theorem OkI.mono {m n : Nat} {x : Itm} (h : OkI m x) (hm : m ≤ n) : OkI n x := ⟨h.h1, h.h2, h.h3, h.ok, ⟨h.okw.wf, h.okw.len, Nat.le_trans h.okw.few hm, h.okw.fit⟩, h.z1⟩
def itemC (CT : Addr) (x : Itm) : Chunk := treeC CT x.t x.D ++ woodC x.a x.W
def itemsC (CT : Addr) (its : List Itm) : Chunk := (its.map (itemC CT)).flatten
theorem items_at {CT : Addr} : ∀ {its : List Itm} {i : Nat} {x : Itm}, its[i]? = some x → ∃ X : Chunk, (itemsC CT its).Perm (itemC CT x ++ X)
  | [], _, _, h => by cases h
  | y :: its, 0, x, h => by
    cases h
    exact ⟨itemsC CT its, .refl _⟩
  | y :: its, i + 1, x, h => by
    obtain ⟨X, hX⟩ := items_at (CT := CT) (its := its) (i := i) h
    refine ⟨itemC CT y ++ X, ?_⟩
    show (itemC CT y ++ itemsC CT its).Perm _
    refine (List.Perm.append_left _ hX).trans ?_
    rw [← List.append_assoc, ← List.append_assoc]
    exact List.Perm.append_right _ List.perm_append_comm
theorem items_snoc {CT : Addr} {its : List Itm} {x : Itm} : itemsC CT (its ++ [x]) = itemsC CT its ++ itemC CT x := by
  unfold itemsC
  rw [List.map_append, List.flatten_append]
  simp
theorem items_one {CT t a : Addr} {D : Tr} {W : Wo} {T : Tups} {R : List Chunk} {N : Hp → Prop} (h : Go T (itemsC CT [⟨t, a, D, W⟩] :: R) N) : Go T (treeC CT t D :: woodC a W :: R) N := h.perm (.of_eq (by simp [itemsC, itemC]))
theorem items_more {CT t a : Addr} {D : Tr} {W : Wo} {its : List Itm} {T : Tups} {R : List Chunk} {N : Hp → Prop} (h : Go T (itemsC CT (its ++ [⟨t, a, D, W⟩]) :: R) N) : Go T (treeC CT t D :: woodC a W :: itemsC CT its :: R) N := h.perm (by
  rw [List.flatten_cons, List.flatten_cons, List.flatten_cons, List.flatten_cons, items_snoc, ← List.append_assoc, ← List.append_assoc]
  exact List.Perm.append_right _ List.perm_append_comm)
theorem rd_flat {X L R : List Chunk} {c : Addr} {xs : List V} [p : PullC L X.flatten R] (r : RdL X c xs) : RdL L c xs := ⟨fun H h => by
  have x1 : Has H (X.flatten :: R) := h.perm p.perm
  have x2 : Has H (X ++ R) := x1.perm (.of_eq (by rw [List.flatten_cons, List.flatten_append]))
  refine r.rd H ⟨fun e he => x2.at_ e (by rw [List.flatten_append]; exact List.mem_append_left _ he), ?_⟩
  have nd := x2.nd
  rw [List.flatten_append, List.map_append] at nd
  exact (List.nodup_append.mp nd).1⟩
theorem DivAt.flat {T T2 : Tups} {X L R : List Chunk} {v : V} {dv : Option (Int × Int × List Int)} [p : PullC L X.flatten R] [m : Mo T T2] (h : DivAt T X v dv) : DivAt T2 L v dv := by
  cases h with
  | non => exact .non
  | tup kn rd hl => exact .tup ⟨m.sub _ kn.mem⟩ (rd_flat (X := X) (R := R) rd) hl
theorem go_fold {K : PySem.W.Frag} {T : Tups} {L : List Chunk} {s : Addr} {ns : List Int} {Q : VK} {E : XK} (r : ScrAt K L s ns) (k : ∀ z, Go T L fun H => Q (.int z) H) : Go T L fun H => spFold K [.ref s] H Q E := fun H x t => ⟨s, ns, T, L, rfl, r, x, t, k⟩
theorem go_wood {K : PySem.W.Frag} {T : Tups} {L : List Chunk} {s : Addr} {ns : List Int} {z : Int} {Q : VK} {E : XK} (r : ScrAt K L s ns) (k : ∀ a W, W.z ≤ 100 → W.ps.length ≤ 100 → OkT W.z W.ps W.own → Go T (woodC a W :: L) fun H => Q (.ref a) H) : Go T L fun H => spWood K [.ref s, .int z] H Q E := fun H x t => ⟨s, ns, z, T, L, rfl, r, x, t, k⟩
theorem go_deed {T : Tups} {L R1 R2 : List Chunk} {p a : Addr} {P : Pu} {W : Wo} {Q : VK} {E : XK} [q1 : Pull purseC L p P R1] [q2 : Pull woodC R1 a W R2] (ok : OkD W)
    (k : ∀ (q : Addr) (table : Int) (v : V) (dv : Option (Int × Int × List Int)) (bare : Bool) (P' : Pu) (T' : Tups) (X : List Chunk), Mo T T' → DivAt T' X v dv → (bare = true → v = .non) → Go T' (pt q (.lst [.int table, v, .bl bare]) :: purseC p P' :: woodC a W :: X.flatten :: R2) fun H => Q (.ref q) H) : Go T L fun H => spDeed [.ref p, .ref a] H Q E := fun H x t =>
  ⟨p, a, P, W, T, R2, rfl, ok, x.pull2 (F := purseC) (G := woodC), t, k⟩
theorem go_one {CT : Addr} {T : Tups} {L R1 R2 R3 : List Chunk} {t a q : Addr} {D : Tr} {W : Wo} {table : Int} {v : V} {dv : Option (Int × Int × List Int)} {bare : Bool} {Q : VK} {E : XK} [q1 : Pull (treeC CT) L t D R1] [q2 : Pull woodC R1 a W R2] [q3 : Pull pt R2 q (.lst [.int table, v, .bl bare]) R3] (h1 : D.z = W.z) (h2 : D.ps = W.ps) (h3 : D.own = W.own) (ok : OkTr D) (okw : Okw W.z W.ps W.own 190) (hb : bare = true → v = .non) (hd : DivAt T R3 v dv)
    (k0 : ∀ code x, arrF W.z W.ps W.own table dv = .no code x → ∀ r, Go T (pt r (.lst [.bl true, .non]) :: treeC CT t D :: woodC a W :: pt q (.lst [.int table, v, .bl bare]) :: R3) fun H => Q (.ref r) H)
    (k1 : ∀ ps2 own2, arrF W.z W.ps W.own table dv = .ok ps2 own2 → ∀ r t2 D2, D2.z = W.z → D2.ps = ps2 → D2.own = own2 → OkTr D2 → Go T (pt r (.lst [.bl true, .ref t2]) :: treeC CT t2 D2 :: treeC CT t D :: woodC a W :: pt q (.lst [.int table, v, .bl bare]) :: R3) fun H => Q (.ref r) H) : Go T L fun H => spOne CT [.ref t, .ref a, .ref q] H Q E := fun H x y =>
  ⟨t, a, q, D, W, table, v, dv, bare, T, R3, rfl, h1, h2, h3, ok, okw, hb, hd, x.perm (q1.perm.trans (List.Perm.append_left _ (q2.perm.trans (List.Perm.append_left _ q3.perm)))), y, k0, k1⟩
def spLaw (K : PySem.W.Frag) : Sp := fun vs H Q E => ∃ (s : Addr) (ns : List Int) (T : Tups) (L : List Chunk), vs = [.ref s] ∧ (∀ H, Has H L → SqL K H s (ns.map V.int)) ∧ ns.length ≤ 100000 ∧ Has H L ∧ HasT H T ∧ ∀ H', Q (.bl true) H'
section
variable {P : Program} {w : World} {K : PySem.W.Frag} {mg : Str → Option Value} {base : Heap} {CT CN CV CF CI CL CO : Addr}
theorem sc_law : FnScope ["script", "seed", "wood", "trees", "woods", "at", "count", "k", "purse", "deed", "first", "second", "due"] ["script"] (defScope s_law) := ⟨rfl, rfl, rfl, by decide +kernel, rfl, by decide +kernel, by decide +kernel⟩
theorem d_law {f : Addr} {fd : FuncData} (F : FunG K "law" "law" s_law f fd) [T : Txt K mg CT CN CV CF CI CL CO] (D_law_fold : FnD P w K mg base "_law_fold" 1 ["script"] [] (spFold K)) (D_law_wood : FnD P w K mg base "_law_wood" 3 ["script", "seed"] [] (spWood K)) (D_law_made : FnD P w K mg base "_law_made" 6 ["wood"] [] (spMade CT)) (D_law_purse : FnD P w K mg base "_law_purse" 1 ["script", "k", "seed"] [] (spPurse K)) (D_law_take : FnD P w K mg base "_law_take" 1 ["purse", "many"] [] spTake) (D_law_deed : FnD P w K mg base "_law_deed" 4 ["purse", "wood"] [] spDeed) (D_law_one : FnD P w K mg base "_law_one" 11 ["tree", "wood", "deed"] [] (spOne CT)) (D_law_flag : FnD P w K mg base "_law_flag" 1 ["actual", "due"] [] spFlag) (D_law_arrive : FnD P w K mg base "_law_arrive" 2 ["wood", "table", "division"] [] spLArr) (D_law_tells : FnD P w K mg base "_law_tells" 4 ["tree", "wood"] [] (spTells CT)) (M_TableTree_eq : MeD P w K mg base CT "__eq__" 3 ["self", "other"] [] (spEqT CT)) : FnOk P w K mg base (L2N.CX P w) 13 f fd ["script"] (spLaw K) := by
  refine okN F sc_law (fun vs H Q E h => ?_) (fun cdv A outer s H vs Q E hr tk hp h => ?_)
  · obtain ⟨s, ns, T', L, rfl, hr0, hz, hs, ht, k⟩ := h
    rfl
  · obtain ⟨s, ns, T', L, rfl, hr0, hz, hs, ht, k⟩ := h
    have nd := sc_law.nd
    refine ⟨_, (pss_cons (ps_set (i := 1) nd rfl (Or.inl rfl) (pe_clD D_law_fold (hr.mono (by decide)) rfl (fun σ => L2N.passAt tk σ) (pa_cons (pv 0) pa_nil)))
  (pss_cons (ps_set (i := 2) nd rfl (Or.inl rfl) (pe_clD D_law_wood (hr.mono (by decide)) rfl (fun σ => L2N.passAt tk σ) (pa_cons (pv 0) (pa_cons (pv 1) pa_nil))))
  (pss_cons (ps_set (i := 3) nd rfl (Or.inl rfl) (pe_lst (pa_cons (pe_clD D_law_made (hr.mono (by decide)) rfl (fun σ => L2N.passAt tk σ) (pa_cons (pv 2) pa_nil)) pa_nil)))
  (pss_cons (ps_set (i := 4) nd rfl (Or.inl rfl) (pe_lst (pa_cons (pv 2) pa_nil)))
  (pss_cons (ps_set (i := 5) nd rfl (Or.inl rfl) pe_int)
  (pss_cons (ps_set (i := 6) nd rfl (Or.inl rfl) (pe_op opAdd pe_int (pe_clD D_law_take (hr.mono (by decide)) rfl (fun σ => L2N.passAt tk σ) (pa_cons (pe_clD D_law_purse (hr.mono (by decide)) rfl (fun σ => L2N.passAt tk σ) (pa_cons (pv 0) (pa_cons pe_int (pa_cons (pv 1) pa_nil)))) (pa_cons pe_int pa_nil)))))
  (pss_cons (ps_for hp rfl (pi_range1 rfl T.n_range (pa_cons (pv 6) pa_nil)) (pg_name (i := 7) nd rfl (Or.inl rfl))
  (pss_cons (ps_set (i := 8) nd rfl (Or.inl rfl) (pe_clD D_law_purse (hr.mono (by decide)) rfl (fun σ => L2N.passAt tk σ) (pa_cons (pv 0) (pa_cons (pe_op opAdd pe_int (pv 7)) (pa_cons (pv 1) pa_nil)))))
  (pss_cons (ps_set (i := 9) nd rfl (Or.inl rfl) (pe_clD D_law_deed (hr.mono (by decide)) rfl (fun σ => L2N.passAt tk σ) (pa_cons (pv 8) (pa_cons (pe_ix (ixSeqK (K := K)) (pv 4) (pv 5) (fun _ _ => rfl)) pa_nil))))
  (pss_cons (ps_set (i := 10) nd rfl (Or.inl rfl) (pe_clD D_law_one (hr.mono (by decide)) rfl (fun σ => L2N.passAt tk σ) (pa_cons (pe_ix (ixSeqK (K := K)) (pv 3) (pv 5) (fun _ _ => rfl)) (pa_cons (pe_ix (ixSeqK (K := K)) (pv 4) (pv 5) (fun _ _ => rfl)) (pa_cons (pv 9) pa_nil)))))
  (pss_cons (ps_set (i := 11) nd rfl (Or.inl rfl) (pe_clD D_law_one (hr.mono (by decide)) rfl (fun σ => L2N.passAt tk σ) (pa_cons (pe_ix (ixSeqK (K := K)) (pv 3) (pv 5) (fun _ _ => rfl)) (pa_cons (pe_ix (ixSeqK (K := K)) (pv 4) (pv 5) (fun _ _ => rfl)) (pa_cons (pv 9) pa_nil)))))
  (pss_cons (ps_if (PW.pt (pw_or (pt_not (pt_val (pe_ix (ixSeqK (K := K)) (pv 10) pe_int (fun _ _ => rfl)))) (pw_or1 (pt_not (pt_val (pe_ix (ixSeqK (K := K)) (pv 11) pe_int (fun _ _ => rfl))))))) (pss_one (ps_ret pe_bl)) pss_nil)
  (pss_one (ps_if (pt_cmpR opNotN (pe_ix (ixSeqK (K := K)) (pv 10) pe_int (fun _ _ => rfl)) pe_non (nomark _)) (pss_cons (ps_if (pt_not (pt_val (pe_clD D_law_flag (hr.mono (by decide)) rfl (fun σ => L2N.passAt tk σ) (pa_cons (pe_cmpR (opEqO M_TableTree_eq (hr.mono (by decide))) (pe_ix (ixSeqK (K := K)) (pv 10) pe_int (fun _ _ => rfl)) (pe_ix (ixSeqK (K := K)) (pv 11) pe_int (fun _ _ => rfl)) (nomark _)) (pa_cons pe_bl pa_nil))))) (pss_one (ps_ret pe_bl)) pss_nil)
  (pss_cons (ps_set (i := 12) nd rfl (Or.inl rfl) (pe_clD D_law_arrive (hr.mono (by decide)) rfl (fun σ => L2N.passAt tk σ) (pa_cons (pe_ix (ixSeqK (K := K)) (pv 4) (pv 5) (fun _ _ => rfl)) (pa_cons (pe_ix (ixSeqK (K := K)) (pv 9) pe_int (fun _ _ => rfl)) (pa_cons (pe_ix (ixSeqK (K := K)) (pv 9) pe_int (fun _ _ => rfl)) pa_nil)))))
  (pss_cons (ps_expr (pe_bmK (K := K) PySem.F.plainAttrs_list PySem.F.slot_list_append PySem.F.type_list_append mt_append (pv 3) (pa_cons (pe_ix (ixSeqK (K := K)) (pv 10) pe_int (fun _ _ => rfl)) pa_nil)))
  (pss_cons (ps_expr (pe_bmK (K := K) PySem.F.plainAttrs_list PySem.F.slot_list_append PySem.F.type_list_append mt_append (pv 4) (pa_cons (pe_ix (ixSeqK (K := K)) (pv 12) pe_int (fun _ _ => rfl)) pa_nil)))
  (pss_one (ps_if (pt_cmpR op_gt (pe_clD D_law_take (hr.mono (by decide)) rfl (fun σ => L2N.passAt tk σ) (pa_cons (pv 8) (pa_cons pe_int pa_nil))) pe_int (nomark _)) (pss_one (ps_set (i := 5) nd rfl (Or.inl rfl) (pe_op op_sub (pe_callB (callLenK (K := K)) (by rfl) T.n_len (by decide +kernel) (pa_cons (pv 3) pa_nil)) pe_int))) pss_nil)))))) pss_nil))))))))
  (pss_cons (ps_for hp rfl (pi_range1 rfl T.n_range (pa_cons (pe_callB (callLenK (K := K)) (by rfl) T.n_len (by decide +kernel) (pa_cons (pv 3) pa_nil)) pa_nil)) (pg_name (i := 7) nd rfl (Or.inl rfl))
  (pss_one (ps_if (pt_not (pt_val (pe_clD D_law_tells (hr.mono (by decide)) rfl (fun σ => L2N.passAt tk σ) (pa_cons (pe_ix (ixSeqK (K := K)) (pv 3) (pv 7) (fun _ _ => rfl)) (pa_cons (pe_ix (ixSeqK (K := K)) (pv 4) (pv 7) (fun _ _ => rfl)) pa_nil))))) (pss_one (ps_ret pe_bl)) pss_nil)))
  (pss_one (ps_ret pe_bl)))))))))), ?_⟩
    refine go_start hs ht ?_
    try dsimp only [cxOf, WOf]
    rw [show L2.start _ _ = [some (.ref s), none, none, none, none, none, none, none, none, none, none, none, none] from rfl]
    have hscr : ScrAt K L s ns := ⟨hr0, hz⟩
    repeat walk_at "oc"
    refine go_fold hscr fun sd => ?_
    repeat walk_at "oc"
    refine go_wood hscr fun a0 W0 w1 w2 w3 => ?_
    repeat walk_at "oc"
    refine go_made w3 fun t0 D0 d1 d2 d3 d4 => ?_
    repeat walk_at "oc"
    rename_i qt qw
    refine go_purse (k := 3) ⟨fun H x => hr0 H (x.ent (L' := L)), hz⟩ fun p0 P0 => ?_
    repeat walk_at "oc"
    refine go_take (by decide) (by decide) fun cn P1 c0 c1 => ?_
    repeat walk_at "oc"
    refine Go.ent (L' := treeC CT t0 D0 :: woodC a0 W0 :: pt qt (.lst [.ref t0]) :: pt qw (.lst [.ref a0]) :: L) (items_one ?_)
    refine go_range (fun i σ1 T1 L1 => ∃ (its : List Itm) (at_ : Nat) (v7 v8 v9 v10 v11 v12 : Option V), its.length ≤ i + 1 ∧ at_ < its.length ∧ (∀ x ∈ its, OkI (100 + 2 * i) x) ∧ σ1 = [some (.ref s), some (.int sd), some (.ref a0), some (.ref qt), some (.ref qw), some (.int (at_ : Int)), some (.int (1 + cn)), v7, v8, v9, v10, v11, v12] ∧ L1 = itemsC CT its :: pt qt (.lst (its.map fun x => V.ref x.t)) :: pt qw (.lst (its.map fun x => V.ref x.a)) :: L) ⟨[⟨t0, a0, D0, W0⟩], 0, _, _, _, _, _, _, Nat.le_refl _, Nat.succ_pos _, fun x hx => by
      rw [List.mem_singleton] at hx
      subst hx
      exact ⟨d1, d2, d3, d4, ⟨w3.wf, w3.len, w2, w3.fit⟩, w1⟩, rfl, rfl⟩ ?_ ?_
    · rintro i σ1 T1 L1 hi ⟨its, at_, v7, v8, v9, v10, v11, v12, hil, hat, hok, rfl, rfl⟩
      have hi6 : i < 6 := by omega
      have hx := List.getElem?_eq_getElem hat
      generalize its[at_] = x at hx
      have okx := hok x (List.mem_of_getElem? hx)
      have okw := (okx.mono (show 100 + 2 * i ≤ 190 by omega)).okw
      have okw9 : Okw x.W.z x.W.ps x.W.own 900 := ⟨okw.wf, okw.len, by have := okw.few; omega, okw.fit⟩
      obtain ⟨X, hX⟩ := items_at (CT := CT) hx
      have hxt : (its.map fun x => V.ref x.t)[at_]? = some (V.ref x.t) := by rw [List.getElem?_map, hx]; rfl
      have hxa : (its.map fun x => V.ref x.a)[at_]? = some (V.ref x.a) := by rw [List.getElem?_map, hx]; rfl
      have opn : ∀ {R : List Chunk}, (itemsC CT its :: R).flatten.Perm (treeC CT x.t x.D :: woodC x.a x.W :: X :: R).flatten := fun {R} => by
        rw [List.flatten_cons, List.flatten_cons, List.flatten_cons, List.flatten_cons, ← List.append_assoc, ← List.append_assoc]
        exact List.Perm.append_right _ (by have h := hX; unfold itemC at h; exact h)
      refine Go.perm (L' := treeC CT x.t x.D :: woodC x.a x.W :: X :: pt qt (.lst (its.map fun x => V.ref x.t)) :: pt qw (.lst (its.map fun x => V.ref x.a)) :: L) ?_ opn
      repeat walk_at "oc"
      rw [show (4 : Int) + ((0 : Int) + (i : Int)) = ((4 + i : Nat) : Int) by omega]
      refine go_purse (k := 4 + i) ⟨fun H y => hr0 H (y.ent (L' := L)), hz⟩ fun p P2 => ?_
      repeat walk_at "oc"
      refine go_sqL (atI_of hxa) ?_
      repeat walk_at "oc"
      refine go_deed ⟨okw, okx.z1⟩ fun q tb v dv bare P3 T2 X2 m2 hdv hb => ?_
      repeat walk_at "oc"
      refine go_sqL (atI_of hxt) ?_
      repeat walk_at "oc"
      refine go_sqL (atI_of hxa) ?_
      repeat walk_at "oc"
      refine go_one okx.h1 okx.h2 okx.h3 okx.ok okw hb hdv.flat (fun code y e r => ?_) (fun ps2 own2 e r t2 D2 g1 g2 g3 g4 => ?_)
      · repeat walk_at "oc"
        refine go_sqL (atI_of hxt) ?_
        repeat walk_at "oc"
        refine go_sqL (atI_of hxa) ?_
        repeat walk_at "oc"
        refine go_one okx.h1 okx.h2 okx.h3 okx.ok okw hb hdv.flat (fun code2 y2 e2 r2 => ?_) (fun ps3 own3 e2 r2 t3 D3 u1 u2 u3 u4 => by rw [e] at e2; cases e2)
        repeat walk_at "oc"
        dsimp only
        refine Go.ent (L' := treeC CT x.t x.D :: woodC x.a x.W :: X :: pt qt (.lst (its.map fun x => V.ref x.t)) :: pt qw (.lst (its.map fun x => V.ref x.a)) :: L) (Go.perm (L' := itemsC CT its :: pt qt (.lst (its.map fun x => V.ref x.t)) :: pt qw (.lst (its.map fun x => V.ref x.a)) :: L) ?_ opn.symm)
        exact go_at ⟨its, at_, _, _, _, _, _, _, by omega, hat, fun y hy => (hok y hy).mono (by omega), rfl, rfl⟩
      · repeat walk_at "oc"
        refine go_sqL (atI_of hxt) ?_
        repeat walk_at "oc"
        refine go_sqL (atI_of hxa) ?_
        repeat walk_at "oc"
        refine go_one okx.h1 okx.h2 okx.h3 okx.ok okw hb hdv.flat (fun code2 y2 e2 r2 => by rw [e] at e2; cases e2) (fun ps3 own3 e2 r2 t3 D3 u1 u2 u3 u4 => ?_)
        have e3 := e2
        rw [e] at e3
        injection e3 with f1 f2
        repeat walk_at "oc"
        refine go_eqT (a := t2) (b := t3) (D := D2) (D2 := D3) ?_
        rw [show decide (D2.z = D3.z ∧ D2.ps = D3.ps ∧ D2.own = D3.own) = true from decide_eq_true ⟨g1.trans u1.symm, g2.trans (f1.trans u2.symm), g3.trans (f2.trans u3.symm)⟩]
        repeat walk_at "oc"
        refine go_flag ?_
        rw [show decide (true = true) = true from rfl]
        repeat walk_at "oc"
        refine go_sqL (atI_of hxa) ?_
        repeat walk_at "oc"
        refine go_larr okw9 hdv.flat (fun code2 y2 e4 _ => by rw [e] at e4; cases e4) (fun ps4 own4 e4 qd a2 W2 z1 z2 z3 => ?_)
        rw [e] at e4
        injection e4 with b1 b2
        have okn : OkI (100 + 2 * (i + 1)) ⟨t2, a2, D2, W2⟩ := ⟨g1.trans z1.symm, g2.trans (b1.trans z2.symm), g3.trans (b2.trans z3.symm), g4, by
          have := (arr_ok okx.okw e).1
          show Okw W2.z W2.ps W2.own _
          rw [z1, z2, z3, ← b1, ← b2]
          exact this, by show W2.z ≤ 100; rw [z1]; exact okx.z1⟩
        have hm1 : (its.map fun x => V.ref x.t).length < 1000000 := by rw [List.length_map]; omega
        have hm2 : (its.map fun x => V.ref x.a).length < 1000000 := by rw [List.length_map]; omega
        repeat walk_at "oc"
        refine go_take (by decide) (by decide) fun r9 P9 j0 j1 => ?_
        have hok2 : ∀ y ∈ its ++ [(⟨t2, a2, D2, W2⟩ : Itm)], OkI (100 + 2 * (i + 1)) y := fun y hy => by
          rcases List.mem_append.mp hy with hy | hy
          · exact (hok y hy).mono (by omega)
          · rw [List.mem_singleton] at hy
            subst hy
            exact okn
        have hl2 : (its ++ [(⟨t2, a2, D2, W2⟩ : Itm)]).length = its.length + 1 := by rw [List.length_append]; rfl
        have clo : ∀ {N : Hp → Prop}, Go T2 (itemsC CT (its ++ [⟨t2, a2, D2, W2⟩]) :: pt qt (.lst ((its ++ [(⟨t2, a2, D2, W2⟩ : Itm)]).map fun x => V.ref x.t)) :: pt qw (.lst ((its ++ [(⟨t2, a2, D2, W2⟩ : Itm)]).map fun x => V.ref x.a)) :: L) N → Go T2 (treeC CT t2 D2 :: woodC a2 W2 :: treeC CT x.t x.D :: woodC x.a x.W :: X :: pt qt (.lst ((its.map fun x => V.ref x.t) ++ [V.ref t2])) :: pt qw (.lst ((its.map fun x => V.ref x.a) ++ [V.ref a2])) :: L) N := fun {N} h => by
          refine Go.perm (L' := treeC CT t2 D2 :: woodC a2 W2 :: itemsC CT its :: pt qt (.lst ((its.map fun x => V.ref x.t) ++ [V.ref t2])) :: pt qw (.lst ((its.map fun x => V.ref x.a) ++ [V.ref a2])) :: L) (items_more ?_) ?_
          · rw [List.map_append, List.map_append] at h
            exact h
          · rw [List.flatten_cons, List.flatten_cons, List.flatten_cons (l := treeC CT t2 D2), List.flatten_cons (l := woodC a2 W2)]
            exact List.Perm.append_left _ (List.Perm.append_left _ opn.symm)
        repeat walk_at "oc"
        refine go_d (fun h9 => ?_) (fun h9 => ?_)
        · repeat walk_at "oc"
          dsimp only
          refine Go.ent (L' := treeC CT t2 D2 :: woodC a2 W2 :: treeC CT x.t x.D :: woodC x.a x.W :: X :: pt qt (.lst ((its.map fun x => V.ref x.t) ++ [V.ref t2])) :: pt qw (.lst ((its.map fun x => V.ref x.a) ++ [V.ref a2])) :: L) (clo ?_)
          rw [show (((its.map fun x => V.ref x.t) ++ [V.ref t2]).length : Int) - 1 = (its.length : Int) by rw [List.length_append, List.length_map, List.length_singleton]; omega]
          exact go_at ⟨its ++ [⟨t2, a2, D2, W2⟩], its.length, _, _, _, _, _, _, by omega, by omega, hok2, rfl, rfl⟩
        · repeat walk_at "oc"
          dsimp only
          refine Go.ent (L' := treeC CT t2 D2 :: woodC a2 W2 :: treeC CT x.t x.D :: woodC x.a x.W :: X :: pt qt (.lst ((its.map fun x => V.ref x.t) ++ [V.ref t2])) :: pt qw (.lst ((its.map fun x => V.ref x.a) ++ [V.ref a2])) :: L) (clo ?_)
          exact go_at ⟨its ++ [⟨t2, a2, D2, W2⟩], at_, _, _, _, _, _, _, by omega, by omega, hok2, rfl, rfl⟩
    · rintro σ1 T1 L1 ⟨its, at_, v7, v8, v9, v10, v11, v12, hil, hat, hok, rfl, rfl⟩
      have hl100 : its.length ≤ 100 := by omega
      repeat walk_at "oc"
      rw [List.length_map]
      repeat walk_at "oc"
      refine go_range (fun i σ1 T2 L2 => (∃ v7, σ1 = [some (.ref s), some (.int sd), some (.ref a0), some (.ref qt), some (.ref qw), some (.int (at_ : Int)), some (.int (1 + cn)), v7, v8, v9, v10, v11, v12]) ∧ L2 = itemsC CT its :: pt qt (.lst (its.map fun x => V.ref x.t)) :: pt qw (.lst (its.map fun x => V.ref x.a)) :: L) ⟨⟨_, rfl⟩, rfl⟩ ?_ ?_
      · rintro i σ1 T2 L2 hi ⟨⟨v7, rfl⟩, rfl⟩
        have hin : i < its.length := by omega
        rw [show (0 : Int) + (i : Int) = (i : Int) by omega]
        have hx := List.getElem?_eq_getElem hin
        generalize its[i] = x at hx
        have okx := hok x (List.mem_of_getElem? hx)
        obtain ⟨X, hX⟩ := items_at (CT := CT) hx
        have opn : ∀ {R : List Chunk}, (itemsC CT its :: R).flatten.Perm (treeC CT x.t x.D :: woodC x.a x.W :: X :: R).flatten := fun {R} => by
          rw [List.flatten_cons, List.flatten_cons, List.flatten_cons, List.flatten_cons, ← List.append_assoc, ← List.append_assoc]
          exact List.Perm.append_right _ (by have h := hX; unfold itemC at h; exact h)
        refine Go.perm (L' := treeC CT x.t x.D :: woodC x.a x.W :: X :: pt qt (.lst (its.map fun x => V.ref x.t)) :: pt qw (.lst (its.map fun x => V.ref x.a)) :: L) ?_ opn
        repeat walk_at "oc"
        refine go_sqL (atI_of (by rw [List.getElem?_map, hx]; rfl)) ?_
        repeat walk_at "oc"
        refine go_sqL (atI_of (by rw [List.getElem?_map, hx]; rfl)) ?_
        repeat walk_at "oc"
        refine go_tells okx.h1 okx.h2 okx.h3 okx.ok ?_
        repeat walk_at "oc"
        dsimp only
        refine Go.perm (L' := itemsC CT its :: pt qt (.lst (its.map fun x => V.ref x.t)) :: pt qw (.lst (its.map fun x => V.ref x.a)) :: L) ?_ opn.symm
        exact go_at ⟨⟨_, rfl⟩, rfl⟩
      · rintro σ1 T2 L2 ⟨⟨v7, rfl⟩, rfl⟩
        repeat walk_at "oc"
        exact fun H _ _ => k H

end

theorem b0_TableTreeU_initU : B0 "__init__" "TableTree.__init__" s_TableTreeU_initU ["self", "size", "parents", "own"] := fun _ _ _ _ _ _ us hl => match us, hl with | [_, _, _, _], _ => rfl
theorem b0_TableTreeU_eqU : B0 "__eq__" "TableTree.__eq__" s_TableTreeU_eqU ["self", "other"] := fun _ _ _ _ _ _ us hl => match us, hl with | [_, _], _ => rfl
theorem b0_TableTree_parents : B0 "parents" "TableTree.parents" s_TableTree_parents ["self"] := fun _ _ _ _ _ _ us hl => match us, hl with | [_], _ => rfl
theorem b0_TableTree_own : B0 "own" "TableTree.own" s_TableTree_own ["self"] := fun _ _ _ _ _ _ us hl => match us, hl with | [_], _ => rfl
theorem b0_TableTree_weights : B0 "weights" "TableTree.weights" s_TableTree_weights ["self"] := fun _ _ _ _ _ _ us hl => match us, hl with | [_], _ => rfl
theorem b0_TableTreeUcheck_table : B0 "_check_table" "TableTree._check_table" s_TableTreeUcheck_table ["self", "table"] := fun _ _ _ _ _ _ us hl => match us, hl with | [_, _], _ => rfl
theorem b0_TableTreeUcheck_division : B0 "_check_division" "TableTree._check_division" s_TableTreeUcheck_division ["self", "own", "division"] := fun _ _ _ _ _ _ us hl => match us, hl with | [_, _, _], _ => rfl
theorem b1_TableTree_arrive_3_1 : B1 "arrive" "TableTree.arrive" s_TableTree_arrive ["self", "table", "division"] 1 3 1 := fun T kV doc pm an cdv ct us its h1 h2 => match us, its, h1, h2 with | [u0, u1, u2], [t0], _, _ => ⟨_, rfl, rfl⟩
theorem b1_TableTree_arrive_2_0 : B1 "arrive" "TableTree.arrive" s_TableTree_arrive ["self", "table", "division"] 1 2 0 := fun T kV doc pm an cdv ct us its h1 h2 => match us, its, h1, h2 with | [u0, u1], [t0], _, _ => ⟨_, rfl, rfl⟩
theorem bE_NoTableU_initU : BE "NoTable.__init__" s_NoTableU_initU ["self", "table"] := fun _ _ _ _ _ _ _ us hl => match us, hl with | [_, _], _ => rfl
theorem bE_InvalidTreeU_initU : BE "InvalidTree.__init__" s_InvalidTreeU_initU ["self", "table"] := fun _ _ _ _ _ _ _ us hl => match us, hl with | [_, _], _ => rfl
theorem bE_InvalidDivisionU_initU : BE "InvalidDivision.__init__" s_InvalidDivisionU_initU ["self", "table"] := fun _ _ _ _ _ _ _ us hl => match us, hl with | [_, _], _ => rfl
theorem bE_OverfullU_initU : BE "Overfull.__init__" s_OverfullU_initU ["self", "table"] := fun _ _ _ _ _ _ _ us hl => match us, hl with | [_, _], _ => rfl
theorem b0_children_lists : B0 "children_lists" "children_lists" s_children_lists ["parents"] := fun _ _ _ _ _ _ us hl => match us, hl with | [_], _ => rfl
theorem b0_tables_down : B0 "tables_down" "tables_down" s_tables_down ["parents"] := fun _ _ _ _ _ _ us hl => match us, hl with | [_], _ => rfl
theorem b0_table_weights : B0 "table_weights" "table_weights" s_table_weights ["size", "parents", "own"] := fun _ _ _ _ _ _ us hl => match us, hl with | [_, _, _], _ => rfl
theorem b0_divided_lists : B0 "divided_lists" "divided_lists" s_divided_lists ["parents", "own", "division"] := fun _ _ _ _ _ _ us hl => match us, hl with | [_, _, _], _ => rfl
theorem b0_law_fold : B0 "_law_fold" "_law_fold" s_law_fold ["script"] := fun _ _ _ _ _ _ us hl => match us, hl with | [_], _ => rfl
theorem b0_law_purse : B0 "_law_purse" "_law_purse" s_law_purse ["script", "k", "seed"] := fun _ _ _ _ _ _ us hl => match us, hl with | [_, _, _], _ => rfl
theorem b0_law_take : B0 "_law_take" "_law_take" s_law_take ["purse", "many"] := fun _ _ _ _ _ _ us hl => match us, hl with | [_, _], _ => rfl
theorem b0_law_build : B0 "_law_build" "_law_build" s_law_build ["purse", "size"] := fun _ _ _ _ _ _ us hl => match us, hl with | [_, _], _ => rfl
theorem b0_law_fill : B0 "_law_fill" "_law_fill" s_law_fill ["purse", "size", "shape"] := fun _ _ _ _ _ _ us hl => match us, hl with | [_, _, _], _ => rfl
theorem b0_law_labels : B0 "_law_labels" "_law_labels" s_law_labels ["purse", "many"] := fun _ _ _ _ _ _ us hl => match us, hl with | [_, _], _ => rfl
theorem b0_law_labelled : B0 "_law_labelled" "_law_labelled" s_law_labelled ["size", "shape", "filled", "labels"] := fun _ _ _ _ _ _ us hl => match us, hl with | [_, _, _, _], _ => rfl
theorem b0_law_wood : B0 "_law_wood" "_law_wood" s_law_wood ["script", "seed"] := fun _ _ _ _ _ _ us hl => match us, hl with | [_, _], _ => rfl
theorem b0_law_kids : B0 "_law_kids" "_law_kids" s_law_kids ["parents"] := fun _ _ _ _ _ _ us hl => match us, hl with | [_], _ => rfl
theorem b0_law_order : B0 "_law_order" "_law_order" s_law_order ["parents"] := fun _ _ _ _ _ _ us hl => match us, hl with | [_], _ => rfl
theorem b0_law_weights : B0 "_law_weights" "_law_weights" s_law_weights ["wood"] := fun _ _ _ _ _ _ us hl => match us, hl with | [_], _ => rfl
theorem b0_law_whole : B0 "_law_whole" "_law_whole" s_law_whole ["actual", "due"] := fun _ _ _ _ _ _ us hl => match us, hl with | [_, _], _ => rfl
theorem b0_law_flag : B0 "_law_flag" "_law_flag" s_law_flag ["actual", "due"] := fun _ _ _ _ _ _ us hl => match us, hl with | [_, _], _ => rfl
theorem b0_law_row : B0 "_law_row" "_law_row" s_law_row ["actual", "due"] := fun _ _ _ _ _ _ us hl => match us, hl with | [_, _], _ => rfl
theorem b0_law_made : B0 "_law_made" "_law_made" s_law_made ["wood"] := fun _ _ _ _ _ _ us hl => match us, hl with | [_], _ => rfl
theorem b0_law_tells : B0 "_law_tells" "_law_tells" s_law_tells ["tree", "wood"] := fun _ _ _ _ _ _ us hl => match us, hl with | [_, _], _ => rfl
theorem b0_law_arrive : B0 "_law_arrive" "_law_arrive" s_law_arrive ["wood", "table", "division"] := fun _ _ _ _ _ _ us hl => match us, hl with | [_, _, _], _ => rfl
theorem b0_law_wrong : B0 "_law_wrong" "_law_wrong" s_law_wrong ["purse", "many"] := fun _ _ _ _ _ _ us hl => match us, hl with | [_, _], _ => rfl
theorem b0_law_some : B0 "_law_some" "_law_some" s_law_some ["purse", "kids"] := fun _ _ _ _ _ _ us hl => match us, hl with | [_, _], _ => rfl
theorem b0_law_division : B0 "_law_division" "_law_division" s_law_division ["purse", "wood", "table", "split"] := fun _ _ _ _ _ _ us hl => match us, hl with | [_, _, _, _], _ => rfl
theorem b0_law_deed : B0 "_law_deed" "_law_deed" s_law_deed ["purse", "wood"] := fun _ _ _ _ _ _ us hl => match us, hl with | [_, _], _ => rfl
theorem b0_law_outcome : B0 "_law_outcome" "_law_outcome" s_law_outcome ["tree", "table", "division", "bare"] := fun _ _ _ _ _ _ us hl => match us, hl with | [_, _, _, _], _ => rfl
theorem b0_law_one : B0 "_law_one" "_law_one" s_law_one ["tree", "wood", "deed"] := fun _ _ _ _ _ _ us hl => match us, hl with | [_, _, _], _ => rfl
set_option maxHeartbeats 40000000 in
theorem all_mk {l : PySem.W.OpenLaw} {w : World} {K : PySem.W.Frag} {h : Heap} {mg : Str → Option Value} {fa CT CN CV CF CI CL CO f4 : Addr} (X : K.In h) (G : h.Ns mainGlobals mg) (hfa : mg "law" = some (.ref fa))
    {od4 an4 : Option Addr} {sl4 : Array (Option Value)} {oc4 kV4 dc4 pm4 cd4 ct4 : Value}
    (a4 : PySem.W.nsIn K mainGlobals "law" = some (some (.ref f4))) (l4 : K.lookup f4 = some ⟨oc4, od4, .func (PySem.W.fnOf "law" "law" (defArgs s_law) (defBody s_law) (defScope s_law) .none kV4 dc4 pm4 an4 cd4 ct4), sl4⟩) (c4 : PySem.W.codeIn K cd4 "law" = true) (k4 : PySem.W.keepIn K (.ref f4) = true)
    (T : Txt K mg CT CN CV CF CI CL CO)
    (IC : Cls K CT → InsC K CT)
    (xCN : ExcC K CN ∧ XfC K CN)
    (eCN : ExcC K CN → XfC K CN → EK K CN CN CV CF CI CL CO true false false)
    (xCV : ExcC K CV ∧ XfC K CV)
    (eCV : ExcC K CV → XfC K CV → EK K CV CN CV CF CI CL CO false true false)
    (xCF : ExcC K CF ∧ XfC K CF)
    (eCF : ExcC K CF → XfC K CF → EK K CF CN CV CF CI CL CO false false true)
    (nCI : PySem.W.findIn K (.ref CI) "table" = some none)
    (tM_TableTree : TxI K mg CT "TableTree" "TableTree.__init__" s_TableTreeU_initU ["self", "size", "parents", "own"] [])
    (tM_TableTree_eq : TxM K CT "__eq__" "TableTree.__eq__" s_TableTreeU_eqU ["self", "other"] [])
    (tM_TableTree_parents : TxM K CT "parents" "TableTree.parents" s_TableTree_parents ["self"] [])
    (tM_TableTree_own : TxM K CT "own" "TableTree.own" s_TableTree_own ["self"] [])
    (tM_TableTree_weights : TxM K CT "weights" "TableTree.weights" s_TableTree_weights ["self"] [])
    (tM_TableTree_check_table : TxM K CT "_check_table" "TableTree._check_table" s_TableTreeUcheck_table ["self", "table"] [])
    (tM_TableTree_check_division : TxM K CT "_check_division" "TableTree._check_division" s_TableTreeUcheck_division ["self", "own", "division"] [])
    (tM_TableTree_arrive : TxM K CT "arrive" "TableTree.arrive" s_TableTree_arrive ["self", "table", "division"] [])
    (tM_TableTree_arrive0 : TxM K CT "arrive" "TableTree.arrive" s_TableTree_arrive ["self", "table", "division"] [.non])
    (tE_NoTable : TxE l.prog K mg CN "NoTable" "NoTable.__init__" s_NoTableU_initU ["self", "table"])
    (tE_InvalidTree : TxE l.prog K mg CI "InvalidTree" "InvalidTree.__init__" s_InvalidTreeU_initU ["self", "table"])
    (tE_InvalidDivision : TxE l.prog K mg CV "InvalidDivision" "InvalidDivision.__init__" s_InvalidDivisionU_initU ["self", "table"])
    (tE_Overfull : TxE l.prog K mg CF "Overfull" "Overfull.__init__" s_OverfullU_initU ["self", "table"])
    (tchildren_lists : Tx K mg "children_lists" "children_lists" s_children_lists ["parents"] [])
    (ttables_down : Tx K mg "tables_down" "tables_down" s_tables_down ["parents"] [])
    (ttable_weights : Tx K mg "table_weights" "table_weights" s_table_weights ["size", "parents", "own"] [])
    (tdivided_lists : Tx K mg "divided_lists" "divided_lists" s_divided_lists ["parents", "own", "division"] [])
    (t_law_fold : Tx K mg "_law_fold" "_law_fold" s_law_fold ["script"] [])
    (t_law_purse : Tx K mg "_law_purse" "_law_purse" s_law_purse ["script", "k", "seed"] [])
    (t_law_take : Tx K mg "_law_take" "_law_take" s_law_take ["purse", "many"] [])
    (t_law_build : Tx K mg "_law_build" "_law_build" s_law_build ["purse", "size"] [])
    (t_law_fill : Tx K mg "_law_fill" "_law_fill" s_law_fill ["purse", "size", "shape"] [])
    (t_law_labels : Tx K mg "_law_labels" "_law_labels" s_law_labels ["purse", "many"] [])
    (t_law_labelled : Tx K mg "_law_labelled" "_law_labelled" s_law_labelled ["size", "shape", "filled", "labels"] [])
    (t_law_wood : Tx K mg "_law_wood" "_law_wood" s_law_wood ["script", "seed"] [])
    (t_law_kids : Tx K mg "_law_kids" "_law_kids" s_law_kids ["parents"] [])
    (t_law_order : Tx K mg "_law_order" "_law_order" s_law_order ["parents"] [])
    (t_law_weights : Tx K mg "_law_weights" "_law_weights" s_law_weights ["wood"] [])
    (t_law_whole : Tx K mg "_law_whole" "_law_whole" s_law_whole ["actual", "due"] [])
    (t_law_flag : Tx K mg "_law_flag" "_law_flag" s_law_flag ["actual", "due"] [])
    (t_law_row : Tx K mg "_law_row" "_law_row" s_law_row ["actual", "due"] [])
    (t_law_made : Tx K mg "_law_made" "_law_made" s_law_made ["wood"] [])
    (t_law_tells : Tx K mg "_law_tells" "_law_tells" s_law_tells ["tree", "wood"] [])
    (t_law_arrive : Tx K mg "_law_arrive" "_law_arrive" s_law_arrive ["wood", "table", "division"] [])
    (t_law_wrong : Tx K mg "_law_wrong" "_law_wrong" s_law_wrong ["purse", "many"] [])
    (t_law_some : Tx K mg "_law_some" "_law_some" s_law_some ["purse", "kids"] [])
    (t_law_division : Tx K mg "_law_division" "_law_division" s_law_division ["purse", "wood", "table", "split"] [])
    (t_law_deed : Tx K mg "_law_deed" "_law_deed" s_law_deed ["purse", "wood"] [])
    (t_law_outcome : Tx K mg "_law_outcome" "_law_outcome" s_law_outcome ["tree", "table", "division", "bare"] [])
    (t_law_one : Tx K mg "_law_one" "_law_one" s_law_one ["tree", "wood", "deed"] [])
    : ∃ fd : FuncData, (∀ (s : Shared) (v : Value), BindsTo s fd ⟨[v], []⟩ [("script", v)]) ∧ ∀ base : Heap, K.In base → base.Ns mainGlobals mg → FnOk l.prog w K mg base (L2N.CX l.prog w) 13 fa fd ["script"] (spLaw K) := by
  have e := hfa.symm.trans (PySem.W.mg_of X G a4)
  cases e
  refine ⟨PySem.W.fnOf "law" "law" (defArgs s_law) (defBody s_law) (defScope s_law) .none kV4 dc4 pm4 an4 cd4 ct4, fun s v => .of_eq rfl, fun base _ _ => ?_⟩
  haveI I := IC T.cTableTree
  have EN := eCN xCN.1 xCN.2
  have EV := eCV xCV.1 xCV.2
  have EF := eCF xCF.1 xCF.2
  haveI U : TxtX K CN CV CF CI CL CO := ⟨EN, EV, EF⟩
  have R_NoTable := r_NoTable (P := l.prog) (w := w) (base := base) tE_NoTable EN.n
  have R_InvalidTree := r_InvalidTree (P := l.prog) (w := w) (base := base) tE_InvalidTree nCI
  have R_InvalidDivision := r_InvalidDivision (P := l.prog) (w := w) (base := base) tE_InvalidDivision EV.n
  have R_Overfull := r_Overfull (P := l.prog) (w := w) (base := base) tE_Overfull EF.n
  have D_law_fold := d_fold (P := l.prog) (w := w) (base := base) t_law_fold 
  have D_law_purse := d_purse (P := l.prog) (w := w) (base := base) t_law_purse 
  have D_law_take := d_take (P := l.prog) (w := w) (base := base) t_law_take 
  have D_law_kids := d_kids (P := l.prog) (w := w) (base := base) t_law_kids 
  have D_law_order := d_order (P := l.prog) (w := w) (base := base) t_law_order (D_law_kids := D_law_kids)
  have D_law_weights := d_weights (P := l.prog) (w := w) (base := base) t_law_weights (D_law_kids := D_law_kids) (D_law_order := D_law_order)
  have Dchildren_lists := d_children (P := l.prog) (w := w) (base := base) tchildren_lists 
  have Dtables_down := d_down (P := l.prog) (w := w) (base := base) ttables_down (Dchildren_lists := Dchildren_lists)
  have Dtable_weights := d_tw (P := l.prog) (w := w) (base := base) ttable_weights (Dchildren_lists := Dchildren_lists) (Dtables_down := Dtables_down)
  have Ddivided_lists := d_divl (P := l.prog) (w := w) (base := base) tdivided_lists 
  have M_TableTree := m_init (P := l.prog) (w := w) (base := base) tM_TableTree (Dchildren_lists := Dchildren_lists) (Dtables_down := Dtables_down) (Dtable_weights := Dtable_weights) (R_InvalidTree := R_InvalidTree)
  have M_TableTree_parents := m_parents (P := l.prog) (w := w) (base := base) tM_TableTree_parents 
  have M_TableTree_own := m_own (P := l.prog) (w := w) (base := base) tM_TableTree_own 
  have M_TableTree_weights := m_weights (P := l.prog) (w := w) (base := base) tM_TableTree_weights 
  have M_TableTree_check_table := m_chk (P := l.prog) (w := w) (base := base) tM_TableTree_check_table (R_NoTable := R_NoTable)
  have M_TableTree_check_division := m_chkdiv (P := l.prog) (w := w) (base := base) tM_TableTree_check_division (R_InvalidDivision := R_InvalidDivision)
  have M_TableTree_eq := m_eq (P := l.prog) (w := w) (base := base) tM_TableTree_eq 
  have M_TableTree_arrive := m_arrive (P := l.prog) (w := w) (base := base) tM_TableTree_arrive (M_TableTree_check_table := M_TableTree_check_table) (M_TableTree_check_division := M_TableTree_check_division) (Ddivided_lists := Ddivided_lists) (Dchildren_lists := Dchildren_lists) (R_Overfull := R_Overfull) (M_TableTree := M_TableTree)
  have M_TableTree_arrive0 := m_arrive (P := l.prog) (w := w) (base := base) tM_TableTree_arrive0 (M_TableTree_check_table := M_TableTree_check_table) (M_TableTree_check_division := M_TableTree_check_division) (Ddivided_lists := Ddivided_lists) (Dchildren_lists := Dchildren_lists) (R_Overfull := R_Overfull) (M_TableTree := M_TableTree)
  have D_law_whole := d_whole (P := l.prog) (w := w) (base := base) t_law_whole 
  have D_law_flag := d_flag (P := l.prog) (w := w) (base := base) t_law_flag 
  have D_law_row := d_row (P := l.prog) (w := w) (base := base) t_law_row (D_law_whole := D_law_whole)
  have D_law_made := d_made (P := l.prog) (w := w) (base := base) t_law_made (M_TableTree := M_TableTree)
  have D_law_tells := d_tells (P := l.prog) (w := w) (base := base) t_law_tells (D_law_whole := D_law_whole) (D_law_row := D_law_row) (D_law_weights := D_law_weights) (M_TableTree_parents := M_TableTree_parents) (M_TableTree_own := M_TableTree_own) (M_TableTree_weights := M_TableTree_weights)
  have D_law_build := d_build (P := l.prog) (w := w) (base := base) t_law_build (D_law_take := D_law_take)
  have D_law_fill := d_fill (P := l.prog) (w := w) (base := base) t_law_fill (D_law_take := D_law_take)
  have D_law_labels := d_labels (P := l.prog) (w := w) (base := base) t_law_labels (D_law_take := D_law_take)
  have D_law_labelled := d_labelled (P := l.prog) (w := w) (base := base) t_law_labelled 
  have D_law_wood := d_wood (P := l.prog) (w := w) (base := base) t_law_wood (D_law_purse := D_law_purse) (D_law_take := D_law_take) (D_law_build := D_law_build) (D_law_fill := D_law_fill) (D_law_labels := D_law_labels) (D_law_labelled := D_law_labelled)
  have D_law_arrive := d_larr (P := l.prog) (w := w) (base := base) t_law_arrive (D_law_kids := D_law_kids)
  have D_law_wrong := d_wrong (P := l.prog) (w := w) (base := base) t_law_wrong (D_law_take := D_law_take)
  have D_law_some := d_some (P := l.prog) (w := w) (base := base) t_law_some (D_law_take := D_law_take)
  have D_law_division := d_division (P := l.prog) (w := w) (base := base) t_law_division (D_law_take := D_law_take) (D_law_kids := D_law_kids) (D_law_some := D_law_some) (D_law_wrong := D_law_wrong)
  have D_law_deed := d_deed (P := l.prog) (w := w) (base := base) t_law_deed (D_law_take := D_law_take) (D_law_wrong := D_law_wrong) (D_law_division := D_law_division)
  have D_law_outcome := d_out (P := l.prog) (w := w) (base := base) t_law_outcome (M_TableTree_arrive := M_TableTree_arrive) (M_TableTree_arrive0 := M_TableTree_arrive0)
  have D_law_one := d_one (P := l.prog) (w := w) (base := base) t_law_one (D_law_arrive := D_law_arrive) (D_law_outcome := D_law_outcome) (D_law_whole := D_law_whole) (D_law_flag := D_law_flag) (D_law_tells := D_law_tells) (D_law_made := D_law_made) (M_TableTree_own := M_TableTree_own) (M_TableTree_parents := M_TableTree_parents) (M_TableTree_eq := M_TableTree_eq)
  exact d_law (funG_mk l4 c4 k4) (D_law_fold := D_law_fold) (D_law_wood := D_law_wood) (D_law_made := D_law_made) (D_law_purse := D_law_purse) (D_law_take := D_law_take) (D_law_deed := D_law_deed) (D_law_one := D_law_one) (D_law_flag := D_law_flag) (D_law_arrive := D_law_arrive) (D_law_tells := D_law_tells) (M_TableTree_eq := M_TableTree_eq)
theorem walk {l : PySem.W.OpenLaw} {q : Program} {loose : List Str} {XP : (Str → Option Value) → Heap → Prop} {YP : World → Heap → Prop} {d : DefRec} {K : Params → PySem.W.Frag} (hn : l.most = some 63) (hdf : d.params.defaults = [])
    (hY : ∀ (w : World) (h : Heap), YP w h → (K w.params).In h)
    (F : ∀ (w : World) (mg : Str → Option Value) (fa : Addr) (h : Heap), (K w.params).In h → h.Ns mainGlobals mg → mg d.name = some (.ref fa) →
      ∃ fd : FuncData, (∀ (s : Shared) (u : Value), BindsTo s fd ⟨[u], []⟩ [("script", u)]) ∧ ∀ base : Heap, (K w.params).In base → base.Ns mainGlobals mg → FnOk l.prog w (K w.params) mg base (L2N.CX l.prog w) 13 fa fd ["script"] (spLaw (K w.params))) :
    PySem.W.WalkO q loose XP YP l.row.toRowW d [] (fun f vs => PySem.call f vs) :=
  L2.walk_of (n := 63) (k := 13) (x := "script") (CX := fun w => L2N.CX l.prog w) (sp := fun w => spLaw (K w.params)) hn (by decide) hdf ⟨rfl, by decide, by decide⟩ hY F (fun _ H a ns hl _ hS => by
    obtain ⟨L, h1, h2⟩ := script_at hS
    exact ⟨a, ns, [], L, rfl, h2, by omega, h1, (fun e he => by cases he), fun _ => rfl⟩) fun _ _ _ _ _ z => by
    obtain ⟨_, _, _, _, _, _, _, _, _, _, _, _, z⟩ := z
    exact z.elim
end OC

open PySem PySem.W PyProof.Rows
set_option maxRecDepth 100000 in
set_option maxHeartbeats 0 in
theorem PySem.Challenge.cw_onecopy_k32_one_arrival_holds : PySem.Challenge.rw_onecopy_k32_one_arrival.Holds := by
  w_on; o_law; k_head; (case hw => w_witness2)
  k_fill
  refine OC.walk (l := PySem.Challenge.rw_onecopy_k32_one_arrival) rfl rfl (fun w h Y => PySem.W.kIn_of Y) ?F
  case F =>
    intro w mg fa h KX G hmg
    refine' OC.all_mk KX G hmg ?aa4 ?ll4 ?cc4 ?kk4 { gTableTree := (PySem.W.mg_of KX G ?g1), gNoTable := (PySem.W.mg_of KX G ?g2), gInvalidDivision := (PySem.W.mg_of KX G ?g3), gOverfull := (PySem.W.mg_of KX G ?g4), gInvalidTree := (PySem.W.mg_of KX G ?g5), gLotError := (PySem.W.mg_of KX G ?g6), gOnecopyError := (PySem.W.mg_of KX G ?g7), cTableTree := (OC.cls_mk ?p8 ?h9 ?o10 ?s11), nZ := (OC.noat_mk ?n12), nP := (OC.noat_mk ?n13), nO := (OC.noat_mk ?n14), nB := (OC.noat_mk ?n15), nW := (OC.noat_mk ?n16), n_len := (PySem.W.mg_none_of KX G ?n17), n_list := (PySem.W.mg_none_of KX G ?n18), n_int := (PySem.W.mg_none_of KX G ?n19), n_bool := (PySem.W.mg_none_of KX G ?n20), n_range := (PySem.W.mg_none_of KX G ?n21), n_min := (PySem.W.mg_none_of KX G ?n22), n_max := (PySem.W.mg_none_of KX G ?n23), n_abs := (PySem.W.mg_none_of KX G ?n24), n_set := (PySem.W.mg_none_of KX G ?n25), n_enumerate := (PySem.W.mg_none_of KX G ?n26), n_isinstance := (PySem.W.mg_none_of KX G ?n27), n_ValueError := (PySem.W.mg_none_of KX G ?n28) }
      (fun c => { cl := c, ha := ?z29, hn := ?z30, htk := ?z31, hm := ?z32 })
      (OC.excC_mk ?z33 ?z34 ?z35 ?z36 ?z37 ?z38 ?z39 ?z40)
      (fun a b => { e := a, x := b, n := ?n41, k1 := ?k42, k2 := ?k43, k3 := ?k44, k4 := ?k45, k5 := ?k46, kV := ?k47, h := (PySem.W.exm_ref ?z48 ?z49 ?z50 ?z51) })
      (OC.excC_mk ?z52 ?z53 ?z54 ?z55 ?z56 ?z57 ?z58 ?z59)
      (fun a b => { e := a, x := b, n := ?n60, k1 := ?k61, k2 := ?k62, k3 := ?k63, k4 := ?k64, k5 := ?k65, kV := ?k66, h := (PySem.W.exm_ref ?z67 ?z68 ?z69 ?z70) })
      (OC.excC_mk ?z71 ?z72 ?z73 ?z74 ?z75 ?z76 ?z77 ?z78)
      (fun a b => { e := a, x := b, n := ?n79, k1 := ?k80, k2 := ?k81, k3 := ?k82, k4 := ?k83, k5 := ?k84, kV := ?k85, h := (PySem.W.exm_ref ?z86 ?z87 ?z88 ?z89) })
      ?n90
      (OC.txi_mk KX G ?g91 ?m92 ?a93 ?i94 ?q95 ?l96 ?c97 ?k98 OC.b0_TableTreeU_initU)
      (OC.txm_mk ?a99 ?i100 ?l101 ?c102 ?k103 OC.b0_TableTreeU_eqU)
      (OC.txm_mk ?a104 ?i105 ?l106 ?c107 ?k108 OC.b0_TableTree_parents)
      (OC.txm_mk ?a109 ?i110 ?l111 ?c112 ?k113 OC.b0_TableTree_own)
      (OC.txm_mk ?a114 ?i115 ?l116 ?c117 ?k118 OC.b0_TableTree_weights)
      (OC.txm_mk ?a119 ?i120 ?l121 ?c122 ?k123 OC.b0_TableTreeUcheck_table)
      (OC.txm_mk ?a124 ?i125 ?l126 ?c127 ?k128 OC.b0_TableTreeUcheck_division)
      (OC.txm1_mk [.non] 3 1 ?a129 ?i130 ?l131 ?c132 ?k133 ?t134 ?v135 (by decide) (by decide) OC.b1_TableTree_arrive_3_1)
      (OC.txm1_mk [.non] 2 0 ?a136 ?i137 ?l138 ?c139 ?k140 ?t141 ?v142 (by decide) (by decide) OC.b1_TableTree_arrive_2_0)
      (OC.txe_mk KX G ?g143 ?a144 ?t145 ?l146 ?c147 (OC.sup_mk KX G ?l148 ?v149 ?f150 ?e151 ?d152 ?s153 ?u154 ?w155 ?o156) ?x157 (OC.oex_mk ?l158 ?b159 ?s160 ?e161 ?t162 ?k163) ?y164 OC.bE_NoTableU_initU)
      (OC.txe_mk KX G ?g165 ?a166 ?t167 ?l168 ?c169 (OC.sup_mk KX G ?l170 ?v171 ?f172 ?e173 ?d174 ?s175 ?u176 ?w177 ?o178) ?x179 (OC.oex_mk ?l180 ?b181 ?s182 ?e183 ?t184 ?k185) ?y186 OC.bE_InvalidTreeU_initU)
      (OC.txe_mk KX G ?g187 ?a188 ?t189 ?l190 ?c191 (OC.sup_mk KX G ?l192 ?v193 ?f194 ?e195 ?d196 ?s197 ?u198 ?w199 ?o200) ?x201 (OC.oex_mk ?l202 ?b203 ?s204 ?e205 ?t206 ?k207) ?y208 OC.bE_InvalidDivisionU_initU)
      (OC.txe_mk KX G ?g209 ?a210 ?t211 ?l212 ?c213 (OC.sup_mk KX G ?l214 ?v215 ?f216 ?e217 ?d218 ?s219 ?u220 ?w221 ?o222) ?x223 (OC.oex_mk ?l224 ?b225 ?s226 ?e227 ?t228 ?k229) ?y230 OC.bE_OverfullU_initU)
      (OC.tx_mk KX G ?a231 ?l232 ?c233 ?k234 OC.b0_children_lists)
      (OC.tx_mk KX G ?a235 ?l236 ?c237 ?k238 OC.b0_tables_down)
      (OC.tx_mk KX G ?a239 ?l240 ?c241 ?k242 OC.b0_table_weights)
      (OC.tx_mk KX G ?a243 ?l244 ?c245 ?k246 OC.b0_divided_lists)
      (OC.tx_mk KX G ?a247 ?l248 ?c249 ?k250 OC.b0_law_fold)
      (OC.tx_mk KX G ?a251 ?l252 ?c253 ?k254 OC.b0_law_purse)
      (OC.tx_mk KX G ?a255 ?l256 ?c257 ?k258 OC.b0_law_take)
      (OC.tx_mk KX G ?a259 ?l260 ?c261 ?k262 OC.b0_law_build)
      (OC.tx_mk KX G ?a263 ?l264 ?c265 ?k266 OC.b0_law_fill)
      (OC.tx_mk KX G ?a267 ?l268 ?c269 ?k270 OC.b0_law_labels)
      (OC.tx_mk KX G ?a271 ?l272 ?c273 ?k274 OC.b0_law_labelled)
      (OC.tx_mk KX G ?a275 ?l276 ?c277 ?k278 OC.b0_law_wood)
      (OC.tx_mk KX G ?a279 ?l280 ?c281 ?k282 OC.b0_law_kids)
      (OC.tx_mk KX G ?a283 ?l284 ?c285 ?k286 OC.b0_law_order)
      (OC.tx_mk KX G ?a287 ?l288 ?c289 ?k290 OC.b0_law_weights)
      (OC.tx_mk KX G ?a291 ?l292 ?c293 ?k294 OC.b0_law_whole)
      (OC.tx_mk KX G ?a295 ?l296 ?c297 ?k298 OC.b0_law_flag)
      (OC.tx_mk KX G ?a299 ?l300 ?c301 ?k302 OC.b0_law_row)
      (OC.tx_mk KX G ?a303 ?l304 ?c305 ?k306 OC.b0_law_made)
      (OC.tx_mk KX G ?a307 ?l308 ?c309 ?k310 OC.b0_law_tells)
      (OC.tx_mk KX G ?a311 ?l312 ?c313 ?k314 OC.b0_law_arrive)
      (OC.tx_mk KX G ?a315 ?l316 ?c317 ?k318 OC.b0_law_wrong)
      (OC.tx_mk KX G ?a319 ?l320 ?c321 ?k322 OC.b0_law_some)
      (OC.tx_mk KX G ?a323 ?l324 ?c325 ?k326 OC.b0_law_division)
      (OC.tx_mk KX G ?a327 ?l328 ?c329 ?k330 OC.b0_law_deed)
      (OC.tx_mk KX G ?a331 ?l332 ?c333 ?k334 OC.b0_law_outcome)
      (OC.tx_mk KX G ?a335 ?l336 ?c337 ?k338 OC.b0_law_one)
    (case aa4 => k_is); (case ll4 => k_is); (case cc4 => k_is); (case kk4 => k_is)
    (case g1 => k_is); (case g2 => k_is); (case g3 => k_is); (case g4 => k_is); (case g5 => k_is); (case g6 => k_is); (case g7 => k_is); (case p8 => k_is)
    (case h9 => k_is); (case o10 => k_is); (case s11 => k_is); (case n12 => k_is); (case n13 => k_is); (case n14 => k_is); (case n15 => k_is); (case n16 => k_is)
    (case n17 => k_is); (case n18 => k_is); (case n19 => k_is); (case n20 => k_is); (case n21 => k_is); (case n22 => k_is); (case n23 => k_is); (case n24 => k_is)
    (case n25 => k_is); (case n26 => k_is); (case n27 => k_is); (case n28 => k_is); (case z29 => k_is); (case z30 => k_is); (case z31 => k_is); (case z32 => k_is)
    (case z33 => k_is); (case z34 => k_is); (case z35 => k_is); (case z36 => k_is); (case z37 => k_is); (case z38 => k_is); (case z39 => k_is); (case z40 => k_is)
    (case n41 => k_is); (case k42 => kit_is); (case k43 => kit_is); (case k44 => kit_is); (case k45 => kit_is); (case k46 => kit_is); (case k47 => kit_is); (case z48 => k_is)
    (case z49 => k_is); (case z50 => k_is); (case z51 => k_is); (case z52 => k_is); (case z53 => k_is); (case z54 => k_is); (case z55 => k_is); (case z56 => k_is)
    (case z57 => k_is); (case z58 => k_is); (case z59 => k_is); (case n60 => k_is); (case k61 => kit_is); (case k62 => kit_is); (case k63 => kit_is); (case k64 => kit_is)
    (case k65 => kit_is); (case k66 => kit_is); (case z67 => k_is); (case z68 => k_is); (case z69 => k_is); (case z70 => k_is); (case z71 => k_is); (case z72 => k_is)
    (case z73 => k_is); (case z74 => k_is); (case z75 => k_is); (case z76 => k_is); (case z77 => k_is); (case z78 => k_is); (case n79 => k_is); (case k80 => kit_is)
    (case k81 => kit_is); (case k82 => kit_is); (case k83 => kit_is); (case k84 => kit_is); (case k85 => kit_is); (case z86 => k_is); (case z87 => k_is); (case z88 => k_is)
    (case z89 => k_is); (case n90 => k_is); (case g91 => k_is); (case m92 => k_is); (case a93 => k_is); (case i94 => k_is); (case q95 => k_is); (case l96 => k_is)
    (case c97 => k_is); (case k98 => k_is); (case a99 => k_is); (case i100 => k_is); (case l101 => k_is); (case c102 => k_is); (case k103 => k_is); (case a104 => k_is)
    (case i105 => k_is); (case l106 => k_is); (case c107 => k_is); (case k108 => k_is); (case a109 => k_is); (case i110 => k_is); (case l111 => k_is); (case c112 => k_is)
    (case k113 => k_is); (case a114 => k_is); (case i115 => k_is); (case l116 => k_is); (case c117 => k_is); (case k118 => k_is); (case a119 => k_is); (case i120 => k_is)
    (case l121 => k_is); (case c122 => k_is); (case k123 => k_is); (case a124 => k_is); (case i125 => k_is); (case l126 => k_is); (case c127 => k_is); (case k128 => k_is)
    (case a129 => k_is); (case i130 => k_is); (case l131 => k_is); (case c132 => k_is); (case k133 => k_is); (case t134 => k_is); (case v135 => exact .cons rfl .nil); (case a136 => k_is)
    (case i137 => k_is); (case l138 => k_is); (case c139 => k_is); (case k140 => k_is); (case t141 => k_is); (case v142 => exact .cons rfl .nil); (case g143 => k_is); (case a144 => k_is)
    (case t145 => k_is); (case l146 => k_is); (case c147 => k_is); (case l148 => k_is); (case v149 => exact rfl); (case f150 => exact rfl); (case e151 => k_is); (case d152 => k_is)
    (case s153 => k_is); (case u154 => k_is); (case w155 => exact rfl); (case o156 => k_is); (case x157 => ks_is); (case l158 => k_is); (case b159 => decide +kernel); (case s160 => k_is)
    (case e161 => k_is); (case t162 => k_is); (case k163 => k_is); (case y164 => k_is); (case g165 => k_is); (case a166 => k_is); (case t167 => k_is); (case l168 => k_is)
    (case c169 => k_is); (case l170 => k_is); (case v171 => exact rfl); (case f172 => exact rfl); (case e173 => k_is); (case d174 => k_is); (case s175 => k_is); (case u176 => k_is)
    (case w177 => exact rfl); (case o178 => k_is); (case x179 => ks_is); (case l180 => k_is); (case b181 => decide +kernel); (case s182 => k_is); (case e183 => k_is); (case t184 => k_is)
    (case k185 => k_is); (case y186 => k_is); (case g187 => k_is); (case a188 => k_is); (case t189 => k_is); (case l190 => k_is); (case c191 => k_is); (case l192 => k_is)
    (case v193 => exact rfl); (case f194 => exact rfl); (case e195 => k_is); (case d196 => k_is); (case s197 => k_is); (case u198 => k_is); (case w199 => exact rfl); (case o200 => k_is)
    (case x201 => ks_is); (case l202 => k_is); (case b203 => decide +kernel); (case s204 => k_is); (case e205 => k_is); (case t206 => k_is); (case k207 => k_is); (case y208 => k_is)
    (case g209 => k_is); (case a210 => k_is); (case t211 => k_is); (case l212 => k_is); (case c213 => k_is); (case l214 => k_is); (case v215 => exact rfl); (case f216 => exact rfl)
    (case e217 => k_is); (case d218 => k_is); (case s219 => k_is); (case u220 => k_is); (case w221 => exact rfl); (case o222 => k_is); (case x223 => ks_is); (case l224 => k_is)
    (case b225 => decide +kernel); (case s226 => k_is); (case e227 => k_is); (case t228 => k_is); (case k229 => k_is); (case y230 => k_is); (case a231 => k_is); (case l232 => k_is)
    (case c233 => k_is); (case k234 => k_is); (case a235 => k_is); (case l236 => k_is); (case c237 => k_is); (case k238 => k_is); (case a239 => k_is); (case l240 => k_is)
    (case c241 => k_is); (case k242 => k_is); (case a243 => k_is); (case l244 => k_is); (case c245 => k_is); (case k246 => k_is); (case a247 => k_is); (case l248 => k_is)
    (case c249 => k_is); (case k250 => k_is); (case a251 => k_is); (case l252 => k_is); (case c253 => k_is); (case k254 => k_is); (case a255 => k_is); (case l256 => k_is)
    (case c257 => k_is); (case k258 => k_is); (case a259 => k_is); (case l260 => k_is); (case c261 => k_is); (case k262 => k_is); (case a263 => k_is); (case l264 => k_is)
    (case c265 => k_is); (case k266 => k_is); (case a267 => k_is); (case l268 => k_is); (case c269 => k_is); (case k270 => k_is); (case a271 => k_is); (case l272 => k_is)
    (case c273 => k_is); (case k274 => k_is); (case a275 => k_is); (case l276 => k_is); (case c277 => k_is); (case k278 => k_is); (case a279 => k_is); (case l280 => k_is)
    (case c281 => k_is); (case k282 => k_is); (case a283 => k_is); (case l284 => k_is); (case c285 => k_is); (case k286 => k_is); (case a287 => k_is); (case l288 => k_is)
    (case c289 => k_is); (case k290 => k_is); (case a291 => k_is); (case l292 => k_is); (case c293 => k_is); (case k294 => k_is); (case a295 => k_is); (case l296 => k_is)
    (case c297 => k_is); (case k298 => k_is); (case a299 => k_is); (case l300 => k_is); (case c301 => k_is); (case k302 => k_is); (case a303 => k_is); (case l304 => k_is)
    (case c305 => k_is); (case k306 => k_is); (case a307 => k_is); (case l308 => k_is); (case c309 => k_is); (case k310 => k_is); (case a311 => k_is); (case l312 => k_is)
    (case c313 => k_is); (case k314 => k_is); (case a315 => k_is); (case l316 => k_is); (case c317 => k_is); (case k318 => k_is); (case a319 => k_is); (case l320 => k_is)
    (case c321 => k_is); (case k322 => k_is); (case a323 => k_is); (case l324 => k_is); (case c325 => k_is); (case k326 => k_is); (case a327 => k_is); (case l328 => k_is)
    (case c329 => k_is); (case k330 => k_is); (case a331 => k_is); (case l332 => k_is); (case c333 => k_is); (case k334 => k_is); (case a335 => k_is); (case l336 => k_is)
    (case c337 => k_is); (case k338 => k_is)
