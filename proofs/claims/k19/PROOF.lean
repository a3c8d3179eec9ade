import PyProof.Rows.All
import Wide.All
import OpenK.AllK
import Wide.FinOn
import HandS.ForMost
import HandS.ForExc
import HandS.ExcCtx
import HandS.ExcInit
import HandS.ExcField
import HandS.ExcIs
import HandS.HotCalls
import KE.KExcSuper
import HandS.CallSlots
import HandS.Defaults
import KE.KExcIs
import HandS.Wide
import HandS.WideMore
import HandS.IsInst
import HandS.Property
import HandS.Flow
import OpenK.KOps
import HandS.Evl
import PySem.Challenge.RW_onecopy_k19_cells
set_option Elab.async false
set_option linter.all false
set_option maxRecDepth 100000
set_option maxHeartbeats 4000000
/-! The exceptions of the package: an own class whose initialiser begins with super().__init__(..). -/
namespace OC
open PySem PySem.Spec PySem.Calls PyProof.Rows PySem.W L2

/-- the scope of such a method: its names by slot, parameters first, and the captured class -/
structure SupScope (N ps : List Str) (sc : Scope) : Prop where
  kind : sc.kind = .function
  co : sc.isCoroutine = false
  gen : sc.isGenerator = false
  nd : N.Nodup
  pre : N.take ps.length = ps
  par : ∀ x ∈ ps, sc.names.lookup x = some .local
  nocell : ∀ y ∈ sc.names, y.2 ≠ .cell
  free : ∀ y ∈ sc.names, y.2 = .free → y.1 = "__class__"
  noN : ("__class__" : Str) ∉ N
  sup : sc.names.lookup ("super" : Str) = some .globalImplicit
  cls : sc.names.lookup ("__class__" : Str) = some .free

/-- the context of the method's body -/
def cxK (CX : CXT) (P : Program) (w : World) (K : PySem.W.Frag) (mg : Str → Option Value) (base : Heap) (N : List Str) (qual : Str) (scope : Scope) (f : Addr) (cd : Value) (cc : Addr) (A : Around) (outer : List Env) (s : Shared) (H : Hp) (E : XK) : Cx where
  prog := P
  w := w
  K := K
  mg := mg
  base := base
  A := A.deeper (ksEnv qual scope s.heap.objs.size f cd cc)
  N := N
  s_0 := s
  H_0 := H
  env := ksEnv qual scope s.heap.objs.size f cd cc
  outer := outer
  stack := ksEnv qual scope s.heap.objs.size f cd cc :: outer
  ex := []
  calm := true
  fn := fun x => !decide (x = "__class__")
  pn := []
  xe := fun e s' => wpAny (model P w) (A.deeper (ksEnv qual scope s.heap.objs.size f cd cc)) (leaving (ksEnv qual scope s.heap.objs.size f cd cc) e) (fun _ s'' => CX outer H s E e s'') (fun e' s'' => CX outer H s E e' s'') s'

section
variable {CX : CXT} {P : Program} {w : World} {K : PySem.W.Frag} {mg : Str → Option Value} {base : Heap} {N ps : List Str} {qual : Str} {scope : Scope} {f cc : Addr} {cd : Value} {A : Around} {outer : List Env} {s : Shared} {H : Hp} {E : XK} {us : List Value} {vs : List V}

theorem lookup_rev_zip {P : List Str} {us : List Value} {i : Nat} {x : Str} {v : Value} (nd : P.Nodup) (hl : P.length = us.length) (h1 : P[i]? = some x) (h2 : us[i]? = some v) : (P.zip us).reverse.lookup x = some v := by
  have key : ∀ (l : List (Str × Value)), (l.map (·.1)).Nodup → (x, v) ∈ l → l.lookup x = some v := by
    intro l
    induction l with
    | nil => intro _ h; cases h
    | cons p r ih =>
      intro hn hm
      rw [List.map_cons, List.nodup_cons] at hn
      rcases List.mem_cons.mp hm with e | hm
      · subst e; simp [List.lookup]
      · have hne : ¬ x = p.1 := fun e => hn.1 (by rw [← e]; exact List.mem_map_of_mem (f := (·.1)) hm)
        have hb : (x == p.1) = false := by simpa using hne
        show (match x == p.1 with | true => _ | false => _) = _
        rw [hb]
        exact ih hn.2 hm
  refine key _ ?_ ?_
  · rw [List.map_reverse, (List.reverse_perm _).nodup_iff]
    have : (P.zip us).map (·.1) = P := List.map_fst_zip (Nat.le_of_eq hl)
    rw [this]
    exact nd
  · rw [List.mem_reverse]
    have : (P.zip us)[i]? = some (x, v) := by
      rw [List.getElem?_zip_eq_some]
      exact ⟨h1, h2⟩
    exact List.mem_of_getElem? this

theorem inv_startK (S : SupScope N ps scope) (hd : A.handled = none) (e0 : Env0 P w K mg base A outer s H) (hl : vs.length = ps.length) (r : Vals vs us) {D : Addr} {cl : Value} {cld : Option Addr} {csl : Array (Option Value)}
    (hcell : K.lookup cc = some ⟨cl, cld, .cell (some (.ref D)), csl⟩) {h1 : Heap} {tk : Nat}
    (hns : h1.Ns s.heap.objs.size (fun x => (ps.zip us).reverse.lookup x)) (hk : ∀ b o, s.heap.get? b = some o → h1.get? b = some o) :
    Inv (cxK CX P w K mg base N qual scope f cd cc A outer s H E) [] (L2.start N vs) H { s with heap := h1, toks := tk } := by
  have KX : K.In s.heap := e0.mod.kin.keeps fun b o e => (e0.bs b o e).1
  have hcb : base.get? cc = some ⟨cl, cld, .cell (some (.ref D)), csl⟩ := e0.mod.kin _ _ hcell
  have hcs := e0.bs cc _ hcb
  have cellE : ∀ x c, ([(("__class__" : Str), cc)] : List (Str × Addr)).lookup x = some c → x = "__class__" ∧ c = cc := fun x c e => by
    by_cases hx : x = "__class__"
    · subst hx
      simp [List.lookup] at e
      exact ⟨rfl, e.symm⟩
    · have hb : (x == ("__class__" : Str)) = false := by simpa using hx
      simp [List.lookup, hb] at e
  have noA : ∀ b : Addr, b ∉ (cxK CX P w K mg base N qual scope f cd cc A outer s H E).ex := fun b z => absurd (show b ∈ ([] : List Addr) from z) (by simp)
  refine ⟨⟨e0.mod, S.kind, rfl, rfl, Nat.le_refl _, fun y z c h1 h2 => ?_, fun y hy => ?_, fun y c hf h => ?_, fun _ => hd, Around.frames_deeper e0.frames, .inr ⟨rfl, rfl⟩, fun b z => absurd z (noA b), e0.bs, e0.bsz, fun b _ _ => noA b, fun b z => absurd z (noA b), e0.funs, e0.frf⟩,
    rfl, e0.bare, Un.kept hk, ⟨_, hns, fun i y v h1 h2 h3 => ?_⟩, fun y c h => ?_, e0.hok.fresh (Nat.le_refl _), fun y c h => ?_, fun p hp => absurd (show p ∈ ([] : List (Addr × Obj)) from hp) (by simp), e0.hok.kept hk, ?_⟩
  · exact (cellE y c h1).1.trans (cellE z c h2).1.symm
  · have hy : scope.names.lookup y = some .cell ∨ scope.names.lookup y = some .free := hy
    rcases hy with hy | hy
    · exact absurd rfl (S.nocell _ (PySem.mem_of_lookup hy))
    · have e := S.free _ (PySem.mem_of_lookup hy) rfl
      have e : y = "__class__" := e
      subst e
      exact ⟨cc, by show List.lookup _ [_] = _; simp [List.lookup]⟩
  · have e := (cellE y c h).1
    subst e
    exact absurd (show (!decide (("__class__" : Str) = "__class__")) = true from hf) (by simp)
  · have hi : i < vs.length := by
      unfold L2.start at h2
      by_cases hi : i < vs.length
      · exact hi
      · rw [List.getElem?_append_right (by simpa using hi)] at h2
        rw [List.getElem?_replicate] at h2
        split at h2 <;> cases h2
    have ha : vs[i]? = some v := by
      unfold L2.start at h2
      rw [List.getElem?_append_left (by simpa using hi), List.getElem?_map] at h2
      cases e : vs[i]? with
      | none => rw [e] at h2; cases h2
      | some a => rw [e] at h2; cases h2; rfl
    obtain ⟨u, hu, rv⟩ := r.get ha
    have hp : ps[i]? = some y := by
      rw [← S.pre, List.getElem?_take_of_lt (by omega)]; exact h1
    have ndP : ps.Nodup := by rw [← S.pre]; exact S.nd.sublist (List.take_sublist _ _)
    exact ⟨u, rv, .inl ⟨S.par y (List.mem_of_getElem? hp), lookup_rev_zip ndP (by rw [← hl, r.length]) hp hu⟩⟩
  · obtain ⟨rfl, rfl⟩ := cellE y c h
    exact ⟨_, _, hk _ _ hcs.1, rfl⟩
  · obtain ⟨rfl, rfl⟩ := cellE y c h
    exact hcs.2
  · unfold L2.start
    have hpl : ps.length ≤ N.length := by have := congrArg List.length S.pre; rw [List.length_take] at this; omega
    show _ = N.length
    rw [List.length_append, List.length_map, List.length_replicate]
    omega
end

/-- what the written part says of super() in a method that closes over the class D, for an instance of C -/
structure SupOk (P : Program) (K : PySem.W.Frag) (mg : Str → Option Value) (C D cc cda : Addr) : Prop where
  code : ∃ ccl cdd vs ccs file tf, K.lookup cda = some ⟨ccl, cdd, .fields vs, ccs⟩ ∧ vs[2]? = some (.str file tf) ∧ ((P.main.file : Str) == file) = true
  cell : ∃ cl cld csl, K.lookup cc = some ⟨cl, cld, .cell (some (.ref D)), csl⟩
  clsD : ∃ cdD, clsIn K D = some cdD
  sub : mroIn K C (.ref D) = some true
  sup : mg "super" = none
  top : (P.main.scope.names.lookup ("super" : Str)).isSome = false
  opq : nsIn K cStatics "thirdparty.any" = some none

section
variable {P : Program} {w : World} {K : PySem.W.Frag} {mg : Str → Option Value} {base : Heap} {C D cc cda f : Addr}
variable {X : Cx} {pins : List (Addr × Obj)} {σ : L2.St} {H : Hp} {s : Shared}
theorem cls_at {h : Heap} (X0 : K.In h) {cdD : ClassData} (hD : clsIn K D = some cdD) : ∃ oD, h.get? D = some oD ∧ oD.data = .cls cdD := by
  unfold clsIn at hD
  split at hD
  · rename_i c d cd' sl ho
    cases hD
    exact ⟨_, X0 _ _ ho, rfl⟩
  · cases hD

/-- super() evaluated as the base of an attribute: a new object of type super stands -/
theorem super_base {name qual : Str} {params : Arguments} {body : List Stmt} {scope : Scope} {dV kV doc pm ct oc : Value} {an od : Option Addr} {osl : Array (Option Value)} {L : Addr} {p0 p1 : Pos} {attr : Str} {whole : Sem Value} {ar : Arg} {A : Around} {E : Value → Shared → Prop} {x : Addr} {ox : Obj} {m : Str → Option Value} {mb : Str → Option Value} {Q : Value → Shared → Prop}
    (T : SupOk P K mg C D cc cda) (X0 : K.In s.heap) (hg : s.heap.Ns mainGlobals mg) (hb : s.heap.Ns builtinsNs mb) (hbb : mb "super" = some (.type "super"))
    (lk : K.lookup f = some ⟨oc, od, .func (ksFn name qual params body scope dV kV doc pm an (.ref cda) ct cc), osl⟩) (hp : (params.posonlyargs ++ params.args).head? = some ar)
    (hks : scope.names.lookup ("super" : Str) = some .globalImplicit) (hkc : scope.names.lookup ("__class__" : Str) = some .free) (hka : scope.names.lookup ar.arg = some .local) (hk : scope.kind = .function)
    (hns : s.heap.Ns L m) (hv : m ar.arg = some (.ref x)) (hx : s.heap.get? x = some ox) (hxc : ox.cls = .ref C) (hnc : ∀ c, ox.data ≠ .cls c) (hat : (attr == ("__class__" : Str)) = false)
    (hq : ∀ h' so, h'.get? so = some (ks_superObj D x C) → (∀ y o, s.heap.get? y = some o → h'.get? y = some o) → s.heap.objs.size ≤ so → Q (.ref so) { s with heap := h' }) :
    _root_.PySem.wpAt (model P w) A (.func body (ksEnv qual scope L f (.ref cda) cc)) (attributeBase (.Call (.Name "super" p0) [] [] p1) attr (ksEnv qual scope L f (.ref cda) cc) whole) Q E s := by
  obtain ⟨ccl, cdd, vs, ccs, file, tf, hcode, hvs, hfile⟩ := T.code
  obtain ⟨cl, cld, csl, hcell⟩ := T.cell
  obtain ⟨cdD, hD⟩ := T.clsD
  obtain ⟨oD, hD1, hD2⟩ := cls_at X0 hD
  obtain ⟨hh, g, d, t, os⟩ := s
  refine ks_wpAt_super_base (env := ksEnv qual scope L f (.ref cda) cc) hks hkc hat rfl (X0 _ _ lk) rfl hp rfl (X0 _ _ hcode) rfl hvs hfile T.top ?_
  refine ks_loadName_global hk hks (loadGlobal_builtin (env := ksEnv qual scope L f (.ref cda) cc) hg T.sup hb hbb ⟨rfl, ?_⟩)
  refine wpAny_loadName_free hk hkc rfl ⟨_, X0 _ _ hcell, rfl⟩ ?_
  refine wpAny_loadName_local hk hka hns hv ?_
  refine ks_wpAny_isType_cls hD1 hD2 ⟨rfl, ?_⟩
  exact ks_wpAny_call_super hD1 hD2 hx hxc hnc (looks_mroIn X0 T.sub) (fun h' e k => hq h' _ e k (Nat.le_refl _))

/-- super().__init__ where the next class of the order that has one is ValueError: called with us -/
theorem mw_call {A : Around} {E : Value → Shared → Prop} {u a : Addr} {us : List Value} {Q : Value → Shared → Prop} (T : OexC X.K C) (I : Inv X pins σ H s) (hu : s.heap.get? u = some (kxs_mw "ValueError.__init__" a)) (e : H a = some (exo a C none)) (hl : us.length ≤ sizeLine)
    (h : ∀ s', Inv X pins σ H s' → Q .none s') : wpAny (model X.prog X.w) A (call (.ref u) us) Q E s := by
  obtain ⟨nm, q, N, bs, bm, sn, sub, ab, col, dd, k0, k1, k2, k3, k5, hC, hbm⟩ := T.cls
  obtain ⟨t1, ho⟩ := exo_at I.hok e
  obtain ⟨hp, g, d, t, os⟩ := s
  refine wpAny_call (codeAny_of_tree ?_)
  show wpAny _ A.in1 (callAny (.ref u) ⟨us, []⟩) _ _ _
  simp only [callAny]
  refine wpAny_bind (wpAny_load hu ?_)
  simp only [kxs_mw, show (Value.type "method-wrapper" == Value.type "method" || Value.type "method-wrapper" == Value.type "builtin_function_or_method" || Value.type "method-wrapper" == Value.type "method-wrapper") = true by decide, if_true]
  refine KFB.if_so (by decide) ?_
  refine wpAny_bind (check_bound_init F.excBase_ValueError.toExcCallFacts (I.kIn _ _ hC) ho rfl ?_)
  refine wpAny_bind (wpAny_pure (wpAny_pure ?_))
  refine ⟨plainId_quiet F.excBase_ValueError.init.plain _, codeAny_builtin F.excBase_ValueError.initEntry ?_⟩
  refine exc_init_tree (cls := .ref C) (t0 := t1) (dv := none) (c2 := .none) (c3 := .none) (b4 := .bool false) ho hl fun h' k hx _ => ?_
  have J := I.write (t' := t) (x := a) (e := a) (o := exo a C none) (by rw [e]; exact True.intro) (.inl rfl) k ⟨_, hx⟩ (exo_ok hx)
  have eu : upd H a (exo a C none) = H := by
    funext b
    by_cases hb : b = a
    · rw [hb, upd_same, e]
    · rw [upd_ne hb]
  rw [eu] at J
  exact h _ J
end

section
variable {CX : CXT} {P : Program} {w : World} {K : PySem.W.Frag} {mg : Str → Option Value} {base : Heap} {k : Nat} {f C D cc cda : Addr} {name qual : Str} {params : Arguments} {rest : List Stmt} {scope : Scope} {dV kV doc pm ct oc : Value} {an od : Option Addr}
    {osl : Array (Option Value)} {N ps : List Str} {sp : Sp} {p0 p1 p2 p3 p4 : Pos} {e : Expr} {es : List Expr} {ar : Arg}
/-- THE RULE: the initialiser of an own exception class that begins with super().__init__(..), ValueError's -/
theorem fn_supV (lk : K.lookup f = some ⟨oc, od, .func (ksFn name qual params (.Expr (.Call (.Attribute (.Call (.Name "super" p0) [] [] p1) "__init__" p2) (e :: es) [] p3) p4 :: rest) scope dV kV doc pm an (.ref cda) ct cc), osl⟩)
    (hcd : codeIn K (.ref cda) qual = true) (S : SupScope N ps scope) (T : SupOk P K mg C D cc cda) (hp : (params.posonlyargs ++ params.args).head? = some ar) (h0 : ps.head? = some ar.arg) (tx : OexC K C)
    (tgt : ks_superIn K C D "__init__" = some (some (.builtin "ValueError.__init__"))) (subV : subIn K (.ref C) (.type "ValueError") = some true)
    (len : ∀ vs H Q E, sp vs H Q E → vs.length = ps.length)
    (hbody : ∀ (A : Around) (outer : List Env) (s : Shared) (H : Hp) (vs : List V) (Q : VK) (E : XK), Room k (A.deeper (ksEnv qual scope s.heap.objs.size f (.ref cda) cc)) → sp vs H Q E →
      ∃ (a : Addr) (ta : TA) (t : TS), vs.head? = some (.ref a) ∧ H a = some (exo a C none) ∧ PA (cxK CX P w K mg base N qual scope f (.ref cda) cc A outer s H E) (e :: es) ta ∧ PSs (cxK CX P w K mg base N qual scope f (.ref cda) cc A outer s H E) rest t ∧
        ta (L2.start N vs) H fun ws H1 => ws.length ≤ 1000 ∧ H1 a = some (exo a C none) ∧ t { nx := fun _ H' => Q .non H', rt := Q } (L2.start N vs) H1)
    (hst : ∀ env : Env, starEach (e :: es) env = (false, eval e env) :: starEach es env := by intro _; rfl) (hpl : ∀ env : Env, (backTo p3 (starEach es env)).any (·.1) = false := by intro _; rfl)
    (hia : ∀ L : Addr, interactive (ksEnv qual scope L f (.ref cda) cc) = false := by intro _; rfl)
    (hsw : ∀ L : Addr, swapsWith (.Call (.Attribute (.Call (.Name "super" p0) [] [] p1) "__init__" p2) (e :: es) [] p3) none p4.line (ksEnv qual scope L f (.ref cda) cc) = pure false := by intro _; rfl)
    (hev : ∀ L : Addr, ∃ pl : Sem Bool, eval (.Call (.Attribute (.Call (.Name "super" p0) [] [] p1) "__init__" p2) (e :: es) [] p3) (ksEnv qual scope L f (.ref cda) cc) = (do
      let ov ← attributeBase (.Call (.Name "super" p0) [] [] p1) "__init__" (ksEnv qual scope L f (.ref cda) cc) (eval (.Call (.Name "super" p0) [] [] p1) (ksEnv qual scope L f (.ref cda) cc))
      standAt p2.atName
      let (g, first) ← holding [ov] (getMethod ov "__init__" pl)
      callWith p3 g first (backTo p3 (starEach (e :: es) (ksEnv qual scope L f (.ref cda) cc))) []) := by intro _; exact ⟨_, rfl⟩) :
    FnOk P w K mg base CX (k + 1) f (ksFn name qual params (.Expr (.Call (.Attribute (.Call (.Name "super" p0) [] [] p1) "__init__" p2) (e :: es) [] p3) p4 :: rest) scope dV kV doc pm an (.ref cda) ct cc) ps sp := by
  refine ⟨len, fun A outer s H args us vs Q E hr e0 hb r hsp => ?_⟩
  have hl := len _ _ _ _ hsp
  have KX : K.In s.heap := e0.mod.kin.keeps fun b o e => (e0.bs b o e).1
  have lim : s.heap.NoLimit := e0.mod.nolimit.keeps fun b o e => (e0.bs b o e).1
  obtain ⟨cl, cld, csl, hcell⟩ := T.cell
  refine ks_codeAny_call_defAt (fd := ksFn name qual params _ scope dV kV doc pm an (.ref cda) ct cc) (binds := ps.zip us) hr.depth (KX _ _ lk) rfl lim (codeRec_of KX hcd) rfl hb S.nocell (fun x hx => S.par _ (List.of_mem_zip hx).1) (fun h₁ hns hk => ?_) S.co S.gen S.kind
  obtain ⟨a, ta, t, ha0, hae, hpa, hpss, hq⟩ := hbody A outer s H vs Q E (hr.deeper _) hsp
  have I : Inv (cxK CX P w K mg base N qual scope f (.ref cda) cc A outer s H E) [] (L2.start N vs) H { s with heap := h₁, toks := s.toks + (ps.zip us).length } := inv_startK S hr.hd e0 hl r hcell hns hk
  obtain ⟨t1, hao⟩ := exo_at I.hok hae
  obtain ⟨mb, hmb, hbb⟩ := e0.mod.blt
  have kb : ∀ b o, base.get? b = some o → h₁.get? b = some o := fun b o z => hk b o (e0.bs b o z).1
  have ps0 : ps[0]? = some ar.arg := by rw [← List.head?_eq_getElem?]; exact h0
  have hself : (ps.zip us).reverse.lookup ar.arg = some (.ref a) := by
    have hv0 : vs[0]? = some (.ref a) := by rw [← List.head?_eq_getElem?]; exact ha0
    obtain ⟨u, hu, ru⟩ := r.get hv0
    cases ru
    refine lookup_rev_zip (by rw [← S.pre]; exact S.nd.sublist (List.take_sublist _ _)) (by rw [← hl, r.length]) ps0 hu
  show _root_.PySem.wpAt _ _ _ _ _ _ _
  refine ks_wpAt_execs_cons (ks_wpAt_Expr_any ?_ (hia _) (hsw _))
  obtain ⟨pl, hev1⟩ := hev s.heap.objs.size
  refine ks_wpAt_MethodCall (pl := pl) ?_ hev1
  refine super_base (x := a) (C := C) T (KX.keeps hk) (e0.mod.glob.at fun o z => kb _ _ z) (hmb.at fun o z => kb _ _ z) (by rw [hbb _ (by decide +kernel)]; first | rfl | boot_by_name | kernel_rfl) lk hp S.sup S.cls (S.par _ (List.mem_of_getElem? ps0)) S.kind hns hself hao rfl (fun c z => by cases z) (by decide +kernel) fun h2 so hso k2 hsz => ?_
  obtain ⟨nm, qq, NN, bs, bm, sn, sub, ab, col, dd, k0, k1, k2', k3, k5, hC, hbm⟩ := tx.cls
  have X2 : K.In h2 := (KX.keeps hk).keeps k2
  have hcl : ∃ cd, clsIn K C = some cd := by unfold clsIn; rw [hC]; exact ⟨_, rfl⟩
  obtain ⟨cd, hcl⟩ := hcl
  have J2 : InstAt h2 a { cls := .ref C, data := .fields #[.ref t1, .none, .none, .none, .bool false, .none] } C none := ⟨k2 _ _ hao, rfl, rfl, trivial⟩
  have tg2 := tgt
  unfold ks_superIn at tg2
  rw [hcl, Option.bind_some] at tg2
  have I2 := I.kept (h' := h2) (t' := s.toks + (ps.zip us).length) k2
  refine kxs_getMethod kxs_ValueError hso (looks_opaque X2 T.opq) (l₀ := cd.mro) (fun A Q E s k q => wpAny_bind ((looks_clsIn X2 hcl) A _ E s k (wpAny_pure q))) rfl X2 tg2 (J2.type.andThen (looks_subIn X2 subV)) (ks_ne X2 J2 hcl) (by decide +kernel) ?_
  have kp : ∀ b o, h2.get? b = some o → (h2.push (kxs_mw "ValueError.__init__" a)).get? b = some o := fun b o z => Heap.get?_push_of_some _ z
  have I3 := I2.kept (h' := h2.push (kxs_mw "ValueError.__init__" a)) (t' := s.toks + (ps.zip us).length + 1) kp
  have hu : (h2.push (kxs_mw "ValueError.__init__" a)).get? h2.objs.size = some (kxs_mw "ValueError.__init__" a) := Heap.get?_push_size _ rfl
  have I4 : Inv (cxK CX P w K mg base N qual scope f (.ref cda) cc A outer s H E) [(h2.objs.size, kxs_mw "ValueError.__init__" a)] (L2.start N vs) H _ := I3.pins_of fun p hp => by
    have e : p = (h2.objs.size, kxs_mw "ValueError.__init__" a) := by simpa using hp
    subst e
    refine ⟨hu, I2.hok.fresh (Nat.le_refl _), Nat.ne_of_gt I2.lt, I2.nofs (Nat.le_refl _), fun v z => by cases z⟩
  show wpAny _ _ (callWith p3 (.ref h2.objs.size) [] (backTo p3 (starEach (e :: es) (ksEnv qual scope s.heap.objs.size f (.ref cda) cc))) []) _ _ _
  rw [hst]
  refine kxs_callWith (i := "ValueError.__init__") (x := a) (by show (false || (backTo p3 (starEach es _)).any (·.1)) = false; rw [hpl]; rfl) ?_
  refine evalArgs_plain ?_
  have run1 := hpa.run p3 _ _ _ _ _ I4 hq
  have hst1 : starEach (e :: es) (cxK CX P w K mg base N qual scope f (.ref cda) cc A outer s H E).env = (false, eval e (cxK CX P w K mg base N qual scope f (.ref cda) cc A outer s H E).env) :: starEach es (cxK CX P w K mg base N qual scope f (.ref cda) cc A outer s H E).env := hst _
  rw [hst1] at run1
  refine thn run1 fun us1 s5 ⟨ws, H1, I5, rv, hz, hx1, q1⟩ => ⟨(I5.pin _ (List.mem_append_right _ List.mem_cons_self)).1, ?_⟩
  have hlen : us1.length ≤ sizeLine := by
    rw [← Paired.length rv, sizeLine_eq]
    omega
  refine mw_call tx I5 (I5.pin _ (List.mem_append_right _ List.mem_cons_self)).1 hx1 hlen fun s6 I6 => ?_
  refine wpAt_of_wpAny ?_
  refine wpAny_mono (hpss.run _ s6 _ H1 _ I6 q1) (fun fl s' hs => ?_) fun e s' hs => hs
  have fin : ∀ {σ' : L2.St} {H' : Hp} {v : V} {u : Value}, Inv (cxK CX P w K mg base N qual scope f (.ref cda) cc A outer s H E) [(h2.objs.size, kxs_mw "ValueError.__init__" a)] σ' H' s' → RelV v u → Q v H' → CE outer P w H s Q u s' :=
    fun {σ' H' v u} J rv q => ⟨v, H', J.os, J.bare, J.base, J.hok, rv, q⟩
  cases fl with
  | ret u =>
    obtain ⟨v, σ', H', J, rv, q⟩ := hs
    exact fin J rv q
  | next =>
    obtain ⟨σ', H', J, q⟩ := hs
    exact fin (v := V.non) (u := Value.none) J rfl q
  | brk =>
    obtain ⟨_, _, _, q⟩ := hs
    exact False.elim q
  | cont =>
    obtain ⟨_, _, _, q⟩ := hs
    exact False.elim q
end
end OC

set_option maxHeartbeats 4000000
/-! Calls whose errors are wished for at the caller's slots; own errors made, asked and read; calls where an error is handled. -/
namespace OC
open PySem PySem.Spec PySem.Calls PyProof.Rows PySem.W L2 L2H

/-- a def (or method) of the text as it stands behind the top, whatever its defaults -/
structure FunG (K : PySem.W.Frag) (x qual : Str) (st : Stmt) (f : Addr) (fd : FuncData) : Prop where
  ex : ∃ (oc : Value) (od : Option Addr) (dV kV doc pm : Value) (an : Option Addr) (cdv ct : Value) (osl : Array (Option Value)),
    fd = PySem.W.fnOf x qual (defArgs st) (defBody st) (defScope st) dV kV doc pm an cdv ct ∧ K.lookup f = some ⟨oc, od, .func fd, osl⟩ ∧ PySem.W.codeIn K cdv qual = true
  kp : PySem.W.keepIn K (.ref f) = true
theorem FunG.of {K : PySem.W.Frag} {x qual : Str} {st : Stmt} {f : Addr} {fd : FuncData} (F : Fun K x qual st f fd) : FunG K x qual st f fd := by
  obtain ⟨oc, od, kV, doc, pm, an, cdv, ct, osl, e, l, c⟩ := F.ex
  exact ⟨⟨oc, od, .none, kV, doc, pm, an, cdv, ct, osl, e, l, c⟩, F.kp⟩
/-! ### a def that may raise -/
abbrev WOf (E : XK) : WX := fun cls d _ H => E cls d H
section
variable {P : Program} {w : World} {K : PySem.W.Frag} {mg : Str → Option Value} {base : Heap}
theorem okN {x qual : Str} {st : Stmt} {f : Addr} {fd : FuncData} {N ps : List Str} {k : Nat} {sp : Sp} (F : FunG K x qual st f fd) (S : FnScope N ps (defScope st)) (len : ∀ vs H Q E, sp vs H Q E → vs.length = ps.length)
    (hbody : ∀ (cdv : Value) (A : Around) (outer : List Env) (s : Shared) (H : Hp) (vs : List V) (Q : VK) (E : XK), Room k (A.deeper (envOfC qual (defScope st) s.heap.objs.size f cdv)) →
      L2N.Takes (cxOf (L2N.CX P w) P w K mg base N qual (defScope st) f cdv A outer s H E) (WOf E) → PassesOwn (model P w) (A.deeper (envOfC qual (defScope st) s.heap.objs.size f cdv)) (envOfC qual (defScope st) s.heap.objs.size f cdv) (cxOf (L2N.CX P w) P w K mg base N qual (defScope st) f cdv A outer s H E).xe →
      sp vs H Q E →
      ∃ t, PSs (cxOf (L2N.CX P w) P w K mg base N qual (defScope st) f cdv A outer s H E) (defBody st) t ∧ t { nx := fun _ H' => Q .non H', rt := Q } (L2.start N vs) H) :
    FnOk P w K mg base (L2N.CX P w) (k + 1) f fd ps sp := by
  obtain ⟨oc, od, dV, kV, doc, pm, an, cdv, ct, osl, rfl, lk, hcd⟩ := F.ex
  refine fn_of lk hcd S len fun A outer s H vs Q E hr hsp => hbody cdv A outer s H vs Q E hr ?_ ?_ hsp
  · exact L2N.takes_of rfl rfl rfl rfl
  · exact passes_of rfl
end

/-! ### calls -/
section
variable {X : Cx} {CX : CXT} {k : Nat} {f C : Addr} {fd : FuncData} {ps : List Str} {sp : Sp} {dvs : List V} {ds : List Value} {E : L2.St → XK} {x m : Str} {p pos apos : Pos} {e o : Expr} {es : List Expr} {ta : TE} {t : TA}
theorem pe_cl0 (Fk : FnOk X.prog X.w X.K X.mg X.base CX k f fd ps sp) (hr : Room k X.A) (hg : Gl X x) (hm : X.mg x = some (.ref f)) (hk : PySem.W.keepIn X.K (.ref f) = true) (hb : Binds X.K fd ps ds) (hd : Vals dvs ds) (hx : ∀ σ, PassesAt CX X σ (E σ))
    (hdb : (x == ("__debug__" : Str)) = false := by decide) : PE X (.Call (.Name x p) [] [] pos) (tCallSD sp dvs E tNil) := by
  refine ⟨fun pins s σ H Q I h => ?_⟩
  refine wpAny_Call_Name_kw (ld_glob I hg hm ?_ hdb)
  exact PySem.W.callWith_K0 I.kIn hk (run_fnSD (us := []) Fk hr hb hd (hx σ) I .nil h)
def tMe (C : Addr) (m : Str) (sp : Sp) (dvs : List V) (E : L2.St → XK) (ta : TE) (t : TA) : TE := fun σ H Q => ta σ H fun x H1 => ∃ a dx fs, x = .ref a ∧ H1 a = some (.ins C dx fs) ∧ fs.lookup m = none ∧ t σ H1 fun vs H2 => sp (x :: (vs ++ dvs)) H2 Q (E σ)
theorem pe_me {pl : Sem Bool} (he : PE X o ta) (c : Cls X.K C) (hm : Meth X.K C m f) (Fk : FnOk X.prog X.w X.K X.mg X.base CX k f fd ps sp) (hr : Room k X.A) (hb : Binds X.K fd ps ds) (hd : Vals dvs ds) (hx : ∀ σ, PassesAt CX X σ (E σ)) (ha : PA X (e :: es) t)
    (hst : starEach (e :: es) X.env = (false, eval e X.env) :: starEach es X.env := by rfl) (hpl : (backTo pos (starEach es X.env)).any (·.1) = false := by rfl)
    (ht : eval (.Call (.Attribute o m apos) (e :: es) [] pos) X.env = (do
      let ov ← eval o X.env
      standAt apos.atName
      let (f, first) ← holding [ov] (getMethod ov m pl)
      callWith pos f first (backTo pos (starEach (e :: es) X.env)) (backToKw pos (keywordEach [] X.env))) := by rfl) :
    PE X (.Call (.Attribute o m apos) (e :: es) [] pos) (tMe C m sp dvs E ta t) := by
  refine ⟨fun pins s σ H Q I h => ?_⟩
  refine PySem.W.methodCall_KW (pl := pl) (thn (he.run pins s σ H _ I h) fun u s1 ⟨x, H1, I1, rx, a, dx, fs, ex, ea, l, q⟩ => ?_) ht
  subst ex
  obtain rfl : u = Value.ref a := rx
  refine getmeth_ok I1 ea c hm l ?_
  refine PySem.W.callWith_K (first := [.ref a]) (h₀ := X.base) I.ok.mod.kin hm.kp (thn (ha.run pos pins s1 σ H1 _ I1 q) fun us s2 ⟨vs, H2, I2, r, q2⟩ => ⟨I2.kIn, ?_⟩) hst hpl
  exact run_fnSD (us := .ref a :: us) (vs := .ref a :: vs) Fk hr hb hd (hx σ) I2 (.cons rfl r) q2
theorem pe_me0 {pl : Sem Bool} (he : PE X o ta) (c : Cls X.K C) (hm : Meth X.K C m f) (Fk : FnOk X.prog X.w X.K X.mg X.base CX k f fd ps sp) (hr : Room k X.A) (hb : Binds X.K fd ps ds) (hd : Vals dvs ds) (hx : ∀ σ, PassesAt CX X σ (E σ))
    (ht : eval (.Call (.Attribute o m apos) [] [] pos) X.env = (do
      let ov ← eval o X.env
      standAt apos.atName
      let (f, first) ← holding [ov] (getMethod ov m pl)
      callWith pos f first (backTo pos (starEach [] X.env)) (backToKw pos (keywordEach [] X.env))) := by rfl) :
    PE X (.Call (.Attribute o m apos) [] [] pos) (tMe C m sp dvs E ta tNil) := by
  refine ⟨fun pins s σ H Q I h => ?_⟩
  refine PySem.W.methodCall_KW (pl := pl) (thn (he.run pins s σ H _ I h) fun u s1 ⟨x, H1, I1, rx, a, dx, fs, ex, ea, l, q⟩ => ?_) ht
  subst ex
  obtain rfl : u = Value.ref a := rx
  refine getmeth_ok I1 ea c hm l ?_
  exact PySem.W.callWith_K0 (first := [.ref a]) I1.kIn hm.kp (run_fnSD (us := [.ref a]) (vs := [.ref a]) Fk hr hb hd (hx σ) I1 (.cons rfl .nil) q)
def tMk (C : Addr) (sp : Sp) (dvs : List V) (E : L2.St → XK) (t : TA) : TE := fun σ H Q => t σ H fun vs H1 => ∀ x dx, H1 x = none → H1 dx = none → dx ≠ x →
  sp (.ref x :: (vs ++ dvs)) (upd (upd H1 dx (.own x)) x (.ins C dx [])) (fun v H2 => v = .non ∧ Q (.ref x) H2) (E σ)
theorem run_mk {pins : List (Addr × Obj)} {σ : L2.St} {H : Hp} {s : Shared} {Q : VK} {us : List Value} {vs : List V} (M : Mk X.K C f) (Fk : FnOk X.prog X.w X.K X.mg X.base CX k f fd ps sp) (hr : Room (k + 1) X.A) (hb : Binds X.K fd ps ds) (hd : Vals dvs ds)
    (hx : ∀ σ, PassesAt CX X σ (E σ)) (I : Inv X pins σ H s) (r : Vals vs us)
    (h : ∀ x dx, H x = none → H dx = none → dx ≠ x → sp (.ref x :: (vs ++ dvs)) (upd (upd H dx (.own x)) x (.ins C dx [])) (fun v H2 => v = .non ∧ Q (.ref x) H2) (E σ)) :
    wpAny (model X.prog X.w) X.A (call (.ref C) us) (EP X pins σ Q) X.xe s := by
  have hq := h (s.heap.objs.size + 1) s.heap.objs.size (I.hok.fresh (Nat.le_succ _)) (I.hok.fresh (Nat.le_refl _)) (Nat.ne_of_lt (Nat.lt_succ_self _))
  have I2 := Inv.made (C := C) I
  have r2 : Vals (V.ref (s.heap.objs.size + 1) :: (vs ++ dvs)) (Value.ref (s.heap.objs.size + 1) :: (us ++ ds)) := .cons rfl (r.append hd)
  have hl : (Value.ref (s.heap.objs.size + 1) :: us ++ ds).length = ps.length := by
    have e := r2.length
    rw [Fk.len _ _ _ _ hq] at e
    exact e.symm
  refine wpAny_call (make_map (f := f) I.kIn M.makes M.init (beq_iff_eq.mp M.fn) (codeAny_mono (Fk.run _ X.stack _ _ ⟨Value.ref (s.heap.objs.size + 1) :: us, []⟩ (Value.ref (s.heap.objs.size + 1) :: (us ++ ds)) _ _ (E σ) (hr.make C us [])
    (I2.env0.make C us []) (hb _ (Value.ref (s.heap.objs.size + 1) :: us) I2.kIn hl) r2 hq) fun r s' hq' => ?_))
  cases r with
  | error e => exact hx σ pins _ _ e s' I2 hq'
  | ok fl =>
    cases fl with
    | ret u =>
      obtain ⟨v, H', I3, rv, ev, q3⟩ := I2.after hq'
      subst ev
      exact ⟨rv, ⟨V.ref (s.heap.objs.size + 1), H', I3, rfl, q3⟩⟩
    | next => exact False.elim hq'
    | brk => exact False.elim hq'
    | cont => exact False.elim hq'
theorem pe_mk (M : Mk X.K C f) (Fk : FnOk X.prog X.w X.K X.mg X.base CX k f fd ps sp) (hr : Room (k + 1) X.A) (hg : Gl X x) (hm : X.mg x = some (.ref C)) (hb : Binds X.K fd ps ds) (hd : Vals dvs ds) (hx : ∀ σ, PassesAt CX X σ (E σ))
    (ha : PA X (e :: es) t) (hdb : (x == ("__debug__" : Str)) = false := by decide) (he : starEach (e :: es) X.env = (false, eval e X.env) :: starEach es X.env := by rfl) (hpl : (backTo pos (starEach es X.env)).any (·.1) = false := by rfl) :
    PE X (.Call (.Name x p) (e :: es) [] pos) (tMk C sp dvs E t) := by
  refine ⟨fun pins s σ H Q I h => ?_⟩
  refine wpAny_Call_Name_kw (ld_glob I hg hm ?_ hdb)
  refine PySem.W.callWith_K (h₀ := X.base) I.ok.mod.kin M.kp (thn (ha.run pos pins s σ H _ I h) fun us s1 ⟨vs, H1, I1, r, q⟩ => ⟨I1.kIn, ?_⟩) he hpl
  exact run_mk M Fk hr hb hd hx I1 r q
theorem pe_mk0 (M : Mk X.K C f) (Fk : FnOk X.prog X.w X.K X.mg X.base CX k f fd ps sp) (hr : Room (k + 1) X.A) (hg : Gl X x) (hm : X.mg x = some (.ref C)) (hb : Binds X.K fd ps ds) (hd : Vals dvs ds) (hx : ∀ σ, PassesAt CX X σ (E σ))
    (hdb : (x == ("__debug__" : Str)) = false := by decide) : PE X (.Call (.Name x p) [] [] pos) (tMk C sp dvs E tNil) := by
  refine ⟨fun pins s σ H Q I h => ?_⟩
  refine wpAny_Call_Name_kw (ld_glob I hg hm ?_ hdb)
  exact PySem.W.callWith_K0 I.kIn M.kp (run_mk (us := []) M Fk hr hb hd hx I .nil h)
end

/-! ### raise X(e, ..), X an own error over ValueError with an initialiser -/
section
variable {X : Cx} {e : Expr} {es : List Expr} {ta : TA} {p pos : Pos}
theorem pmk_oexN {CX : CXT} {x : Str} {C fI : Addr} {k : Nat} {fd : FuncData} {ps : List Str} {sp : Sp} {ds : List Value} {dvs : List V} (T : OexC X.K C) (iC : PySem.W.findIn X.K (.ref C) "__init__" = some (some (.ref fI))) (tI : PySem.W.typeIn X.K (.ref fI) = some (.type "function"))
    (F1 : FnOk X.prog X.w X.K X.mg X.base CX k fI fd ps sp) (hr : Room (k + 1) X.A) (hb : Binds X.K fd ps ds) (hd : Vals dvs ds) (hx : Passes CX X (fun _ _ _ => False)) (hg : Gl X x) (hm : X.mg x = some (.ref C)) (ha : PA X (e :: es) ta)
    (hdb : (x == ("__debug__" : Str)) = false := by decide) (he : starEach (e :: es) X.env = (false, eval e X.env) :: starEach es X.env := by rfl) (hpl : (backTo pos (starEach es X.env)).any (·.1) = false := by rfl) :
    L2N.PMk X (.Call (.Name x p) (e :: es) [] pos) (tMkO C sp dvs ta) := by
  intro pins s σ H Q I h
  obtain ⟨nm, q, N, bs, bm, sn, sub, ab, col, dd, k0, k1, k2, k3, k5, hC, hbm⟩ := T.cls
  refine wpAny_Call_Name_kw (ld_glob I hg hm ?_ hdb)
  refine PySem.W.callWith_K (h₀ := X.base) I.ok.mod.kin T.kC (thn (ha.run pos pins s σ H _ I h) fun us s1 ⟨vs, H1, I1, r1, hz, q1⟩ => ⟨I1.kIn, ?_⟩) he hpl
  show wpAny _ _ (call (.ref C) us) _ _ _
  obtain ⟨hp, g, dr, tk, os⟩ := s1
  have hsz : hp.objs.size ≤ hp.objs.size + 1 := Nat.le_succ _
  have hn : H1 (hp.objs.size + 1) = none := I1.hok.fresh hsz
  have hq := q1 (hp.objs.size + 1) hn
  have kk : ∀ b o, hp.get? b = some o → ((hp.push (PySem.W.kdv_tup us)).push (PySem.HandSPX.excO C hp.objs.size)).get? b = some o := fun b o e => Heap.get?_push_of_some _ (Heap.get?_push_of_some _ e)
  have hget : ((hp.push (PySem.W.kdv_tup us)).push (PySem.HandSPX.excO C hp.objs.size)).get? (hp.objs.size + 1) = some (PySem.HandSPX.excO C hp.objs.size) := by heap_get
  have I2 : Inv X pins σ (upd H1 (hp.objs.size + 1) (exo (hp.objs.size + 1) C none)) ⟨(hp.push (PySem.W.kdv_tup us)).push (PySem.HandSPX.excO C hp.objs.size), g, dr, tk, os⟩ :=
    I1.laid (t' := tk) (a := hp.objs.size + 1) (o := exo (hp.objs.size + 1) C none) (h' := (hp.push (PySem.W.kdv_tup us)).push (PySem.HandSPX.excO C hp.objs.size)) kk hsz (exo_ok hget)
  have r2 : Vals (V.ref (hp.objs.size + 1) :: (vs ++ dvs)) (Value.ref (hp.objs.size + 1) :: (us ++ ds)) := .cons rfl (r1.append hd)
  have hl : (Value.ref (hp.objs.size + 1) :: us ++ ds).length = ps.length := by
    have e := r2.length
    rw [F1.len _ _ _ _ hq] at e
    exact e.symm
  have hus : us.length ≤ sizeLine := by
    rw [← Paired.length r1, sizeLine_eq]
    omega
  refine wpAny_call (PySem.HandSPX.call_own F.excBase_ValueError (fun Y => PySem.HandSPX.refsVE_contains Y bm hbm) (I1.kIn _ _ hC) (PySem.W.looks_findIn I1.kIn iC) (fun self => PySem.W.bind_fn I1.kIn self tI) hus
    (codeAny_mono (F1.run _ X.stack _ _ ⟨Value.ref (hp.objs.size + 1) :: us, []⟩ (Value.ref (hp.objs.size + 1) :: (us ++ ds)) _ _ (fun _ _ _ => False) (hr.make C us []) (I2.env0.make C us []) (hb _ (Value.ref (hp.objs.size + 1) :: us) I2.kIn hl) r2 hq) fun r s' hq' => ?_))
  cases r with
  | error er => exact hx pins σ _ _ er s' I2 hq'
  | ok fl =>
    cases fl with
    | ret u =>
      obtain ⟨v, H2, os2, bare2, un2, hok2, rv, ev, d, fs, ea, ed, hd1, q2⟩ := hq'
      subst ev
      obtain ⟨h2, g2, d2, t2, os'⟩ := s'
      obtain ⟨t0, G, J, kG, ge, hoe, na⟩ := mk_end0 (d2 := d2) (t2 := t2) I1 hsz kk un2 hok2 os2 bare2 ea ed hd1
      exact ⟨rv, hp.objs.size + 1, _, _, ⟨G, g2, d2, t2, os'⟩, _, .ref C, some d, rfl, J, kG, ge, hoe, ⟨rfl, rfl, fun vs e => by cases e; rfl⟩, rfl, rfl, na, rfl, bare2, raises_own T.exC T.tyC, q2⟩
    | next => exact False.elim hq'
    | brk => exact False.elim hq'
    | cont => exact False.elim hq'
end

/-! ### the handled error: isinstance, its fields -/
def rIsX (K : PySem.W.Frag) (a : Addr) (cls : Value) (d : Option Addr) : List V → Hp → VK → Prop := fun xs H Q => ∃ (D : Addr) (dd : Addr) (fs : List (Str × V)) (c : V) (cv : Value) (b : Bool),
  cls = .ref D ∧ d = some dd ∧ H dd = some (.xd fs) ∧ ExcC K D ∧ xs = [.ref a, c] ∧ (∀ u, RelV c u → u = cv) ∧ PySem.W.kitOne K (.ref D) cv = some b ∧ Q (.bl b) H
theorem inst_of {X : Cx} {pins : List (Addr × Obj)} {σ : L2.St} {H : Hp} {s : Shared} {a D dd : Addr} {oe : Obj} {fs : List (Str × V)} (I : Inv X pins σ H s) (hin : (a, oe) ∈ X.pn) (hz : Zc (.ref D) (some dd) oe) (hf : ∃ vs, oe.data = .fields vs) (ea : H dd = some (.xd fs)) :
    ∃ od, PySem.W.InstAt s.heap a oe D (some od) ∧ ∀ n v, fs.lookup n = some v → ∃ u, PySem.W.lookIn n od = some (some u) ∧ RelV v u := by
  obtain ⟨ha, _⟩ := I.pin (a, oe) (List.mem_append_left _ hin)
  obtain ⟨vs, hd⟩ := hf
  have hx : ObjOk X.prog X.w H s.heap dd (.xd fs) := I.hok dd _ ea
  obtain ⟨mA, hns, hr⟩ := hx
  obtain ⟨od, ho, hl⟩ := lookIn_ns hns
  refine ⟨od, ⟨ha, hz.1, by unfold PySem.W.notCls; rw [hd] <;> rfl, by rw [hz.2]; exact ho⟩, fun n v l => ?_⟩
  obtain ⟨u, hu, ru⟩ := RelO.some_of (v := v) (o := mA n) (by rw [← l]; exact hr n)
  exact ⟨u, by rw [hl, hu], ru⟩
theorem call_isX {X : Cx} {a : Addr} {oe : Obj} {cls : Value} {d : Option Addr} (hin : (a, oe) ∈ X.pn) (hz : Zc cls d oe) (hf : ∃ vs, oe.data = .fields vs) : CallR X (.builtin "isinstance") (rIsX X.K a cls d) := by
  intro pins s σ H xs us Q I r h
  obtain ⟨D, dd, fs, c, cv, b, rfl, rfl, ea, C, rfl, hcv, e, q⟩ := h
  cases r with
  | cons rx rr =>
    cases rr with
    | cons rt rr =>
      cases rr
      cases rx
      have ec := hcv _ rt
      subst ec
      obtain ⟨od, J, _⟩ := inst_of I hin hz hf ea
      have hcl : (clsIn X.K D).isSome = true := by
        obtain ⟨cd, hc, _⟩ := any_some C.hd
        rw [hc]; rfl
      exact PySem.W.kia_one (PySem.W.kitx_exc (od := some od) hcl C.hg C.hk C.hs C.ha C.hn C.ht C.hm) I.kIn J e (fun z => nomatch z) fun tk => ⟨.bl b, H, I.kept (t' := tk) fun _ _ z => z, rfl, q⟩
def tXF (K : PySem.W.Frag) (a : Addr) (cls : Value) (d : Option Addr) (f : Str) (te : TE) : TE := fun σ H Q => te σ H fun x H1 => ∃ (D dd : Addr) (fs : List (Str × V)) (v : V), x = .ref a ∧ cls = .ref D ∧ d = some dd ∧ H1 dd = some (.xd fs) ∧ XfC K D ∧ PySem.W.findIn K (.ref D) f = some none ∧ fs.lookup f = some v ∧ Q v H1
theorem pe_xF {X : Cx} {a : Addr} {oe : Obj} {cls : Value} {d : Option Addr} {e : Expr} {te : TE} {pos : Pos} {n : Str} (hin : (a, oe) ∈ X.pn) (hz : Zc cls d oe) (hf : ∃ vs, oe.data = .fields vs) (he : PE X e te)
    (hb : attributeBase e n X.env (eval e X.env) = eval e X.env := by rfl) : PE X (.Attribute e n pos) (tXF X.K a cls d n te) := by
  refine ⟨fun pins s σ H Q I h => ?_⟩
  refine attr_of hb (thn (he.run pins s σ H _ I h) fun u s1 hh => ?_)
  obtain ⟨x, H1, I1, rx, D, dd, fs, v, ex, ec, ed, ea, T, hno, l, q⟩ := hh
  subst ex
  obtain rfl : u = Value.ref a := rx
  subst ec
  subst ed
  obtain ⟨od, J, hl⟩ := inst_of I1 hin hz hf ea
  obtain ⟨u, hu, ru⟩ := hl n v l
  exact HandSPX.exc_get I1.kIn J T.ga T.gg T.exC (PySem.W.findObj_own T.hdC hno rfl hu) (handed_of ru) ⟨v, H1, I1.tok _, ru, q⟩

/-! ### a def called where an error is handled; it may be handed the error -/
structure FnX (P : Program) (w : World) (K : PySem.W.Frag) (mg : Str → Option Value) (base : Heap) (CX : CXT) (k : Nat) (f : Addr) (fd : FuncData) (ps : List Str) (sp : Addr → Value → Option Addr → Sp) : Prop where
  len : ∀ a c d vs H Q E, sp a c d vs H Q E → vs.length = ps.length
  run : ∀ (A : Around) (outer : List Env) (s : Shared) (H : Hp) (args : Args) (us : List Value) (vs : List V) (Q : VK) (E : XK) (p : Addr × Obj) (cls : Value) (d : Option Addr), RoomH k A → Hot1 A p → PinOk outer H s p → L2N.Zn cls d p.2 → Env0 P w K mg base A outer s H →
    BindsTo s fd args (ps.zip us) → Vals vs us → sp p.1 cls d vs H Q E → codeAny (model P w) A (.call (.ref f) args) (CR CX outer P w H s Q E) s
section
variable {P : Program} {w : World} {K : PySem.W.Frag} {mg : Str → Option Value} {base : Heap}
theorem fn_ofX {CX : CXT} {k : Nat} {f : Addr} {name qual : Str} {params : Arguments} {body : List Stmt} {scope : Scope} {dV kV doc pm cdv ct oc : Value} {an od : Option Addr}
    {osl : Array (Option Value)} {N ps : List Str} {sp : Addr → Value → Option Addr → Sp} (lk : K.lookup f = some ⟨oc, od, .func (PySem.W.fnOf name qual params body scope dV kV doc pm an cdv ct), osl⟩) (hcd : PySem.W.codeIn K cdv qual = true) (S : FnScope N ps scope)
    (len : ∀ a c d vs H Q E, sp a c d vs H Q E → vs.length = ps.length)
    (hbody : ∀ (A : Around) (outer : List Env) (s : Shared) (H : Hp) (vs : List V) (Q : VK) (E : XK) (p : Addr × Obj) (cls : Value) (d : Option Addr), Hot1 A p → L2N.Zn cls d p.2 → RoomH k (A.deeper (envOfC qual scope s.heap.objs.size f cdv)) → sp p.1 cls d vs H Q E →
      ∃ t, PSs (cxH CX P w K mg base N qual scope f cdv A outer s H E p) body t ∧ t { nx := fun _ H' => Q .non H', rt := Q } (L2.start N vs) H) :
    FnX P w K mg base CX (k + 1) f (PySem.W.fnOf name qual params body scope dV kV doc pm an cdv ct) ps sp := by
  refine ⟨len, fun A outer s H args us vs Q E p cls d hr hot hpin hz e0 hb r hsp => ?_⟩
  have hl := len _ _ _ _ _ _ _ hsp
  have KX : K.In s.heap := e0.mod.kin.keeps fun b o e => (e0.bs b o e).1
  have lim : s.heap.NoLimit := e0.mod.nolimit.keeps fun b o e => (e0.bs b o e).1
  have hkind : ∀ y ∈ ps.zip us, scope.names.lookup y.1 = some .local ∨ (scope.names.lookup y.1 = some .cell ∧ ((cellsFrom (s.heap.objs.size + 1) scope.names []).lookup y.1).isSome = true) := fun ⟨n, v⟩ hy => by
    rcases S.par n (List.of_mem_zip hy).1 with q | q
    · exact .inl q
    · exact .inr ⟨q, PySem.W.cellsFrom_some _ _ _ (.inl q)⟩
  refine codeAny_call_function hr.depth (KX _ _ lk) rfl S.co S.gen rfl (PySem.W.codeRec_of KX hcd) (hb _ _ _ _ ?_)
  refine wpAny_newFunctionEnv_cells S.kind hkind fun env he s1 x => ?_
  subst he
  refine ⟨lim.keeps x.toInCall.keep, codeAny_func ?_⟩
  obtain ⟨t, ht, hq⟩ := hbody A outer s H vs Q E p cls d hot hz (hr.deeper _) hsp
  have I : Inv (cxH CX P w K mg base N qual scope f cdv A outer s H E p) [] (L2.start N vs) H s1 := inv_startH S hpin e0 hl r x
  refine wpAny_mono (ht.run [] s1 (L2.start N vs) H _ I hq) (fun fl s' hs => ?_) fun e s' hs => hs
  have fin : ∀ {σ' : L2.St} {H' : Hp} {v : V} {u : Value}, Inv (cxH CX P w K mg base N qual scope f cdv A outer s H E p) [] σ' H' s' → RelV v u → Q v H' → CE outer P w H s Q u s' :=
    fun {σ' H' v u} J rv q => ⟨v, H', J.os, J.bare, J.base, J.hok, rv, q⟩
  cases fl with
  | ret u =>
    obtain ⟨v, σ', H', J, rv, q⟩ := hs
    exact fin J rv q
  | next =>
    obtain ⟨σ', H', J, q⟩ := hs
    exact fin (v := V.non) (u := Value.none) J rfl q
  | brk =>
    obtain ⟨_, _, _, q⟩ := hs
    exact False.elim q
  | cont =>
    obtain ⟨_, _, _, q⟩ := hs
    exact False.elim q
/-- as okN, for a def called where an error is handled; nothing may be raised in it -/
theorem okX {x qual : Str} {st : Stmt} {f : Addr} {fd : FuncData} {N ps : List Str} {k : Nat} {sp : Addr → Value → Option Addr → Sp} (Fk : FunG K x qual st f fd) (S : FnScope N ps (defScope st)) (len : ∀ a c d vs H Q E, sp a c d vs H Q E → vs.length = ps.length)
    (hbody : ∀ (cdv : Value) (A : Around) (outer : List Env) (s : Shared) (H : Hp) (vs : List V) (Q : VK) (E : XK) (a : Addr) (oe : Obj) (cls : Value) (d : Option Addr), Hot1 A (a, oe) → L2N.Zn cls d oe → (∃ vs, oe.data = .fields vs) → RoomH k (A.deeper (envOfC qual (defScope st) s.heap.objs.size f cdv)) → sp a cls d vs H Q E →
      ∃ t, PSs (cxH (L2N.CX P w) P w K mg base N qual (defScope st) f cdv A outer s H E (a, oe)) (defBody st) t ∧ t { nx := fun _ H' => Q .non H', rt := Q } (L2.start N vs) H) :
    FnX P w K mg base (L2N.CX P w) (k + 1) f fd ps sp := by
  obtain ⟨oc, od, dV, kV, doc, pm, an, cdv, ct, osl, rfl, lk, hcd⟩ := Fk.ex
  refine fn_ofX lk hcd S len fun A outer s H vs Q E p cls d hot hz hr hsp => hbody cdv A outer s H vs Q E p.1 p.2 cls d hot hz ?_ hr hsp
  obtain ⟨_, vs, e, _⟩ := hot
  exact ⟨vs, e⟩
end
section
variable {X : Cx} {CX : CXT} {k : Nat} {f a : Addr} {oe : Obj} {cls : Value} {d : Option Addr} {fd : FuncData} {ps : List Str} {sp : Addr → Value → Option Addr → Sp} {E : L2.St → XK} {x : Str} {q pos : Pos} {e : Expr} {es : List Expr} {t : TA}
theorem pe_clX (Fk : FnX X.prog X.w X.K X.mg X.base CX k f fd ps sp) (hr : RoomH k X.A) (hot : Hot1 X.A (a, oe)) (hin : (a, oe) ∈ X.pn) (hz : L2N.Zn cls d oe) (hg : Gl X x) (hm : X.mg x = some (.ref f)) (hk : PySem.W.keepIn X.K (.ref f) = true) (hb : Binds X.K fd ps []) (hx : ∀ σ, PassesAt CX X σ (E σ))
    (ha : PA X (e :: es) t) (hdb : (x == ("__debug__" : Str)) = false := by decide) (he : starEach (e :: es) X.env = (false, eval e X.env) :: starEach es X.env := by rfl) (hpl : (backTo pos (starEach es X.env)).any (·.1) = false := by rfl) :
    PE X (.Call (.Name x q) (e :: es) [] pos) (tCallSD (sp a cls d) [] E t) := by
  refine ⟨fun pins s σ H Q I h => ?_⟩
  refine wpAny_Call_Name_kw (ld_glob I hg hm ?_ hdb)
  refine PySem.W.callWith_K (h₀ := X.base) I.ok.mod.kin hk (thn (ha.run pos pins s σ H _ I h) fun us s1 ⟨vs, H1, I1, r, q1⟩ => ⟨I1.kIn, ?_⟩) he hpl
  have q1 : sp a cls d (vs ++ []) H1 Q (E σ) := q1
  rw [List.append_nil] at q1
  have hl : us.length = ps.length := by rw [← r.length]; exact Fk.len _ _ _ _ _ _ _ q1
  have b := hb s1 us I1.kIn (by rw [List.append_nil]; exact hl)
  rw [List.append_nil] at b
  have P1 := I1.pin (a, oe) (List.mem_append_left _ hin)
  have hpin : PinOk X.stack H1 s1 (a, oe) := ⟨P1.1, P1.2.1, fun hm => (List.mem_cons.mp (I1.stkSub a hm)).elim P1.2.2.1 P1.2.2.2.1, P1.2.2.2.2⟩
  refine wpAny_call (codeAny_mono (Fk.run X.A X.stack s1 H1 ⟨us, []⟩ us vs Q (E σ) (a, oe) cls d hr hot hpin hz I1.env0 b r q1) fun r s' hq => ?_)
  cases r with
  | error e => exact hx σ pins H1 s1 e s' I1 hq
  | ok fl =>
    cases fl with
    | ret u => exact I1.after hq
    | next => exact False.elim hq
    | brk => exact False.elim hq
    | cont => exact False.elim hq
end
/-- where nothing is raised -/
theorem passN {X : Cx} : ∀ σ : L2.St, PassesAt (L2N.CX X.prog X.w) X σ E0 := fun _ _ _ _ _ _ _ h => by
  obtain ⟨_, _, _, _, _, _, _, _, _, _, _, _, z⟩ := h
  exact z.elim
theorem hot_suite {X : Cx} {a : Addr} {oe : Obj} {cls : Value} {d : Option Addr} {pn : List (Addr × Obj)} (hz : L2N.Zn cls d oe) (hf : ∃ vs, oe.data = .fields vs) : Hot1 (X.suite a pn).A (a, oe) := by
  obtain ⟨vs, e⟩ := hf
  exact ⟨rfl, vs, e, hz.2.2 vs e⟩
end OC

set_option maxHeartbeats 4000000
/-! A heap told by pieces: what stands at each address that matters, each address once. -/
namespace OC
open PySem PySem.Spec PyProof.Rows L2

abbrev Cell := Addr × HO
abbrev Chunk := List Cell
/-- one object -/
def pt (a : Addr) (o : HO) : Chunk := [(a, o)]
structure Has (H : Hp) (L : List Chunk) : Prop where
  at_ : ∀ e ∈ L.flatten, H e.1 = some e.2
  nd : (L.flatten.map (·.1)).Nodup
/-- tuples: they never change, and may be shared -/
abbrev Tups := List (Addr × List V)
def HasT (H : Hp) (T : Tups) : Prop := ∀ e ∈ T, H e.1 = some (.tup e.2)
/-- P holds of every heap that looks so -/
def Go (T : Tups) (L : List Chunk) (P : Hp → Prop) : Prop := ∀ H, Has H L → HasT H T → P H

/-- the piece F a g among the pieces L; R the others -/
class Pull {G : Type} (F : Addr → G → Chunk) (L : List Chunk) (a : Addr) (g : outParam G) (R : outParam (List Chunk)) : Prop where
  perm : L.flatten.Perm (F a g ++ R.flatten)
instance Pull.tail {G : Type} {F : Addr → G → Chunk} {c : Chunk} {L : List Chunk} {a : Addr} {g : G} {R : List Chunk} [p : Pull F L a g R] : Pull F (c :: L) a g (c :: R) where
  perm := by
    rw [List.flatten_cons, List.flatten_cons]
    refine (List.Perm.append_left c p.perm).trans ?_
    rw [← List.append_assoc, ← List.append_assoc]
    exact List.Perm.append_right _ List.perm_append_comm
instance Pull.head {G : Type} {F : Addr → G → Chunk} {a : Addr} {g : G} {R : List Chunk} : Pull F (F a g :: R) a g R where
  perm := by rw [List.flatten_cons]
/-- a tuple that is known -/
class Kn (T : Tups) (a : Addr) (xs : outParam (List V)) : Prop where
  mem : (a, xs) ∈ T
instance Kn.tail {T : Tups} {a : Addr} {xs : List V} {e : Addr × List V} [k : Kn T a xs] : Kn (e :: T) a xs := ⟨.tail _ k.mem⟩
instance Kn.head {T : Tups} {a : Addr} {xs : List V} : Kn ((a, xs) :: T) a xs := ⟨.head _⟩
/-- more tuples -/
class Mo (T T' : Tups) : Prop where
  sub : ∀ e ∈ T, e ∈ T'
instance Mo.tail {T T' : Tups} {e : Addr × List V} [m : Mo T T'] : Mo T (e :: T') := ⟨fun x h => .tail _ (m.sub x h)⟩
instance Mo.refl {T : Tups} : Mo T T := ⟨fun _ h => h⟩
theorem Mo.trans {T1 T2 T3 : Tups} (a : Mo T1 T2) (b : Mo T2 T3) : Mo T1 T3 := ⟨fun e h => b.sub e (a.sub e h)⟩

section
variable {H : Hp} {T T' : Tups} {L R : List Chunk} {P Q : Hp → Prop} {a : Addr} {o o' : HO}
theorem Has.perm {L' : List Chunk} (h : Has H L) (p : L.flatten.Perm L'.flatten) : Has H L' :=
  ⟨fun e he => h.at_ e (p.mem_iff.mpr he), (p.map _).nodup_iff.mp h.nd⟩
theorem Has.pull {G : Type} {F : Addr → G → Chunk} {g : G} (h : Has H L) [p : Pull F L a g R] : Has H (F a g :: R) := h.perm (by rw [List.flatten_cons]; exact p.perm)
theorem Has.get (h : Has H L) [p : Pull pt L a o R] : H a = some o := (h.pull (F := pt) (a := a) (g := o) (R := R)).at_ (a, o) (by rw [List.flatten_cons]; exact List.mem_append_left _ List.mem_cons_self)
theorem Has.tail {c : Chunk} (h : Has H (c :: L)) : Has H L := ⟨fun e he => h.at_ e (by rw [List.flatten_cons]; exact List.mem_append_right _ he), by
  have z := h.nd
  rw [List.flatten_cons, List.map_append] at z
  exact (List.nodup_append.mp z).2.1⟩
theorem Has.upd (h : Has H L) [p : Pull pt L a o R] : Has (upd H a o') (pt a o' :: R) := by
  have h1 := h.pull (F := pt) (a := a) (g := o) (R := R)
  have nd := h1.nd
  rw [List.flatten_cons, List.map_append] at nd
  have nd2 := List.nodup_append.mp nd
  refine ⟨fun e he => ?_, ?_⟩
  · rw [List.flatten_cons] at he
    rcases List.mem_append.mp he with he | he
    · have e2 : e = (a, o') := by simpa [pt] using he
      subst e2
      exact upd_same
    · have ne : e.1 ≠ a := fun z => nd2.2.2 a (by simp [pt]) e.1 (List.mem_map_of_mem he) z.symm
      rw [upd_ne ne]
      exact h1.at_ e (by rw [List.flatten_cons]; exact List.mem_append_right _ he)
  · rw [List.flatten_cons, List.map_append]
    exact nd
theorem Has.new (h : Has H L) (n : H a = none) : Has (L2.upd H a o) (pt a o :: L) := by
  have ne : ∀ e ∈ L.flatten, e.1 ≠ a := fun e he z => by
    have := h.at_ e he
    rw [z, n] at this
    cases this
  refine ⟨fun e he => ?_, ?_⟩
  · rw [List.flatten_cons] at he
    rcases List.mem_append.mp he with he | he
    · have e2 : e = (a, o) := by simpa [pt] using he
      subst e2
      exact upd_same
    · rw [upd_ne (ne e he)]
      exact h.at_ e he
  · rw [List.flatten_cons, List.map_append]
    show (a :: (L.flatten.map (·.1))).Nodup
    rw [List.nodup_cons]
    refine ⟨fun hm => ?_, h.nd⟩
    obtain ⟨e, he, z⟩ := List.mem_map.mp hm
    exact ne e he z
theorem Has.fresh (h : Has H L) (n : H a = none) : Has (L2.upd H a o) L := (h.new n).tail
theorem HasT.upd (t : HasT H T) (h : H a = some o) (ho : ∀ xs, o ≠ .tup xs) : HasT (upd H a o') T := fun e he => by
  have ne : e.1 ≠ a := fun z => by
    have q := t e he
    rw [z, h] at q
    exact ho _ (Option.some.inj q)
  rw [upd_ne ne]
  exact t e he
theorem HasT.new (t : HasT H T) (n : H a = none) : HasT (L2.upd H a o) T := fun e he => by
  have ne : e.1 ≠ a := fun z => by
    have q := t e he
    rw [z, n] at q
    cases q
  rw [upd_ne ne]
  exact t e he
theorem HasT.more [m : Mo T' T] (t : HasT H T) : HasT H T' := fun e he => t e (m.sub e he)
theorem HasT.get {xs : List V} (t : HasT H T) [k : Kn T a xs] : H a = some (.tup xs) := t _ k.mem

/-! ### how a heap goes on -/
theorem Go.mono (h : Go T L P) (k : ∀ H, P H → Q H) : Go T L Q := fun H a b => k H (h H a b)
theorem Go.lift [Mo T T'] (h : Go T L P) : Go T' L P := fun H a b => h H a b.more
theorem Go.drop {c : Chunk} (h : Go T L P) : Go T (c :: L) P := fun H a b => h H a.tail b
theorem Go.pull {G : Type} {F : Addr → G → Chunk} {g : G} [p : Pull F L a g R] (h : Go T (F a g :: R) P) : Go T L P := fun H x t => h H x.pull t
theorem Go.perm {L' : List Chunk} (h : Go T L' P) (p : L.flatten.Perm L'.flatten) : Go T L P := fun H x t => h H (x.perm p) t
theorem Go.upd (a : Addr) (o' : HO) {o : HO} [p : Pull pt L a o R] (ho : ∀ xs, o ≠ .tup xs) (h : Go T (pt a o' :: R) P) : Go T L (fun H => P (upd H a o')) := fun H x t =>
  h _ (x.upd (o := o)) (t.upd (x.get (a := a) (o := o) (R := R)) ho)
theorem Go.new {o : Addr → HO} {P : Addr → Hp → Prop} (h : ∀ a, Go T (pt a (o a) :: L) (P a)) : Go T L (fun H => ∀ p, H p = none → P p (L2.upd H p (o p))) := fun H x t p n => h p _ (x.new n) (t.new n)
theorem Go.newT {xs : List V} {P : Addr → Hp → Prop} (h : ∀ a, Go ((a, xs) :: T) L (P a)) : Go T L (fun H => ∀ p, H p = none → P p (L2.upd H p (.tup xs))) := fun H x t p n => h p _ (x.fresh n) fun e he => by
  rcases List.mem_cons.mp he with rfl | he
  · exact upd_same
  · exact t.new n e he
theorem Go.get {o : HO} [p : Pull pt L a o R] (h : H a = some o → Go T L P) (x : Has H L) : Go T L P := h x.get
end

/-! ### the same pieces in another order, some left out -/
class PullC (L : List Chunk) (c : Chunk) (R : outParam (List Chunk)) : Prop where
  perm : L.flatten.Perm (c ++ R.flatten)
instance PullC.tail {c d : Chunk} {L R : List Chunk} [p : PullC L c R] : PullC (d :: L) c (d :: R) where
  perm := by
    rw [List.flatten_cons, List.flatten_cons]
    refine (List.Perm.append_left d p.perm).trans ?_
    rw [← List.append_assoc, ← List.append_assoc]
    exact List.Perm.append_right _ List.perm_append_comm
instance PullC.head {c : Chunk} {R : List Chunk} : PullC (c :: R) c R where
  perm := by rw [List.flatten_cons]
class Ent (L L' : List Chunk) : Prop where
  ex : ∃ D, L.flatten.Perm (L'.flatten ++ D)
instance Ent.drop {c : Chunk} {L R : List Chunk} [e : Ent L R] : Ent (c :: L) R where
  ex := by
    obtain ⟨D, p⟩ := e.ex
    refine ⟨c ++ D, ?_⟩
    rw [List.flatten_cons]
    refine (List.Perm.append_left c p).trans ?_
    rw [← List.append_assoc, ← List.append_assoc]
    exact List.Perm.append_right _ List.perm_append_comm
instance Ent.cons {c : Chunk} {L L1 L' : List Chunk} [q : PullC L c L1] [e : Ent L1 L'] : Ent L (c :: L') where
  ex := by
    obtain ⟨D, p⟩ := e.ex
    refine ⟨D, q.perm.trans ?_⟩
    rw [List.flatten_cons, List.append_assoc]
    exact List.Perm.append_left c p
instance Ent.refl {L : List Chunk} : Ent L L := ⟨[], by rw [List.append_nil]⟩
theorem Has.ent {H : Hp} {L L' : List Chunk} (h : Has H L) [e : Ent L L'] : Has H L' := by
  obtain ⟨D, p⟩ := e.ex
  refine ⟨fun e he => h.at_ e (p.mem_iff.mpr (List.mem_append_left _ he)), ?_⟩
  have nd := (p.map (·.1)).nodup_iff.mp h.nd
  rw [List.map_append] at nd
  exact (List.nodup_append.mp nd).1
theorem Go.ent {T : Tups} {L L' : List Chunk} {P : Hp → Prop} [e : Ent L L'] (h : Go T L' P) : Go T L P := fun H x t => h H x.ent t
theorem Go.entT {T T' : Tups} {L L' : List Chunk} {P : Hp → Prop} (h : Go T' L' P) [e : Ent L L'] [m : Mo T' T] : Go T L P := fun H x t => h H x.ent t.more
/-! ### pieces may be read as lists -/
class RdL (L : List Chunk) (a : Addr) (xs : outParam (List V)) : Prop where
  rd : ∀ H, Has H L → Rd H a (.lst xs)
instance (priority := low) {L : List Chunk} {c : Chunk} {a : Addr} {xs : List V} [r : RdL L a xs] : RdL (c :: L) a xs := ⟨fun H h => r.rd H h.tail⟩
instance {L R : List Chunk} {a : Addr} {o : Obj} {xs : List V} [p : Pull pt L a (.frz o (.lst xs)) R] : RdL L a xs := ⟨fun H h => .inr ⟨o, h.get⟩⟩
instance {L R : List Chunk} {a : Addr} {xs : List V} [p : Pull pt L a (.lst xs) R] : RdL L a xs := ⟨fun H h => .inl h.get⟩

/-! ### σ -/
class SetAt (σ : L2.St) (i : Nat) (v : Option V) (σ' : outParam L2.St) : Prop where
  eq : σ.set i v = σ'
instance {x v : Option V} {σ : L2.St} : SetAt (x :: σ) 0 v (v :: σ) := ⟨rfl⟩
instance {x v : Option V} {σ σ' : L2.St} {i : Nat} [s : SetAt σ i v σ'] : SetAt (x :: σ) (i + 1) v (x :: σ') := ⟨by rw [List.set_cons_succ, s.eq]⟩

class LkAt (σ : L2.St) (i : Nat) (v : outParam V) : Prop where
  eq : σ[i]? = some (some v)
instance {v : V} {σ : L2.St} : LkAt (some v :: σ) 0 v := ⟨rfl⟩
instance {x : Option V} {v : V} {σ : L2.St} {i : Nat} [s : LkAt σ i v] : LkAt (x :: σ) (i + 1) v := ⟨by rw [List.getElem?_cons_succ, s.eq]⟩
/-! ### places in written lists -/
class AtN (xs : List V) (n : Nat) (v : outParam V) : Prop where
  eq : xs[n]? = some v
instance {v : V} {xs : List V} : AtN (v :: xs) 0 v := ⟨rfl⟩
instance {x v : V} {xs : List V} {n : Nat} [s : AtN xs n v] : AtN (x :: xs) (n + 1) v := ⟨by rw [List.getElem?_cons_succ, s.eq]⟩
class SetN (xs : List V) (n : Nat) (v : V) (xs' : outParam (List V)) : Prop where
  eq : xs.set n v = xs'
  lt : n < xs.length
instance {x v : V} {xs : List V} : SetN (x :: xs) 0 v (v :: xs) := ⟨rfl, Nat.zero_lt_succ _⟩
instance {x v : V} {xs xs' : List V} {n : Nat} [s : SetN xs n v xs'] : SetN (x :: xs) (n + 1) v (x :: xs') := ⟨by rw [List.set_cons_succ, s.eq], Nat.succ_lt_succ s.lt⟩
class AtI (xs : List V) (i : Int) (v : outParam V) : Prop where
  eq : atI xs i = some v
theorem ixN_nat {m n : Nat} (h : n < m) : ixN m (n : Int) = some n := by
  unfold ixN
  rw [if_pos (Int.natCast_nonneg n), if_pos (by omega)]
  rfl
theorem atI_of {xs : List V} {n : Nat} {v : V} (h : xs[n]? = some v) : atI xs (n : Int) = some v := by
  unfold atI
  rw [ixN_nat (List.getElem?_eq_some_iff.mp h).1, Option.bind_some, h]
instance {xs : List V} {n : Nat} {v : V} [s : AtN xs n v] : AtI xs (no_index (OfNat.ofNat n)) v := ⟨atI_of s.eq⟩
class SetI (xs : List V) (i : Int) (v : V) (xs' : outParam (List V)) : Prop where
  eq : ∃ k, ixN xs.length i = some k ∧ xs.set k v = xs'
instance {xs xs' : List V} {n : Nat} {v : V} [s : SetN xs n v xs'] : SetI xs (no_index (OfNat.ofNat n)) v xs' := ⟨⟨n, ixN_nat s.lt, s.eq⟩⟩
/-! ### attributes -/
class Att (K : PySem.W.Frag) (C : Addr) (f : Str) : Prop where
  cls : Cls K C
  no : NoAttr K C f
class FldAt (fs : List (Str × V)) (f : Str) (v : outParam V) : Prop where
  eq : fs.lookup f = some v
class PutAt (fs : List (Str × V)) (f : Str) (v : V) (fs' : outParam (List (Str × V))) : Prop where
  eq : putF f v fs = fs'
  lt : fs.length < 1000
class NoFld (fs : List (Str × V)) (f : Str) : Prop where
  eq : fs.lookup f = none

section
variable {K : PySem.W.Frag} {T : Tups} {L R R2 : List Chunk} {σ σ' : L2.St} {Q : VK} {ta tb tc te : TE} {tr t : TA} {a b : Addr} {v x y : V} {i j : Int} {D : Ends} {D' : L2.St → Hp → Prop}

/-! ### what is only nesting -/
theorem go_op {r : L2.R2} (h : Go T L fun H => ta σ H fun x H1 => tb σ H1 fun y H2 => r x y H2 Q) : Go T L fun H => tOp r ta tb σ H Q := h
theorem go_un {r : V → Hp → VK → Prop} (h : Go T L fun H => ta σ H fun x H1 => r x H1 Q) : Go T L fun H => tUn r ta σ H Q := h
theorem go_c (h : Go T L fun H => Q v H) : Go T L fun H => tC v σ H Q := h
theorem go_nil {Q : List V → Hp → Prop} (h : Go T L fun H => Q [] H) : Go T L fun H => tNil σ H Q := h
theorem go_cons {Q : List V → Hp → Prop} (h : Go T L fun H => ta σ H fun x H1 => tr σ H1 fun xs H2 => Q (x :: xs) H2) : Go T L fun H => tCons ta tr σ H Q := h
theorem go_cb {r : List V → Hp → VK → Prop} (h : Go T L fun H => t σ H fun vs H1 => r vs H1 Q) : Go T L fun H => tCB r t σ H Q := h
theorem go_seq {t u : TS} (h : Go T L fun H => t { D with nx := u D } σ H) : Go T L fun H => tSeq t u D σ H := h
theorem go_next (h : Go T L fun H => D.nx σ H) : Go T L fun H => tNext D σ H := h
theorem go_brk (h : Go T L fun H => D.bk σ H) : Go T L fun H => tBreak D σ H := h
theorem go_ct (h : Go T L fun H => D.ct σ H) : Go T L fun H => tCont D σ H := h
theorem go_drop (h : Go T L fun H => te σ H fun _ H1 => D.nx σ H1) : Go T L fun H => tDrop te D σ H := h
theorem go_ret (h : Go T L fun H => te σ H D.rt) : Go T L fun H => tRet te D σ H := h
theorem go_retN (h : Go T L fun H => D.rt .non H) : Go T L fun H => tRetN D σ H := h
theorem go_ifs {c : TT} {t u : TS} (h : Go T L fun H => c σ H fun b H1 => if b = true then t D σ H1 else u D σ H1) : Go T L fun H => tIfS c t u D σ H := h
theorem go_asg {g : TG} (h : Go T L fun H => te σ H fun x H1 => g x σ H1 D.nx) : Go T L fun H => tAsg te g D σ H := h
theorem go_ife {c : TT} (h : Go T L fun H => c σ H fun b H1 => if b = true then ta σ H1 Q else tb σ H1 Q) : Go T L fun H => tIf c ta tb σ H Q := h
theorem go_tB {Q : Bool → Hp → Prop} (h : Go T L fun H => te σ H fun x H1 => ∃ c, x = .bl c ∧ Q c H1) : Go T L fun H => tB te σ H Q := h
theorem go_tT {Q : Bool → Hp → Prop} (h : Go T L fun H => te σ H fun x H1 => ∃ c, x = .bl c ∧ Q c H1) : Go T L fun H => tTest te σ H Q := h
theorem go_not {c : TT} {Q : Bool → Hp → Prop} (h : Go T L fun H => c σ H fun c H1 => Q (!c) H1) : Go T L fun H => tNot c σ H Q := h
theorem go_and {c d : TT} {Q : Bool → Hp → Prop} (h : Go T L fun H => c σ H fun b H1 => if b = true then d σ H1 Q else Q false H1) : Go T L fun H => tAnd c d σ H Q := h
theorem go_or {c d : TT} {Q : Bool → Hp → Prop} (h : Go T L fun H => c σ H fun b H1 => if b = true then Q true H1 else d σ H1 Q) : Go T L fun H => tOr c d σ H Q := h
theorem go_andV (h : Go T L fun H => ta σ H fun x H1 => ∃ c, x = .bl c ∧ if c = true then tb σ H1 Q else Q (.bl false) H1) : Go T L fun H => tAndV ta tb σ H Q := h
theorem go_orV (h : Go T L fun H => ta σ H fun x H1 => ∃ c, x = .bl c ∧ if c = true then Q (.bl true) H1 else tb σ H1 Q) : Go T L fun H => tOrV ta tb σ H Q := h
theorem go_notV (h : Go T L fun H => ta σ H fun x H1 => ∃ c, x = .bl c ∧ Q (.bl (!c)) H1) : Go T L fun H => tNotV ta σ H Q := h
def rNewU (xs : List V) (Q : VK) (H : Hp) : Prop := xs.length ≤ sizeLine ∧ ∀ p, H p = none → Q (.ref p) (upd H p (.tup xs))
def rNewL (xs : List V) (Q : VK) (H : Hp) : Prop := xs.length ≤ sizeLine ∧ ∀ p, H p = none → Q (.ref p) (upd H p (.lst xs))
theorem go_tup (h : Go T L fun H => t σ H fun xs H1 => rNewU xs Q H1) : Go T L fun H => tTup t σ H Q := h
theorem go_lst (h : Go T L fun H => t σ H fun xs H1 => rNewL xs Q H1) : Go T L fun H => tLst t σ H Q := h
theorem go_par {i j : Nat} (h : Go T L fun H => t σ H fun vs H1 => ∃ v w, vs = [v, w] ∧ D.nx ((σ.set i (some v)).set j (some w)) H1) : Go T L fun H => tPar i j t D σ H := h
def rFld (K : PySem.W.Frag) (f : Str) (x : V) (H : Hp) (Q : VK) : Prop := ∃ a C dx fs v, x = .ref a ∧ H a = some (.ins C dx fs) ∧ Cls K C ∧ NoAttr K C f ∧ fs.lookup f = some v ∧ Q v H
theorem go_fld0 {f : Str} (h : Go T L fun H => ta σ H fun x H1 => rFld K f x H1 Q) : Go T L fun H => tFld K ta f σ H Q := h
def rSFld (K : PySem.W.Frag) (f : Str) (y x : V) (H : Hp) (N : Hp → Prop) : Prop := ∃ a C dx fs, x = .ref a ∧ H a = some (.ins C dx fs) ∧ Cls K C ∧ NoAttr K C f ∧ fs.length < 1000 ∧ N (upd H a (.ins C dx (putF f y fs)))
theorem go_sfld0 {f : Str} {tv : TE} (h : Go T L fun H => tv σ H fun y H1 => ta σ H1 fun x H2 => rSFld K f y x H2 fun H3 => D.nx σ H3) : Go T L fun H => sFld K ta tv f D σ H := h
theorem go_gsub {to ti : TE} {ts : TSet} {N : L2.St → Hp → Prop} (h : Go T L fun H => to σ H fun o H1 => ti σ H1 fun i H2 => ts o i v H2 fun H3 => N σ H3) : Go T L fun H => gSub to ti ts v σ H N := h
theorem go_bm0 {S : String} {r : V → List V → Hp → VK → Prop} (h : Go T L fun H => ta σ H fun x H1 => tyV K S x H1 ∧ r x [] H1 Q) : Go T L fun H => tBM0 K S r ta σ H Q := h
theorem go_bm {S : String} {r : V → List V → Hp → VK → Prop} (h : Go T L fun H => ta σ H fun x H1 => tyV K S x H1 ∧ t σ H1 fun xs H2 => r x xs H2 Q) : Go T L fun H => tBM K S r ta t σ H Q := h
theorem go_call {sp : Sp} {dvs : List V} {E : L2.St → XK} (h : Go T L fun H => t σ H fun vs H1 => sp (vs ++ dvs) H1 Q (E σ)) : Go T L fun H => tCallSD sp dvs E t σ H Q := h
def rMe (C : Addr) (m : Str) (tr : TA) (sp : Sp) (dvs : List V) (E : L2.St → XK) (σ : L2.St) (x : V) (H1 : Hp) (Q : VK) : Prop := ∃ a dx fs, x = .ref a ∧ H1 a = some (.ins C dx fs) ∧ fs.lookup m = none ∧ tr σ H1 fun vs H2 => sp (x :: (vs ++ dvs)) H2 Q (E σ)
theorem go_me0 {C : Addr} {m : Str} {sp : Sp} {dvs : List V} {E : L2.St → XK} (h : Go T L fun H => ta σ H fun x H1 => rMe C m t sp dvs E σ x H1 Q) : Go T L fun H => tMe C m sp dvs E ta t σ H Q := h

/-! ### the leaves -/
theorem go_var {i : Nat} (e : σ[i]? = some (some v)) (h : Go T L fun H => Q v H) : Go T L fun H => tVar i σ H Q := fun H x t => ⟨v, e, h H x t⟩
theorem go_varc {i : Nat} [s : LkAt σ i v] (h : Go T L fun H => Q v H) : Go T L fun H => tVar i σ H Q := fun H x t => ⟨v, s.eq, h H x t⟩
theorem go_name {i : Nat} {N : L2.St → Hp → Prop} [s : SetAt σ i (some v) σ'] (h : Go T L fun H => N σ' H) : Go T L fun H => gName i v σ H N := fun H x t => by
  show N (σ.set i (some v)) H
  rw [s.eq]
  exact h H x t
theorem go_parE {i j : Nat} {v w : V} {N : L2.St → Hp → Prop} {σ1 : L2.St} [s : SetAt σ i (some v) σ1] [s2 : SetAt σ1 j (some w) σ'] (h : Go T L fun H => N σ' H) : Go T L fun H => ∃ v' w', [v, w] = [v', w'] ∧ N ((σ.set i (some v')).set j (some w')) H := fun H x t => by
  refine ⟨v, w, rfl, ?_⟩
  rw [s.eq, s2.eq]
  exact h H x t
theorem go_bl {c : Bool} {N : Bool → Hp → Prop} (h : Go T L fun H => N c H) : Go T L fun H => ∃ k, V.bl c = .bl k ∧ N k H := fun H x t => ⟨c, rfl, h H x t⟩
theorem go_ifT {c : Bool} {A B : Hp → Prop} (e : c = true) (h : Go T L A) : Go T L fun H => if c = true then A H else B H := fun H x t => by
  show (if c = true then A H else B H)
  rw [if_pos e]
  exact h H x t
theorem go_ifF {c : Bool} {A B : Hp → Prop} (e : c = false) (h : Go T L B) : Go T L fun H => if c = true then A H else B H := fun H x t => by
  show (if c = true then A H else B H)
  rw [if_neg (by rw [e]; exact Bool.false_ne_true)]
  exact h H x t
theorem go_if {c : Bool} {A B : Hp → Prop} (h1 : c = true → Go T L A) (h2 : c = false → Go T L B) : Go T L fun H => if c = true then A H else B H := by
  cases hc : c with
  | true => exact go_ifT rfl (h1 hc)
  | false => exact go_ifF rfl (h2 hc)
/-- a test that is a proposition's truth -/
theorem go_dT {p : Prop} [Decidable p] {A B : Hp → Prop} (e : p) (h : Go T L A) : Go T L fun H => if decide p = true then A H else B H := go_ifT (decide_eq_true e) h
theorem go_dF {p : Prop} [Decidable p] {A B : Hp → Prop} (e : ¬ p) (h : Go T L B) : Go T L fun H => if decide p = true then A H else B H := go_ifF (decide_eq_false e) h
theorem go_nT {p : Prop} [Decidable p] {A B : Hp → Prop} (e : ¬ p) (h : Go T L A) : Go T L fun H => if (!decide p) = true then A H else B H := go_ifT (by rw [decide_eq_false e]; rfl) h
theorem go_nF {p : Prop} [Decidable p] {A B : Hp → Prop} (e : p) (h : Go T L B) : Go T L fun H => if (!decide p) = true then A H else B H := go_ifF (by rw [decide_eq_true e]; rfl) h
theorem go_d {p : Prop} [Decidable p] {A B : Hp → Prop} (h1 : p → Go T L A) (h2 : ¬ p → Go T L B) : Go T L fun H => if decide p = true then A H else B H := by
  by_cases e : p
  · exact go_dT e (h1 e)
  · exact go_dF e (h2 e)
theorem go_n {p : Prop} [Decidable p] {A B : Hp → Prop} (h1 : ¬ p → Go T L A) (h2 : p → Go T L B) : Go T L fun H => if (!decide p) = true then A H else B H := by
  by_cases e : p
  · exact go_nF e (h2 e)
  · exact go_nT e (h1 e)
/-- numbers -/
theorem go_I0 {g : Int → Int → V} (h : Go T L fun H => Q (g i j) H) : Go T L fun H => rI0 g (.int i) (.int j) H Q := fun H x t => ⟨i, j, rfl, rfl, h H x t⟩
theorem go_I {C : Int → Int → Prop} {g : Int → Int → V} (c : C i j) (h : Go T L fun H => Q (g i j) H) : Go T L fun H => rI C g (.int i) (.int j) H Q := fun H x t => ⟨i, j, rfl, rfl, c, h H x t⟩
theorem go_U {g : Int → V} (h : Go T L fun H => Q (g i) H) : Go T L fun H => rU g (.int i) H Q := fun H x t => ⟨i, rfl, h H x t⟩
theorem go_eqI (h : Go T L fun H => Q (.bl (decide (i = j))) H) : Go T L fun H => L2.rEq (.int i) (.int j) H Q := fun H x t => ⟨rfl, by rw [show decide (V.int i = V.int j) = decide (i = j) by rw [dec_int, Bool.beq_eq_decide_eq]]; exact h H x t⟩
theorem go_neI (h : Go T L fun H => Q (.bl (!decide (i = j))) H) : Go T L fun H => L2.rNe (.int i) (.int j) H Q := fun H x t => ⟨rfl, by rw [show decide (V.int i = V.int j) = decide (i = j) by rw [dec_int, Bool.beq_eq_decide_eq]]; exact h H x t⟩
theorem go_eqS (e : scal x y = true) (h : Go T L fun H => Q (.bl (decide (x = y))) H) : Go T L fun H => L2.rEq x y H Q := fun H a b => ⟨e, h H a b⟩
theorem go_neS (e : scal x y = true) (h : Go T L fun H => Q (.bl (!decide (x = y))) H) : Go T L fun H => L2.rNe x y H Q := fun H a b => ⟨e, h H a b⟩
theorem go_isN (h : Go T L fun H => Q (.bl (decide (x = .non))) H) : Go T L fun H => V.non = .non ∧ Q (.bl (decide (x = .non))) H := fun H a b => ⟨rfl, h H a b⟩
theorem go_notN (h : Go T L fun H => Q (.bl (!decide (x = .non))) H) : Go T L fun H => V.non = .non ∧ Q (.bl (!decide (x = .non))) H := fun H a b => ⟨rfl, h H a b⟩
/-- a side that must hold -/
theorem go_side {p : Prop} {N : Hp → Prop} (e : p) (h : Go T L N) : Go T L fun H => p ∧ N H := fun H x t => ⟨e, h H x t⟩
/-- objects -/
theorem go_fld {C dx : Addr} {fs : List (Str × V)} {f : Str} [Pull pt L a (.ins C dx fs) R] (c : Cls K C) (n : NoAttr K C f) (l : fs.lookup f = some v) (h : Go T L fun H => Q v H) : Go T L fun H => rFld K f (.ref a) H Q := fun H x t =>
  ⟨a, C, dx, fs, v, rfl, x.get, c, n, l, h H x t⟩
theorem go_sfld {C dx : Addr} {fs fs' : List (Str × V)} {f : Str} {N : Hp → Prop} [Pull pt L a (.ins C dx fs) R] (c : Cls K C) (n : NoAttr K C f) (z : fs.length < 1000) (e : putF f y fs = fs') (h : Go T (pt a (.ins C dx fs') :: R) N) : Go T L fun H => rSFld K f y (.ref a) H N := fun H x t => by
  subst e
  exact ⟨a, C, dx, fs, rfl, x.get, c, n, z, Go.upd a _ (fun xs z => by cases z) h H x t⟩
theorem go_me {C dx : Addr} {fs : List (Str × V)} {m : Str} {sp : Sp} {dvs : List V} {E : L2.St → XK} [Pull pt L a (.ins C dx fs) R] (l : fs.lookup m = none) (h : Go T L fun H => t σ H fun vs H2 => sp (.ref a :: (vs ++ dvs)) H2 Q (E σ)) : Go T L fun H => rMe C m t sp dvs E σ (.ref a) H Q :=
  fun H x t => ⟨a, dx, fs, rfl, x.get, l, h H x t⟩
theorem go_fldc {C dx : Addr} {fs : List (Str × V)} {f : Str} [Pull pt L a (.ins C dx fs) R] [t : Att K C f] [l : FldAt fs f v] (h : Go T L fun H => Q v H) : Go T L fun H => rFld K f (.ref a) H Q := go_fld t.cls t.no l.eq h
theorem go_sfldc {C dx : Addr} {fs fs' : List (Str × V)} {f : Str} {N : Hp → Prop} [Pull pt L a (.ins C dx fs) R] [t : Att K C f] [l : PutAt fs f y fs'] (h : Go T (pt a (.ins C dx fs') :: R) N) : Go T L fun H => rSFld K f y (.ref a) H N := go_sfld t.cls t.no l.lt l.eq h
theorem go_mec {C dx : Addr} {fs : List (Str × V)} {m : Str} {sp : Sp} {dvs : List V} {E : L2.St → XK} [Pull pt L a (.ins C dx fs) R] [l : NoFld fs m] (h : Go T L fun H => t σ H fun vs H2 => sp (.ref a :: (vs ++ dvs)) H2 Q (E σ)) : Go T L fun H => rMe C m t sp dvs E σ (.ref a) H Q := go_me l.eq h
def rMkC (C : Addr) (sp : Sp) (dvs : List V) (E : XK) (vs : List V) (H : Hp) (Q : VK) : Prop := ∀ x dx, H x = none → H dx = none → dx ≠ x → sp (.ref x :: (vs ++ dvs)) (L2.upd (L2.upd H dx (.own x)) x (.ins C dx [])) (fun v H2 => v = .non ∧ Q (.ref x) H2) E
theorem go_mk {C : Addr} {sp : Sp} {dvs : List V} {E : L2.St → XK} (h : Go T L fun H => t σ H fun vs H1 => rMkC C sp dvs (E σ) vs H1 Q) : Go T L fun H => tMk C sp dvs E t σ H Q := h
theorem go_mkE {C : Addr} {sp : Sp} {dvs vs : List V} {E : XK} (h : ∀ x dx, Go T (pt x (.ins C dx []) :: L) fun H => sp (.ref x :: (vs ++ dvs)) H (fun v H2 => v = .non ∧ Q (.ref x) H2) E) : Go T L fun H => rMkC C sp dvs E vs H Q := fun H a b x dx nx nd ne =>
  h x dx _ ((a.fresh nd).new (by rw [upd_ne ne.symm]; exact nx)) ((b.new nd).new (by rw [upd_ne ne.symm]; exact nx))
theorem go_mkR {N : Hp → Prop} (h : Go T L N) : Go T L fun H => V.non = .non ∧ N H := fun H a b => ⟨rfl, h H a b⟩
/-- lists -/
theorem go_ixL {xs : List V} [r : RdL L a xs] (e : atI xs i = some v) (h : Go T L fun H => Q v H) : Go T L fun H => rIxL K (.ref a) (.int i) H Q := fun H x t => ⟨a, xs, i, v, rfl, rfl, .inl (r.rd H x), e, h H x t⟩
theorem go_ixT {xs : List V} [k : Kn T a xs] (e : atI xs i = some v) (h : Go T L fun H => Q v H) : Go T L fun H => rIxT K (.ref a) (.int i) H Q := fun H x t => ⟨a, xs, i, v, rfl, rfl, .inl (.inl t.get), e, h H x t⟩
theorem go_setL {xs xs' : List V} {k : Nat} {N : Hp → Prop} [Pull pt L a (.lst xs) R] (e : ixN xs.length i = some k) (e2 : xs.set k v = xs') (h : Go T (pt a (.lst xs') :: R) N) : Go T L fun H => rSetL (.ref a) (.int i) v H N := fun H x t => by
  subst e2
  exact ⟨a, xs, i, k, rfl, rfl, x.get, e, Go.upd a _ (fun xs z => by cases z) h H x t⟩
theorem go_setLc {xs xs' : List V} {N : Hp → Prop} [Pull pt L a (.lst xs) R] [s : SetI xs i v xs'] (h : Go T (pt a (.lst xs') :: R) N) : Go T L fun H => rSetL (.ref a) (.int i) v H N := by
  obtain ⟨k, e1, e2⟩ := s.eq
  exact go_setL e1 e2 h
theorem go_newL {xs : List V} (z : xs.length ≤ sizeLine) (h : ∀ p, Go T (pt p (.lst xs) :: L) fun H => Q (.ref p) H) : Go T L fun H => rNewL xs Q H := fun H x t => ⟨z, Go.new (P := fun p H => Q (.ref p) H) h H x t⟩
theorem go_newU {xs : List V} (z : xs.length ≤ sizeLine) (h : ∀ p, Go ((p, xs) :: T) L fun H => Q (.ref p) H) : Go T L fun H => rNewU xs Q H := fun H x t => ⟨z, Go.newT (P := fun p H => Q (.ref p) H) h H x t⟩
theorem go_tyL {xs : List V} {N : Hp → Prop} [r : RdL L a xs] (h : Go T L N) : Go T L fun H => tyV K "list" (.ref a) H ∧ N H := fun H x t => ⟨.inl ⟨rfl, xs, .inl (r.rd H x)⟩, h H x t⟩
theorem go_app {xs : List V} [Pull pt L a (.lst xs) R] (z : xs.length < sizeLine) (h : Go T (pt a (.lst (xs ++ [y])) :: R) fun H => Q .non H) : Go T L fun H => rAppend (.ref a) [y] H Q := fun H x t => ⟨a, xs, y, rfl, rfl, x.get, z, Go.upd a _ (fun xs z => by cases z) h H x t⟩
theorem go_ext {xs ys : List V} [Pull pt L a (.lst xs) R] [Pull pt L b (.lst ys) R2] (z : xs.length + ys.length ≤ sizeLine) (h : Go T (pt a (.lst (xs ++ ys)) :: R) fun H => Q .non H) : Go T L fun H => rExtend (.ref a) [.ref b] H Q := fun H x t =>
  ⟨a, b, xs, ys, rfl, rfl, x.get, x.get, z, Go.upd a _ (fun xs z => by cases z) h H x t⟩
theorem go_rep {xs : List V} [Pull pt L a (.lst xs) R] (z1 : -(2 ^ 63) ≤ i) (z2 : i < 2 ^ 63) (z : xs.length * i.toNat ≤ sizeLine) (h : ∀ p, Go T (pt p (.lst ((List.replicate i.toNat xs).flatten)) :: L) fun H => Q (.ref p) H) : Go T L fun H => rRep (.ref a) (.int i) H Q := fun H x t =>
  ⟨a, i, xs, rfl, rfl, x.get, z1, z2, z, Go.new h H x t⟩
theorem go_catL {xs ys : List V} [Pull pt L a (.lst xs) R] [Pull pt L b (.lst ys) R2] (z : xs.length + ys.length ≤ sizeLine) (h : ∀ p, Go T (pt p (.lst (xs ++ ys)) :: L) fun H => Q (.ref p) H) : Go T L fun H => rCat (.ref a) (.ref b) H Q := fun H x t =>
  ⟨a, b, xs, ys, rfl, rfl, x.get, x.get, z, Go.new h H x t⟩
/-- built-ins by name -/
theorem go_lenL {xs : List V} [r : RdL L a xs] (h : Go T L fun H => Q (.int xs.length) H) : Go T L fun H => ∃ p ys, [V.ref a] = [.ref p] ∧ (SqL K H p ys ∨ SqT K H p ys) ∧ Q (.int ys.length) H := fun H x t => ⟨a, xs, rfl, .inl (.inl (r.rd H x)), h H x t⟩
theorem go_lenU {xs : List V} [k : Kn T a xs] (h : Go T L fun H => Q (.int xs.length) H) : Go T L fun H => ∃ p ys, [V.ref a] = [.ref p] ∧ (SqL K H p ys ∨ SqT K H p ys) ∧ Q (.int ys.length) H := fun H x t => ⟨a, xs, rfl, .inr (.inl (.inl t.get)), h H x t⟩
def rListC (K : PySem.W.Frag) : List V → Hp → VK → Prop := fun xs H Q => ∃ p ys, xs = [.ref p] ∧ (SqL K H p ys ∨ SqT K H p ys) ∧ ∀ l, H l = none → Q (.ref l) (upd H l (.lst ys))
def rTupC (K : PySem.W.Frag) : List V → Hp → VK → Prop := fun xs H Q => ∃ a ys, xs = [.ref a] ∧ ((SqL K H a ys ∧ ∀ l, H l = none → Q (.ref l) (upd H l (.tup ys))) ∨ (SqT K H a ys ∧ Q (.ref a) H))
theorem go_list {xs : List V} [r : RdL L a xs] (h : ∀ l, Go T (pt l (.lst xs) :: L) fun H => Q (.ref l) H) : Go T L fun H => rListC K [.ref a] H Q := fun H x t => ⟨a, xs, rfl, .inl (.inl (r.rd H x)), Go.new (P := fun p H => Q (.ref p) H) h H x t⟩
theorem go_listU {xs : List V} [k : Kn T a xs] (h : ∀ l, Go T (pt l (.lst xs) :: L) fun H => Q (.ref l) H) : Go T L fun H => rListC K [.ref a] H Q := fun H x t => ⟨a, xs, rfl, .inr (.inl (.inl t.get)), Go.new (P := fun p H => Q (.ref p) H) h H x t⟩
theorem go_tupl {xs : List V} [r : RdL L a xs] (h : ∀ l, Go ((l, xs) :: T) L fun H => Q (.ref l) H) : Go T L fun H => rTupC K [.ref a] H Q := fun H x t => ⟨a, xs, rfl, .inl ⟨.inl (r.rd H x), Go.newT (P := fun p H => Q (.ref p) H) h H x t⟩⟩
/-- slices of lists -/
theorem go_nopart {N : Option Int → Hp → Prop} (h : Go T L fun H => N none H) : Go T L fun H => tNoPart σ H N := h
def rPart (x : V) (N : Option Int → Hp → Prop) (H : Hp) : Prop := ∃ i, x = .int i ∧ N (some i) H
theorem go_part {N : Option Int → Hp → Prop} (h : Go T L fun H => te σ H fun x H1 => rPart x N H1) : Go T L fun H => tPart te σ H N := h
theorem go_sli {N : Option Int → Hp → Prop} (h : Go T L fun H => N (some i) H) : Go T L fun H => rPart (.int i) N H := fun H x t => ⟨i, rfl, h H x t⟩
theorem go_sl0 {r : V → Option Int → Option Int → Hp → VK → Prop} {tl th : TO} (h : Go T L fun H => te σ H fun x H1 => tl σ H1 fun l H2 => th σ H2 fun u H3 => r x l u H3 Q) : Go T L fun H => tSl r te tl th σ H Q := h
theorem go_slL {xs : List V} {lo hi : Option Int} [r : RdL L a xs] (h : ∀ p, Go T (pt p (.lst (cutV xs lo hi)) :: L) fun H => Q (.ref p) H) : Go T L fun H => rSlL K (.ref a) lo hi H Q := fun H x t => ⟨a, xs, rfl, .inl (r.rd H x), Go.new h H x t⟩
end
end OC

set_option maxHeartbeats 4000000
/-! Words for calls of defs, methods, classes; operators that serve several kinds of values; their answers over a heap told by pieces. -/
namespace OC
open PySem PySem.Spec PySem.Calls PyProof.Rows L2
theorem _root_.L2H.RoomH.units {k : Nat} {A : Around} (r : L2H.RoomH k A) : A.units + 64 < cLine := by have := r.un; omega

/-! ### a def, a method, a class of the text, with its promise -/
section
variable (P : Program) (w : World) (K : PySem.W.Frag) (mg : Str → Option Value) (base : Heap)
structure FnD (x : Str) (k : Nat) (ps : List Str) (dvs : List V) (sp : Sp) : Prop where
  ex : ∃ f fd ds, FnOk P w K mg base (L2N.CX P w) k f fd ps sp ∧ mg x = some (.ref f) ∧ PySem.W.keepIn K (.ref f) = true ∧ Binds K fd ps ds ∧ Vals dvs ds
structure MeD (C : Addr) (m : Str) (k : Nat) (ps : List Str) (dvs : List V) (sp : Sp) : Prop where
  ex : ∃ f fd ds, FnOk P w K mg base (L2N.CX P w) k f fd ps sp ∧ Meth K C m f ∧ Binds K fd ps ds ∧ Vals dvs ds
structure MkD (C : Addr) (x : Str) (k : Nat) (ps : List Str) (dvs : List V) (sp : Sp) : Prop where
  ex : ∃ f fd ds, FnOk P w K mg base (L2N.CX P w) k f fd ps sp ∧ Mk K C f ∧ mg x = some (.ref C) ∧ Binds K fd ps ds ∧ Vals dvs ds
/-- an own error class, made and raised -/
structure RsD (C : Addr) (x : Str) (k : Nat) (ps : List Str) (dvs : List V) (sp : Sp) : Prop where
  ex : ∃ f fd ds, FnOk P w K mg base (L2N.CX P w) k f fd ps sp ∧ OexC K C ∧ PySem.W.findIn K (.ref C) "__init__" = some (some (.ref f)) ∧ PySem.W.typeIn K (.ref f) = some (.type "function") ∧ mg x = some (.ref C) ∧ Binds K fd ps ds ∧ Vals dvs ds
/-- a def as the top has made it -/
structure Tx (x qual : Str) (st : Stmt) (ps : List Str) (dvs : List V) : Prop where
  ex : ∃ f fd ds, FunG K x qual st f fd ∧ mg x = some (.ref f) ∧ Binds K fd ps ds ∧ Vals dvs ds
structure TxM (C : Addr) (x qual : Str) (st : Stmt) (ps : List Str) (dvs : List V) : Prop where
  ex : ∃ f fd ds, FunG K x qual st f fd ∧ Meth K C x f ∧ Binds K fd ps ds ∧ Vals dvs ds
structure TxI (C : Addr) (x qual : Str) (st : Stmt) (ps : List Str) (dvs : List V) : Prop where
  ex : ∃ f fd ds, FunG K "__init__" qual st f fd ∧ Mk K C f ∧ mg x = some (.ref C) ∧ Binds K fd ps ds ∧ Vals dvs ds
end
theorem FnD.mono {P : Program} {w : World} {K : PySem.W.Frag} {mg : Str → Option Value} {base : Heap} {x : Str} {j k : Nat} {ps : List Str} {dvs : List V} {sp : Sp} (D : FnD P w K mg base x j ps dvs sp) (h : j ≤ k) : FnD P w K mg base x k ps dvs sp := by
  obtain ⟨f, fd, ds, a, b⟩ := D.ex
  exact ⟨f, fd, ds, a.mono h, b⟩
section
variable {X : Cx} {k : Nat} {C : Addr} {ps : List Str} {sp : Sp} {dvs : List V} {E : L2.St → XK} {x m : Str} {p pos apos : Pos} {e o : Expr} {es : List Expr} {ta : TE} {t : TA}
theorem pe_clD (D : FnD X.prog X.w X.K X.mg X.base x k ps dvs sp) (hr : Room k X.A) (hg : Gl X x) (hx : ∀ σ, PassesAt (L2N.CX X.prog X.w) X σ (E σ))
    (ha : PA X (e :: es) t) (hdb : (x == ("__debug__" : Str)) = false := by decide) (he : starEach (e :: es) X.env = (false, eval e X.env) :: starEach es X.env := by rfl) (hpl : (backTo pos (starEach es X.env)).any (·.1) = false := by rfl) :
    PE X (.Call (.Name x p) (e :: es) [] pos) (tCallSD sp dvs E t) := by
  obtain ⟨f, fd, ds, Fk, hm, hk, hb, hd⟩ := D.ex
  exact pe_callSD Fk hr hg hm hk hb hd hx ha hdb he hpl
theorem pe_clD0 (D : FnD X.prog X.w X.K X.mg X.base x k ps dvs sp) (hr : Room k X.A) (hg : Gl X x) (hx : ∀ σ, PassesAt (L2N.CX X.prog X.w) X σ (E σ)) (hdb : (x == ("__debug__" : Str)) = false := by decide) : PE X (.Call (.Name x p) [] [] pos) (tCallSD sp dvs E tNil) := by
  obtain ⟨f, fd, ds, Fk, hm, hk, hb, hd⟩ := D.ex
  exact pe_cl0 Fk hr hg hm hk hb hd hx hdb
theorem pe_meD {pl : Sem Bool} (he : PE X o ta) (c : Cls X.K C) (D : MeD X.prog X.w X.K X.mg X.base C m k ps dvs sp) (hr : Room k X.A) (hx : ∀ σ, PassesAt (L2N.CX X.prog X.w) X σ (E σ)) (ha : PA X (e :: es) t)
    (hst : starEach (e :: es) X.env = (false, eval e X.env) :: starEach es X.env := by rfl) (hpl : (backTo pos (starEach es X.env)).any (·.1) = false := by rfl)
    (ht : eval (.Call (.Attribute o m apos) (e :: es) [] pos) X.env = (do
      let ov ← eval o X.env
      standAt apos.atName
      let (f, first) ← holding [ov] (getMethod ov m pl)
      callWith pos f first (backTo pos (starEach (e :: es) X.env)) (backToKw pos (keywordEach [] X.env))) := by rfl) :
    PE X (.Call (.Attribute o m apos) (e :: es) [] pos) (tMe C m sp dvs E ta t) := by
  obtain ⟨f, fd, ds, Fk, hm, hb, hd⟩ := D.ex
  exact pe_me he c hm Fk hr hb hd hx ha hst hpl ht
theorem pe_meD0 {pl : Sem Bool} (he : PE X o ta) (c : Cls X.K C) (D : MeD X.prog X.w X.K X.mg X.base C m k ps dvs sp) (hr : Room k X.A) (hx : ∀ σ, PassesAt (L2N.CX X.prog X.w) X σ (E σ))
    (ht : eval (.Call (.Attribute o m apos) [] [] pos) X.env = (do
      let ov ← eval o X.env
      standAt apos.atName
      let (f, first) ← holding [ov] (getMethod ov m pl)
      callWith pos f first (backTo pos (starEach [] X.env)) (backToKw pos (keywordEach [] X.env))) := by rfl) :
    PE X (.Call (.Attribute o m apos) [] [] pos) (tMe C m sp dvs E ta tNil) := by
  obtain ⟨f, fd, ds, Fk, hm, hb, hd⟩ := D.ex
  exact pe_me0 he c hm Fk hr hb hd hx ht
theorem pe_mkD (D : MkD X.prog X.w X.K X.mg X.base C x k ps dvs sp) (hr : Room (k + 1) X.A) (hg : Gl X x) (hx : ∀ σ, PassesAt (L2N.CX X.prog X.w) X σ (E σ))
    (ha : PA X (e :: es) t) (hdb : (x == ("__debug__" : Str)) = false := by decide) (he : starEach (e :: es) X.env = (false, eval e X.env) :: starEach es X.env := by rfl) (hpl : (backTo pos (starEach es X.env)).any (·.1) = false := by rfl) :
    PE X (.Call (.Name x p) (e :: es) [] pos) (tMk C sp dvs E t) := by
  obtain ⟨f, fd, ds, Fk, M, hm, hb, hd⟩ := D.ex
  exact pe_mk M Fk hr hg hm hb hd hx ha hdb he hpl
theorem pe_mkD0 (D : MkD X.prog X.w X.K X.mg X.base C x k ps dvs sp) (hr : Room (k + 1) X.A) (hg : Gl X x) (hx : ∀ σ, PassesAt (L2N.CX X.prog X.w) X σ (E σ)) (hdb : (x == ("__debug__" : Str)) = false := by decide) : PE X (.Call (.Name x p) [] [] pos) (tMk C sp dvs E tNil) := by
  obtain ⟨f, fd, ds, Fk, M, hm, hb, hd⟩ := D.ex
  exact pe_mk0 M Fk hr hg hm hb hd hx hdb
theorem passZ {X : Cx} : Passes (L2N.CX X.prog X.w) X (fun _ _ _ => False) := fun _ _ _ _ _ _ _ h => by
  obtain ⟨_, _, _, _, _, _, _, _, _, _, _, _, z⟩ := h
  exact z.elim
theorem pmk_D (D : RsD X.prog X.w X.K X.mg X.base C x k ps dvs sp) (hr : Room (k + 1) X.A) (hg : Gl X x) (ha : PA X (e :: es) t)
    (hdb : (x == ("__debug__" : Str)) = false := by decide) (he : starEach (e :: es) X.env = (false, eval e X.env) :: starEach es X.env := by rfl) (hpl : (backTo pos (starEach es X.env)).any (·.1) = false := by rfl) :
    L2N.PMk X (.Call (.Name x p) (e :: es) [] pos) (tMkO C sp dvs t) := by
  obtain ⟨f, fd, ds, Fk, ox, iC, tI, hm, hb, hd⟩ := D.ex
  exact pmk_oexN ox iC tI Fk hr hb hd passZ hg hm ha hdb he hpl
/-- e.f, a property -/
theorem pe_propD {p' g : Addr} {f : Str} {fd : FuncData} {ds : List Value} (he : PE X e ta) (c : Cls X.K C) (hp : PropOf X.K C f p' g) (Fk : FnOk X.prog X.w X.K X.mg X.base (L2N.CX X.prog X.w) k g fd ps sp) (hr : Room (k + 1) X.A) (hb : Binds X.K fd ps ds) (hd : Vals dvs ds)
    (hab : attributeBase e f X.env (eval e X.env) = eval e X.env := by rfl) : PE X (.Attribute e f pos) (tProp C sp dvs E0 ta) := pe_prop he c hp Fk hr hb hd (fun _ _ _ _ _ _ _ h => by
  obtain ⟨_, _, _, _, _, _, _, _, _, _, _, _, z⟩ := h
  exact z.elim) hab
/-- e.f = v, a property with a setter that may raise -/
structure SetOf (K : PySem.W.Frag) (C : Addr) (f : Str) (p g : Addr) : Prop where
  tak : PySem.W.takerIn K C f = some (some (.ref p))
  typ : PySem.W.typeIn K (.ref p) = some (.type "property")
  rec_ : ∃ a rest, PySem.W.recIn K p "property" = some (a :: .ref g :: rest)
def tSetP (C : Addr) (sp : Sp) (E : L2.St → XK) (tv to : TE) : TS := fun D σ H => tv σ H fun y H1 => to σ H1 fun x H2 => ∃ a dx fs, x = .ref a ∧ H2 a = some (.ins C dx fs) ∧ sp [.ref a, y] H2 (fun _ H3 => D.nx σ H3) (E σ)
theorem ps_setP {p' g : Addr} {f : Str} {fd : FuncData} {tv : TE} {v : Expr} (ho : PE X o ta) (hv : PE X v tv) (c : Cls X.K C) (hp : SetOf X.K C f p' g) (Fk : FnOk X.prog X.w X.K X.mg X.base (L2N.CX X.prog X.w) k g fd ps sp) (hr : Room (k + 2) X.A) (hb : Binds X.K fd ps []) (hx : ∀ σ, PassesAt (L2N.CX X.prog X.w) X σ (E σ))
    (hs : swapsWith v (some (.Attribute o f apos)) pos.line X.env = pure false := by rfl) : PS X (.Assign [.Attribute o f apos] v pos) (tSetP C sp E tv ta) := by
  refine ⟨fun pins s σ H D I h => ?_⟩
  refine plainObj_wpAny_Assign_Attribute (thn (hv.run pins s σ H _ I h) fun yv s1 ⟨y, H1, I1, r1, q1⟩ => thn (ho.run pins s1 σ H1 _ I1 q1) fun u s2 ⟨x, H2, I2, r2, a, dx, fs, ex, ea, q⟩ => ?_) hs
  subst ex
  obtain rfl : u = Value.ref a := r2
  obtain ⟨mA, O, _, _, _, _⟩ := ins_get I2.hok ea
  obtain ⟨od, J, _⟩ := O.look
  obtain ⟨a0, rest, hrec⟩ := hp.rec_
  have hl : ([Value.ref a, yv] ++ ([] : List Value)).length = ps.length := by
    rw [← Fk.len _ _ _ _ q]
    rfl
  have I3 := I2.tok (s2.toks + 1)
  refine PySem.W.set_plain I2.kIn J c.sa (PySem.W.osa_descr (s := { s2 with toks := s2.toks + 1 }) PySem.W.KF.slot_pset I2.kIn J c.po hp.tak hp.typ (PySem.W.prop_set (s := { s2 with toks := s2.toks + 1 }) I2.kIn hrec ?_))
  have hr2 : Room k X.A.in1.in1 := hr.in1.in1
  have b := hb { s2 with toks := s2.toks + 1 } [.ref a, yv] I2.kIn hl
  refine codeAny_mono (Fk.run _ X.stack _ H2 ⟨[.ref a, yv], []⟩ [.ref a, yv] [.ref a, y] _ (E σ) ?_ ?_ (by simpa using b) (.cons rfl (.cons r1 .nil)) q) fun r s' hq => ?_
  · exact hr2
  · exact I3.env0.in1.in1
  · cases r with
    | error er => exact hx σ pins H2 { s2 with toks := s2.toks + 1 } er s' I3 hq
    | ok fl =>
      cases fl with
      | ret u =>
        obtain ⟨v', H', I4, rv, q3⟩ := I3.after hq
        exact ⟨σ, H', I4, q3⟩
      | next => exact False.elim hq
      | brk => exact False.elim hq
      | cont => exact False.elim hq
end
end OC

set_option maxHeartbeats 4000000
namespace OC
open PySem PySem.Spec PySem.Calls PyProof.Rows L2

/-! ### operators for several kinds -/
section
variable {X : Cx} {K : PySem.W.Frag} {T : Tups} {L R R2 : List Chunk} {σ : L2.St} {Q : VK} {a b : Addr} {v x y : V} {i j : Int}
def rAddS : L2.R2 := fun x y H Q => ∃ i j, x = .str i ∧ y = .str j ∧ i.length + j.length ≤ sizeLine ∧ Q (.str (i ++ j)) H
def rAddI : L2.R2 := rI0 fun i j => .int (i + j)
def rAdd3 : L2.R2 := fun x y H Q => rAddI x y H Q ∨ (rCat x y H Q ∨ rAddS x y H Q)
theorem opAdd : OpR X (binaryOp .Add) rAdd3 := op_add.or (op_cat.or op_add_str)
def rMulI : L2.R2 := rI CMul fun i j => .int (i * j)
def rMul2 : L2.R2 := fun x y H Q => rMulI x y H Q ∨ rRep x y H Q
theorem opMul : OpR X (binaryOp .Mult) rMul2 := op_mul.or op_rep
def rEq2 (K : PySem.W.Frag) : L2.R2 := fun x y H Q => L2.rEq x y H Q ∨ rEqD K x y H Q
def rNe2 (K : PySem.W.Frag) : L2.R2 := fun x y H Q => L2.rNe x y H Q ∨ rNeD K x y H Q
theorem opEq (hu : X.A.units + 64 < cLine) : OpR X (compareOp .Eq) (rEq2 X.K) := op_eq.or (op_eqD hu)
theorem opNe (hu : X.A.units + 64 < cLine) : OpR X (compareOp .NotEq) (rNe2 X.K) := op_ne.or (op_neD hu)
theorem callOr {f : Value} {r r' : List V → Hp → VK → Prop} (h : CallR X f r) (h' : CallR X f r') : CallR X f (fun xs H Q => r xs H Q ∨ r' xs H Q) := fun pins s σ H xs us Q I rv q => q.elim (fun z => h pins s σ H xs us Q I rv z) fun z => h' pins s σ H xs us Q I rv z
def rLenS (K : PySem.W.Frag) : List V → Hp → VK → Prop := fun xs H Q => ∃ p ys, xs = [.ref p] ∧ (SqL K H p ys ∨ SqT K H p ys) ∧ Q (.int ys.length) H
def rLenT : List V → Hp → VK → Prop := fun xs H Q => ∃ z, xs = [.str z] ∧ z.length ≤ sizeLine ∧ Q (.int z.length) H
def rLen2 (K : PySem.W.Frag) : List V → Hp → VK → Prop := fun xs H Q => rLenS K xs H Q ∨ rLenT xs H Q
theorem callList : CallR X (.type "list") (rListC X.K) := call_list_of
theorem callTuple : CallR X (.type "tuple") (rTupC X.K) := call_tuple_of
theorem callLen : CallR X (.builtin "len") (rLen2 X.K) := callOr call_len_seq call_len_str

def rIntC : List V → Hp → VK → Prop := fun xs H Q => (∃ i, xs = [.int i] ∧ Q (.int i) H) ∨ ∃ k, xs = [.bl k] ∧ Q (.int (if k then 1 else 0)) H
def rAbsC : List V → Hp → VK → Prop := fun xs H Q => ∃ i, xs = [.int i] ∧ Q (.int (if i < 0 then -i else i)) H
def rMaxC : List V → Hp → VK → Prop := fun xs H Q => ∃ i j, xs = [.int i, .int j] ∧ Q (.int (if j > i then j else i)) H
def rMinC : List V → Hp → VK → Prop := fun xs H Q => ∃ i j, xs = [.int i, .int j] ∧ Q (.int (if j < i then j else i)) H
def rIsN : L2.R2 := fun x y H Q => y = .non ∧ Q (.bl (decide (x = .non))) H
def rNotN : L2.R2 := fun x y H Q => y = .non ∧ Q (.bl (!decide (x = .non))) H
theorem callInt : CallR X (.type "int") rIntC := call_int1
theorem callAbs : CallR X (.builtin "abs") rAbsC := call_abs
theorem callMax (hc : X.calm = true) : CallR X (.builtin "max") rMaxC := call_max2 hc
theorem callMin (hc : X.calm = true) : CallR X (.builtin "min") rMinC := call_min2 hc
theorem opIsN : OpR X (compareOp .Is) rIsN := op_isN
theorem opNotN : OpR X (compareOp .IsNot) rNotN := op_notN
theorem go_isN2 (h : Go T L fun H => Q (.bl (decide (x = .non))) H) : Go T L fun H => rIsN x .non H Q := fun H a b => ⟨rfl, h H a b⟩
theorem go_notN2 (h : Go T L fun H => Q (.bl (!decide (x = .non))) H) : Go T L fun H => rNotN x .non H Q := fun H a b => ⟨rfl, h H a b⟩
theorem go_int (h : Go T L fun H => Q (.int i) H) : Go T L fun H => rIntC [.int i] H Q := fun H x t => .inl ⟨i, rfl, h H x t⟩
theorem go_intB {k : Bool} (h : Go T L fun H => Q (.int (if k then 1 else 0)) H) : Go T L fun H => rIntC [.bl k] H Q := fun H x t => .inr ⟨k, rfl, h H x t⟩
theorem go_abs (h : Go T L fun H => Q (.int (if i < 0 then -i else i)) H) : Go T L fun H => rAbsC [.int i] H Q := fun H x t => ⟨i, rfl, h H x t⟩
theorem go_min2 (h : Go T L fun H => Q (.int (if j < i then j else i)) H) : Go T L fun H => rMinC [.int i, .int j] H Q := fun H x t => ⟨i, j, rfl, h H x t⟩
theorem go_max2 (h : Go T L fun H => Q (.int (if j > i then j else i)) H) : Go T L fun H => rMaxC [.int i, .int j] H Q := fun H x t => ⟨i, j, rfl, h H x t⟩
theorem go_addI (h : Go T L fun H => Q (.int (i + j)) H) : Go T L fun H => rAdd3 (.int i) (.int j) H Q := fun H a b => .inl ⟨i, j, rfl, rfl, h H a b⟩
theorem go_addL {xs ys : List V} [Pull pt L a (.lst xs) R] [Pull pt L b (.lst ys) R2] (z : xs.length + ys.length ≤ sizeLine) (h : ∀ p, Go T (pt p (.lst (xs ++ ys)) :: L) fun H => Q (.ref p) H) : Go T L fun H => rAdd3 (.ref a) (.ref b) H Q := fun H x t => .inr (.inl (go_catL z h H x t))
theorem go_addS {s t : Str} (z : s.length + t.length ≤ sizeLine) (h : Go T L fun H => Q (.str (s ++ t)) H) : Go T L fun H => rAdd3 (.str s) (.str t) H Q := fun H a b => .inr (.inr ⟨s, t, rfl, rfl, z, h H a b⟩)
theorem go_mulI (c : CMul i j) (h : Go T L fun H => Q (.int (i * j)) H) : Go T L fun H => rMul2 (.int i) (.int j) H Q := fun H a b => .inl ⟨i, j, rfl, rfl, c, h H a b⟩
theorem go_mulL {xs ys : List V} [Pull pt L a (.lst xs) R] (z1 : -(2 ^ 63) ≤ i) (z2 : i < 2 ^ 63) (z : xs.length * i.toNat ≤ sizeLine) (e : (List.replicate i.toNat xs).flatten = ys) (h : ∀ p, Go T (pt p (.lst ys) :: L) fun H => Q (.ref p) H) : Go T L fun H => rMul2 (.ref a) (.int i) H Q := fun H x t => by
  subst e
  exact .inr (go_rep z1 z2 z h H x t)
theorem go_mul1 [Pull pt L a (.lst [v]) R] (z1 : -(2 ^ 63) ≤ i) (z2 : i < 2 ^ 63) (z : i.toNat ≤ sizeLine) (h : ∀ p, Go T (pt p (.lst (List.replicate i.toNat v)) :: L) fun H => Q (.ref p) H) : Go T L fun H => rMul2 (.ref a) (.int i) H Q :=
  go_mulL (xs := [v]) z1 z2 (by rw [List.length_singleton, Nat.one_mul]; exact z) List.flatten_replicate_singleton h
theorem go_eq2I (h : Go T L fun H => Q (.bl (decide (i = j))) H) : Go T L fun H => rEq2 K (.int i) (.int j) H Q := fun H a b => .inl (go_eqI h H a b)
theorem go_ne2I (h : Go T L fun H => Q (.bl (!decide (i = j))) H) : Go T L fun H => rNe2 K (.int i) (.int j) H Q := fun H a b => .inl (go_neI h H a b)
theorem go_eq2S (e : scal x y = true) (h : Go T L fun H => Q (.bl (decide (x = y))) H) : Go T L fun H => rEq2 K x y H Q := fun H a b => .inl (go_eqS e h H a b)
theorem go_ne2S (e : scal x y = true) (h : Go T L fun H => Q (.bl (!decide (x = y))) H) : Go T L fun H => rNe2 K x y H Q := fun H a b => .inl (go_neS e h H a b)
theorem go_len2L {xs : List V} [r : RdL L a xs] (h : Go T L fun H => Q (.int xs.length) H) : Go T L fun H => rLen2 K [.ref a] H Q := fun H x t => .inl ⟨a, xs, rfl, .inl (.inl (r.rd H x)), h H x t⟩
theorem go_len2U {xs : List V} [k : Kn T a xs] (h : Go T L fun H => Q (.int xs.length) H) : Go T L fun H => rLen2 K [.ref a] H Q := fun H x t => .inl ⟨a, xs, rfl, .inr (.inl (.inl t.get)), h H x t⟩
theorem go_len2S {s : Str} (z : s.length ≤ sizeLine) (h : Go T L fun H => Q (.int s.length) H) : Go T L fun H => rLen2 K [.str s] H Q := fun H x t => .inr ⟨s, rfl, z, h H x t⟩
theorem go_sqL {xs : List V} [r : RdL L a xs] (e : atI xs i = some v) (h : Go T L fun H => Q v H) : Go T L fun H => rIx K (.ref a) (.int i) H Q := fun H x t => .inl (go_ixL e h H x t)
theorem go_sqT {xs : List V} [k : Kn T a xs] (e : atI xs i = some v) (h : Go T L fun H => Q v H) : Go T L fun H => rIx K (.ref a) (.int i) H Q := fun H x t => .inr (.inl (go_ixT e h H x t))
theorem go_sqLc {xs : List V} [r : RdL L a xs] [e : AtI xs i v] (h : Go T L fun H => Q v H) : Go T L fun H => rIx K (.ref a) (.int i) H Q := go_sqL e.eq h
theorem go_sqTc {xs : List V} [k : Kn T a xs] [e : AtI xs i v] (h : Go T L fun H => Q v H) : Go T L fun H => rIx K (.ref a) (.int i) H Q := go_sqT e.eq h
theorem go_sqS {s : Str} {c : Nat} (z : s.length ≤ sizeLine) (e : atI s.cps.toList i = some c) (h : Go T L fun H => Q (.str ⟨#[c]⟩) H) : Go T L fun H => rIx K (.str s) (.int i) H Q := fun H x t => .inr (.inr ⟨s, i, c, rfl, rfl, z, e, h H x t⟩)
end

/-! ### the same rules, the written part named -/
section
variable {X : Cx} {K : PySem.W.Frag}
theorem callLenK (hK : X.K = K := by rfl) : CallR X (.builtin "len") (rLen2 K) := hK ▸ callLen
theorem callListK (hK : X.K = K := by rfl) : CallR X (.type "list") (rListC K) := hK ▸ callList
theorem callTupleK (hK : X.K = K := by rfl) : CallR X (.type "tuple") (rTupC K) := hK ▸ callTuple
theorem callIsiK (hK : X.K = K := by rfl) : CallR X (.builtin "isinstance") (rIsi K) := hK ▸ call_isi
theorem ixSeqK (hK : X.K = K := by rfl) : IxR X (rIx K) := hK ▸ ix_seq
theorem slListK (hK : X.K = K := by rfl) : SlR X (rSlL K) := hK ▸ sl_list
theorem opEqK (hu : X.A.units + 64 < cLine) (hK : X.K = K := by rfl) : OpR X (compareOp .Eq) (rEq2 K) := hK ▸ opEq hu
theorem opNeK (hu : X.A.units + 64 < cLine) (hK : X.K = K := by rfl) : OpR X (compareOp .NotEq) (rNe2 K) := hK ▸ opNe hu
theorem pe_fldK {e : Expr} {ta : TE} {f : Str} {pos : Pos} (he : PE X e ta) (hK : X.K = K := by rfl) (hb : attributeBase e f X.env (eval e X.env) = eval e X.env := by rfl) : PE X (.Attribute e f pos) (tFld K ta f) := hK ▸ pe_fld he hb
end
/-! ### sep.join(list of texts) -/
section
variable {X : Cx} {K : PySem.W.Frag} {T : Tups} {L : List Chunk} {σ : L2.St} {Q : VK} {a : Addr} {to te : TE}
def rJoinC (K : PySem.W.Frag) : V → List V → Hp → VK → Prop := fun x xs H Q => ∃ a p, ∃ ys : List Str, x = .str a ∧ xs = [.ref p] ∧ (SqL K H p (ys.map V.str) ∨ SqT K H p (ys.map V.str)) ∧ (ys.map (·.length)).sum + ys.length * a.length ≤ 16777216 ∧ Q (.str (Txt.join a ys)) H
theorem pe_joinC {o e : Expr} {apos pos : Pos} (ho : PE X o to) (he : PE X e te) (hs : starEach [e] X.env = [(false, eval e X.env)] := by rfl) (hbase : attributeBase o "join" X.env (eval o X.env) = eval o X.env := by rfl) (hline : (apos.endLine == pos.line) = true := by rfl) (hK : X.K = K := by rfl) :
    PE X (.Call (.Attribute o "join" apos) [e] [] pos) (tM1 (rJoinC K) to te) := hK ▸ pe_join ho he hs hbase hline
def rStrS (r : V → List V → Hp → VK → Prop) (σ : L2.St) (te : TE) (x : V) (H1 : Hp) (Q : VK) : Prop := (∃ a, x = .str a) ∧ te σ H1 fun y H2 => r x [y] H2 Q
theorem go_m1 {r : V → List V → Hp → VK → Prop} (h : Go T L fun H => to σ H fun x H1 => rStrS r σ te x H1 Q) : Go T L fun H => tM1 r to te σ H Q := h
theorem go_strS {r : V → List V → Hp → VK → Prop} {s : Str} (h : Go T L fun H => te σ H fun y H2 => r (.str s) [y] H2 Q) : Go T L fun H => rStrS r σ te (.str s) H Q := fun H x t => ⟨⟨s, rfl⟩, h H x t⟩
theorem go_join {s : Str} {ys : List Str} [r : RdL L a (ys.map V.str)] (z : (ys.map (·.length)).sum + ys.length * s.length ≤ 16777216) (h : Go T L fun H => Q (.str (Txt.join s ys)) H) : Go T L fun H => rJoinC K (.str s) [.ref a] H Q := fun H x t => ⟨s, a, ys, rfl, rfl, .inl (.inl (r.rd H x)), z, h H x t⟩
end
/-! ### len(o), o of an own class with __len__ -/
section
variable {X : Cx} {k : Nat} {C : Addr} {ps : List Str} {sp : Sp} {dvs : List V}
def rLenO (C : Addr) (sp : Sp) : List V → Hp → VK → Prop := fun xs H Q => ∃ a dx fs, xs = [.ref a] ∧ H a = some (.ins C dx fs) ∧ sp [.ref a] H (fun v H' => ∃ n : Int, v = .int n ∧ 0 ≤ n ∧ n < 2 ^ 63 ∧ Q (.int n) H') E0
theorem call_lenO (D : MeD X.prog X.w X.K X.mg X.base C "__len__" k ps [] sp) (hr : Room (k + 1) X.A) : CallR X (.builtin "len") (rLenO C sp) := by
  intro pins s σ H xs us Q I rv ⟨a, dx, fs, ex, ea, q⟩
  subst ex
  obtain ⟨u, rfl, ru⟩ := vals1 rv
  obtain rfl : u = Value.ref a := ru
  obtain ⟨f, fd, ds, Fk, hm, hb, hd⟩ := D.ex
  cases hd
  obtain ⟨mA, O, _, _, _, _⟩ := ins_get I.hok ea
  obtain ⟨od, J, _⟩ := O.look
  obtain ⟨m, fr⟩ := I.fr
  have hl : ([Value.ref a] ++ ([] : List Value)).length = ps.length := by rw [← Fk.len _ _ _ _ q]; rfl
  have b := hb s [.ref a] I.kIn hl
  refine PySem.W.len_K fr I.ok.mod.kin J hm.at_ hm.fn (wpAny_call (codeAny_mono (Fk.run X.A.in1 X.stack s H ⟨[.ref a], []⟩ [.ref a] [.ref a] _ E0 hr.in1 I.env0.in1 (by simpa using b) (.cons rfl .nil) q) fun r s' hq => ?_))
  cases r with
  | error er => exact passN σ pins H s er s' I hq
  | ok fl =>
    cases fl with
    | ret u =>
      obtain ⟨v, H', I4, rv4, n, rfl, h0, h1, q4⟩ := I.after hq
      obtain ⟨t, rfl⟩ := rv4
      exact ⟨⟨h0, h1⟩, .int n, H', I4.tok _, ⟨_, rfl⟩, q4⟩
    | next => exact False.elim hq
    | brk => exact False.elim hq
    | cont => exact False.elim hq
end

/-! ### isinstance -/
class KitB (a b : String) (r : outParam Bool) : Prop where
  eq : kitB a b = some r
instance : KitB "NoneType" "bool" false := ⟨by decide +kernel⟩
instance : KitB "NoneType" "int" false := ⟨by decide +kernel⟩
instance : KitB "NoneType" "str" false := ⟨by decide +kernel⟩
instance : KitB "NoneType" "list" false := ⟨by decide +kernel⟩
instance : KitB "NoneType" "tuple" false := ⟨by decide +kernel⟩
instance : KitB "bool" "bool" true := ⟨by decide +kernel⟩
instance : KitB "bool" "int" true := ⟨by decide +kernel⟩
instance : KitB "bool" "str" false := ⟨by decide +kernel⟩
instance : KitB "bool" "list" false := ⟨by decide +kernel⟩
instance : KitB "bool" "tuple" false := ⟨by decide +kernel⟩
instance : KitB "int" "bool" false := ⟨by decide +kernel⟩
instance : KitB "int" "int" true := ⟨by decide +kernel⟩
instance : KitB "int" "str" false := ⟨by decide +kernel⟩
instance : KitB "int" "list" false := ⟨by decide +kernel⟩
instance : KitB "int" "tuple" false := ⟨by decide +kernel⟩
instance : KitB "str" "bool" false := ⟨by decide +kernel⟩
instance : KitB "str" "int" false := ⟨by decide +kernel⟩
instance : KitB "str" "str" true := ⟨by decide +kernel⟩
instance : KitB "str" "list" false := ⟨by decide +kernel⟩
instance : KitB "str" "tuple" false := ⟨by decide +kernel⟩
instance : KitB "list" "bool" false := ⟨by decide +kernel⟩
instance : KitB "list" "int" false := ⟨by decide +kernel⟩
instance : KitB "list" "str" false := ⟨by decide +kernel⟩
instance : KitB "list" "list" true := ⟨by decide +kernel⟩
instance : KitB "list" "tuple" false := ⟨by decide +kernel⟩
instance : KitB "tuple" "bool" false := ⟨by decide +kernel⟩
instance : KitB "tuple" "int" false := ⟨by decide +kernel⟩
instance : KitB "tuple" "str" false := ⟨by decide +kernel⟩
instance : KitB "tuple" "list" false := ⟨by decide +kernel⟩
instance : KitB "tuple" "tuple" true := ⟨by decide +kernel⟩
/-- the type of a value, over a heap told by pieces -/
class TyC (T : Tups) (L : List Chunk) (x : V) (t : outParam String) : Prop where
  ty : ∀ K H, Has H L → HasT H T → TyX K H x (.type t)
instance {T : Tups} {L : List Chunk} : TyC T L .non "NoneType" := ⟨fun _ _ _ _ => .base .non⟩
instance {T : Tups} {L : List Chunk} {b : Bool} : TyC T L (.bl b) "bool" := ⟨fun _ _ _ _ => .base (.bl b)⟩
instance {T : Tups} {L : List Chunk} {i : Int} : TyC T L (.int i) "int" := ⟨fun _ _ _ _ => .base (.int i)⟩
instance {T : Tups} {L : List Chunk} {s : Str} : TyC T L (.str s) "str" := ⟨fun _ _ _ _ => .base (.str s)⟩
instance {T : Tups} {L : List Chunk} {a : Addr} {xs : List V} [k : Kn T a xs] : TyC T L (.ref a) "tuple" := ⟨fun _ _ _ t => .base (.tup t.get)⟩
instance {T : Tups} {L : List Chunk} {a : Addr} {xs : List V} [r : RdL L a xs] : TyC T L (.ref a) "list" := ⟨fun _ H x _ => (r.rd H x).elim (fun e => .base (.lst e)) fun ⟨_, e⟩ => .base (.frz e)⟩
theorem go_isi {K : PySem.W.Frag} {T : Tups} {L : List Chunk} {Q : VK} {x : V} {t n : String} {r : Bool} [ty : TyC T L x t] [k : KitB t n r] (h : Go T L fun H => Q (.bl r) H) : Go T L fun H => rIsi K [x, .ty n] H Q := fun H a b =>
  ⟨x, .ty n, .type t, .type n, r, rfl, .ty n, ty.ty K H a b, kit_ty k.eq, h H a b⟩

/-! ### raise -/
section
variable {K : PySem.W.Frag} {T : Tups} {L : List Chunk} {σ : L2.St} {W : WX} {C : Addr} {sp : Sp} {dvs : List V} {ta : TA} {D : Ends} {N : XK}
theorem go_raise {t : L2.St → Hp → XK → Prop} (h : Go T L fun H => t σ H fun cls d H' => W cls d σ H') : Go T L fun H => (fun (_ : Ends) (σ : L2.St) (H : Hp) => t σ H fun cls d H' => W cls d σ H') D σ H := h
def rMkO (C : Addr) (sp : Sp) (dvs vs : List V) (H : Hp) (Q : XK) : Prop := vs.length ≤ 1000 ∧ ∀ a, H a = none → sp (.ref a :: (vs ++ dvs)) (upd H a (exo a C none))
  (fun v H2 => v = .non ∧ ∃ (d : Addr) (fs : List (Str × V)), H2 a = some (exo a C (some d)) ∧ H2 d = some (exd d fs) ∧ H d = none ∧ Q (.ref C) (some d) (upd (del H2 a) d (.xd fs))) (fun _ _ _ => False)
theorem go_tmkO {Q : XK} (h : Go T L fun H => ta σ H fun vs H1 => rMkO C sp dvs vs H1 Q) : Go T L fun H => tMkO C sp dvs ta σ H Q := h
/-- the promise of an own error's initialiser: nothing but the fields is said -/
def spErr (C : Addr) (n : Nat) (g : List V → List (Str × V)) : Sp := fun vs H Q _ => ∃ (a : Addr) (ws : List V), vs = .ref a :: ws ∧ ws.length = n ∧ H a = some (exo a C none) ∧
  ∀ dx, H dx = none → dx ≠ a → Q .non (upd (upd H dx (exd dx (g ws))) a (exo a C (some dx)))
/-- how a raised error is wished for: its dict stands as a new piece -/
def Rs (T : Tups) (L : List Chunk) (N : XK) (C : Addr) (fs : List (Str × V)) : Prop := ∀ d, Go T (pt d (.xd fs) :: L) fun H => N (.ref C) (some d) H
theorem go_mkO {n : Nat} {g : List V → List (Str × V)} {vs : List V} (hn : vs.length = n) (hz : vs.length ≤ 1000) (h : Rs T L N C (g vs)) : Go T L fun H => rMkO C (spErr C n g) [] vs H N := fun H x t => by
  refine ⟨hz, fun a na => ⟨a, vs ++ [], rfl, by rw [List.append_nil]; exact hn, upd_same, fun dx nd ne => ⟨rfl, dx, g (vs ++ []), upd_same, ?_, ?_, ?_⟩⟩⟩
  · rw [upd_ne ne, upd_same]
  · rw [upd_ne ne] at nd
    exact nd
  · have nd' : H dx = none := by rw [upd_ne ne] at nd; exact nd
    have e : upd (del (upd (upd (upd H a (exo a C none)) dx (exd dx (g (vs ++ [])))) a (exo a C (some dx))) a) dx (.xd (g (vs ++ []))) = upd H dx (.xd (g vs)) := by
      funext b
      by_cases h1 : b = dx
      · subst h1
        rw [upd_same, upd_same, List.append_nil]
      · rw [upd_ne h1, upd_ne h1]
        by_cases h2 : b = a
        · subst h2
          rw [del_same, na]
        · rw [del_ne h2, upd_ne h2, upd_ne h1, upd_ne h2]
    rw [e]
    exact h dx _ (x.new nd') (t.new nd')
end
theorem go_start {T : Tups} {L : List Chunk} {H : Hp} {P : Hp → Prop} (hs : Has H L) (ht : HasT H T) (h : Go T L P) : P H := h H hs ht
theorem sz100 {n : Nat} (h : n ≤ 1000000) : n ≤ sizeLine := Nat.le_trans h (by decide)
theorem sz100l {n : Nat} (h : n < 1000000) : n < sizeLine := Nat.lt_of_lt_of_le h (by decide)
theorem div9 {i j : Int} (h : 0 < j) (hb : j < 2 ^ 100) : CDivW i j := wide_div (b := 100) h (by omega) (by decide) (by decide)
theorem mul9 {i j : Int} (h1 : -(2 ^ 64) < i) (h2 : i < 2 ^ 64) : CMul i j := .inl ⟨h1, h2⟩
theorem mul8 {i j : Int} (h1 : -(2 ^ 64) < j) (h2 : j < 2 ^ 64) : CMul i j := .inr ⟨h1, h2⟩
end OC

set_option maxHeartbeats 4000000
/-! Loops and comprehensions over a heap told by pieces. -/
namespace OC
open PySem PySem.Spec PyProof.Rows L2
/-- what holds between two turns: of the slots, the tuples, the pieces -/
abbrev LI := Nat → L2.St → Tups → List Chunk → Prop
def At (I : LI) (i : Nat) (σ : L2.St) (H : Hp) : Prop := ∃ T L, I i σ T L ∧ Has H L ∧ HasT H T
def rFor (J : It) (g : TG) (tb : TS) (D : Ends) (σ : L2.St) (H1 : Hp) : Prop := ∃ W : Nat → Nat → L2.St → Hp → Prop, (∃ m, W 0 m σ H1) ∧ ∀ i m σ H, W i m σ H →
  (J.stop i H ∧ D.nx σ H) ∨ (J.go i H ∧ ∃ N : L2.St → Hp → Prop, (∀ σ' H', N σ' H' → ∃ m', m' < m ∧ W (i + 1) m' σ' H') ∧ ∀ x H', J.yld i H x H' → g x σ H' fun σ2 H2 => tb { D with nx := N, ct := N, bk := D.nx } σ2 H2)
section
variable {K : PySem.W.Frag} {T : Tups} {L : List Chunk} {σ : L2.St} {Q : VK} {D : Ends} {g : TG} {tb : TS} {ta : TA} {te tl : TE} {tt : TT} {a : Addr} {xs : List V} {i j lo : Int} {n : Nat} {vs : List Nat} {tc : TT}
theorem go_at {I : LI} {m : Nat} (h : I m σ T L) : Go T L fun H => At I m σ H := fun H x t => ⟨T, L, h, x, t⟩
theorem go_at' {I : LI} {m : Nat} {T' : Tups} {L' : List Chunk} (h : I m σ T' L') [Ent L L'] [Mo T' T] : Go T L fun H => At I m σ H := fun H x t => ⟨T', L', h, x.ent, t.more⟩
theorem go_for1 (h : Go T L fun H => ta σ H fun vs H1 => ∃ j : Int, vs = [.int j] ∧ -(2 ^ 62) ≤ j ∧ j < 2 ^ 62 ∧ rFor (Itr 0 j.toNat) g tb D σ H1) : Go T L fun H => tFor (iRng1 ta) g tb D σ H := h
theorem go_for2 (h : Go T L fun H => ta σ H fun vs H1 => ∃ i j : Int, vs = [.int i, .int j] ∧ (-(2 ^ 62) ≤ i ∧ i < 2 ^ 62 ∧ -(2 ^ 62) ≤ j ∧ j < 2 ^ 62) ∧ rFor (Itr i (j - i).toNat) g tb D σ H1) : Go T L fun H => tFor (iRng2 ta) g tb D σ H := h
theorem go_forL (h : Go T L fun H => tl σ H fun x H1 => ∃ a, x = .ref a ∧ (∃ xs, SqL K H1 a xs) ∧ rFor (Itl K a) g tb D σ H1) : Go T L fun H => tFor (iList K tl) g tb D σ H := h
theorem go_forU (h : Go T L fun H => tl σ H fun x H1 => ∃ a, x = .ref a ∧ (∃ xs, SqT K H1 a xs) ∧ rFor (Itt K a) g tb D σ H1) : Go T L fun H => tFor (iTup K tl) g tb D σ H := h
theorem go_rg1 (h1 : -(2 ^ 62) ≤ j) (h2 : j < 2 ^ 62) (h : Go T L fun H => rFor (Itr 0 j.toNat) g tb D σ H) : Go T L fun H => ∃ k : Int, [V.int j] = [.int k] ∧ -(2 ^ 62) ≤ k ∧ k < 2 ^ 62 ∧ rFor (Itr 0 k.toNat) g tb D σ H := fun H x t => ⟨j, rfl, h1, h2, h H x t⟩
theorem go_rg2 (hb : -(2 ^ 62) ≤ i ∧ i < 2 ^ 62 ∧ -(2 ^ 62) ≤ j ∧ j < 2 ^ 62) (h : Go T L fun H => rFor (Itr i (j - i).toNat) g tb D σ H) : Go T L fun H => ∃ a b : Int, [V.int i, V.int j] = [.int a, .int b] ∧ (-(2 ^ 62) ≤ a ∧ a < 2 ^ 62 ∧ -(2 ^ 62) ≤ b ∧ b < 2 ^ 62) ∧ rFor (Itr a (b - a).toNat) g tb D σ H := fun H x t => ⟨i, j, rfl, hb, h H x t⟩
theorem go_ovL [r : RdL L a xs] (h : Go T L fun H => rFor (Itl K a) g tb D σ H) : Go T L fun H => ∃ b, V.ref a = .ref b ∧ (∃ xs, SqL K H b xs) ∧ rFor (Itl K b) g tb D σ H := fun H x t => ⟨a, rfl, ⟨xs, .inl (r.rd H x)⟩, h H x t⟩
theorem go_ovU [k : Kn T a xs] (h : Go T L fun H => rFor (Itt K a) g tb D σ H) : Go T L fun H => ∃ b, V.ref a = .ref b ∧ (∃ xs, SqT K H b xs) ∧ rFor (Itt K b) g tb D σ H := fun H x t => ⟨a, rfl, ⟨xs, .inl (.inl t.get)⟩, h H x t⟩
/-- over a range -/
theorem go_range (I : LI) (h0 : I 0 σ T L) (hs : ∀ i σ T L, i < n → I i σ T L → Go T L fun H => g (.int (lo + i)) σ H fun σ2 H2 => tb { nx := At I (i + 1), rt := D.rt, bk := D.nx, ct := At I (i + 1) } σ2 H2) (hd : ∀ σ T L, I n σ T L → Go T L fun H => D.nx σ H) :
    Go T L fun H => rFor (Itr lo n) g tb D σ H := fun H x t =>
  for_range (At I) ⟨T, L, h0, x, t⟩ (fun i σ H hi ⟨T, L, h, x, t⟩ => hs i σ T L hi h H x t) (fun σ H ⟨T, L, h, x, t⟩ => hd σ T L h H x t)
/-- over a list that stands still -/
theorem go_over (I : LI) (h0 : I 0 σ T L) (hl : ∀ i σ T L, I i σ T L → RdL L a xs) (hs : ∀ i v σ T L, xs[i]? = some v → I i σ T L → Go T L fun H => g v σ H fun σ2 H2 => tb { nx := At I (i + 1), rt := D.rt, bk := D.nx, ct := At I (i + 1) } σ2 H2) (hd : ∀ σ T L, I xs.length σ T L → Go T L fun H => D.nx σ H) :
    Go T L fun H => rFor (Itl K a) g tb D σ H := fun H x t =>
  for_list (K := K) (a := a) (xs := xs) (At I) ⟨T, L, h0, x, t⟩ (fun i σ H _ ⟨T, L, h, x, t⟩ => .inl ((hl i σ T L h).rd H x)) (fun i v σ H hi ⟨T, L, h, x, t⟩ => hs i v σ T L hi h H x t) (fun σ H ⟨T, L, h, x, t⟩ => hd σ T L h H x t)
theorem go_overU (I : LI) (h0 : I 0 σ T L) (hl : ∀ i σ T L, I i σ T L → Kn T a xs) (hs : ∀ i v σ T L, xs[i]? = some v → I i σ T L → Go T L fun H => g v σ H fun σ2 H2 => tb { nx := At I (i + 1), rt := D.rt, bk := D.nx, ct := At I (i + 1) } σ2 H2) (hd : ∀ σ T L, I xs.length σ T L → Go T L fun H => D.nx σ H) :
    Go T L fun H => rFor (Itt K a) g tb D σ H := fun H x t =>
  for_tup (K := K) (a := a) (xs := xs) (At I) ⟨T, L, h0, x, t⟩ (fun i σ H _ ⟨T, L, h, x, t⟩ => .inl (.inl (t _ (hl i σ T L h).mem))) (fun i v σ H hi ⟨T, L, h, x, t⟩ => hs i v σ T L hi h H x t) (fun σ H ⟨T, L, h, x, t⟩ => hd σ T L h H x t)
/-- while: I by a number that falls -/
theorem go_while (I : LI) (m0 : Nat) (h0 : I m0 σ T L) (hs : ∀ m σ T L, I m σ T L → Go T L fun H => tc σ H fun b H1 => if b = true then tb { nx := fun σ' H' => ∃ m', m' < m ∧ At I m' σ' H', rt := D.rt, bk := D.nx, ct := fun σ' H' => ∃ m', m' < m ∧ At I m' σ' H' } σ H1 else D.nx σ H1)
    (mono : ∀ σ H (Q Q' : Bool → Hp → Prop), (∀ b H1, Q b H1 → Q' b H1) → tc σ H Q → tc σ H Q') : Go T L fun H => tWhile tc tb D σ H := fun H x t => by
  refine ⟨At I, ⟨m0, T, L, h0, x, t⟩, ?_⟩
  rintro m σ H ⟨T, L, h, x, t⟩
  refine mono σ H _ _ (fun b H1 q => ?_) (hs m σ T L h H x t)
  cases b with
  | true => exact ⟨_, fun σ' H' z => z, q⟩
  | false => exact q
theorem go_wend {I : LI} {m k : Nat} {T' : Tups} {L' : List Chunk} (h : I k σ T' L') (hk : k < m) [Ent L L'] [Mo T' T] : Go T L fun H => ∃ m', m' < m ∧ At I m' σ H := fun H x t => ⟨k, hk, T', L', h, x.ent, t.more⟩
/-- a statement, then the rest, with a word between them -/
theorem go_cut {t u : TS} (I : L2.St → Tups → List Chunk → Prop) (h : Go T L fun H => t { nx := At (fun _ => I) 0, rt := D.rt, bk := D.bk, ct := D.ct } σ H) (k : ∀ σ T L, I σ T L → Go T L fun H => u D σ H) : Go T L fun H => Evl.tCut t u D σ H := fun H x y =>
  ⟨At (fun _ => I) 0, h H x y, fun σ' H' ⟨T', L', i, x', y'⟩ => k σ' T' L' i H' x' y'⟩
/-! ### comprehensions -/
abbrev CI := Nat → Tups → List Chunk → List V → Prop
/-- behind a turn: the list at Dl has one item more, or not -/
def AtC (I : CI) (Dl : Addr) (i : Nat) (H : Hp) : Prop := ∃ T L acc, I i T L acc ∧ Has H (pt Dl (.lst acc) :: L) ∧ HasT H T
def rItem (I : CI) (Dl : Addr) (i : Nat) (y : V) (H : Hp) : Prop := ∃ acc, H Dl = some (.lst acc) ∧ acc.length < sizeLine ∧ AtC I Dl i (upd H Dl (.lst (acc ++ [y])))
theorem go_item {I : CI} {Dl : Addr} {m : Nat} {y : V} {acc : List V} {R : List Chunk} [p : Pull pt L Dl (.lst acc) R] (z : acc.length < sizeLine) (h : I m T R (acc ++ [y])) : Go T L fun H => rItem I Dl m y H := fun H x t =>
  ⟨acc, x.get, z, T, R, acc ++ [y], h, x.upd (o := .lst acc), t.upd (x.get (a := Dl) (o := .lst acc) (R := R)) fun xs z => by cases z⟩
theorem go_item' {I : CI} {Dl : Addr} {m : Nat} {y : V} {acc : List V} {R R' : List Chunk} {T' : Tups} [p : Pull pt L Dl (.lst acc) R] (z : acc.length < sizeLine) (h : I m T' R' (acc ++ [y])) [e : Ent R R'] [Mo T' T] : Go T L fun H => rItem I Dl m y H := fun H x t => by
  have x2 := x.upd (o := .lst acc) (a := Dl) (o' := .lst (acc ++ [y])) (R := R)
  exact ⟨acc, x.get, z, T', R', acc ++ [y], h, x2.ent, (t.upd (x.get (a := Dl) (o := .lst acc) (R := R)) fun xs z => by cases z).more⟩
theorem go_skip {I : CI} {Dl : Addr} {m : Nat} {acc : List V} {R : List Chunk} [p : Pull pt L Dl (.lst acc) R] (h : I m T R acc) : Go T L fun H => AtC I Dl m H := fun H x t => ⟨T, R, acc, h, x.pull (F := pt) (g := .lst acc), t⟩
def rLc (J : It) (g : TG) (tt : TT) (te : TE) (vs : List Nat) (σ : L2.St) (Q : VK) (H1 : Hp) : Prop := ∀ D, H1 D = none → ∃ W : Nat → Nat → Hp → Prop, (∃ m, W 0 m (upd H1 D (.lst []))) ∧ ∀ i m H, W i m H →
  (J.stop i H ∧ Q (.ref D) H) ∨ (J.go i H ∧ ∃ Nx : Hp → Prop, (∀ H', Nx H' → ∃ m', m' < m ∧ W (i + 1) m' H') ∧ ∀ x H', J.yld i H x H' → g x (wipe σ vs) H' fun σ2 H2 => wipe σ2 vs = wipe σ vs ∧ tt σ2 H2 fun b H3 =>
    if b = true then te σ2 H3 fun y H4 => ∃ acc, H4 D = some (.lst acc) ∧ acc.length < sizeLine ∧ Nx (upd H4 D (.lst (acc ++ [y]))) else Nx H3)
theorem go_lc1 (h : Go T L fun H => ta σ H fun us H1 => ∃ j : Int, us = [.int j] ∧ -(2 ^ 62) ≤ j ∧ j < 2 ^ 62 ∧ rLc (Itr 0 j.toNat) g tt te vs σ Q H1) : Go T L fun H => tLc (iRng1 ta) g tt te vs σ H Q := h
theorem go_lc2 (h : Go T L fun H => ta σ H fun us H1 => ∃ i j : Int, us = [.int i, .int j] ∧ (-(2 ^ 62) ≤ i ∧ i < 2 ^ 62 ∧ -(2 ^ 62) ≤ j ∧ j < 2 ^ 62) ∧ rLc (Itr i (j - i).toNat) g tt te vs σ Q H1) : Go T L fun H => tLc (iRng2 ta) g tt te vs σ H Q := h
theorem go_lcL (h : Go T L fun H => tl σ H fun x H1 => ∃ a, x = .ref a ∧ (∃ xs, SqL K H1 a xs) ∧ rLc (Itl K a) g tt te vs σ Q H1) : Go T L fun H => tLc (iList K tl) g tt te vs σ H Q := h
theorem go_rc1 (h1 : -(2 ^ 62) ≤ j) (h2 : j < 2 ^ 62) (h : Go T L fun H => rLc (Itr 0 j.toNat) g tt te vs σ Q H) : Go T L fun H => ∃ k : Int, [V.int j] = [.int k] ∧ -(2 ^ 62) ≤ k ∧ k < 2 ^ 62 ∧ rLc (Itr 0 k.toNat) g tt te vs σ Q H := fun H x t => ⟨j, rfl, h1, h2, h H x t⟩
theorem go_rc2 (hb : -(2 ^ 62) ≤ i ∧ i < 2 ^ 62 ∧ -(2 ^ 62) ≤ j ∧ j < 2 ^ 62) (h : Go T L fun H => rLc (Itr i (j - i).toNat) g tt te vs σ Q H) : Go T L fun H => ∃ a b : Int, [V.int i, V.int j] = [.int a, .int b] ∧ (-(2 ^ 62) ≤ a ∧ a < 2 ^ 62 ∧ -(2 ^ 62) ≤ b ∧ b < 2 ^ 62) ∧ rLc (Itr a (b - a).toNat) g tt te vs σ Q H := fun H x t => ⟨i, j, rfl, hb, h H x t⟩
theorem go_ocL [r : RdL L a xs] (h : Go T L fun H => rLc (Itl K a) g tt te vs σ Q H) : Go T L fun H => ∃ b, V.ref a = .ref b ∧ (∃ xs, SqL K H b xs) ∧ rLc (Itl K b) g tt te vs σ Q H := fun H x t => ⟨a, rfl, ⟨xs, .inl (r.rd H x)⟩, h H x t⟩
theorem go_wipe {N : Hp → Prop} {σ σ1 : L2.St} (e : wipe σ vs = σ1) (h : Go T L N) : Go T L fun H => wipe σ vs = σ1 ∧ N H := fun H x t => ⟨e, h H x t⟩
theorem go_yes {Q : Bool → Hp → Prop} (h : Go T L fun H => Q true H) : Go T L fun H => tYes σ H Q := h
theorem go_lcr {σw : L2.St} (hw : wipe σ vs = σw) (I : CI) (h0 : I 0 T L []) (hs : ∀ i T L acc Dl, i < n → I i T L acc → Go T (pt Dl (.lst acc) :: L) fun H => g (.int (lo + i)) σw H fun σ2 H2 => wipe σ2 vs = σw ∧ tt σ2 H2 fun b H3 => if b = true then te σ2 H3 fun y H4 => rItem I Dl (i + 1) y H4 else AtC I Dl (i + 1) H3)
    (hd : ∀ T L acc Dl, I n T L acc → Go T (pt Dl (.lst acc) :: L) fun H => Q (.ref Dl) H) : Go T L fun H => rLc (Itr lo n) g tt te vs σ Q H := fun H x t Dl nD => by
  subst hw
  exact lc_range (AtC I Dl) ⟨T, L, [], h0, x.new nD, t.new nD⟩ (fun i H hi ⟨T, L, acc, h, x, t⟩ => hs i T L acc Dl hi h H x t) (fun H ⟨T, L, acc, h, x, t⟩ => hd T L acc Dl h H x t)
theorem go_lcl {σw : L2.St} (hw : wipe σ vs = σw) (I : CI) (h0 : I 0 T L []) (hl : ∀ i T L acc, I i T L acc → RdL L a xs) (hs : ∀ i v T L acc Dl, xs[i]? = some v → I i T L acc → Go T (pt Dl (.lst acc) :: L) fun H => g v σw H fun σ2 H2 => wipe σ2 vs = σw ∧ tt σ2 H2 fun b H3 => if b = true then te σ2 H3 fun y H4 => rItem I Dl (i + 1) y H4 else AtC I Dl (i + 1) H3)
    (hd : ∀ T L acc Dl, I xs.length T L acc → Go T (pt Dl (.lst acc) :: L) fun H => Q (.ref Dl) H) : Go T L fun H => rLc (Itl K a) g tt te vs σ Q H := fun H x t Dl nD => by
  subst hw
  exact lc_list (K := K) (a := a) (xs := xs) (AtC I Dl) ⟨T, L, [], h0, x.new nD, t.new nD⟩ (fun i H _ ⟨T, L, acc, h, x, t⟩ => .inl ((hl i T L acc h).rd H x.tail)) (fun i v H hi ⟨T, L, acc, h, x, t⟩ => hs i v T L acc Dl hi h H x t) (fun H ⟨T, L, acc, h, x, t⟩ => hd T L acc Dl h H x t)
end
end OC

set_option maxHeartbeats 4000000
namespace OC
open PySem PySem.Spec PyProof.Rows L2
/-! ### properties, len(o), own errors -/
section
variable (P : Program) (w : World) (K : PySem.W.Frag) (mg : Str → Option Value) (base : Heap)
structure PrD (C : Addr) (f : Str) (k : Nat) (sp : Sp) : Prop where
  ex : ∃ p g fd, PropOf K C f p g ∧ FnOk P w K mg base (L2N.CX P w) k g fd ["self"] sp ∧ Binds K fd ["self"] []
structure StD (C : Addr) (f : Str) (k : Nat) (ps : List Str) (sp : Sp) : Prop where
  ex : ∃ p g fd, SetOf K C f p g ∧ FnOk P w K mg base (L2N.CX P w) k g fd ps sp ∧ Binds K fd ps []
structure TxP (C : Addr) (f qual : Str) (st : Stmt) : Prop where
  ex : ∃ p g fd, PropOf K C f p g ∧ FunG K f qual st g fd ∧ Binds K fd ["self"] []
structure TxS (C : Addr) (f qual : Str) (st : Stmt) (ps : List Str) : Prop where
  ex : ∃ p g fd, SetOf K C f p g ∧ FunG K f qual st g fd ∧ Binds K fd ps []
/-- an own error class as the top has made it -/
structure TxE (C : Addr) (x qual : Str) (st : Stmt) (ps : List Str) : Prop where
  ex : ∃ f oc od dV kV doc pm an cda cc ct osl fd, fd = PySem.W.ksFn "__init__" qual (defArgs st) (defBody st) (defScope st) dV kV doc pm an (.ref cda) ct cc ∧ K.lookup f = some ⟨oc, od, .func fd, osl⟩ ∧ PySem.W.codeIn K (.ref cda) qual = true ∧
    SupOk P K mg C C cc cda ∧ PySem.W.ks_superIn K C C "__init__" = some (some (.builtin "ValueError.__init__")) ∧ Binds K fd ps [] ∧ PySem.W.findIn K (.ref C) "__init__" = some (some (.ref f)) ∧ PySem.W.typeIn K (.ref f) = some (.type "function")
  oex : OexC K C
  subV : PySem.W.subIn K (.ref C) (.type "ValueError") = some true
  g : mg x = some (.ref C)
end
section
variable {X : Cx} {k : Nat} {C : Addr} {ps : List Str} {sp : Sp} {E : L2.St → XK} {x m f : Str} {p pos apos : Pos} {e o v : Expr} {ta tv : TE} {T : Tups} {L R : List Chunk} {σ : L2.St} {Q : VK} {a dx : Addr} {fs : List (Str × V)} {y : V} {D : Ends}
theorem pe_prD (he : PE X e ta) (c : Cls X.K C) (D : PrD X.prog X.w X.K X.mg X.base C f k sp) (hr : Room (k + 1) X.A) (hab : attributeBase e f X.env (eval e X.env) = eval e X.env := by rfl) : PE X (.Attribute e f pos) (tProp C sp [] E0 ta) := by
  obtain ⟨p, g, fd, hp, Fk, hb⟩ := D.ex
  exact pe_propD he c hp Fk hr hb .nil hab
theorem ps_stD (ho : PE X o ta) (hv : PE X v tv) (c : Cls X.K C) (D : StD X.prog X.w X.K X.mg X.base C f k ps sp) (hr : Room (k + 2) X.A) (hx : ∀ σ, PassesAt (L2N.CX X.prog X.w) X σ (E σ))
    (hs : swapsWith v (some (.Attribute o f apos)) pos.line X.env = pure false := by rfl) : PS X (.Assign [.Attribute o f apos] v pos) (tSetP C sp E tv ta) := by
  obtain ⟨p, g, fd, hp, Fk, hb⟩ := D.ex
  exact ps_setP ho hv c hp Fk hr hb hx hs
def rProp (C : Addr) (sp : Sp) (x : V) (H : Hp) (Q : VK) : Prop := ∃ a dx fs, x = .ref a ∧ H a = some (.ins C dx fs) ∧ sp [.ref a] H Q E0
theorem go_prop0 (h : Go T L fun H => ta σ H fun x H1 => rProp C sp x H1 Q) : Go T L fun H => tProp C sp [] E0 ta σ H Q := h
theorem go_prop [Pull pt L a (.ins C dx fs) R] (h : Go T L fun H => sp [.ref a] H Q E0) : Go T L fun H => rProp C sp (.ref a) H Q := fun H x t => ⟨a, dx, fs, rfl, x.get, h H x t⟩
def rSetP (C : Addr) (sp : Sp) (E : XK) (y x : V) (H : Hp) (N : Hp → Prop) : Prop := ∃ a dx fs, x = .ref a ∧ H a = some (.ins C dx fs) ∧ sp [.ref a, y] H (fun _ H3 => N H3) E
theorem go_setP0 (h : Go T L fun H => tv σ H fun y H1 => ta σ H1 fun x H2 => rSetP C sp (E σ) y x H2 fun H3 => D.nx σ H3) : Go T L fun H => tSetP C sp E tv ta D σ H := h
theorem go_setP {E : XK} {N : Hp → Prop} [Pull pt L a (.ins C dx fs) R] (h : Go T L fun H => sp [.ref a, y] H (fun _ H3 => N H3) E) : Go T L fun H => rSetP C sp E y (.ref a) H N := fun H x t => ⟨a, dx, fs, rfl, x.get, h H x t⟩
def rLenN (Q : VK) (v : V) (H' : Hp) : Prop := ∃ n : Int, v = .int n ∧ 0 ≤ n ∧ n < 2 ^ 63 ∧ Q (.int n) H'
theorem go_lenO [Pull pt L a (.ins C dx fs) R] (h : Go T L fun H => sp [.ref a] H (rLenN Q) E0) : Go T L fun H => rLenO C sp [.ref a] H Q := fun H x t => ⟨a, dx, fs, rfl, x.get, h H x t⟩
theorem go_lenE {n : Nat} (hn : n < 2 ^ 62) (h : Go T L fun H => Q (.int n) H) : Go T L fun H => rLenN Q (.int n) H := fun H x t => ⟨n, rfl, by omega, by omega, h H x t⟩
end
end OC

set_option maxHeartbeats 4000000
/-! Defs called where an error is handled: their words; the clause. -/
namespace OC
open PySem PySem.Spec PyProof.Rows L2 L2H
structure FxD (P : Program) (w : World) (K : PySem.W.Frag) (mg : Str → Option Value) (base : Heap) (x : Str) (k : Nat) (ps : List Str) (sp : Addr → Value → Option Addr → Sp) : Prop where
  ex : ∃ f fd, FnX P w K mg base (L2N.CX P w) k f fd ps sp ∧ mg x = some (.ref f) ∧ PySem.W.keepIn K (.ref f) = true ∧ Binds K fd ps []
section
variable {X : Cx} {k : Nat} {a : Addr} {oe : Obj} {cls : Value} {d : Option Addr} {ps : List Str} {sp : Addr → Value → Option Addr → Sp} {E : L2.St → XK} {x : Str} {q pos : Pos} {e : Expr} {es : List Expr} {t : TA}
theorem pe_clXD (D : FxD X.prog X.w X.K X.mg X.base x k ps sp) (hr : RoomH k X.A) (hot : Hot1 X.A (a, oe)) (hin : (a, oe) ∈ X.pn) (hz : L2N.Zn cls d oe) (hg : Gl X x) (hx : ∀ σ, PassesAt (L2N.CX X.prog X.w) X σ (E σ))
    (ha : PA X (e :: es) t) (hdb : (x == ("__debug__" : Str)) = false := by decide) (he : starEach (e :: es) X.env = (false, eval e X.env) :: starEach es X.env := by rfl) (hpl : (backTo pos (starEach es X.env)).any (·.1) = false := by rfl) :
    PE X (.Call (.Name x q) (e :: es) [] pos) (tCallSD (sp a cls d) [] E t) := by
  obtain ⟨f, fd, Fk, hm, hk, hb⟩ := D.ex
  exact pe_clX Fk hr hot hin hz hg hm hk hb hx ha hdb he hpl
end
section
variable {K : PySem.W.Frag} {T : Tups} {L R : List Chunk} {σ σ' : L2.St} {Q : VK} {a b dd Dc : Addr} {cls : Value} {d : Option Addr} {te : TE} {D : Ends} {fs : List (Str × V)} {v : V} {f : Str}
theorem go_isX {c : V} {cv : Value} {r : Bool} [Pull pt L dd (.xd fs) R] (C : ExcC K Dc) (hc : ∀ u, RelV c u → u = cv) (e : PySem.W.kitOne K (.ref Dc) cv = some r) (h : Go T L fun H => Q (.bl r) H) : Go T L fun H => rIsX K a (.ref Dc) (some dd) [.ref a, c] H Q := fun H x t =>
  ⟨Dc, dd, fs, c, cv, r, rfl, rfl, x.get, C, rfl, hc, e, h H x t⟩
def rXF (K : PySem.W.Frag) (a : Addr) (cls : Value) (d : Option Addr) (f : Str) (x : V) (H1 : Hp) (Q : VK) : Prop := ∃ (D dd : Addr) (fs : List (Str × V)) (v : V), x = .ref a ∧ cls = .ref D ∧ d = some dd ∧ H1 dd = some (.xd fs) ∧ XfC K D ∧ PySem.W.findIn K (.ref D) f = some none ∧ fs.lookup f = some v ∧ Q v H1
theorem go_xF0 (h : Go T L fun H => te σ H fun x H1 => rXF K a cls d f x H1 Q) : Go T L fun H => tXF K a cls d f te σ H Q := h
theorem go_xF [Pull pt L dd (.xd fs) R] (C : XfC K Dc) (n : PySem.W.findIn K (.ref Dc) f = some none) (l : fs.lookup f = some v) (h : Go T L fun H => Q v H) : Go T L fun H => rXF K a (.ref Dc) (some dd) f (.ref a) H Q := fun H x t =>
  ⟨Dc, dd, fs, v, rfl, rfl, rfl, x.get, C, n, l, h H x t⟩
theorem go_wAs {c : Value} {i : Nat} {ts : Addr → Value → Option Addr → TS} {Wout : WX} (e : PySem.W.exmOne K cls c = some true)
    (h : ∀ a, Go T L fun H => ts a cls d { nx := fun σ' H' => D.nx (σ'.set i none) H', rt := D.rt, bk := fun σ' H' => D.bk (σ'.set i none) H', ct := fun σ' H' => D.ct (σ'.set i none) H' } (σ.set i (some (.ref a))) H) : Go T L fun H => wAs K c i ts Wout D cls d σ H := fun H x t =>
  ⟨true, e, fun _ a _ => h a H x t, fun q => Bool.noConfusion q⟩
theorem go_eqD {x y : V} {p q : PyData} {r : Bool} (h1 : ∀ H, Has H L → HasT H T → Dp K H x p) (h2 : ∀ H, Has H L → HasT H T → Dp K H y q) (s1 : SeqAt.shaped p = true) (s2 : SeqAt.shaped q = true) (e : PyData.eqv p q = r) (h : Go T L fun H => Q (.bl r) H) : Go T L fun H => rEq2 K x y H Q := fun H a b => by
  subst e
  exact .inr ⟨p, q, h1 H a b, h2 H a b, s1, s2, h H a b⟩
theorem bl_all {H : Hp} : ∀ bs : List Bool, DpAll K H (bs.map V.bl) (bs.map PyData.bool)
  | [] => .nil
  | b :: r => .cons (.bl b) (bl_all r)
theorem go_eqBL {xs ys : List Bool} {p q : Addr} {r : Bool} [r1 : RdL L p (xs.map V.bl)] [r2 : RdL L q (ys.map V.bl)] (s1 : SeqAt.shaped (.list (xs.map PyData.bool)) = true) (s2 : SeqAt.shaped (.list (ys.map PyData.bool)) = true) (e : PyData.eqv (.list (xs.map PyData.bool)) (.list (ys.map PyData.bool)) = r) (h : Go T L fun H => Q (.bl r) H) : Go T L fun H => rEq2 K (.ref p) (.ref q) H Q :=
  go_eqD (fun H x t => .lst (.inl (r1.rd H x)) (bl_all xs)) (fun H x t => .lst (.inl (r2.rd H x)) (bl_all ys)) s1 s2 e h
end
end OC

set_option maxHeartbeats 4000000
/-! The script; what the top has made, fact by fact. -/
namespace OC
open PySem PySem.Spec PySem.Calls PyProof.Rows L2
theorem go_slLK {K : PySem.W.Frag} {T : Tups} {L : List Chunk} {Q : VK} {a : Addr} {xs : List V} {lo hi : Option Int} (r : ∀ H, Has H L → SqL K H a xs) (h : ∀ p, Go T (pt p (.lst (cutV xs lo hi)) :: L) fun H => Q (.ref p) H) : Go T L fun H => rSlL K (.ref a) lo hi H Q := fun H x t => ⟨a, xs, rfl, r H x, Go.new h H x t⟩
theorem has_one {H : Hp} {a : Addr} {o : HO} (h : H a = some o) : Has H [pt a o] := ⟨fun e he => by
  have z : e = (a, o) := by simpa [pt] using he
  subst z
  exact h, by simp [pt]⟩
theorem has_nil {H : Hp} : Has H [] := ⟨fun e he => (by cases he), .nil⟩
theorem script_at {K : PySem.W.Frag} {H : Hp} {a : Addr} {xs : List V} (h : SqL K H a xs) : ∃ L : List Chunk, Has H L ∧ ∀ H', Has H' L → SqL K H' a xs := by
  rcases h with (h | ⟨o, h⟩) | h
  · exact ⟨_, has_one h, fun H' x => .inl (.inl x.get)⟩
  · exact ⟨_, has_one h, fun H' x => .inl (.inr ⟨o, x.get⟩)⟩
  · exact ⟨[], has_nil, fun H' x => .inr h⟩
section
variable {P : Program} {K : PySem.W.Frag} {h : Heap} {mg : Str → Option Value} {C f g p cda cc : Addr} {x c qual : Str} {st : Stmt} {ps : List Str} {oc dV kV dc pm cd ct a0 : Value} {od an : Option Addr} {sl : Array (Option Value)} {rest : List Value}
/-- how such a def binds what it is called with -/
abbrev B0 (x qual : Str) (st : Stmt) (ps : List Str) : Prop := ∀ (kV doc pm : Value) (an : Option Addr) (cdv ct : Value) (us : List Value), us.length = ps.length → bindArgs (PySem.W.fnOf x qual (defArgs st) (defBody st) (defScope st) .none kV doc pm an cdv ct) ⟨us, []⟩ = pure (ps.zip us)
abbrev BE (qual : Str) (st : Stmt) (ps : List Str) : Prop := ∀ (kV doc pm : Value) (an : Option Addr) (cdv ct : Value) (cc : Addr) (us : List Value), us.length = ps.length → bindArgs (PySem.W.ksFn "__init__" qual (defArgs st) (defBody st) (defScope st) .none kV doc pm an cdv ct cc) ⟨us, []⟩ = pure (ps.zip us)
abbrev B1 (x qual : Str) (st : Stmt) (ps : List Str) (m n j : Nat) : Prop := ∀ (T : Addr) (kV doc pm : Value) (an : Option Addr) (cdv ct : Value) (us its : List Value), us.length = n → its.length = m →
  ∃ k, bindArgs (PySem.W.fnOf x qual (defArgs st) (defBody st) (defScope st) (.ref T) kV doc pm an cdv ct) ⟨us, []⟩ = seqItems? (.ref T) >>= k ∧ k (some its.toArray) = pure (ps.zip (us ++ its.drop j))
theorem funG_mk (l : K.lookup f = some ⟨oc, od, .func (PySem.W.fnOf x qual (defArgs st) (defBody st) (defScope st) dV kV dc pm an cd ct), sl⟩) (cc : PySem.W.codeIn K cd qual = true) (k : PySem.W.keepIn K (.ref f) = true) : FunG K x qual st f (PySem.W.fnOf x qual (defArgs st) (defBody st) (defScope st) dV kV dc pm an cd ct) :=
  ⟨⟨oc, od, dV, kV, dc, pm, an, cd, ct, sl, rfl, l, cc⟩, k⟩
theorem tx_mk (X : K.In h) (G : h.Ns mainGlobals mg) (a : PySem.W.nsIn K mainGlobals x = some (some (.ref f))) (l : K.lookup f = some ⟨oc, od, .func (PySem.W.fnOf x qual (defArgs st) (defBody st) (defScope st) .none kV dc pm an cd ct), sl⟩) (cc : PySem.W.codeIn K cd qual = true) (k : PySem.W.keepIn K (.ref f) = true) (b : B0 x qual st ps) : Tx K mg x qual st ps [] :=
  ⟨⟨f, _, [], funG_mk l cc k, PySem.W.mg_of X G a, .all (b _ _ _ _ _ _), .nil⟩⟩
theorem txm_mk (a : PySem.W.findIn K (.ref C) x = some (some (.ref f))) (i : PySem.W.isFn K (.ref f) = true) (l : K.lookup f = some ⟨oc, od, .func (PySem.W.fnOf x qual (defArgs st) (defBody st) (defScope st) .none kV dc pm an cd ct), sl⟩) (cc : PySem.W.codeIn K cd qual = true) (k : PySem.W.keepIn K (.ref f) = true) (b : B0 x qual st ps) : TxM K C x qual st ps [] :=
  ⟨⟨f, _, [], funG_mk l cc k, ⟨a, i, k⟩, .all (b _ _ _ _ _ _), .nil⟩⟩
theorem txi_mk (X : K.In h) (G : h.Ns mainGlobals mg) (aC : PySem.W.nsIn K mainGlobals c = some (some (.ref C))) (mk : PySem.W.makesIn K C = true) (a : PySem.W.findIn K (.ref C) "__init__" = some (some (.ref f))) (i : PySem.W.isFn K (.ref f) = true) (kC : PySem.W.keepIn K (.ref C) = true)
    (l : K.lookup f = some ⟨oc, od, .func (PySem.W.fnOf "__init__" qual (defArgs st) (defBody st) (defScope st) .none kV dc pm an cd ct), sl⟩) (cc : PySem.W.codeIn K cd qual = true) (k : PySem.W.keepIn K (.ref f) = true) (b : B0 "__init__" qual st ps) : TxI K mg C c qual st ps [] :=
  ⟨⟨f, _, [], funG_mk l cc k, ⟨mk, a, i, kC⟩, PySem.W.mg_of X G aC, .all (b _ _ _ _ _ _), .nil⟩⟩
theorem txi1_mk {Td : Addr} {cT : Value} {dT : Option Addr} {its : List Value} {nT : Nat} {sT : Array (Option Value)} (dvs : List V) (n j : Nat) (X : K.In h) (G : h.Ns mainGlobals mg) (aC : PySem.W.nsIn K mainGlobals c = some (some (.ref C))) (mk : PySem.W.makesIn K C = true) (a : PySem.W.findIn K (.ref C) "__init__" = some (some (.ref f))) (i : PySem.W.isFn K (.ref f) = true) (kC : PySem.W.keepIn K (.ref C) = true)
    (l : K.lookup f = some ⟨oc, od, .func (PySem.W.fnOf "__init__" qual (defArgs st) (defBody st) (defScope st) (.ref Td) kV dc pm an cd ct), sl⟩) (cc : PySem.W.codeIn K cd qual = true) (k : PySem.W.keepIn K (.ref f) = true) (lT : K.lookup Td = some ⟨cT, dT, .seq its.toArray nT, sT⟩) (vT : Vals dvs its) (hd : dvs ≠ []) (hn : n + (dvs.length - j) = ps.length) (b : B1 "__init__" qual st ps dvs.length n j) : TxI K mg C c qual st ps (dvs.drop j) := by
  have F : FunD K "__init__" qual (defArgs st) (defBody st) (defScope st) dvs [] f _ := ⟨⟨oc, od, .ref Td, kV, dc, pm, an, cd, ct, sl, rfl, l, cc, .inr ⟨hd, Td, _, its, nT, rfl, lT, rfl, vT⟩, .inl rfl⟩, k⟩
  obtain ⟨ds, r, B⟩ := F.binds1 n j hd hn b
  exact ⟨⟨f, _, ds, funG_mk l cc k, ⟨mk, a, i, kC⟩, PySem.W.mg_of X G aC, B, r⟩⟩
theorem txp_mk (a : PySem.W.findIn K (.ref C) x = some (some (.ref p))) (gt : PySem.W.specialIn K (.ref p) "__get__" = some (some (.builtin "property.__get__"))) (tk : PySem.W.takesIn K (.ref p) = some true) (r : PySem.W.recIn K p "property" = some (.ref g :: rest))
    (l : K.lookup g = some ⟨oc, od, .func (PySem.W.fnOf x qual (defArgs st) (defBody st) (defScope st) .none kV dc pm an cd ct), sl⟩) (cc : PySem.W.codeIn K cd qual = true) (k : PySem.W.keepIn K (.ref g) = true) (b : B0 x qual st ["self"]) : TxP K C x qual st :=
  ⟨⟨p, g, _, ⟨a, gt, tk, rest, r⟩, funG_mk l cc k, .all (b _ _ _ _ _ _)⟩⟩
theorem txs_mk (a : PySem.W.takerIn K C x = some (some (.ref p))) (ty : PySem.W.typeIn K (.ref p) = some (.type "property")) (r : PySem.W.recIn K p "property" = some (a0 :: .ref g :: rest))
    (l : K.lookup g = some ⟨oc, od, .func (PySem.W.fnOf x qual (defArgs st) (defBody st) (defScope st) .none kV dc pm an cd ct), sl⟩) (cc : PySem.W.codeIn K cd qual = true) (k : PySem.W.keepIn K (.ref g) = true) (b : B0 x qual st ps) : TxS K C x qual st ps :=
  ⟨⟨p, g, _, ⟨a, ty, a0, rest, r⟩, funG_mk l cc k, .all (b _ _ _ _ _ _)⟩⟩
theorem noat_mk {f : Str} (h : PySem.W.findIn K (.ref C) f = some none) : NoAttr K C f := h
theorem cls_mk (pg : PySem.W.plainGet K C Str.empty = true) (hd : PySem.W.hasDictIn K C = true) (po : PySem.W.plainOver K C = true) (sa : PySem.W.findIn K (.ref C) "__setattr__" = some (some (.builtin "object.__setattr__"))) : Cls K C := ⟨pg, hd, po, sa⟩
theorem oex_mk {nm q : Str} {N : Addr} {bs bm : List Value} {sn : List Str} {sub : List Value} {ab : Bool} {col : Option Bool} {dd : Option Addr} {k0 k1 k2 k3 k5 : Option Value}
    (xL : K.lookup C = some (excClassObj nm q C N bs bm true sn sub ab col dd k0 k1 k2 k3 k5 "ValueError.__new__")) (hbm : PySem.HandSPX.refsVE bm = true) (sa : PySem.W.findIn K (.ref C) "__setattr__" = some (some (.builtin "object.__setattr__")))
    (eC : PySem.W.subIn K (.ref C) (.type "BaseException") = some true) (tC : PySem.W.typeIn K (.ref C) = some (.type "type")) (kC : PySem.W.keepIn K (.ref C) = true) : OexC K C :=
  ⟨⟨nm, q, N, bs, bm, sn, sub, ab, col, dd, k0, k1, k2, k3, k5, xL, hbm⟩, sa, eC, tC, kC⟩
theorem sup_mk {ccl : Value} {cdd : Option Addr} {vs : Array Value} {ccs : Array (Option Value)} {file : Str} {tf : Addr} {cl : Value} {cld : Option Addr} {csl : Array (Option Value)} {cdD : ClassData} (X : K.In h) (G : h.Ns mainGlobals mg)
    (lc : K.lookup cda = some ⟨ccl, cdd, .fields vs, ccs⟩) (hv : vs[2]? = some (.str file tf)) (hf : ((P.main.file : Str) == file) = true) (le : K.lookup cc = some ⟨cl, cld, .cell (some (.ref C)), csl⟩) (hD : PySem.W.clsIn K C = some cdD) (sub : PySem.W.mroIn K C (.ref C) = some true)
    (sup : PySem.W.nsIn K mainGlobals "super" = some none) (top : (P.main.scope.names.lookup ("super" : Str)).isSome = false) (opq : PySem.W.nsIn K cStatics "thirdparty.any" = some none) : SupOk P K mg C C cc cda :=
  ⟨⟨ccl, cdd, vs, ccs, file, tf, lc, hv, hf⟩, ⟨cl, cld, csl, le⟩, ⟨cdD, hD⟩, sub, PySem.W.mg_none_of X G sup, top, opq⟩
theorem txe_mk (X : K.In h) (G : h.Ns mainGlobals mg) (aC : PySem.W.nsIn K mainGlobals c = some (some (.ref C))) (a : PySem.W.findIn K (.ref C) "__init__" = some (some (.ref f))) (tI : PySem.W.typeIn K (.ref f) = some (.type "function"))
    (l : K.lookup f = some ⟨oc, od, .func (PySem.W.ksFn "__init__" qual (defArgs st) (defBody st) (defScope st) .none kV dc pm an (.ref cda) ct cc), sl⟩) (ccc : PySem.W.codeIn K (.ref cda) qual = true) (S : SupOk P K mg C C cc cda) (tg : PySem.W.ks_superIn K C C "__init__" = some (some (.builtin "ValueError.__init__")))
    (O : OexC K C) (sV : PySem.W.subIn K (.ref C) (.type "ValueError") = some true) (b : BE qual st ps) : TxE P K mg C c qual st ps :=
  ⟨⟨f, oc, od, .none, kV, dc, pm, an, cda, cc, ct, sl, _, rfl, l, ccc, S, tg, .all (b _ _ _ _ _ _ _), a, tI⟩, O, sV, PySem.W.mg_of X G aC⟩
theorem excC_mk (hg : PySem.W.findIn K (.ref C) "__getattribute__" = some (some (.builtin "BaseException.__getattribute__"))) (hk : PySem.W.findIn K (.ref C) "__getattr__" = some none) (hs : PySem.W.subIn K (.ref C) (.type "BaseException") = some true) (hd : PySem.W.hasDictIn K C = true)
    (ha : PySem.W.findIn K (.ref C) "__class__" = some (some (.builtin "object.__class__"))) (hn : PySem.W.specialIn K (.builtin "object.__class__") "__get__" = some (some (.builtin "getset_descriptor.__get__"))) (ht : PySem.W.takesIn K (.builtin "object.__class__") = some true) (hm : PySem.W.mroIn K C (.type "object") = some true) : ExcC K C ∧ XfC K C := ⟨⟨hg, hk, hs, hd, ha, hn, ht, hm⟩, ⟨hg, hk, hs, hd⟩⟩
end
end OC

namespace OC
open PySem PySem.Spec PyProof.Rows L2
local macro_rules | `(tactic| walk_at "sz") => `(tactic| first
  | exact sz100 (by (try simp only [List.length_append, List.length_cons, List.length_nil, List.length_replicate, List.length_set, List.length_map, List.length_singleton]); omega)
  | exact sz100l (by (try simp only [List.length_append, List.length_cons, List.length_nil, List.length_replicate, List.length_set, List.length_map, List.length_singleton]); omega)
  | omega | decide)
local macro_rules | `(tactic| walk_at "side") => `(tactic| first
  | omega | decide | exact div9 (by omega) (by omega) | exact mul8 (by omega) (by omega) | exact mul9 (by omega) (by omega)
  | exact ⟨by omega, by omega, by decide⟩)
local macro_rules | `(tactic| walk_at "oc") => `(tactic| first
  | with_reducible refine go_seq ?_
  | with_reducible refine go_varc ?_
  | with_reducible refine go_c ?_
  | with_reducible refine go_op ?_
  | with_reducible refine go_cons ?_
  | with_reducible refine go_nil ?_
  | with_reducible refine go_asg ?_
  | with_reducible refine go_name ?_
  | with_reducible refine go_cb ?_
  | with_reducible refine go_ret ?_
  | with_reducible refine go_ifs ?_
  | with_reducible refine go_tT ?_
  | with_reducible refine go_tB ?_
  | with_reducible refine go_bl ?_
  | with_reducible refine go_sqLc ?_
  | with_reducible refine go_sqTc ?_
  | with_reducible refine go_fldc ?_
  | with_reducible refine go_sfldc ?_
  | with_reducible refine go_setLc ?_
  | with_reducible refine go_mec ?_
  | with_reducible refine go_addI ?_
  | with_reducible refine go_I0 ?_
  | with_reducible refine go_eq2I ?_
  | with_reducible refine go_ne2I ?_
  | with_reducible refine go_len2L ?_
  | with_reducible refine go_len2U ?_
  | with_reducible refine go_int ?_
  | with_reducible refine go_fld0 ?_
  | with_reducible refine go_sfld0 ?_
  | with_reducible refine go_not ?_
  | with_reducible refine go_and ?_
  | with_reducible refine go_or ?_
  | with_reducible refine go_andV ?_
  | with_reducible refine go_orV ?_
  | with_reducible refine go_notV ?_
  | with_reducible refine go_ife ?_
  | with_reducible refine go_drop ?_
  | with_reducible refine go_next ?_
  | with_reducible refine go_gsub ?_
  | with_reducible refine go_bm ?_
  | with_reducible refine go_bm0 ?_
  | with_reducible refine go_tyL ?_
  | with_reducible refine go_call ?_
  | with_reducible refine go_me0 ?_
  | with_reducible refine go_tup ?_
  | with_reducible refine go_lst ?_
  | with_reducible refine go_isN2 ?_
  | with_reducible refine go_notN2 ?_
  | with_reducible refine go_intB ?_
  | with_reducible refine go_retN ?_
  | with_reducible refine go_un ?_
  | with_reducible refine go_U ?_
  | with_reducible refine go_raise ?_
  | with_reducible refine go_isi ?_
  | with_reducible refine go_m1 ?_
  | with_reducible refine go_strS ?_
  | with_reducible refine go_sl0 ?_
  | with_reducible refine go_nopart ?_
  | (with_reducible refine go_slL ?_; intro p)
  | with_reducible refine go_part ?_
  | with_reducible refine go_sli ?_
  | with_reducible refine go_mk ?_
  | (with_reducible refine go_mkE ?_; intro x dx)
  | with_reducible refine go_mkR ?_
  | with_reducible refine go_par ?_
  | with_reducible refine go_parE ?_
  | with_reducible refine go_brk ?_
  | with_reducible refine go_ct ?_
  | ((with_reducible refine go_dT ?e ?_); (case e => omega))
  | ((with_reducible refine go_dF ?e ?_); (case e => omega))
  | ((with_reducible refine go_nT ?e ?_); (case e => omega))
  | ((with_reducible refine go_nF ?e ?_); (case e => omega))
  | ((with_reducible refine go_ifT ?e ?_); (case e => rfl))
  | ((with_reducible refine go_ifF ?e ?_); (case e => rfl))
  | ((with_reducible refine go_I ?e ?_); (case e => walk_at "side"))
  | ((with_reducible refine go_mulI ?e ?_); (case e => walk_at "side"))
  | ((with_reducible refine go_eq2S ?e ?_); (case e => rfl))
  | ((with_reducible refine go_ne2S ?e ?_); (case e => rfl))
  | with_reducible refine go_tmkO ?_
  | ((with_reducible refine go_mkO ?e1 ?e2 ?_); (case e1 => rfl); (case e2 => exact Nat.le_of_ble_eq_true rfl))
  | ((with_reducible refine go_newL ?e ?_); (case e => walk_at "sz"); intro p)
  | ((with_reducible refine go_newU ?e ?_); (case e => walk_at "sz"); intro p)
  | ((with_reducible refine go_ext ?e ?_); (case e => walk_at "sz"))
  | ((with_reducible refine go_app ?e ?_); (case e => walk_at "sz"))
  | ((with_reducible refine go_addL ?e ?_); (case e => walk_at "sz"); intro p)
  | ((with_reducible refine go_mul1 ?e1 ?e2 ?e3 ?_); (case e1 => omega); (case e2 => omega); (case e3 => walk_at "sz"); intro p)
  | ((with_reducible refine go_mulL ?e1 ?e2 ?e3 rfl ?_); (case e1 => omega); (case e2 => omega); (case e3 => walk_at "sz"); intro p)
  | (with_reducible refine go_list ?_; intro p)
  | (with_reducible refine go_listU ?_; intro p)
  | (with_reducible refine go_tupl ?_; intro p)
  | with_reducible refine go_min2 ?_
  | with_reducible refine go_max2 ?_
  | with_reducible refine go_abs ?_
  | with_reducible refine go_for1 ?_
  | with_reducible refine go_for2 ?_
  | with_reducible refine go_forL ?_
  | with_reducible refine go_forU ?_
  | ((with_reducible refine go_rg1 ?e1 ?e2 ?_); (case e1 => omega); (case e2 => omega))
  | ((with_reducible refine go_rg2 ?e ?_); (case e => omega))
  | with_reducible refine go_ovL ?_
  | with_reducible refine go_ovU ?_
  | with_reducible refine go_lc1 ?_
  | with_reducible refine go_lc2 ?_
  | with_reducible refine go_lcL ?_
  | ((with_reducible refine go_rc1 ?e1 ?e2 ?_); (case e1 => omega); (case e2 => omega))
  | ((with_reducible refine go_rc2 ?e ?_); (case e => omega))
  | with_reducible refine go_ocL ?_
  | ((with_reducible refine go_wipe ?e ?_); (case e => rfl))
  | with_reducible refine go_yes ?_)


def top (i : Nat) : Stmt := PySem.Challenge.pw_onecopy_k19_cells.main.body.getD i (.Pass ⟨0, 0, 0, 0⟩)
abbrev s_StoppedU_initU : Stmt := inClass (top 2) 0
abbrev s_InvalidAllowanceU_initU : Stmt := inClass (top 3) 0
abbrev s_DiskU_initU : Stmt := inClass (top 5) 0
abbrev s_DiskU_lenU : Stmt := inClass (top 5) 1
abbrev s_Disk_cells : Stmt := inClass (top 5) 2
abbrev s_Disk_read_cell : Stmt := inClass (top 5) 3
abbrev s_Disk_write_cell : Stmt := inClass (top 5) 4
abbrev s_Disk_allowance : Stmt := inClass (top 5) 5
abbrev s_Disk_allowance_set : Stmt := inClass (top 5) 6
abbrev s_Disk_allow : Stmt := inClass (top 5) 7
abbrev s_law_pool : Stmt := top 7
abbrev s_law_draw : Stmt := top 8
abbrev s_law_same : Stmt := top 9
abbrev s_law_text : Stmt := top 10
abbrev s_law_plain : Stmt := top 11
abbrev s_law_content : Stmt := top 12
abbrev s_law_refusal : Stmt := top 13
abbrev s_law_written : Stmt := top 14
abbrev s_law_allowed : Stmt := top 15
abbrev s_law_world : Stmt := top 16
abbrev s_law_stands : Stmt := top 17
abbrev s_law_stopped : Stmt := top 18
abbrev s_law_write_step : Stmt := top 19
abbrev s_law_allow_step : Stmt := top 20
abbrev s_law_whole : Stmt := top 21
abbrev s_law_copied : Stmt := top 22
abbrev s_law : Stmt := top 23

/-- what the top has written -/
class Txt (K : PySem.W.Frag) (mg : outParam (Str → Option Value)) (CD CO CS CI : outParam Addr) : Prop where
  cDisk : Cls K CD
  nW : NoAttr K CD "writes"
  nC : NoAttr K CD "_cells"
  nL : NoAttr K CD "_left"
  gDisk : mg "Disk" = some (.ref CD)
  gOnecopyError : mg "OnecopyError" = some (.ref CO)
  gStopped : mg "Stopped" = some (.ref CS)
  gInvalidAllowance : mg "InvalidAllowance" = some (.ref CI)
  n_len : mg "len" = none
  n_list : mg "list" = none
  n_int : mg "int" = none
  n_bool : mg "bool" = none
  n_str : mg "str" = none
  n_tuple : mg "tuple" = none
  n_range : mg "range" = none
  n_isinstance : mg "isinstance" = none
  n_ValueError : mg "ValueError" = none
/-! ### a disk -/
def optV : Option Int → V
  | none => .non
  | some i => .int i
def dfs (w : Int) (c : Addr) (l : V) : List (Str × V) := [(("writes" : Str), V.int w), (("_cells" : Str), V.ref c), (("_left" : Str), l)]
theorem dfs_w (w : Int) (c : Addr) (l : V) : (dfs w c l).lookup ("writes" : Str) = some (V.int w) := rfl
theorem dfs_c (w : Int) (c : Addr) (l : V) : (dfs w c l).lookup ("_cells" : Str) = some (V.ref c) := rfl
theorem dfs_l (w : Int) (c : Addr) (l : V) : (dfs w c l).lookup ("_left" : Str) = some l := rfl
theorem dfs_pw (w w' : Int) (c : Addr) (l : V) : putF "writes" (.int w') (dfs w c l) = dfs w' c l := rfl
theorem dfs_pl (w : Int) (c : Addr) (l l' : V) : putF "_left" l' (dfs w c l) = dfs w c l' := rfl
theorem dfs_n (w : Int) (c : Addr) (l : V) {m : Str} (h1 : ¬ m = "writes" := by decide +kernel) (h2 : ¬ m = "_cells" := by decide +kernel) (h3 : ¬ m = "_left" := by decide +kernel) : (dfs w c l).lookup m = none := by
  have a1 : (m == ("writes" : Str)) = false := by simpa using h1
  have a2 : (m == ("_cells" : Str)) = false := by simpa using h2
  have a3 : (m == ("_left" : Str)) = false := by simpa using h3
  simp [dfs, List.lookup, a1, a2, a3]
instance {K : PySem.W.Frag} {mg : Str → Option Value} {CD CO CS CI : Addr} [T : Txt K mg CD CO CS CI] : Att K CD "writes" := ⟨T.cDisk, T.nW⟩
instance {K : PySem.W.Frag} {mg : Str → Option Value} {CD CO CS CI : Addr} [T : Txt K mg CD CO CS CI] : Att K CD "_cells" := ⟨T.cDisk, T.nC⟩
instance {K : PySem.W.Frag} {mg : Str → Option Value} {CD CO CS CI : Addr} [T : Txt K mg CD CO CS CI] : Att K CD "_left" := ⟨T.cDisk, T.nL⟩
instance {w : Int} {c : Addr} {l : V} : FldAt (dfs w c l) "writes" (.int w) := ⟨rfl⟩
instance {w : Int} {c : Addr} {l : V} : FldAt (dfs w c l) "_cells" (.ref c) := ⟨rfl⟩
instance {w : Int} {c : Addr} {l : V} : FldAt (dfs w c l) "_left" l := ⟨rfl⟩
instance {w w' : Int} {c : Addr} {l : V} : PutAt (dfs w c l) "writes" (.int w') (dfs w' c l) := ⟨rfl, by show 3 < 1000; decide⟩
instance {w : Int} {c : Addr} {l l' : V} : PutAt (dfs w c l) "_left" l' (dfs w c l') := ⟨rfl, by show 3 < 1000; decide⟩


def wr (cells : List V) (i : Nat) (v : V) : List V := (cells ++ List.replicate (i + 1 - cells.length) V.non).set i v
theorem wr_ext {cells : List V} {i : Nat} {v : V} (h : (0 : Int) < (i : Int) + 1 - cells.length) : (cells ++ List.replicate ((i : Int) + 1 - cells.length).toNat V.non).set i v = wr cells i v := by
  unfold wr
  rw [show ((i : Int) + 1 - cells.length).toNat = i + 1 - cells.length by omega]
theorem wr_in {cells : List V} {i : Nat} {v : V} (h : ¬ (0 : Int) < (i : Int) + 1 - cells.length) : cells.set i v = wr cells i v := by
  unfold wr
  have e : i + 1 - cells.length = 0 := by omega
  rw [e, List.replicate_zero, List.append_nil]
abbrev diskL (p dx c CD : Addr) (w : Int) (l : V) (cells : List V) (R : List Chunk) : List Chunk := pt p (.ins CD dx (dfs w c l)) :: pt c (.lst cells) :: R
/-- Disk.write_cell -/
def spWrite (CD CS : Addr) : Sp := fun vs H Q E => ∃ (p dx c : Addr) (w : Int) (l : V) (cells : List V) (i : Nat) (v : V) (T : Tups) (R : List Chunk),
  vs = [.ref p, .int i, v] ∧ (l = .non ∨ ∃ z, l = .int z) ∧ i < 100000 ∧ cells.length < 100000 ∧ Has H (diskL p dx c CD w l cells R) ∧ HasT H T ∧
  (l = .int 0 → Rs T (diskL p dx c CD w l cells R) E CS [(("writes" : Str), V.int w)]) ∧
  (l = .non → Go T (diskL p dx c CD (w + 1) .non (wr cells i v) R) (Q .non)) ∧
  (∀ z, l = .int z → z ≠ 0 → Go T (diskL p dx c CD (w + 1) (.int (z - 1)) (wr cells i v) R) (Q .non))
section
variable {P : Program} {w : World} {K : PySem.W.Frag} {mg : Str → Option Value} {base : Heap} {CD CO CS CI : Addr}
def gWr : List V → List (Str × V) := fun ws => match ws with | [y] => [(("writes" : Str), y)] | _ => []
theorem sc_Disk_write_cell : FnScope ["self", "index", "content", "missing"] ["self", "index", "content"] (defScope s_Disk_write_cell) := ⟨rfl, rfl, rfl, by decide +kernel, rfl, by decide +kernel, by decide +kernel⟩
theorem m_write (tx : TxM K CD "write_cell" "Disk.write_cell" s_Disk_write_cell ["self", "index", "content"] []) [T : Txt K mg CD CO CS CI]
    (R_Stopped : RsD P w K mg base CS "Stopped" 1 ["self", "writes"] [] (spErr CS 1 gWr)) : MeD P w K mg base CD "write_cell" 3 ["self", "index", "content"] [] (spWrite CD CS) := by
  obtain ⟨f, fd, ds, F, M, hb, hd⟩ := tx.ex
  refine ⟨f, fd, ds, okN F sc_Disk_write_cell (fun vs H Q E h => ?_) (fun cdv A outer s H vs Q E hr tk hp h => ?_), M, hb, hd⟩
  · obtain ⟨p, dx, c, w, l, cells, i, v, T, R, rfl, _⟩ := h
    rfl
  · obtain ⟨p, dx, c, w', l, cells, i, v, T', R, rfl, hl, hi, hc, hs, ht, k0, k1, k2⟩ := h
    have nd := sc_Disk_write_cell.nd
    refine ⟨_, (pss_cons (ps_if (pt_cmpR (opEqK (K := K) hr.units) (pe_fldK (K := K) (pv 0)) pe_int (nomark _)) (pss_one (L2N.ps_raise rfl tk (pmk_D R_Stopped (hr.mono (by decide)) rfl (pa_cons (pe_fldK (K := K) (pv 0)) pa_nil)))) pss_nil)
  (pss_cons (ps_set (i := 3) nd rfl (Or.inl rfl) (pe_op op_sub (pe_op opAdd (pv 1) pe_int) (pe_callB (callLenK (K := K)) (by rfl) T.n_len (by decide +kernel) (pa_cons (pe_fldK (K := K) (pv 0)) pa_nil))))
  (pss_cons (ps_if (pt_cmpR op_gt (pv 3) pe_int (nomark _)) (pss_one (ps_expr (pe_bm PySem.F.plainAttrs_list PySem.F.slot_list_extend PySem.F.type_list_extend mt_extend (pe_fldK (K := K) (pv 0)) (pa_cons (pe_op opMul (pe_lst (pa_cons pe_non pa_nil)) (pv 3)) pa_nil)))) pss_nil)
  (pss_cons (ps_asg (pv 2) (pg_sub (pe_fldK (K := K) (pv 0)) (pv 1) set_list))
  (pss_cons (ps_fld (pv 0) (pe_op opAdd (pe_fldK (K := K) (pv 0)) pe_int) rfl)
  (pss_one (ps_if (pt_cmpR opNotN (pe_fldK (K := K) (pv 0)) pe_non (nomark _)) (pss_one (ps_fld (pv 0) (pe_op op_sub (pe_fldK (K := K) (pv 0)) pe_int) rfl)) pss_nil))))))), ?_⟩
    refine go_start hs ht ?_
    unfold diskL at *
    dsimp only [cxOf, WOf]
    rw [show L2.start _ _ = [some (.ref p), some (.int i), some v, none] from rfl]
    rcases hl with rfl | ⟨z, rfl⟩
    · repeat walk_at "oc"
      refine go_d (fun h => ?_) (fun h => ?_)
      · repeat walk_at "oc"
        refine' go_setL (k := i) (by exact ixN_nat (by rw [List.length_append, List.length_replicate]; omega)) (by exact wr_ext h) ?_
        repeat walk_at "oc"
        exact Go.ent (k1 rfl)
      · repeat walk_at "oc"
        refine' go_setL (k := i) (by exact ixN_nat (by omega)) (by exact wr_in h) ?_
        repeat walk_at "oc"
        exact Go.ent (k1 rfl)
    · repeat walk_at "oc"
      refine go_d (fun h0 => ?_) (fun h0 => ?_)
      · subst h0
        repeat walk_at "oc"
        exact k0 rfl
      · repeat walk_at "oc"
        refine go_d (fun h => ?_) (fun h => ?_)
        · repeat walk_at "oc"
          refine' go_setL (k := i) (by exact ixN_nat (by rw [List.length_append, List.length_replicate]; omega)) (by exact wr_ext h) ?_
          repeat walk_at "oc"
          exact Go.ent (k2 z rfl h0)
        · repeat walk_at "oc"
          refine' go_setL (k := i) (by exact ixN_nat (by omega)) (by exact wr_in h) ?_
          repeat walk_at "oc"
          exact Go.ent (k2 z rfl h0)
end


section
variable {P : Program} {w : World} {K : PySem.W.Frag} {mg : Str → Option Value} {base : Heap} {CD CO CS CI : Addr}
/-! ### the errors -/
def gAl : List V → List (Str × V) := fun ws => match ws with | [y] => [(("allowed" : Str), y)] | _ => []
theorem supS : SupScope ["self", "writes"] ["self", "writes"] (defScope s_StoppedU_initU) := ⟨rfl, rfl, rfl, by decide +kernel, rfl, by decide +kernel, by decide +kernel, by decide +kernel, by decide +kernel, rfl, rfl⟩
theorem r_Stopped (tx : TxE P K mg CS "Stopped" "Stopped.__init__" s_StoppedU_initU ["self", "writes"]) (no : PySem.W.findIn K (.ref CS) "writes" = some none) : RsD P w K mg base CS "Stopped" 1 ["self", "writes"] [] (spErr CS 1 gWr) := by
  obtain ⟨f, oc, od, dV, kV, doc, pm, an, cda, cc, ct, osl, fd, rfl, lk, hcd, S, tg, hb, hi, ht⟩ := tx.ex
  refine ⟨f, _, [], fn_supV lk hcd supS S rfl rfl tx.oex tg tx.subV (fun vs H Q E h => ?_) (fun A outer s H vs Q E hr h => ?_), tx.oex, hi, ht, tx.g, hb, .nil⟩
  · obtain ⟨a, ws, rfl, hl, _⟩ := h
    show ws.length + 1 = 2
    omega
  · obtain ⟨a, ws, rfl, hl, he, k⟩ := h
    obtain ⟨y, rfl⟩ : ∃ y, ws = [y] := by
      cases ws with
      | nil => cases hl
      | cons y r => cases r with
        | nil => exact ⟨y, rfl⟩
        | cons _ _ => cases hl
    exact ⟨a, _, _, rfl, he, pa_cons pe_str pa_nil, pss_one (ps_ost (pv 0) (pv 1)), Nat.le_of_ble_eq_true rfl, he, y, rfl, .ref a, rfl, a, CS, rfl, tx.oex, no, .inl ⟨he, fun dx nd ne => k dx nd ne⟩⟩
theorem supI : SupScope ["self", "allowed"] ["self", "allowed"] (defScope s_InvalidAllowanceU_initU) := ⟨rfl, rfl, rfl, by decide +kernel, rfl, by decide +kernel, by decide +kernel, by decide +kernel, by decide +kernel, rfl, rfl⟩
theorem r_InvalidAllowance (tx : TxE P K mg CI "InvalidAllowance" "InvalidAllowance.__init__" s_InvalidAllowanceU_initU ["self", "allowed"]) (no : PySem.W.findIn K (.ref CI) "allowed" = some none) : RsD P w K mg base CI "InvalidAllowance" 1 ["self", "allowed"] [] (spErr CI 1 gAl) := by
  obtain ⟨f, oc, od, dV, kV, doc, pm, an, cda, cc, ct, osl, fd, rfl, lk, hcd, S, tg, hb, hi, ht⟩ := tx.ex
  refine ⟨f, _, [], fn_supV lk hcd supI S rfl rfl tx.oex tg tx.subV (fun vs H Q E h => ?_) (fun A outer s H vs Q E hr h => ?_), tx.oex, hi, ht, tx.g, hb, .nil⟩
  · obtain ⟨a, ws, rfl, hl, _⟩ := h
    show ws.length + 1 = 2
    omega
  · obtain ⟨a, ws, rfl, hl, he, k⟩ := h
    obtain ⟨y, rfl⟩ : ∃ y, ws = [y] := by
      cases ws with
      | nil => cases hl
      | cons y r => cases r with
        | nil => exact ⟨y, rfl⟩
        | cons _ _ => cases hl
    exact ⟨a, _, _, rfl, he, pa_cons pe_str pa_nil, pss_one (ps_ost (pv 0) (pv 1)), Nat.le_of_ble_eq_true rfl, he, y, rfl, .ref a, rfl, a, CI, rfl, tx.oex, no, .inl ⟨he, fun dx nd ne => k dx nd ne⟩⟩
end


/-! ### the methods of a disk -/
def spInit (CD : Addr) : Sp := fun vs H Q E => ∃ (x dx : Addr) (y : V) (cells : List V) (T : Tups) (R : List Chunk), vs = [.ref x, y] ∧ Has H (pt x (.ins CD dx []) :: R) ∧ HasT H T ∧
  ((y = .non ∧ cells = []) ∨ ∃ a, y = .ref a ∧ RdL R a cells) ∧ ∀ c, Go T (diskL x dx c CD 0 .non cells R) (Q .non)
def spLen (CD : Addr) : Sp := fun vs H Q E => ∃ (p dx c : Addr) (w : Int) (l : V) (cells : List V) (T : Tups) (R : List Chunk), vs = [.ref p] ∧ Has H (diskL p dx c CD w l cells R) ∧ HasT H T ∧ Go T (diskL p dx c CD w l cells R) (Q (.int cells.length))
def spCells (CD : Addr) : Sp := fun vs H Q E => ∃ (p dx c : Addr) (w : Int) (l : V) (cells : List V) (T : Tups) (R : List Chunk), vs = [.ref p] ∧ Has H (diskL p dx c CD w l cells R) ∧ HasT H T ∧ ∀ q, Go T (pt q (.lst cells) :: diskL p dx c CD w l cells R) (Q (.ref q))
def spRead (CD : Addr) : Sp := fun vs H Q E => ∃ (p dx c : Addr) (w : Int) (l : V) (cells : List V) (i : Nat) (T : Tups) (R : List Chunk), vs = [.ref p, .int i] ∧ Has H (diskL p dx c CD w l cells R) ∧ HasT H T ∧ Go T (diskL p dx c CD w l cells R) (Q (cells[i]?.getD .non))
def spAll (CD : Addr) : Sp := fun vs H Q E => ∃ (p dx c : Addr) (w : Int) (l : V) (T : Tups) (R : List Chunk), vs = [.ref p] ∧ Has H (pt p (.ins CD dx (dfs w c l)) :: R) ∧ HasT H T ∧ Go T (pt p (.ins CD dx (dfs w c l)) :: R) (Q l)
def spSet (CD CI : Addr) : Sp := fun vs H Q E => ∃ (p dx c : Addr) (w : Int) (l y : V) (T : Tups) (R : List Chunk), vs = [.ref p, y] ∧ (y = .non ∨ ∃ z, y = .int z) ∧ Has H (pt p (.ins CD dx (dfs w c l)) :: R) ∧ HasT H T ∧
  (∀ z, y = .int z → z < 0 → Rs T (pt p (.ins CD dx (dfs w c l)) :: R) E CI [(("allowed" : Str), .int z)]) ∧ ((∀ z, y = .int z → ¬ z < 0) → Go T (pt p (.ins CD dx (dfs w c y)) :: R) (Q .non))
instance {w : Int} : PutAt [] "writes" (.int w) [(("writes" : Str), V.int w)] := ⟨rfl, by show 0 < 1000; decide⟩
instance {w : Int} {c : Addr} : PutAt [(("writes" : Str), V.int w)] "_cells" (.ref c) [(("writes" : Str), V.int w), (("_cells" : Str), V.ref c)] := ⟨rfl, by show 1 < 1000; decide⟩
instance {w : Int} {c : Addr} {l : V} : PutAt [(("writes" : Str), V.int w), (("_cells" : Str), V.ref c)] "_left" l (dfs w c l) := ⟨rfl, by show 2 < 1000; decide⟩
section
variable {P : Program} {w : World} {K : PySem.W.Frag} {mg : Str → Option Value} {base : Heap} {CD CO CS CI : Addr}
theorem sc_DiskU_initU : FnScope ["self", "cells"] ["self", "cells"] (defScope s_DiskU_initU) := ⟨rfl, rfl, rfl, by decide +kernel, rfl, by decide +kernel, by decide +kernel⟩
theorem m_init {dvs : List V} (tx : TxI K mg CD "Disk" "Disk.__init__" s_DiskU_initU ["self", "cells"] dvs) [T : Txt K mg CD CO CS CI]  : MkD P w K mg base CD "Disk" 1 ["self", "cells"] dvs (spInit CD) := by
  obtain ⟨f, fd, ds, F, M, hm, hb, hd⟩ := tx.ex
  refine ⟨f, fd, ds, okN F sc_DiskU_initU (fun vs H Q E h => ?_) (fun cdv A outer s H vs Q E hr tk hp h => ?_), M, hm, hb, hd⟩
  · obtain ⟨x, dx, y, cells, T', R, rfl, hs, ht, hy, k⟩ := h
    rfl
  · obtain ⟨x, dx, y, cells, T', R, rfl, hs, ht, hy, k⟩ := h
    have nd := sc_DiskU_initU.nd
    refine ⟨_, (pss_cons (ps_fld (pv 0) pe_int rfl)
  (pss_cons (ps_fld (pv 0) (pe_ifExp (pt_cmpR opIsN (pv 1) pe_non (nomark _)) (pe_lst pa_nil) (pe_callTy (callListK (K := K)) (by rfl) T.n_list (by decide +kernel) (pa_cons (pv 1) pa_nil))) rfl)
  (pss_one (ps_fld (pv 0) pe_non rfl)))), ?_⟩
    refine go_start hs ht ?_
    try dsimp only [cxOf, WOf]
    rw [show L2.start _ _ = [some (.ref x), some y] from rfl]
    rcases hy with ⟨rfl, rfl⟩ | ⟨a, rfl, ra⟩
    · repeat walk_at "oc"
      exact k _
    · repeat walk_at "oc"
      exact k _

theorem sc_DiskU_lenU : FnScope ["self"] ["self"] (defScope s_DiskU_lenU) := ⟨rfl, rfl, rfl, by decide +kernel, rfl, by decide +kernel, by decide +kernel⟩
theorem m_len {dvs : List V} (tx : TxM K CD "__len__" "Disk.__len__" s_DiskU_lenU ["self"] dvs) [T : Txt K mg CD CO CS CI]  : MeD P w K mg base CD "__len__" 1 ["self"] dvs (spLen CD) := by
  obtain ⟨f, fd, ds, F, M, hb, hd⟩ := tx.ex
  refine ⟨f, fd, ds, okN F sc_DiskU_lenU (fun vs H Q E h => ?_) (fun cdv A outer s H vs Q E hr tk hp h => ?_), M, hb, hd⟩
  · obtain ⟨p, dx, c, w', l, cells, T', R, rfl, hs, ht, k⟩ := h
    rfl
  · obtain ⟨p, dx, c, w', l, cells, T', R, rfl, hs, ht, k⟩ := h
    have nd := sc_DiskU_lenU.nd
    refine ⟨_, (pss_one (ps_ret (pe_callB (callLenK (K := K)) (by rfl) T.n_len (by decide +kernel) (pa_cons (pe_fldK (K := K) (pv 0)) pa_nil)))), ?_⟩
    refine go_start hs ht ?_
    try dsimp only [cxOf, WOf]
    rw [show L2.start _ _ = [some (.ref p)] from rfl]
    repeat walk_at "oc"
    exact k

theorem sc_Disk_cells : FnScope ["self"] ["self"] (defScope s_Disk_cells) := ⟨rfl, rfl, rfl, by decide +kernel, rfl, by decide +kernel, by decide +kernel⟩
theorem m_cells {dvs : List V} (tx : TxM K CD "cells" "Disk.cells" s_Disk_cells ["self"] dvs) [T : Txt K mg CD CO CS CI]  : MeD P w K mg base CD "cells" 1 ["self"] dvs (spCells CD) := by
  obtain ⟨f, fd, ds, F, M, hb, hd⟩ := tx.ex
  refine ⟨f, fd, ds, okN F sc_Disk_cells (fun vs H Q E h => ?_) (fun cdv A outer s H vs Q E hr tk hp h => ?_), M, hb, hd⟩
  · obtain ⟨p, dx, c, w', l, cells, T', R, rfl, hs, ht, k⟩ := h
    rfl
  · obtain ⟨p, dx, c, w', l, cells, T', R, rfl, hs, ht, k⟩ := h
    have nd := sc_Disk_cells.nd
    refine ⟨_, (pss_one (ps_ret (pe_callTy (callListK (K := K)) (by rfl) T.n_list (by decide +kernel) (pa_cons (pe_fldK (K := K) (pv 0)) pa_nil)))), ?_⟩
    refine go_start hs ht ?_
    try dsimp only [cxOf, WOf]
    rw [show L2.start _ _ = [some (.ref p)] from rfl]
    repeat walk_at "oc"
    exact k _

theorem sc_Disk_read_cell : FnScope ["self", "index"] ["self", "index"] (defScope s_Disk_read_cell) := ⟨rfl, rfl, rfl, by decide +kernel, rfl, by decide +kernel, by decide +kernel⟩
theorem m_read {dvs : List V} (tx : TxM K CD "read_cell" "Disk.read_cell" s_Disk_read_cell ["self", "index"] dvs) [T : Txt K mg CD CO CS CI]  : MeD P w K mg base CD "read_cell" 1 ["self", "index"] dvs (spRead CD) := by
  obtain ⟨f, fd, ds, F, M, hb, hd⟩ := tx.ex
  refine ⟨f, fd, ds, okN F sc_Disk_read_cell (fun vs H Q E h => ?_) (fun cdv A outer s H vs Q E hr tk hp h => ?_), M, hb, hd⟩
  · obtain ⟨p, dx, c, w', l, cells, i, T', R, rfl, hs, ht, k⟩ := h
    rfl
  · obtain ⟨p, dx, c, w', l, cells, i, T', R, rfl, hs, ht, k⟩ := h
    have nd := sc_Disk_read_cell.nd
    refine ⟨_, (pss_cons (ps_if (pt_cmpR op_lt (pv 1) (pe_callB (callLenK (K := K)) (by rfl) T.n_len (by decide +kernel) (pa_cons (pe_fldK (K := K) (pv 0)) pa_nil)) (nomark _)) (pss_one (ps_ret (pe_ix (ixSeqK (K := K)) (pe_fldK (K := K) (pv 0)) (pv 1) (fun _ _ => rfl)))) pss_nil)
  (pss_one (ps_ret pe_non))), ?_⟩
    refine go_start hs ht ?_
    try dsimp only [cxOf, WOf]
    rw [show L2.start _ _ = [some (.ref p), some (.int i)] from rfl]
    repeat walk_at "oc"
    refine go_d (fun h => ?_) (fun h => ?_)
    · have hi : i < cells.length := by omega
      have e : cells[i]? = some cells[i] := List.getElem?_eq_getElem hi
      rw [e] at k
      repeat walk_at "oc"
      refine go_sqL (atI_of e) ?_
      exact k
    · have e : cells[i]? = none := List.getElem?_eq_none (by omega)
      rw [e] at k
      repeat walk_at "oc"
      exact k

theorem sc_Disk_allowance : FnScope ["self"] ["self"] (defScope s_Disk_allowance) := ⟨rfl, rfl, rfl, by decide +kernel, rfl, by decide +kernel, by decide +kernel⟩
theorem p_all (tx : TxP K CD "allowance" "Disk.allowance" s_Disk_allowance) [T : Txt K mg CD CO CS CI]  : PrD P w K mg base CD "allowance" 1 (spAll CD) := by
  obtain ⟨p0, f, fd, hp0, F, hb⟩ := tx.ex
  refine ⟨p0, f, fd, hp0, okN F sc_Disk_allowance (fun vs H Q E h => ?_) (fun cdv A outer s H vs Q E hr tk hp h => ?_), hb⟩
  · obtain ⟨p, dx, c, w', l, T', R, rfl, hs, ht, k⟩ := h
    rfl
  · obtain ⟨p, dx, c, w', l, T', R, rfl, hs, ht, k⟩ := h
    have nd := sc_Disk_allowance.nd
    refine ⟨_, (pss_one (ps_ret (pe_fldK (K := K) (pv 0)))), ?_⟩
    refine go_start hs ht ?_
    try dsimp only [cxOf, WOf]
    rw [show L2.start _ _ = [some (.ref p)] from rfl]
    repeat walk_at "oc"
    exact k

theorem sc_Disk_allowance_set : FnScope ["self", "allowed"] ["self", "allowed"] (defScope s_Disk_allowance_set) := ⟨rfl, rfl, rfl, by decide +kernel, rfl, by decide +kernel, by decide +kernel⟩
theorem s_all (tx : TxS K CD "allowance" "Disk.allowance" s_Disk_allowance_set ["self", "allowed"]) [T : Txt K mg CD CO CS CI] (R_InvalidAllowance : RsD P w K mg base CI "InvalidAllowance" 1 ["self", "allowed"] [] (spErr CI 1 gAl)) : StD P w K mg base CD "allowance" 3 ["self", "allowed"] (spSet CD CI) := by
  obtain ⟨p0, f, fd, hp0, F, hb⟩ := tx.ex
  refine ⟨p0, f, fd, hp0, okN F sc_Disk_allowance_set (fun vs H Q E h => ?_) (fun cdv A outer s H vs Q E hr tk hp h => ?_), hb⟩
  · obtain ⟨p, dx, c, w', l, y, T', R, rfl, hy, hs, ht, k0, k1⟩ := h
    rfl
  · obtain ⟨p, dx, c, w', l, y, T', R, rfl, hy, hs, ht, k0, k1⟩ := h
    have nd := sc_Disk_allowance_set.nd
    refine ⟨_, (pss_cons (ps_if (PW.pt (pw_and (pt_cmpR opNotN (pv 1) pe_non (nomark _)) (pw_and1 (pt_cmpR op_lt (pv 1) pe_int (nomark _))))) (pss_one (L2N.ps_raise rfl tk (pmk_D R_InvalidAllowance (hr.mono (by decide)) rfl (pa_cons (pv 1) pa_nil)))) pss_nil)
  (pss_one (ps_fld (pv 0) (pv 1) rfl))), ?_⟩
    refine go_start hs ht ?_
    try dsimp only [cxOf, WOf]
    rw [show L2.start _ _ = [some (.ref p), some y] from rfl]
    rcases hy with rfl | ⟨z, rfl⟩
    · repeat walk_at "oc"
      exact k1 fun z e => by cases e
    · repeat walk_at "oc"
      refine go_d (fun h => ?_) (fun h => ?_)
      · repeat walk_at "oc"
        exact k0 z rfl h
      · repeat walk_at "oc"
        exact k1 fun z e => by cases e; exact h

theorem sc_Disk_allow : FnScope ["self", "allowed"] ["self", "allowed"] (defScope s_Disk_allow) := ⟨rfl, rfl, rfl, by decide +kernel, rfl, by decide +kernel, by decide +kernel⟩
theorem m_allow {dvs : List V} (tx : TxM K CD "allow" "Disk.allow" s_Disk_allow ["self", "allowed"] dvs) [T : Txt K mg CD CO CS CI] (S_all : StD P w K mg base CD "allowance" 3 ["self", "allowed"] (spSet CD CI)) : MeD P w K mg base CD "allow" 6 ["self", "allowed"] dvs (spSet CD CI) := by
  obtain ⟨f, fd, ds, F, M, hb, hd⟩ := tx.ex
  refine ⟨f, fd, ds, okN F sc_Disk_allow (fun vs H Q E h => ?_) (fun cdv A outer s H vs Q E hr tk hp h => ?_), M, hb, hd⟩
  · obtain ⟨p, dx, c, w', l, y, T', R, rfl, hy, hs, ht, k0, k1⟩ := h
    rfl
  · obtain ⟨p, dx, c, w', l, y, T', R, rfl, hy, hs, ht, k0, k1⟩ := h
    have nd := sc_Disk_allow.nd
    refine ⟨_, (pss_one (ps_stD (pv 0) (pv 1) T.cDisk S_all (hr.mono (by decide)) (fun σ => L2N.passAt tk σ))), ?_⟩
    refine go_start hs ht ?_
    try dsimp only [cxOf, WOf]
    rw [show L2.start _ _ = [some (.ref p), some y] from rfl]
    refine go_setP0 ?_
    repeat walk_at "oc"
    refine go_setP ?_
    exact fun H x t => ⟨p, dx, c, w', l, y, T', R, rfl, hy, x, t, k0, k1⟩

end


/-! ### the law's draws -/
structure Pl where
  c : Addr
  xs : List Int
  i : Int
  n : Int
  s : Int
  t : Int
  hi : 0 ≤ i
def poolC (p : Addr) (P : Pl) : Chunk := [(p, .lst [.ref P.c, .int P.i, .int P.n, .int P.s, .int P.t]), (P.c, .lst (P.xs.map V.int))]
theorem pool_open {T : Tups} {R : List Chunk} {p : Addr} {P : Pl} {N : Hp → Prop} (h : Go T (pt p (.lst [.ref P.c, .int P.i, .int P.n, .int P.s, .int P.t]) :: pt P.c (.lst (P.xs.map V.int)) :: R) N) : Go T (poolC p P :: R) N := h.perm (.of_eq rfl)
theorem pool_close {T : Tups} {R : List Chunk} {p c : Addr} {xs : List Int} {i n s t : Int} {N : Hp → Prop} (hi : 0 ≤ i) (h : Go T (poolC p ⟨c, xs, i, n, s, t, hi⟩ :: R) N) : Go T (pt p (.lst [.ref c, .int i, .int n, .int s, .int t]) :: pt c (.lst (xs.map V.int)) :: R) N := h.perm (.of_eq rfl)
def spDraw : Sp := fun vs H Q E => ∃ (p : Addr) (P : Pl) (size : Int) (T : Tups) (R : List Chunk), vs = [.ref p, .int size] ∧ Has H (poolC p P :: R) ∧ HasT H T ∧ 0 < size ∧ size < 2 ^ 90 ∧
  ∀ r P', 0 ≤ r → r < size → Go T (poolC p P' :: R) (Q (.int r))
theorem go_draw {T : Tups} {L R : List Chunk} {p : Addr} {P : Pl} {size : Int} {Q : VK} {E : XK} [q : Pull poolC L p P R] (h1 : 0 < size) (h2 : size < 2 ^ 90) (k : ∀ r P', 0 ≤ r → r < size → Go T (poolC p P' :: R) fun H => Q (.int r) H) : Go T L fun H => spDraw [.ref p, .int size] H Q E := fun H x t =>
  ⟨p, P, size, T, R, rfl, x.pull (F := poolC), t, h1, h2, k⟩
theorem atI_map {xs : List Int} {i : Int} (h0 : 0 ≤ i) (h1 : i < xs.length) : ∃ z, atI (xs.map V.int) i = some (.int z) := by
  obtain ⟨n, rfl⟩ : ∃ n : Nat, i = n := ⟨i.toNat, by omega⟩
  have hn : n < xs.length := by omega
  exact ⟨xs[n], atI_of (by rw [List.getElem?_map, List.getElem?_eq_getElem hn]; rfl)⟩
def spPool (K : PySem.W.Frag) : Sp := fun vs H Q E => ∃ (a : Addr) (ns : List Int) (T : Tups) (L : List Chunk), vs = [.ref a] ∧ (∀ H, Has H L → SqL K H a (ns.map V.int)) ∧ ns.length ≤ 100000 ∧ Has H L ∧ HasT H T ∧ ∀ p P, Go T (poolC p P :: L) (Q (.ref p))
section
variable {P : Program} {w : World} {K : PySem.W.Frag} {mg : Str → Option Value} {base : Heap} {CD CO CS CI : Addr}
theorem sc_law_pool : FnScope ["script", "cell"] ["script"] (defScope s_law_pool) := ⟨rfl, rfl, rfl, by decide +kernel, rfl, by decide +kernel, by decide +kernel⟩
theorem d_pool {dvs : List V} (tx : Tx K mg "_law_pool" "_law_pool" s_law_pool ["script"] dvs) [T : Txt K mg CD CO CS CI]  : FnD P w K mg base "_law_pool" 1 ["script"] dvs (spPool K) := by
  obtain ⟨f, fd, ds, F, hm, hb, hd⟩ := tx.ex
  refine ⟨f, fd, ds, okN F sc_law_pool (fun vs H Q E h => ?_) (fun cdv A outer s H vs Q E hr tk hp h => ?_), hm, F.kp, hb, hd⟩
  · obtain ⟨a, ns, T', L, rfl, hr0, hz, hs, ht, k⟩ := h
    rfl
  · obtain ⟨a, ns, T', L, rfl, hr0, hz, hs, ht, k⟩ := h
    have nd := sc_law_pool.nd
    refine ⟨_, (pss_one (ps_ret (pe_lst (pa_cons (pe_lc (own := [("cell", 1)]) (tt := tYes) rfl nd (pi_list (pe_slice (slListK (K := K)) (pv 0) po_none (po_some pe_int))) (blkOk_by (own := [("cell", 1)]) (N := ["script", "cell"]) (sc := defScope s_law_pool) (by decide +kernel)) (fun _ _ _ _ _ => (pg_name (i := 1) nd rfl (Or.inl rfl))) (fun _ _ _ _ _ => pts_nil) (fun _ _ _ _ _ => (pe_callTy callInt (by rfl) T.n_int (by decide +kernel) (pa_cons (pv 1) pa_nil)))) (pa_cons pe_int (pa_cons pe_int (pa_cons pe_int (pa_cons pe_int pa_nil)))))))), ?_⟩
    refine go_start hs ht ?_
    try dsimp only [cxOf, WOf]
    rw [show L2.start _ _ = [some (.ref a), none] from rfl]
    repeat walk_at "oc"
    refine go_slLK hr0 fun q => ?_
    repeat walk_at "oc"
    refine go_lcl (xs := cutV (ns.map V.int) none (some 63)) (σw := [some (.ref a), none]) rfl (fun i T1 L1 acc => T1 = T' ∧ L1 = pt q (.lst (cutV (ns.map V.int) none (some 63))) :: L ∧ ∃ ms : List Int, acc = ms.map V.int ∧ acc.length = i) ⟨rfl, rfl, [], rfl, rfl⟩ ?_ ?_ ?_
    · rintro i T1 L1 acc ⟨rfl, rfl, _⟩
      infer_instance
    · rintro i v T1 L1 acc Dl hv ⟨rfl, rfl, ms, rfl, hl⟩
      have hi := (List.getElem?_eq_some_iff.mp hv).1
      have hc : (cutV (ns.map V.int) none (some 63)).length ≤ 100000 := by
        unfold cutV
        rw [List.length_take, List.length_drop, List.length_map]
        omega
      obtain ⟨z, rfl⟩ : ∃ z, v = V.int z := by
        unfold cutV at hv
        have := List.mem_of_mem_take (List.mem_of_getElem? hv)
        obtain ⟨z, _, e⟩ := List.mem_map.mp (List.mem_of_mem_drop this)
        exact ⟨z, e.symm⟩
      repeat walk_at "oc"
      refine go_item (sz100l (by omega)) ⟨rfl, rfl, ms ++ [z], by rw [List.map_append]; rfl, by rw [List.length_append]; exact congrArg (· + 1) hl⟩
    · rintro T1 L1 acc Dl ⟨rfl, rfl, ms, rfl, hl⟩
      repeat walk_at "oc"
      rename_i p
      have k1 := k p ⟨Dl, ms, 0, 0, 1, 0, by decide⟩
      exact Go.ent (L' := pt p (.lst [.ref Dl, .int 0, .int 0, .int 1, .int 0]) :: pt Dl (.lst (ms.map V.int)) :: L) (pool_close (by decide) k1)

theorem sc_law_draw : FnScope ["pool", "size", "cell", "digit"] ["pool", "size"] (defScope s_law_draw) := ⟨rfl, rfl, rfl, by decide +kernel, rfl, by decide +kernel, by decide +kernel⟩
theorem d_draw {dvs : List V} (tx : Tx K mg "_law_draw" "_law_draw" s_law_draw ["pool", "size"] dvs) [T : Txt K mg CD CO CS CI]  : FnD P w K mg base "_law_draw" 1 ["pool", "size"] dvs (spDraw) := by
  obtain ⟨f, fd, ds, F, hm, hb, hd⟩ := tx.ex
  refine ⟨f, fd, ds, okN F sc_law_draw (fun vs H Q E h => ?_) (fun cdv A outer s H vs Q E hr tk hp h => ?_), hm, F.kp, hb, hd⟩
  · obtain ⟨p, P0, size, T', R, rfl, hs, ht, h1, h2, k⟩ := h
    rfl
  · obtain ⟨p, P0, size, T', R, rfl, hs, ht, h1, h2, k⟩ := h
    have nd := sc_law_draw.nd
    refine ⟨_, (Evl.pss_cut (ps_if (PW.pt (pw_and (pt_cmpR (opEqK (K := K) hr.units) (pe_ix (ixSeqK (K := K)) (pv 0) pe_int (fun _ _ => rfl)) pe_int (nomark _)) (pw_and1 (pt_cmpR op_lt (pe_ix (ixSeqK (K := K)) (pv 0) pe_int (fun _ _ => rfl)) (pe_callB (callLenK (K := K)) (by rfl) T.n_len (by decide +kernel) (pa_cons (pe_ix (ixSeqK (K := K)) (pv 0) pe_int (fun _ _ => rfl)) pa_nil)) (nomark _))))) (pss_cons (ps_set (i := 2) nd rfl (Or.inl rfl) (pe_ix (ixSeqK (K := K)) (pe_ix (ixSeqK (K := K)) (pv 0) pe_int (fun _ _ => rfl)) (pe_ix (ixSeqK (K := K)) (pv 0) pe_int (fun _ _ => rfl)) (fun _ _ => rfl)))
  (pss_cons (ps_asg (pe_op opAdd (pe_ix (ixSeqK (K := K)) (pv 0) pe_int (fun _ _ => rfl)) pe_int) (pg_sub (pv 0) pe_int set_list))
  (pss_one (ps_if (pt_cmpR op_ge (pv 2) (pe_op op_pow pe_int pe_int) (nomark _)) (pss_one (ps_asg (pv 2) (pg_sub (pv 0) pe_int set_list))) (pss_one (ps_asg (pe_op op_mod (pe_callTy callInt (by rfl) T.n_int (by decide +kernel) (pa_cons (pe_op opAdd (pe_op opAdd (pe_op opMul (pe_ix (ixSeqK (K := K)) (pv 0) pe_int (fun _ _ => rfl)) pe_int) (pe_op op_mod (pe_callTy callInt (by rfl) T.n_int (by decide +kernel) (pa_cons (pv 2) pa_nil)) pe_int)) pe_int) pa_nil)) pe_int) (pg_sub (pv 0) pe_int set_list))))))) pss_nil)
  (pss_cons (ps_if (pt_cmpR op_gt (pe_ix (ixSeqK (K := K)) (pv 0) pe_int (fun _ _ => rfl)) pe_int (nomark _)) (pss_cons (ps_set (i := 3) nd rfl (Or.inl rfl) (pe_op op_mod (pe_callTy callInt (by rfl) T.n_int (by decide +kernel) (pa_cons (pe_ix (ixSeqK (K := K)) (pv 0) pe_int (fun _ _ => rfl)) pa_nil)) (pv 1)))
  (pss_cons (ps_asg (pe_op op_fdivW (pe_ix (ixSeqK (K := K)) (pv 0) pe_int (fun _ _ => rfl)) (pv 1)) (pg_sub (pv 0) pe_int set_list))
  (pss_one (ps_ret (pv 3))))) pss_nil)
  (pss_cons (ps_asg (pe_op opAdd (pe_ix (ixSeqK (K := K)) (pv 0) pe_int (fun _ _ => rfl)) pe_int) (pg_sub (pv 0) pe_int set_list))
  (pss_cons (ps_asg (pe_op op_mod (pe_callTy callInt (by rfl) T.n_int (by decide +kernel) (pa_cons (pe_op opAdd (pe_op opMul (pe_ix (ixSeqK (K := K)) (pv 0) pe_int (fun _ _ => rfl)) pe_int) (pe_ix (ixSeqK (K := K)) (pv 0) pe_int (fun _ _ => rfl))) pa_nil)) pe_int) (pg_sub (pv 0) pe_int set_list))
  (pss_one (ps_ret (pe_op op_mod (pe_op op_fdivW (pe_op op_mod (pe_callTy callInt (by rfl) T.n_int (by decide +kernel) (pa_cons (pe_op opAdd (pe_op opMul (pe_ix (ixSeqK (K := K)) (pv 0) pe_int (fun _ _ => rfl)) pe_int) (pe_op opMul (pe_ix (ixSeqK (K := K)) (pv 0) pe_int (fun _ _ => rfl)) pe_int)) pa_nil)) pe_int) pe_int) (pv 1)))))))), ?_⟩
    refine go_start hs ht ?_
    try dsimp only [cxOf, WOf]
    rw [show L2.start _ _ = [some (.ref p), some (.int size), none, none] from rfl]
    refine pool_open ?_
    obtain ⟨c, xs, i, n, s0, t0, hi⟩ := P0
    dsimp only
    refine go_cut (fun σ1 T1 L1 => ∃ (v1 : Option V) (i n s t : Int), 0 ≤ i ∧ σ1 = [some (.ref p), some (.int size), v1, none] ∧ T1 = T' ∧ L1 = pt p (.lst [.ref c, .int i, .int n, .int s, .int t]) :: pt c (.lst (xs.map V.int)) :: R) ?_ ?_
    · repeat walk_at "oc"
      refine go_d (fun h0 => ?_) (fun h0 => ?_)
      · repeat walk_at "oc"
        refine go_d (fun h3 => ?_) (fun h3 => ?_)
        · obtain ⟨z, hz⟩ := atI_map hi (by simpa using h3)
          repeat walk_at "oc"
          refine go_sqL hz ?_
          repeat walk_at "oc"
          refine go_d (fun h4 => ?_) (fun h4 => ?_)
          · repeat walk_at "oc"
            dsimp only
            refine go_at ?_
            exact ⟨_, _, _, _, _, by omega, rfl, rfl, rfl⟩
          · repeat walk_at "oc"
            dsimp only
            refine go_at ?_
            exact ⟨_, _, _, _, _, by omega, rfl, rfl, rfl⟩
        · repeat walk_at "oc"
          dsimp only
          refine go_at ?_
          exact ⟨_, _, _, _, _, hi, rfl, rfl, rfl⟩
      · repeat walk_at "oc"
        dsimp only
        refine go_at ?_
        exact ⟨_, _, _, _, _, hi, rfl, rfl, rfl⟩
    · rintro σ1 T1 L1 ⟨v1, i, n, s, t, hi, rfl, rfl, rfl⟩
      repeat walk_at "oc"
      refine go_d (fun h0 => ?_) (fun h0 => ?_)
      · repeat walk_at "oc"
        exact pool_close hi (k _ _ (Int.emod_nonneg _ (by omega)) (Int.emod_lt_of_pos _ h1))
      · repeat walk_at "oc"
        exact pool_close hi (k _ _ (Int.emod_nonneg _ (by omega)) (Int.emod_lt_of_pos _ h1))

end


/-! ### contents -/
def Pv (v : V) : Prop := v = .non ∨ (∃ i, v = .int i) ∨ ∃ s, v = .str s
def Con (T : Tups) (v : V) : Prop := Pv v ∨ ∃ a xs, v = .ref a ∧ (a, xs) ∈ T ∧ xs.length ≤ 10 ∧ ∀ x ∈ xs, Pv x
def spText : Sp := fun vs H Q E => ∃ (p : Addr) (P : Pl) (T : Tups) (R : List Chunk), vs = [.ref p] ∧ Has H (poolC p P :: R) ∧ HasT H T ∧ ∀ s P', Go T (poolC p P' :: R) (Q (.str s))
theorem go_text {T : Tups} {L R : List Chunk} {p : Addr} {P : Pl} {Q : VK} {E : XK} [q : Pull poolC L p P R] (k : ∀ s P', Go T (poolC p P' :: R) fun H => Q (.str s) H) : Go T L fun H => spText [.ref p] H Q E := fun H x t => ⟨p, P, T, R, rfl, x.pull (F := poolC), t, k⟩
def spPlain : Sp := fun vs H Q E => ∃ (p : Addr) (P : Pl) (T : Tups) (R : List Chunk), vs = [.ref p] ∧ Has H (poolC p P :: R) ∧ HasT H T ∧ ∀ v P', Pv v → Go T (poolC p P' :: R) (Q v)
theorem go_plain {T : Tups} {L R : List Chunk} {p : Addr} {P : Pl} {Q : VK} {E : XK} [q : Pull poolC L p P R] (k : ∀ v P', Pv v → Go T (poolC p P' :: R) fun H => Q v H) : Go T L fun H => spPlain [.ref p] H Q E := fun H x t => ⟨p, P, T, R, rfl, x.pull (F := poolC), t, k⟩
def spContent : Sp := fun vs H Q E => ∃ (p : Addr) (P : Pl) (T : Tups) (R : List Chunk), vs = [.ref p] ∧ Has H (poolC p P :: R) ∧ HasT H T ∧ ∀ v P' T', Mo T T' → Con T' v → Go T' (poolC p P' :: R) (Q v)
theorem go_content {T : Tups} {L R : List Chunk} {p : Addr} {P : Pl} {Q : VK} {E : XK} [q : Pull poolC L p P R] (k : ∀ v P' T', Mo T T' → Con T' v → Go T' (poolC p P' :: R) fun H => Q v H) : Go T L fun H => spContent [.ref p] H Q E := fun H x t => ⟨p, P, T, R, rfl, x.pull (F := poolC), t, k⟩
/-! ### the same data -/
def Sc (x : V) : Prop := x = .non ∨ (∃ b, x = .bl b) ∨ (∃ i, x = .int i) ∨ ∃ s, x = .str s
def Sm (T : Tups) (L : List Chunk) : Nat → V → V → Prop
  | 0, _, _ => False
  | n + 1, x, y => (Sc x ∧ x = y) ∨ ∃ (a b : Addr) (xs ys : List V), x = .ref a ∧ y = .ref b ∧ xs.length = ys.length ∧ xs.length ≤ 100000 ∧ ((Kn T a xs ∧ Kn T b ys) ∨ (RdL L a xs ∧ RdL L b ys)) ∧ ∀ (i : Nat) (x' y' : V), (xs : List V)[i]? = some x' → ys[i]? = some y' → Sm T L n x' y'
def spSame (n : Nat) : Sp := fun vs H Q E => ∃ (x y : V) (T : Tups) (L : List Chunk), vs = [x, y] ∧ Sm T L n x y ∧ Has H L ∧ HasT H T ∧ Go T L (Q (.bl true))
theorem go_same {n : Nat} {T : Tups} {L : List Chunk} {x y : V} {Q : VK} {E : XK} (h : Sm T L n x y) (k : Go T L fun H => Q (.bl true) H) : Go T L fun H => spSame n [x, y] H Q E := fun H a b => ⟨x, y, T, L, rfl, h, a, b, k⟩
theorem str_at {s : Str} {r : Int} (h0 : 0 ≤ r) (h1 : r < s.length) : ∃ c, atI s.cps.toList r = some c := by
  obtain ⟨n, rfl⟩ : ∃ n : Nat, r = n := ⟨r.toNat, by omega⟩
  have hn : n < s.cps.toList.length := by
    have : s.length = s.cps.size := rfl
    rw [Array.length_toList]
    omega
  exact ⟨s.cps.toList[n], atI_nat (List.getElem?_eq_getElem hn)⟩
theorem sum_ones : ∀ {ys : List Str}, (∀ y ∈ ys, y.length = 1) → (ys.map (·.length)).sum = ys.length
  | [], _ => rfl
  | y :: r, h => by
    rw [List.map_cons, List.sum_cons, h y List.mem_cons_self, sum_ones fun z hz => h z (List.mem_cons_of_mem _ hz), List.length_cons, Nat.add_comm]
section
variable {P : Program} {w : World} {K : PySem.W.Frag} {mg : Str → Option Value} {base : Heap} {CD CO CS CI : Addr}
theorem sc_law_text : FnScope ["pool", "letters", "k"] ["pool"] (defScope s_law_text) := ⟨rfl, rfl, rfl, by decide +kernel, rfl, by decide +kernel, by decide +kernel⟩
theorem d_text {dvs : List V} (tx : Tx K mg "_law_text" "_law_text" s_law_text ["pool"] dvs) [T : Txt K mg CD CO CS CI] (D_law_draw : FnD P w K mg base "_law_draw" 1 ["pool", "size"] [] spDraw) : FnD P w K mg base "_law_text" 2 ["pool"] dvs (spText) := by
  obtain ⟨f, fd, ds, F, hm, hb, hd⟩ := tx.ex
  refine ⟨f, fd, ds, okN F sc_law_text (fun vs H Q E h => ?_) (fun cdv A outer s H vs Q E hr tk hp h => ?_), hm, F.kp, hb, hd⟩
  · obtain ⟨p, P0, T', R, rfl, hs, ht, k⟩ := h
    rfl
  · obtain ⟨p, P0, T', R, rfl, hs, ht, k⟩ := h
    have nd := sc_law_text.nd
    refine ⟨_, (pss_cons (ps_set (i := 1) nd rfl (Or.inr rfl) pe_str)
  (pss_cons (ps_set (i := 1) nd rfl (Or.inr rfl) (pe_op opAdd (pv 1) pe_str))
  (pss_one (ps_ret (pe_joinC (K := K) pe_str (pe_lc (own := [("k", 2)]) (tt := tYes) rfl nd (pi_range1 rfl T.n_range (pa_cons (pe_clD D_law_draw (hr.mono (by decide)) rfl (fun σ => L2N.passAt tk σ) (pa_cons (pv 0) (pa_cons pe_int pa_nil))) pa_nil)) (blkOk_by (own := [("k", 2)]) (N := ["pool", "letters", "k"]) (sc := defScope s_law_text) (by decide +kernel)) (fun _ _ _ _ _ => (pg_name (i := 2) nd rfl (Or.inl rfl))) (fun _ _ _ _ _ => pts_nil) (fun _ _ _ _ _ => (pe_ix (ixSeqK (K := K)) (pv 1) (pe_clD D_law_draw (hr.mono (by decide)) rfl passN (pa_cons (pv 0) (pa_cons (pe_callB (callLenK (K := K)) (by rfl) T.n_len (by decide +kernel) (pa_cons (pv 1) pa_nil)) pa_nil))) (fun _ _ => rfl))))))))), ?_⟩
    refine go_start hs ht ?_
    try dsimp only [cxOf, WOf]
    rw [show L2.start _ _ = [some (.ref p), none, none] from rfl]
    repeat walk_at "oc"
    refine go_addS (sz100 (by decide +kernel)) ?_
    generalize hL : (PySem.Str.ofString " !\"#$&'()*+,-./0123456789:;<=>?@ABCDEFGHIJKLMNOPQRSTUVWXYZ[\\]^_`" ++ PySem.Str.ofString "abcdefghijklmnopqrstuvwxyz{|}~") = lt
    have hl : lt.length = 94 := by subst hL; decide +kernel
    repeat walk_at "oc"
    refine go_draw (by decide) (by decide) fun r P1 h0 h1 => ?_
    repeat walk_at "oc"
    refine go_lcr (σw := [some (.ref p), some (.str lt), none]) rfl (fun i T1 L1 acc => T1 = T' ∧ ∃ P2, L1 = poolC p P2 :: R ∧ ∃ ys : List Str, acc = ys.map V.str ∧ (∀ y ∈ ys, y.length = 1) ∧ ys.length = i) ⟨rfl, P1, rfl, [], rfl, (fun _ h => by cases h), rfl⟩ ?_ ?_
    · rintro i T1 L1 acc Dl hi ⟨rfl, P2, rfl, ys, rfl, h2, h3⟩
      repeat walk_at "oc"
      refine go_len2S (sz100 (by omega)) ?_
      repeat walk_at "oc"
      refine go_draw (by omega) (by omega) fun r P3 h4 h5 => ?_
      obtain ⟨c, hc⟩ := str_at h4 h5
      repeat walk_at "oc"
      refine go_sqS (sz100 (by omega)) hc ?_
      refine go_item (sz100l (by rw [List.length_map]; omega)) ⟨rfl, P3, rfl, ys ++ [⟨#[c]⟩], by rw [List.map_append]; rfl, fun y hy => ?_, by rw [List.length_append, h3]; rfl⟩
      rcases List.mem_append.mp hy with hy | hy
      · exact h2 y hy
      · rw [List.mem_singleton] at hy
        subst hy
        rfl
    · rintro T1 L1 acc Dl ⟨rfl, P2, rfl, ys, rfl, h2, h3⟩
      repeat walk_at "oc"
      refine go_join (ys := ys) ?_ ?_
      · rw [sum_ones h2, show (PySem.Str.ofString "" : Str).length = 0 by decide +kernel, Nat.mul_zero]
        omega
      · exact Go.ent (k _ P2)

theorem sc_law_plain : FnScope ["pool", "pick"] ["pool"] (defScope s_law_plain) := ⟨rfl, rfl, rfl, by decide +kernel, rfl, by decide +kernel, by decide +kernel⟩
theorem d_plain {dvs : List V} (tx : Tx K mg "_law_plain" "_law_plain" s_law_plain ["pool"] dvs) [T : Txt K mg CD CO CS CI] (D_law_draw : FnD P w K mg base "_law_draw" 1 ["pool", "size"] [] spDraw) (D_law_text : FnD P w K mg base "_law_text" 2 ["pool"] [] spText) : FnD P w K mg base "_law_plain" 3 ["pool"] dvs (spPlain) := by
  obtain ⟨f, fd, ds, F, hm, hb, hd⟩ := tx.ex
  refine ⟨f, fd, ds, okN F sc_law_plain (fun vs H Q E h => ?_) (fun cdv A outer s H vs Q E hr tk hp h => ?_), hm, F.kp, hb, hd⟩
  · obtain ⟨p, P0, T', R, rfl, hs, ht, k⟩ := h
    rfl
  · obtain ⟨p, P0, T', R, rfl, hs, ht, k⟩ := h
    have nd := sc_law_plain.nd
    refine ⟨_, (pss_cons (ps_set (i := 1) nd rfl (Or.inl rfl) (pe_clD D_law_draw (hr.mono (by decide)) rfl (fun σ => L2N.passAt tk σ) (pa_cons (pv 0) (pa_cons pe_int pa_nil))))
  (pss_cons (ps_if (pt_cmpR (opEqK (K := K) hr.units) (pv 1) pe_int (nomark _)) (pss_one (ps_ret pe_non)) pss_nil)
  (pss_cons (ps_if (pt_cmpR (opEqK (K := K) hr.units) (pv 1) pe_int (nomark _)) (pss_one (ps_ret (pe_op op_sub (pe_clD D_law_draw (hr.mono (by decide)) rfl (fun σ => L2N.passAt tk σ) (pa_cons (pv 0) (pa_cons pe_int pa_nil))) pe_int))) pss_nil)
  (pss_cons (ps_if (pt_cmpR (opEqK (K := K) hr.units) (pv 1) pe_int (nomark _)) (pss_one (ps_ret (pe_clD D_law_text (hr.mono (by decide)) rfl (fun σ => L2N.passAt tk σ) (pa_cons (pv 0) pa_nil)))) pss_nil)
  (pss_one (ps_ret (pe_op op_sub (pe_clD D_law_draw (hr.mono (by decide)) rfl (fun σ => L2N.passAt tk σ) (pa_cons (pv 0) (pa_cons (pe_op op_pow pe_int pe_int) pa_nil))) (pe_op op_pow pe_int pe_int)))))))), ?_⟩
    refine go_start hs ht ?_
    try dsimp only [cxOf, WOf]
    rw [show L2.start _ _ = [some (.ref p), none] from rfl]
    repeat walk_at "oc"
    refine go_draw (by decide) (by decide) fun r P1 h0 h1 => ?_
    repeat walk_at "oc"
    refine go_d (fun h2 => ?_) (fun h2 => ?_)
    · repeat walk_at "oc"
      exact k _ _ (.inl rfl)
    · repeat walk_at "oc"
      refine go_d (fun h3 => ?_) (fun h3 => ?_)
      · repeat walk_at "oc"
        refine go_draw (by decide) (by decide) fun r P1 h0 h1 => ?_
        repeat walk_at "oc"
        exact k _ _ (.inr (.inl ⟨_, rfl⟩))
      · repeat walk_at "oc"
        refine go_d (fun h4 => ?_) (fun h4 => ?_)
        · repeat walk_at "oc"
          refine go_text fun s P2 => ?_
          exact k _ _ (.inr (.inr ⟨_, rfl⟩))
        · repeat walk_at "oc"
          refine go_draw (by decide) (by decide) fun r P1 h0 h1 => ?_
          repeat walk_at "oc"
          exact k _ _ (.inr (.inl ⟨_, rfl⟩))

end


section
variable {P : Program} {w : World} {K : PySem.W.Frag} {mg : Str → Option Value} {base : Heap} {CD CO CS CI : Addr}
theorem sc_law_content : FnScope ["pool", "k"] ["pool"] (defScope s_law_content) := ⟨rfl, rfl, rfl, by decide +kernel, rfl, by decide +kernel, by decide +kernel⟩
theorem d_content {dvs : List V} (tx : Tx K mg "_law_content" "_law_content" s_law_content ["pool"] dvs) [T : Txt K mg CD CO CS CI] (D_law_draw : FnD P w K mg base "_law_draw" 1 ["pool", "size"] [] spDraw) (D_law_plain : FnD P w K mg base "_law_plain" 3 ["pool"] [] spPlain) : FnD P w K mg base "_law_content" 4 ["pool"] dvs (spContent) := by
  obtain ⟨f, fd, ds, F, hm, hb, hd⟩ := tx.ex
  refine ⟨f, fd, ds, okN F sc_law_content (fun vs H Q E h => ?_) (fun cdv A outer s H vs Q E hr tk hp h => ?_), hm, F.kp, hb, hd⟩
  · obtain ⟨p, P0, T', R, rfl, hs, ht, k⟩ := h
    rfl
  · obtain ⟨p, P0, T', R, rfl, hs, ht, k⟩ := h
    have nd := sc_law_content.nd
    refine ⟨_, (pss_cons (ps_if (pt_cmpR (opEqK (K := K) hr.units) (pe_clD D_law_draw (hr.mono (by decide)) rfl (fun σ => L2N.passAt tk σ) (pa_cons (pv 0) (pa_cons pe_int pa_nil))) pe_int (nomark _)) (pss_one (ps_ret (pe_callTy (callTupleK (K := K)) (by rfl) T.n_tuple (by decide +kernel) (pa_cons (pe_lc (own := [("k", 1)]) (tt := tYes) rfl nd (pi_range1 rfl T.n_range (pa_cons (pe_clD D_law_draw (hr.mono (by decide)) rfl (fun σ => L2N.passAt tk σ) (pa_cons (pv 0) (pa_cons pe_int pa_nil))) pa_nil)) (blkOk_by (own := [("k", 1)]) (N := ["pool", "k"]) (sc := defScope s_law_content) (by decide +kernel)) (fun _ _ _ _ _ => (pg_name (i := 1) nd rfl (Or.inl rfl))) (fun _ _ _ _ _ => pts_nil) (fun _ _ _ _ _ => (pe_clD D_law_plain (hr.mono (by decide)) rfl passN (pa_cons (pv 0) pa_nil)))) pa_nil)))) pss_nil)
  (pss_one (ps_ret (pe_clD D_law_plain (hr.mono (by decide)) rfl (fun σ => L2N.passAt tk σ) (pa_cons (pv 0) pa_nil))))), ?_⟩
    refine go_start hs ht ?_
    try dsimp only [cxOf, WOf]
    rw [show L2.start _ _ = [some (.ref p), none] from rfl]
    repeat walk_at "oc"
    refine go_draw (by decide) (by decide) fun r P1 h0 h1 => ?_
    repeat walk_at "oc"
    refine go_d (fun h2 => ?_) (fun h2 => ?_)
    · repeat walk_at "oc"
      refine go_draw (by decide) (by decide) fun r P1 h0 h1 => ?_
      repeat walk_at "oc"
      refine go_lcr (σw := [some (.ref p), none]) rfl (fun i T1 L1 acc => T1 = T' ∧ ∃ P2, L1 = poolC p P2 :: R ∧ (∀ x ∈ acc, Pv x) ∧ acc.length = i) ⟨rfl, P1, rfl, (fun _ h => by cases h), rfl⟩ ?_ ?_
      · rintro i T1 L1 acc Dl hi ⟨rfl, P2, rfl, h2, h3⟩
        repeat walk_at "oc"
        refine go_plain fun v P3 hv => ?_
        repeat walk_at "oc"
        refine go_item (sz100l (by omega)) ⟨rfl, P3, rfl, fun y hy => ?_, by rw [List.length_append, h3]; rfl⟩
        rcases List.mem_append.mp hy with hy | hy
        · exact h2 y hy
        · rw [List.mem_singleton] at hy
          subst hy
          exact hv
      · rintro T1 L1 acc Dl ⟨rfl, P2, rfl, h2, h3⟩
        repeat walk_at "oc"
        rename_i q
        exact Go.ent (k _ P2 _ inferInstance (.inr ⟨q, acc, rfl, .head _, by omega, h2⟩))
    · repeat walk_at "oc"
      refine go_plain fun v P3 hv => ?_
      exact k v P3 T' inferInstance (.inl hv)

theorem sc_law_same : FnScope ["told", "due", "k"] ["told", "due"] (defScope s_law_same) := ⟨rfl, rfl, rfl, by decide +kernel, rfl, by decide +kernel, by decide +kernel⟩
theorem d_sameS {dvs : List V} (tx : Tx K mg "_law_same" "_law_same" s_law_same ["told", "due"] dvs) [T : Txt K mg CD CO CS CI] {n : Nat} (D_law_same : FnD P w K mg base "_law_same" (n+1) ["told", "due"] [] (spSame n)) : FnD P w K mg base "_law_same" (n+2) ["told", "due"] dvs (spSame (n+1)) := by
  obtain ⟨f, fd, ds, F, hm, hb, hd⟩ := tx.ex
  refine ⟨f, fd, ds, okN F sc_law_same (fun vs H Q E h => ?_) (fun cdv A outer s H vs Q E hr tk hp h => ?_), hm, F.kp, hb, hd⟩
  · obtain ⟨x, y, T', L, rfl, hm, hs, ht, k⟩ := h
    rfl
  · obtain ⟨x, y, T', L, rfl, hm, hs, ht, k⟩ := h
    have nd := sc_law_same.nd
    refine ⟨_, (pss_cons (ps_if (pt_cmpR opIsN (pv 1) pe_non (nomark _)) (pss_one (ps_ret (pe_cmpR opIsN (pv 0) pe_non (nomark _)))) pss_nil)
  (pss_cons (ps_if (pt_val (pe_callB (callIsiK (K := K)) (by rfl) T.n_isinstance (by decide +kernel) (pa_cons (pv 1) (pa_cons (pe_bltn rfl T.n_bool (by decide +kernel) (v := .ty "bool") rfl) pa_nil)))) (pss_one (ps_ret (pe_and (pe_callB (callIsiK (K := K)) (by rfl) T.n_isinstance (by decide +kernel) (pa_cons (pv 0) (pa_cons (pe_bltn rfl T.n_bool (by decide +kernel) (v := .ty "bool") rfl) pa_nil))) (pe_one (pe_cmpR (opEqK (K := K) hr.units) (pv 0) (pv 1) (nomark _)))))) pss_nil)
  (pss_cons (ps_if (pt_val (pe_callB (callIsiK (K := K)) (by rfl) T.n_isinstance (by decide +kernel) (pa_cons (pv 1) (pa_cons (pe_bltn rfl T.n_int (by decide +kernel) (v := .ty "int") rfl) pa_nil)))) (pss_one (ps_ret (pe_and (pe_callB (callIsiK (K := K)) (by rfl) T.n_isinstance (by decide +kernel) (pa_cons (pv 0) (pa_cons (pe_bltn rfl T.n_int (by decide +kernel) (v := .ty "int") rfl) pa_nil))) (pe_and (pe_not (pe_callB (callIsiK (K := K)) (by rfl) T.n_isinstance (by decide +kernel) (pa_cons (pv 0) (pa_cons (pe_bltn rfl T.n_bool (by decide +kernel) (v := .ty "bool") rfl) pa_nil)))) (pe_one (pe_cmpR (opEqK (K := K) hr.units) (pv 0) (pv 1) (nomark _))))))) pss_nil)
  (pss_cons (ps_if (pt_val (pe_callB (callIsiK (K := K)) (by rfl) T.n_isinstance (by decide +kernel) (pa_cons (pv 1) (pa_cons (pe_bltn rfl T.n_str (by decide +kernel) (v := .ty "str") rfl) pa_nil)))) (pss_one (ps_ret (pe_and (pe_callB (callIsiK (K := K)) (by rfl) T.n_isinstance (by decide +kernel) (pa_cons (pv 0) (pa_cons (pe_bltn rfl T.n_str (by decide +kernel) (v := .ty "str") rfl) pa_nil))) (pe_one (pe_cmpR (opEqK (K := K) hr.units) (pv 0) (pv 1) (nomark _)))))) pss_nil)
  (pss_cons (ps_if (pt_val (pe_callB (callIsiK (K := K)) (by rfl) T.n_isinstance (by decide +kernel) (pa_cons (pv 1) (pa_cons (pe_bltn rfl T.n_tuple (by decide +kernel) (v := .ty "tuple") rfl) pa_nil)))) (pss_one (ps_if (pt_not (pt_val (pe_callB (callIsiK (K := K)) (by rfl) T.n_isinstance (by decide +kernel) (pa_cons (pv 0) (pa_cons (pe_bltn rfl T.n_tuple (by decide +kernel) (v := .ty "tuple") rfl) pa_nil))))) (pss_one (ps_ret pe_bl)) pss_nil)) (pss_one (ps_if (pt_not (pt_val (pe_callB (callIsiK (K := K)) (by rfl) T.n_isinstance (by decide +kernel) (pa_cons (pv 0) (pa_cons (pe_bltn rfl T.n_list (by decide +kernel) (v := .ty "list") rfl) pa_nil))))) (pss_one (ps_ret pe_bl)) pss_nil)))
  (pss_cons (ps_if (pt_cmpR (opNeK (K := K) hr.units) (pe_callB (callLenK (K := K)) (by rfl) T.n_len (by decide +kernel) (pa_cons (pv 0) pa_nil)) (pe_callB (callLenK (K := K)) (by rfl) T.n_len (by decide +kernel) (pa_cons (pv 1) pa_nil)) (nomark _)) (pss_one (ps_ret pe_bl)) pss_nil)
  (pss_cons (ps_for hp rfl (pi_range1 rfl T.n_range (pa_cons (pe_callB (callLenK (K := K)) (by rfl) T.n_len (by decide +kernel) (pa_cons (pv 1) pa_nil)) pa_nil)) (pg_name (i := 2) nd rfl (Or.inl rfl))
  (pss_one (ps_if (pt_not (pt_val (pe_clD D_law_same hr rfl (fun σ => L2N.passAt tk σ) (pa_cons (pe_ix (ixSeqK (K := K)) (pv 0) (pv 2) (fun _ _ => rfl)) (pa_cons (pe_ix (ixSeqK (K := K)) (pv 1) (pv 2) (fun _ _ => rfl)) pa_nil))))) (pss_one (ps_ret pe_bl)) pss_nil)))
  (pss_one (ps_ret pe_bl))))))))), ?_⟩
    refine go_start hs ht ?_
    try dsimp only [cxOf, WOf]
    rw [show L2.start _ _ = [some x, some y, none] from rfl]
    rcases hm with ⟨rfl | ⟨b, rfl⟩ | ⟨i, rfl⟩ | ⟨s, rfl⟩, rfl⟩ | ⟨a, b, xs, ys, rfl, rfl, hl, hz, ⟨ka, kb⟩ | ⟨ra, rb⟩, hall⟩
    · repeat walk_at "oc"
      exact k
    · repeat walk_at "oc"
      rw [show decide (V.bl b = V.bl b) = true from decide_eq_true rfl]
      exact k
    · repeat walk_at "oc"
      rw [show decide (i = i) = true from decide_eq_true rfl]
      exact k
    · repeat walk_at "oc"
      rw [show decide (V.str s = V.str s) = true from decide_eq_true rfl]
      exact k
    · haveI := ka
      haveI := kb
      repeat walk_at "oc"
      refine go_range (fun i σ1 T1 L1 => T1 = T' ∧ L1 = L ∧ ∃ v, σ1 = [some (.ref a), some (.ref b), v]) ⟨rfl, rfl, none, rfl⟩ ?_ ?_
      · rintro i σ1 T1 L1 hi ⟨rfl, rfl, v, rfl⟩
        have h1 : i < xs.length := by omega
        have h2 : i < ys.length := by omega
        rw [show (0 : Int) + (i : Int) = (i : Int) by omega]
        repeat walk_at "oc"
        refine go_sqT (atI_of (List.getElem?_eq_getElem h1)) ?_
        repeat walk_at "oc"
        refine go_sqT (atI_of (List.getElem?_eq_getElem h2)) ?_
        repeat walk_at "oc"
        refine go_same (hall i _ _ (List.getElem?_eq_getElem h1) (List.getElem?_eq_getElem h2)) ?_
        repeat walk_at "oc"
        dsimp only
        exact go_at ⟨rfl, rfl, _, rfl⟩
      · rintro σ1 T1 L1 ⟨rfl, rfl, v, rfl⟩
        repeat walk_at "oc"
        exact k
    · haveI := ra
      haveI := rb
      repeat walk_at "oc"
      refine go_range (fun i σ1 T1 L1 => T1 = T' ∧ L1 = L ∧ ∃ v, σ1 = [some (.ref a), some (.ref b), v]) ⟨rfl, rfl, none, rfl⟩ ?_ ?_
      · rintro i σ1 T1 L1 hi ⟨rfl, rfl, v, rfl⟩
        have h1 : i < xs.length := by omega
        have h2 : i < ys.length := by omega
        rw [show (0 : Int) + (i : Int) = (i : Int) by omega]
        repeat walk_at "oc"
        refine go_sqL (atI_of (List.getElem?_eq_getElem h1)) ?_
        repeat walk_at "oc"
        refine go_sqL (atI_of (List.getElem?_eq_getElem h2)) ?_
        repeat walk_at "oc"
        refine go_same (hall i _ _ (List.getElem?_eq_getElem h1) (List.getElem?_eq_getElem h2)) ?_
        repeat walk_at "oc"
        dsimp only
        exact go_at ⟨rfl, rfl, _, rfl⟩
      · rintro σ1 T1 L1 ⟨rfl, rfl, v, rfl⟩
        repeat walk_at "oc"
        exact k

theorem d_same0 {dvs : List V} (tx : Tx K mg "_law_same" "_law_same" s_law_same ["told", "due"] dvs) [T : Txt K mg CD CO CS CI] : FnD P w K mg base "_law_same" 1 ["told", "due"] dvs (spSame 0) := by
  obtain ⟨f, fd, ds, F, hm, hb, hd⟩ := tx.ex
  refine ⟨f, fd, ds, okN F sc_law_same (fun vs H Q E h => ?_) (fun cdv A outer s H vs Q E hr tk hp h => ?_), hm, F.kp, hb, hd⟩
  · obtain ⟨x, y, T', L, rfl, hm, _⟩ := h
    rfl
  · obtain ⟨x, y, T', L, rfl, hm, _⟩ := h
    exact hm.elim
theorem d_same (tx : Tx K mg "_law_same" "_law_same" s_law_same ["told", "due"] []) [T : Txt K mg CD CO CS CI] : ∀ n, FnD P w K mg base "_law_same" (n + 1) ["told", "due"] [] (spSame n)
  | 0 => d_same0 tx
  | n + 1 => d_sameS tx (d_same tx n)
end


class TxtX (K : PySem.W.Frag) (CO CS CI : Addr) : Prop where
  eS : ExcC K CS
  eI : ExcC K CI
  xS : XfC K CS
  xI : XfC K CI
  nS : PySem.W.findIn K (.ref CS) "writes" = some none
  nI : PySem.W.findIn K (.ref CI) "allowed" = some none
  kSS : PySem.W.kitOne K (.ref CS) (.ref CS) = some true
  kSI : PySem.W.kitOne K (.ref CS) (.ref CI) = some false
  kSV : PySem.W.kitOne K (.ref CS) (.type "ValueError") = some true
  kIS : PySem.W.kitOne K (.ref CI) (.ref CS) = some false
  kII : PySem.W.kitOne K (.ref CI) (.ref CI) = some true
  kIV : PySem.W.kitOne K (.ref CI) (.type "ValueError") = some true
  hS : PySem.W.exmOne K (.ref CS) (.ref CO) = some true
  hI : PySem.W.exmOne K (.ref CI) (.ref CO) = some true
def tupS (y : V) : List V := [.str "refused", .str "Stopped", y]
def tupI (y : V) : List V := [.str "refused", .str "InvalidAllowance", y]
def tupD : List V := [.str "done"]
def spRef (CS CI : Addr) : Addr → Value → Option Addr → Sp := fun a c d vs H Q E => ∃ (D dd : Addr) (fs : List (Str × V)) (y : V) (T : Tups) (R : List Chunk), vs = [.ref a] ∧ c = .ref D ∧ d = some dd ∧ Has H (pt dd (.xd fs) :: R) ∧ HasT H T ∧
  ((D = CS ∧ fs = [(("writes" : Str), y)] ∧ ∀ q, Go ((q, tupS y) :: T) R (Q (.ref q))) ∨ (D = CI ∧ fs = [(("allowed" : Str), y)] ∧ ∀ q, Go ((q, tupI y) :: T) R (Q (.ref q))))
def spWritten (CD : Addr) : Sp := fun vs H Q E => ∃ (p dx c : Addr) (w : Int) (l : V) (cells : List V) (i : Nat) (v : V) (T : Tups) (R : List Chunk),
  vs = [.ref p, .int i, v] ∧ (l = .non ∨ ∃ z, l = .int z) ∧ i < 100000 ∧ cells.length < 100000 ∧ Has H (diskL p dx c CD w l cells R) ∧ HasT H T ∧
  (l = .int 0 → ∀ q, Go ((q, tupS (.int w)) :: T) (diskL p dx c CD w l cells R) (Q (.ref q))) ∧
  (l = .non → ∀ q, Go ((q, tupD) :: T) (diskL p dx c CD (w + 1) .non (wr cells i v) R) (Q (.ref q))) ∧
  (∀ z, l = .int z → z ≠ 0 → ∀ q, Go ((q, tupD) :: T) (diskL p dx c CD (w + 1) (.int (z - 1)) (wr cells i v) R) (Q (.ref q)))
def spAllowed (CD : Addr) : Sp := fun vs H Q E => ∃ (p dx c : Addr) (w : Int) (l y : V) (T : Tups) (R : List Chunk), vs = [.ref p, y] ∧ (y = .non ∨ ∃ z, y = .int z) ∧ Has H (pt p (.ins CD dx (dfs w c l)) :: R) ∧ HasT H T ∧
  (∀ z, y = .int z → z < 0 → ∀ q, Go ((q, tupI y) :: T) (pt p (.ins CD dx (dfs w c l)) :: R) (Q (.ref q))) ∧ ((∀ z, y = .int z → ¬ z < 0) → ∀ q, Go ((q, tupD) :: T) (pt p (.ins CD dx (dfs w c y)) :: R) (Q (.ref q)))
section
variable {P : Program} {w : World} {K : PySem.W.Frag} {mg : Str → Option Value} {base : Heap} {CD CO CS CI : Addr}
instance {w : Int} {c : Addr} {l : V} : NoFld (dfs w c l) "write_cell" := ⟨dfs_n w c l⟩
instance {w : Int} {c : Addr} {l : V} : NoFld (dfs w c l) "allow" := ⟨dfs_n w c l⟩
instance {w : Int} {c : Addr} {l : V} : NoFld (dfs w c l) "cells" := ⟨dfs_n w c l⟩
instance {w : Int} {c : Addr} {l : V} : NoFld (dfs w c l) "read_cell" := ⟨dfs_n w c l⟩
theorem sc_law_refusal : FnScope ["raised", "kinds"] ["raised"] (defScope s_law_refusal) := ⟨rfl, rfl, rfl, by decide +kernel, rfl, by decide +kernel, by decide +kernel⟩
theorem d_refusal (tx : Tx K mg "_law_refusal" "_law_refusal" s_law_refusal ["raised"] []) [T : Txt K mg CD CO CS CI] [U : TxtX K CO CS CI] : FxD P w K mg base "_law_refusal" 1 ["raised"] (spRef CS CI) := by
  obtain ⟨f, fd, ds, F, hm, hb, hd⟩ := tx.ex
  cases hd
  refine ⟨f, fd, okX F sc_law_refusal (fun xa xc xd vs H Q E h => ?_) (fun cdv A outer s H vs Q E xa xo xc xd hot xz xf hr h => ?_), hm, F.kp, hb⟩
  · obtain ⟨D, dd, fs, y, T', R, rfl, rfl, rfl, hs, ht, h⟩ := h
    rfl
  · obtain ⟨D, dd, fs, y, T', R, rfl, rfl, rfl, hs, ht, h⟩ := h
    have nd := sc_law_refusal.nd
    refine ⟨_, (pss_cons (ps_set (i := 1) nd rfl (Or.inl rfl) (pe_lst (pa_cons (pe_callB (call_isX (List.mem_cons_self) xz.zc xf) (by rfl) T.n_isinstance (by decide +kernel) (pa_cons (pv 0) (pa_cons (pe_glob (v := .ref _) rfl T.gStopped rfl) pa_nil))) (pa_cons (pe_callB (call_isX (List.mem_cons_self) xz.zc xf) (by rfl) T.n_isinstance (by decide +kernel) (pa_cons (pv 0) (pa_cons (pe_glob (v := .ref _) rfl T.gInvalidAllowance rfl) pa_nil))) pa_nil))))
  (pss_cons (ps_set (i := 1) nd rfl (Or.inl rfl) (pe_op opAdd (pv 1) (pe_lst (pa_cons (pe_callB (call_isX (List.mem_cons_self) xz.zc xf) (by rfl) T.n_isinstance (by decide +kernel) (pa_cons (pv 0) (pa_cons (pe_bltn rfl T.n_ValueError (by decide +kernel) (v := .ty "ValueError") rfl) pa_nil))) pa_nil))))
  (pss_cons (ps_if (pt_cmpR (opEqK (K := K) hr.units) (pv 1) (pe_lst (pa_cons pe_bl (pa_cons pe_bl (pa_cons pe_bl pa_nil)))) (nomark _)) (pss_one (ps_ret (pe_tup (pa_cons pe_str (pa_cons pe_str (pa_cons (pe_xF (List.mem_cons_self) xz.zc xf (pv 0)) pa_nil)))))) pss_nil)
  (pss_cons (ps_if (pt_cmpR (opEqK (K := K) hr.units) (pv 1) (pe_lst (pa_cons pe_bl (pa_cons pe_bl (pa_cons pe_bl pa_nil)))) (nomark _)) (pss_one (ps_ret (pe_tup (pa_cons pe_str (pa_cons pe_str (pa_cons (pe_xF (List.mem_cons_self) xz.zc xf (pv 0)) pa_nil)))))) pss_nil)
  (pss_one (ps_ret (pe_tup (pa_cons pe_str (pa_cons pe_str (pa_cons pe_non pa_nil)))))))))), ?_⟩
    refine go_start hs ht ?_
    try dsimp only [cxOf, WOf]
    rw [show L2.start _ _ = [some (.ref xa), none] from rfl]
    rcases h with ⟨rfl, rfl, k⟩ | ⟨rfl, rfl, k⟩
    · repeat walk_at "oc"
      refine go_isX U.eS (fun u h => h) U.kSS ?_
      repeat walk_at "oc"
      refine go_isX U.eS (fun u h => h) U.kSI ?_
      repeat walk_at "oc"
      refine go_isX U.eS (fun u h => h) U.kSV ?_
      repeat walk_at "oc"
      refine go_eqBL (xs := [true, false, true]) (ys := [true, false, true]) (by decide +kernel) (by decide +kernel) (r := true) (by decide +kernel) ?_
      repeat walk_at "oc"
      refine go_xF0 ?_
      repeat walk_at "oc"
      refine go_xF U.xS U.nS rfl ?_
      repeat walk_at "oc"
      exact Go.ent (k _)
    · repeat walk_at "oc"
      refine go_isX U.eI (fun u h => h) U.kIS ?_
      repeat walk_at "oc"
      refine go_isX U.eI (fun u h => h) U.kII ?_
      repeat walk_at "oc"
      refine go_isX U.eI (fun u h => h) U.kIV ?_
      repeat walk_at "oc"
      refine go_eqBL (xs := [false, true, true]) (ys := [true, false, true]) (by decide +kernel) (by decide +kernel) (r := false) (by decide +kernel) ?_
      repeat walk_at "oc"
      refine go_eqBL (xs := [false, true, true]) (ys := [false, true, true]) (by decide +kernel) (by decide +kernel) (r := true) (by decide +kernel) ?_
      repeat walk_at "oc"
      refine go_xF0 ?_
      repeat walk_at "oc"
      refine go_xF U.xI U.nI rfl ?_
      repeat walk_at "oc"
      exact Go.ent (k _)

end


theorem roomH_mk {k : Nat} {A : Around} (r : Room k A) (h : Option Value) : L2H.RoomH k (A.mark h) := ⟨r.dp, r.un⟩
theorem go_ref {CS CI : Addr} {a D dd : Addr} {fs : List (Str × V)} {y : V} {T : Tups} {L R : List Chunk} {Q : VK} {E : XK} [Pull pt L dd (.xd fs) R] (h : (D = CS ∧ fs = [(("writes" : Str), y)] ∧ ∀ q, Go ((q, tupS y) :: T) R fun H => Q (.ref q) H) ∨ (D = CI ∧ fs = [(("allowed" : Str), y)] ∧ ∀ q, Go ((q, tupI y) :: T) R fun H => Q (.ref q) H)) : Go T L fun H => spRef CS CI a (.ref D) (some dd) [.ref a] H Q E := fun H x t =>
  ⟨D, dd, fs, y, T, R, rfl, rfl, rfl, x.pull (F := pt), t, h⟩
section
variable {P : Program} {w : World} {K : PySem.W.Frag} {mg : Str → Option Value} {base : Heap} {CD CO CS CI : Addr}
theorem sc_law_written : FnScope ["disk", "index", "content", "raised"] ["disk", "index", "content"] (defScope s_law_written) := ⟨rfl, rfl, rfl, by decide +kernel, rfl, by decide +kernel, by decide +kernel⟩
theorem d_written {dvs : List V} (tx : Tx K mg "_law_written" "_law_written" s_law_written ["disk", "index", "content"] dvs) [T : Txt K mg CD CO CS CI] [U : TxtX K CO CS CI] (M_Disk_write_cell : MeD P w K mg base CD "write_cell" 3 ["self", "index", "content"] [] (spWrite CD CS)) (DX_law_refusal : FxD P w K mg base "_law_refusal" 1 ["raised"] (spRef CS CI)) : FnD P w K mg base "_law_written" 5 ["disk", "index", "content"] dvs (spWritten CD) := by
  obtain ⟨f, fd, ds, F, hm, hb, hd⟩ := tx.ex
  refine ⟨f, fd, ds, okN F sc_law_written (fun vs H Q E h => ?_) (fun cdv A outer s H vs Q E hr tk hp h => ?_), hm, F.kp, hb, hd⟩
  · obtain ⟨p, dx, c, w', l, cells, i, v, T', R, rfl, hl, hi, hc, hs, ht, k0, k1, k2⟩ := h
    rfl
  · obtain ⟨p, dx, c, w', l, cells, i, v, T', R, rfl, hl, hi, hc, hs, ht, k0, k1, k2⟩ := h
    have nd := sc_law_written.nd
    refine ⟨_, (pss_cons (L2N.ps_try_as (i := 3) rfl rfl nd rfl rfl ⟨rfl, by decide, .inl T.gOnecopyError⟩ tk (fun W pn xe tk hp => (pss_one (ps_expr (pe_meD (pv 0) T.cDisk M_Disk_write_cell (hr.mono (by decide)) (fun σ => L2N.passAt tk σ) (pa_cons (pv 1) (pa_cons (pv 2) pa_nil))))))
  (fun xa xo xc xd pn xz xf => (pss_one (ps_ret (pe_clXD DX_law_refusal (roomH_mk (hr.mono (by decide)) _) (hot_suite xz xf) (List.mem_cons_self) xz rfl passN (pa_cons (pv 3) pa_nil))))))
  (pss_one (ps_ret (pe_tup (pa_cons pe_str pa_nil))))), ?_⟩
    refine go_start hs ht ?_
    try dsimp only [cxOf, WOf]
    rw [show L2.start _ _ = [some (.ref p), some (.int i), some v, none] from rfl]
    repeat walk_at "oc"
    refine fun H x t => ⟨p, dx, c, w', l, cells, i, v, T', R, rfl, hl, hi, hc, x, t, ?_, ?_, ?_⟩
    · rintro rfl d
      refine go_wAs U.hS fun a => ?_
      rw [show List.set _ 3 _ = [some (.ref p), some (.int i), some v, some (.ref a)] from rfl]
      repeat walk_at "oc"
      refine go_ref (.inl ⟨rfl, rfl, fun q => ?_⟩)
      exact k0 rfl q
    · rintro rfl
      dsimp only
      repeat walk_at "oc"
      exact k1 rfl _
    · rintro z rfl hz
      dsimp only
      repeat walk_at "oc"
      exact k2 z rfl hz _

theorem sc_law_allowed : FnScope ["disk", "number", "raised"] ["disk", "number"] (defScope s_law_allowed) := ⟨rfl, rfl, rfl, by decide +kernel, rfl, by decide +kernel, by decide +kernel⟩
theorem d_allowed {dvs : List V} (tx : Tx K mg "_law_allowed" "_law_allowed" s_law_allowed ["disk", "number"] dvs) [T : Txt K mg CD CO CS CI] [U : TxtX K CO CS CI] (M_Disk_allow : MeD P w K mg base CD "allow" 6 ["self", "allowed"] [] (spSet CD CI)) (DX_law_refusal : FxD P w K mg base "_law_refusal" 1 ["raised"] (spRef CS CI)) : FnD P w K mg base "_law_allowed" 8 ["disk", "number"] dvs (spAllowed CD) := by
  obtain ⟨f, fd, ds, F, hm, hb, hd⟩ := tx.ex
  refine ⟨f, fd, ds, okN F sc_law_allowed (fun vs H Q E h => ?_) (fun cdv A outer s H vs Q E hr tk hp h => ?_), hm, F.kp, hb, hd⟩
  · obtain ⟨p, dx, c, w', l, y, T', R, rfl, hy, hs, ht, k0, k1⟩ := h
    rfl
  · obtain ⟨p, dx, c, w', l, y, T', R, rfl, hy, hs, ht, k0, k1⟩ := h
    have nd := sc_law_allowed.nd
    refine ⟨_, (pss_cons (L2N.ps_try_as (i := 2) rfl rfl nd rfl rfl ⟨rfl, by decide, .inl T.gOnecopyError⟩ tk (fun W pn xe tk hp => (pss_one (ps_expr (pe_meD (pv 0) T.cDisk M_Disk_allow (hr.mono (by decide)) (fun σ => L2N.passAt tk σ) (pa_cons (pv 1) pa_nil)))))
  (fun xa xo xc xd pn xz xf => (pss_one (ps_ret (pe_clXD DX_law_refusal (roomH_mk (hr.mono (by decide)) _) (hot_suite xz xf) (List.mem_cons_self) xz rfl passN (pa_cons (pv 2) pa_nil))))))
  (pss_one (ps_ret (pe_tup (pa_cons pe_str pa_nil))))), ?_⟩
    refine go_start hs ht ?_
    try dsimp only [cxOf, WOf]
    rw [show L2.start _ _ = [some (.ref p), some y, none] from rfl]
    repeat walk_at "oc"
    refine fun H x t => ⟨p, dx, c, w', l, y, T', R, rfl, hy, x, t, ?_, ?_⟩
    · rintro z rfl hz d
      refine go_wAs U.hI fun a => ?_
      rw [show List.set _ 2 _ = [some (.ref p), some (.int z), some (.ref a)] from rfl]
      repeat walk_at "oc"
      refine go_ref (.inr ⟨rfl, rfl, fun q => ?_⟩)
      exact k0 z rfl hz q
    · intro hz
      dsimp only
      repeat walk_at "oc"
      exact k1 hz _

end


theorem Has.pull2 {H : Hp} {L R1 R2 : List Chunk} {A B : Type} {F : Addr → A → Chunk} {G : Addr → B → Chunk} {a b : Addr} {x : A} {y : B} (h : Has H L) [p : Pull F L a x R1] [q : Pull G R1 b y R2] : Has H (F a x :: G b y :: R2) :=
  h.perm (p.perm.trans (List.Perm.append_left _ q.perm))
/-! ### worlds -/
structure Wd where
  p : Addr
  dx : Addr
  c : Addr
  h : Addr
  w : Int
  l : V
  cells : List V
def worldC (CD a : Addr) (W : Wd) : Chunk := [(a, .lst [.ref W.p, .ref W.h, .int W.w, W.l]), (W.p, .ins CD W.dx (dfs W.w W.c W.l)), (W.c, .lst W.cells), (W.h, .lst W.cells)]
theorem world_open {CD : Addr} {T : Tups} {R : List Chunk} {a : Addr} {W : Wd} {N : Hp → Prop} (h : Go T (pt a (.lst [.ref W.p, .ref W.h, .int W.w, W.l]) :: diskL W.p W.dx W.c CD W.w W.l W.cells (pt W.h (.lst W.cells) :: R)) N) : Go T (worldC CD a W :: R) N := h.perm (.of_eq rfl)
theorem world_close {CD : Addr} {T : Tups} {R : List Chunk} {a p dx c h : Addr} {w : Int} {l : V} {cells : List V} {N : Hp → Prop} (k : Go T (worldC CD a ⟨p, dx, c, h, w, l, cells⟩ :: R) N) : Go T (pt a (.lst [.ref p, .ref h, .int w, l]) :: diskL p dx c CD w l cells (pt h (.lst cells) :: R)) N := k.perm (.of_eq rfl)
def OkW (T : Tups) (W : Wd) : Prop := (W.l = .non ∨ ∃ z, W.l = .int z) ∧ ∀ x ∈ W.cells, Con T x
/-! ### sameness of what the law compares -/
theorem sc_pv {x : V} (h : Pv x) : Sc x := by
  rcases h with rfl | ⟨i, rfl⟩ | ⟨s, rfl⟩
  · exact .inl rfl
  · exact .inr (.inr (.inl ⟨i, rfl⟩))
  · exact .inr (.inr (.inr ⟨s, rfl⟩))
theorem sm_sc {T : Tups} {L : List Chunk} {n : Nat} {x : V} (h : Sc x) : Sm T L (n + 1) x x := .inl ⟨h, rfl⟩
theorem sm_tup {T : Tups} {L : List Chunk} {n : Nat} {a b : Addr} {xs : List V} (ka : Kn T a xs) (kb : Kn T b xs) (hz : xs.length ≤ 100000) (h : ∀ x ∈ xs, Sc x) : Sm T L (n + 2) (.ref a) (.ref b) :=
  .inr ⟨a, b, xs, xs, rfl, rfl, rfl, hz, .inl ⟨ka, kb⟩, fun i x y e1 e2 => by
    rw [e1] at e2
    cases e2
    exact sm_sc (h x (List.mem_of_getElem? e1))⟩
theorem sm_con {T : Tups} {L : List Chunk} {n : Nat} {x : V} (h : Con T x) : Sm T L (n + 2) x x := by
  rcases h with h | ⟨a, xs, rfl, hm, hl, h⟩
  · exact sm_sc (sc_pv h)
  · exact sm_tup ⟨hm⟩ ⟨hm⟩ (by omega) fun x hx => sc_pv (h x hx)
theorem sm_lst {T : Tups} {L : List Chunk} {n : Nat} {a b : Addr} {xs : List V} (ra : RdL L a xs) (rb : RdL L b xs) (hz : xs.length ≤ 100000) (h : ∀ x ∈ xs, Con T x) : Sm T L (n + 3) (.ref a) (.ref b) :=
  .inr ⟨a, b, xs, xs, rfl, rfl, rfl, hz, .inr ⟨ra, rb⟩, fun i x y e1 e2 => by
    rw [e1] at e2
    cases e2
    exact sm_con (h x (List.mem_of_getElem? e1))⟩
theorem con_more {T T' : Tups} [m : Mo T T'] {x : V} (h : Con T x) : Con T' x := by
  rcases h with h | ⟨a, xs, rfl, hm, hl, h⟩
  · exact .inl h
  · exact .inr ⟨a, xs, rfl, m.sub _ hm, hl, h⟩
theorem con_int {T : Tups} {i : Int} : Con T (.int i) := .inl (.inr (.inl ⟨i, rfl⟩))
theorem con_opt {T : Tups} {l : V} (h : l = .non ∨ ∃ z, l = .int z) : Con T l := by
  rcases h with rfl | ⟨z, rfl⟩
  · exact .inl (.inl rfl)
  · exact con_int
/-! ### the disk's methods over pieces -/
section
variable {T : Tups} {L R1 R2 : List Chunk} {Q : VK} {E : XK} {p dx c CD CS CI : Addr} {w : Int} {l y : V} {cells : List V}
theorem go_init0 [q : Pull pt L p (.ins CD dx []) R1] (k : ∀ c, Go T (diskL p dx c CD 0 .non [] R1) fun H => Q .non H) : Go T L fun H => spInit CD [.ref p, .non] H Q E := fun H x t => ⟨p, dx, .non, [], T, R1, rfl, x.pull (F := pt), t, .inl ⟨rfl, rfl⟩, k⟩
theorem go_init {a : Addr} [q : Pull pt L p (.ins CD dx []) R1] [r : RdL R1 a cells] (k : ∀ c, Go T (diskL p dx c CD 0 .non cells R1) fun H => Q .non H) : Go T L fun H => spInit CD [.ref p, .ref a] H Q E := fun H x t => ⟨p, dx, .ref a, cells, T, R1, rfl, x.pull (F := pt), t, .inr ⟨a, rfl, r⟩, k⟩
variable [q1 : Pull pt L p (.ins CD dx (dfs w c l)) R1]
theorem go_dlen [q2 : Pull pt R1 c (.lst cells) R2] (k : Go T (diskL p dx c CD w l cells R2) fun H => Q (.int cells.length) H) : Go T L fun H => spLen CD [.ref p] H Q E := fun H x t => ⟨p, dx, c, w, l, cells, T, R2, rfl, x.pull2 (F := pt) (G := pt), t, k⟩
theorem go_dcells [q2 : Pull pt R1 c (.lst cells) R2] (k : ∀ q, Go T (pt q (.lst cells) :: diskL p dx c CD w l cells R2) fun H => Q (.ref q) H) : Go T L fun H => spCells CD [.ref p] H Q E := fun H x t => ⟨p, dx, c, w, l, cells, T, R2, rfl, x.pull2 (F := pt) (G := pt), t, k⟩
theorem go_dread {i : Nat} [q2 : Pull pt R1 c (.lst cells) R2] (k : Go T (diskL p dx c CD w l cells R2) fun H => Q (cells[i]?.getD .non) H) : Go T L fun H => spRead CD [.ref p, .int i] H Q E := fun H x t => ⟨p, dx, c, w, l, cells, i, T, R2, rfl, x.pull2 (F := pt) (G := pt), t, k⟩
theorem go_dall (k : Go T (pt p (.ins CD dx (dfs w c l)) :: R1) fun H => Q l H) : Go T L fun H => spAll CD [.ref p] H Q E := fun H x t => ⟨p, dx, c, w, l, T, R1, rfl, x.pull (F := pt), t, k⟩
theorem go_written {i : Nat} {v : V} [q2 : Pull pt R1 c (.lst cells) R2] (hl : l = .non ∨ ∃ z, l = .int z) (hi : i < 100000) (hc : cells.length < 100000) (k0 : l = .int 0 → ∀ q, Go ((q, tupS (.int w)) :: T) (diskL p dx c CD w l cells R2) fun H => Q (.ref q) H)
    (k1 : l = .non → ∀ q, Go ((q, tupD) :: T) (diskL p dx c CD (w + 1) .non (wr cells i v) R2) fun H => Q (.ref q) H) (k2 : ∀ z, l = .int z → z ≠ 0 → ∀ q, Go ((q, tupD) :: T) (diskL p dx c CD (w + 1) (.int (z - 1)) (wr cells i v) R2) fun H => Q (.ref q) H) :
    Go T L fun H => spWritten CD [.ref p, .int i, v] H Q E := fun H x t => ⟨p, dx, c, w, l, cells, i, v, T, R2, rfl, hl, hi, hc, x.pull2 (F := pt) (G := pt), t, k0, k1, k2⟩
theorem go_allowed (hy : y = .non ∨ ∃ z, y = .int z) (k0 : ∀ z, y = .int z → z < 0 → ∀ q, Go ((q, tupI y) :: T) (pt p (.ins CD dx (dfs w c l)) :: R1) fun H => Q (.ref q) H) (k1 : (∀ z, y = .int z → ¬ z < 0) → ∀ q, Go ((q, tupD) :: T) (pt p (.ins CD dx (dfs w c y)) :: R1) fun H => Q (.ref q) H) :
    Go T L fun H => spAllowed CD [.ref p, y] H Q E := fun H x t => ⟨p, dx, c, w, l, y, T, R1, rfl, hy, x.pull (F := pt), t, k0, k1⟩
end
def spWorld (CD : Addr) : Sp := fun vs H Q E => ∃ (p : Addr) (P : Pl) (T : Tups) (R : List Chunk), vs = [.ref p] ∧ Has H (poolC p P :: R) ∧ HasT H T ∧ ∀ a P' T' W, Mo T T' → OkW T' W → W.cells.length ≤ 10 → Go T' (worldC CD a W :: poolC p P' :: R) (Q (.ref a))
theorem go_world {CD : Addr} {T : Tups} {L R : List Chunk} {p : Addr} {P : Pl} {Q : VK} {E : XK} [q : Pull poolC L p P R] (k : ∀ a P' T' W, Mo T T' → OkW T' W → W.cells.length ≤ 10 → Go T' (worldC CD a W :: poolC p P' :: R) fun H => Q (.ref a) H) : Go T L fun H => spWorld CD [.ref p] H Q E := fun H x t => ⟨p, P, T, R, rfl, x.pull (F := poolC), t, k⟩
def spStands (CD : Addr) : Sp := fun vs H Q E => ∃ (p a : Addr) (P : Pl) (W : Wd) (T : Tups) (R : List Chunk), vs = [.ref p, .ref a] ∧ OkW T W ∧ W.cells.length ≤ 90000 ∧ Has H (worldC CD a W :: poolC p P :: R) ∧ HasT H T ∧ ∀ P', Go T (worldC CD a W :: poolC p P' :: R) (Q (.bl true))
theorem go_stands {CD : Addr} {T : Tups} {L R1 R2 : List Chunk} {p a : Addr} {P : Pl} {W : Wd} {Q : VK} {E : XK} [q1 : Pull (worldC CD) L a W R1] [q2 : Pull poolC R1 p P R2] (ok : OkW T W) (hz : W.cells.length ≤ 90000) (k : ∀ P', Go T (worldC CD a W :: poolC p P' :: R2) fun H => Q (.bl true) H) : Go T L fun H => spStands CD [.ref p, .ref a] H Q E := fun H x t =>
  ⟨p, a, P, W, T, R2, rfl, ok, hz, x.pull2 (F := worldC CD) (G := poolC), t, k⟩
section
variable {P : Program} {w : World} {K : PySem.W.Frag} {mg : Str → Option Value} {base : Heap} {CD CO CS CI : Addr}
theorem sc_law_world : FnScope ["pool", "way", "given", "held", "disk", "k"] ["pool"] (defScope s_law_world) := ⟨rfl, rfl, rfl, by decide +kernel, rfl, by decide +kernel, by decide +kernel⟩
theorem d_world {dvs : List V} (tx : Tx K mg "_law_world" "_law_world" s_law_world ["pool"] dvs) [T : Txt K mg CD CO CS CI] (D_law_draw : FnD P w K mg base "_law_draw" 1 ["pool", "size"] [] spDraw) (D_law_content : FnD P w K mg base "_law_content" 4 ["pool"] [] spContent) (M_Disk : MkD P w K mg base CD "Disk" 1 ["self", "cells"] [] (spInit CD)) (M_Disk0 : MkD P w K mg base CD "Disk" 1 ["self", "cells"] [.non] (spInit CD)) : FnD P w K mg base "_law_world" 5 ["pool"] dvs (spWorld CD) := by
  obtain ⟨f, fd, ds, F, hm, hb, hd⟩ := tx.ex
  refine ⟨f, fd, ds, okN F sc_law_world (fun vs H Q E h => ?_) (fun cdv A outer s H vs Q E hr tk hp h => ?_), hm, F.kp, hb, hd⟩
  · obtain ⟨p, P0, T', R, rfl, hs, ht, k⟩ := h
    rfl
  · obtain ⟨p, P0, T', R, rfl, hs, ht, k⟩ := h
    have nd := sc_law_world.nd
    refine ⟨_, (pss_cons (ps_set (i := 1) nd rfl (Or.inl rfl) (pe_clD D_law_draw (hr.mono (by decide)) rfl (fun σ => L2N.passAt tk σ) (pa_cons (pv 0) (pa_cons pe_int pa_nil))))
  (pss_cons (ps_if (pt_cmpR (opEqK (K := K) hr.units) (pv 1) pe_int (nomark _)) (pss_one (ps_ret (pe_lst (pa_cons (pe_mkD0 M_Disk0 (hr.mono (by decide)) rfl (fun σ => L2N.passAt tk σ)) (pa_cons (pe_lst pa_nil) (pa_cons pe_int (pa_cons pe_non pa_nil))))))) pss_nil)
  (pss_cons (ps_if (pt_cmpR (opEqK (K := K) hr.units) (pv 1) pe_int (nomark _)) (pss_one (ps_ret (pe_lst (pa_cons (pe_mkD M_Disk (hr.mono (by decide)) rfl (fun σ => L2N.passAt tk σ) (pa_cons pe_non pa_nil)) (pa_cons (pe_lst pa_nil) (pa_cons pe_int (pa_cons pe_non pa_nil))))))) pss_nil)
  (pss_cons (ps_setLc (i := 2) (own := [("k", 5)]) (tt := tYes) rfl nd rfl rfl (sw_true rfl rfl rfl (by decide +kernel)) (pi_range1 rfl T.n_range (pa_cons (pe_clD D_law_draw (hr.mono (by decide)) rfl (fun σ => L2N.passAt tk σ) (pa_cons (pv 0) (pa_cons pe_int pa_nil))) pa_nil)) (blkOk_by (own := [("k", 5)]) (N := ["pool", "way", "given", "held", "disk", "k"]) (sc := defScope s_law_world) (by decide +kernel)) (fun _ _ _ _ _ => (pg_name (i := 5) nd rfl (Or.inl rfl))) (fun _ _ _ _ _ => pts_nil) (fun _ _ _ _ _ => (pe_clD D_law_content (hr.mono (by decide)) rfl passN (pa_cons (pv 0) pa_nil))))
  (pss_cons (ps_set (i := 3) nd rfl (Or.inl rfl) (pe_callTy (callListK (K := K)) (by rfl) T.n_list (by decide +kernel) (pa_cons (pv 2) pa_nil)))
  (pss_cons (ps_set (i := 4) nd rfl (Or.inl rfl) (pe_mkD M_Disk (hr.mono (by decide)) rfl (fun σ => L2N.passAt tk σ) (pa_cons (pv 2) pa_nil)))
  (pss_cons (ps_expr (pe_bm PySem.F.plainAttrs_list PySem.F.slot_list_append PySem.F.type_list_append mt_append (pv 2) (pa_cons pe_str pa_nil)))
  (pss_cons (ps_asg pe_str (pg_sub (pv 2) pe_int set_list))
  (pss_one (ps_ret (pe_lst (pa_cons (pv 4) (pa_cons (pv 3) (pa_cons pe_int (pa_cons pe_non pa_nil))))))))))))))), ?_⟩
    refine go_start hs ht ?_
    try dsimp only [cxOf, WOf]
    rw [show L2.start _ _ = [some (.ref p), none, none, none, none, none] from rfl]
    repeat walk_at "oc"
    refine go_draw (by decide) (by decide) fun r P1 h0 h1 => ?_
    repeat walk_at "oc"
    refine go_d (fun h2 => ?_) (fun h2 => ?_)
    · repeat walk_at "oc"
      rename_i x dx
      refine go_init0 fun c => ?_
      repeat walk_at "oc"
      rename_i h a
      exact Go.ent (world_close (k a P1 T' ⟨x, dx, c, h, 0, .non, []⟩ inferInstance ⟨.inl rfl, fun _ h => by cases h⟩ (Nat.zero_le _)))
    · repeat walk_at "oc"
      refine go_d (fun h3 => ?_) (fun h3 => ?_)
      · repeat walk_at "oc"
        rename_i x dx
        refine go_init0 fun c => ?_
        repeat walk_at "oc"
        rename_i h a
        exact Go.ent (world_close (k a P1 T' ⟨x, dx, c, h, 0, .non, []⟩ inferInstance ⟨.inl rfl, fun _ h => by cases h⟩ (Nat.zero_le _)))
      · repeat walk_at "oc"
        refine go_draw (by decide) (by decide) fun r P1 h0 h1 => ?_
        rename_i r0 _ _ _
        repeat walk_at "oc"
        refine go_lcr (σw := [some (.ref p), some (.int r0), none, none, none, none]) rfl (fun i T1 L1 acc => Mo T' T1 ∧ (∃ P2, L1 = poolC p P2 :: R) ∧ (∀ x ∈ acc, Con T1 x) ∧ acc.length = i) ⟨inferInstance, ⟨P1, rfl⟩, (fun _ h => by cases h), rfl⟩ ?_ ?_
        · rintro i T1 L1 acc Dl hi ⟨m1, ⟨P2, rfl⟩, h2, h3⟩
          repeat walk_at "oc"
          refine go_content fun v P3 T3 m3 hv => ?_
          repeat walk_at "oc"
          refine go_item (sz100l (by omega)) ⟨m1.trans m3, ⟨P3, rfl⟩, fun y hy => ?_, by rw [List.length_append, h3]; rfl⟩
          rcases List.mem_append.mp hy with hy | hy
          · exact con_more (h2 y hy)
          · rw [List.mem_singleton] at hy
            subst hy
            exact hv
        · rintro T1 L1 acc Dl ⟨m1, ⟨P2, rfl⟩, h2, h3⟩
          repeat walk_at "oc"
          rename_i h x dx
          refine go_init (a := Dl) (cells := acc) fun c => ?_
          repeat walk_at "oc"
          refine' go_setL (k := 0) (by exact ixN_nat (by rw [List.length_append]; exact Nat.succ_pos _)) rfl ?_
          repeat walk_at "oc"
          rename_i a
          exact Go.ent (world_close (k a P2 T1 ⟨x, dx, c, h, 0, .non, acc⟩ m1 ⟨.inl rfl, h2⟩ (by show acc.length ≤ 10; omega)))

theorem sc_law_stands : FnScope ["pool", "world", "disk", "held", "told", "index", "due"] ["pool", "world"] (defScope s_law_stands) := ⟨rfl, rfl, rfl, by decide +kernel, rfl, by decide +kernel, by decide +kernel⟩
theorem d_stands {dvs : List V} (tx : Tx K mg "_law_stands" "_law_stands" s_law_stands ["pool", "world"] dvs) [T : Txt K mg CD CO CS CI] (D_law_draw : FnD P w K mg base "_law_draw" 1 ["pool", "size"] [] spDraw) (D_law_same : FnD P w K mg base "_law_same" 4 ["told", "due"] [] (spSame 3)) (M_Disk_len : MeD P w K mg base CD "__len__" 1 ["self"] [] (spLen CD)) (P_all : PrD P w K mg base CD "allowance" 1 (spAll CD)) (M_Disk_read_cell : MeD P w K mg base CD "read_cell" 1 ["self", "index"] [] (spRead CD)) : FnD P w K mg base "_law_stands" 6 ["pool", "world"] dvs (spStands CD) := by
  obtain ⟨f, fd, ds, F, hm, hb, hd⟩ := tx.ex
  refine ⟨f, fd, ds, okN F sc_law_stands (fun vs H Q E h => ?_) (fun cdv A outer s H vs Q E hr tk hp h => ?_), hm, F.kp, hb, hd⟩
  · obtain ⟨p, a, P0, W, T', R, rfl, ok, hz, hs, ht, k⟩ := h
    rfl
  · obtain ⟨p, a, P0, W, T', R, rfl, ok, hz, hs, ht, k⟩ := h
    have nd := sc_law_stands.nd
    refine ⟨_, (pss_cons (ps_set (i := 2) nd rfl (Or.inl rfl) (pe_ix (ixSeqK (K := K)) (pv 1) pe_int (fun _ _ => rfl)))
  (pss_cons (ps_set (i := 3) nd rfl (Or.inl rfl) (pe_ix (ixSeqK (K := K)) (pv 1) pe_int (fun _ _ => rfl)))
  (pss_cons (ps_set (i := 4) nd rfl (Or.inl rfl) (pe_lst (pa_cons (pe_callB (call_lenO M_Disk_len (hr.mono (by decide))) (by rfl) T.n_len (by decide +kernel) (pa_cons (pv 2) pa_nil)) (pa_cons (pe_fldK (K := K) (pv 2)) (pa_cons (pe_prD (pv 2) T.cDisk P_all (hr.mono (by decide))) pa_nil)))))
  (pss_cons (ps_if (pt_not (pt_val (pe_clD D_law_same (hr.mono (by decide)) rfl (fun σ => L2N.passAt tk σ) (pa_cons (pv 4) (pa_cons (pe_lst (pa_cons (pe_callB (callLenK (K := K)) (by rfl) T.n_len (by decide +kernel) (pa_cons (pv 3) pa_nil)) (pa_cons (pe_ix (ixSeqK (K := K)) (pv 1) pe_int (fun _ _ => rfl)) (pa_cons (pe_ix (ixSeqK (K := K)) (pv 1) pe_int (fun _ _ => rfl)) pa_nil)))) pa_nil))))) (pss_one (ps_ret pe_bl)) pss_nil)
  (pss_cons (ps_set (i := 5) nd rfl (Or.inl rfl) (pe_clD D_law_draw (hr.mono (by decide)) rfl (fun σ => L2N.passAt tk σ) (pa_cons (pv 0) (pa_cons (pe_op opAdd (pe_callB (callLenK (K := K)) (by rfl) T.n_len (by decide +kernel) (pa_cons (pv 3) pa_nil)) pe_int) pa_nil))))
  (pss_cons (ps_set (i := 6) nd rfl (Or.inl rfl) (pe_ifExp (pt_cmpR op_lt (pv 5) (pe_callB (callLenK (K := K)) (by rfl) T.n_len (by decide +kernel) (pa_cons (pv 3) pa_nil)) (nomark _)) (pe_ix (ixSeqK (K := K)) (pv 3) (pv 5) (fun _ _ => rfl)) pe_non))
  (pss_cons (ps_if (pt_not (pt_val (pe_clD D_law_same (hr.mono (by decide)) rfl (fun σ => L2N.passAt tk σ) (pa_cons (pe_meD (pv 2) T.cDisk M_Disk_read_cell (hr.mono (by decide)) (fun σ => L2N.passAt tk σ) (pa_cons (pv 5) pa_nil)) (pa_cons (pv 6) pa_nil))))) (pss_one (ps_ret pe_bl)) pss_nil)
  (pss_one (ps_ret (pe_cmpR opIsN (pe_meD (pv 2) T.cDisk M_Disk_read_cell (hr.mono (by decide)) (fun σ => L2N.passAt tk σ) (pa_cons (pe_op opAdd (pe_callB (callLenK (K := K)) (by rfl) T.n_len (by decide +kernel) (pa_cons (pv 3) pa_nil)) (pe_clD D_law_draw (hr.mono (by decide)) rfl (fun σ => L2N.passAt tk σ) (pa_cons (pv 0) (pa_cons (pe_op op_pow pe_int pe_int) pa_nil)))) pa_nil)) pe_non (nomark _))))))))))), ?_⟩
    refine go_start hs ht ?_
    try dsimp only [cxOf, WOf]
    rw [show L2.start _ _ = [some (.ref p), some (.ref a), none, none, none, none, none] from rfl]
    obtain ⟨dp, dx, c, h, w', l, cells⟩ := W
    refine world_open ?_
    obtain ⟨hl, hall⟩ := ok
    dsimp only at hl hall hz ⊢
    unfold diskL
    repeat walk_at "oc"
    refine go_lenO ?_
    refine go_dlen ?_
    refine go_lenE (n := cells.length) (by omega) ?_
    repeat walk_at "oc"
    refine go_prop0 ?_
    repeat walk_at "oc"
    refine go_prop ?_
    refine go_dall ?_
    repeat walk_at "oc"
    refine go_same (sm_lst (xs := [.int cells.length, .int w', l]) inferInstance inferInstance (by show 3 ≤ 100000; decide) fun x hx => ?_) ?_
    · rcases List.mem_cons.mp hx with rfl | hx
      · exact con_int
      rcases List.mem_cons.mp hx with rfl | hx
      · exact con_int
      · rw [List.mem_singleton.mp hx]
        exact con_opt hl
    repeat walk_at "oc"
    refine go_draw (by omega) (by omega) fun r P1 h0 h1 => ?_
    obtain ⟨n, rfl⟩ : ∃ n : Nat, r = n := ⟨r.toNat, by omega⟩
    repeat walk_at "oc"
    refine go_d (fun h2 => ?_) (fun h2 => ?_)
    · have hn : n < cells.length := by omega
      have e : cells[n]? = some cells[n] := List.getElem?_eq_getElem hn
      repeat walk_at "oc"
      refine go_sqL (atI_of e) ?_
      repeat walk_at "oc"
      refine go_dread ?_
      rw [e]
      repeat walk_at "oc"
      refine go_same (sm_con (hall _ (List.getElem_mem hn))) ?_
      repeat walk_at "oc"
      refine go_draw (by decide) (by decide) fun r2 P2 g0 g1 => ?_
      obtain ⟨m, rfl⟩ : ∃ m : Nat, r2 = m := ⟨r2.toNat, by omega⟩
      repeat walk_at "oc"
      rw [show (cells.length : Int) + (m : Int) = ((cells.length + m : Nat) : Int) by omega]
      refine go_dread ?_
      rw [show cells[cells.length + m]? = none from List.getElem?_eq_none (by omega)]
      repeat walk_at "oc"
      exact Go.ent (world_close (k P2))
    · have hn : ¬ n < cells.length := by omega
      have e : cells[n]? = none := List.getElem?_eq_none (by omega)
      repeat walk_at "oc"
      refine go_dread ?_
      rw [e]
      repeat walk_at "oc"
      refine go_same (sm_con (.inl (.inl rfl))) ?_
      repeat walk_at "oc"
      refine go_draw (by decide) (by decide) fun r2 P2 g0 g1 => ?_
      obtain ⟨m, rfl⟩ : ∃ m : Nat, r2 = m := ⟨r2.toNat, by omega⟩
      repeat walk_at "oc"
      rw [show (cells.length : Int) + (m : Int) = ((cells.length + m : Nat) : Int) by omega]
      refine go_dread ?_
      rw [show cells[cells.length + m]? = none from List.getElem?_eq_none (by omega)]
      repeat walk_at "oc"
      exact Go.ent (world_close (k P2))

end


theorem OkW.more {T T' : Tups} [m : Mo T T'] {W : Wd} (h : OkW T W) : OkW T' W := ⟨h.1, fun x hx => con_more (h.2 x hx)⟩
def spStopped (CD : Addr) : Sp := fun vs H Q E => ∃ (p a : Addr) (P : Pl) (W : Wd) (i : Nat) (v : V) (T : Tups) (R : List Chunk), vs = [.ref p, .ref a, .int i, v] ∧ OkW T W ∧ W.cells.length ≤ 90000 ∧ i < 100000 ∧ W.l = .int 0 ∧ Has H (worldC CD a W :: poolC p P :: R) ∧ HasT H T ∧ ∀ P' z, 0 < z → Go T (worldC CD a { W with l := .int z } :: poolC p P' :: R) (Q (.bl true))
theorem go_stopped {CD : Addr} {T : Tups} {L R1 R2 : List Chunk} {p a : Addr} {P : Pl} {W : Wd} {i : Nat} {v : V} {Q : VK} {E : XK} [q1 : Pull (worldC CD) L a W R1] [q2 : Pull poolC R1 p P R2] (ok : OkW T W) (hz : W.cells.length ≤ 90000) (hi : i < 100000) (hl : W.l = .int 0)
    (k : ∀ P' z, 0 < z → Go T (worldC CD a { W with l := .int z } :: poolC p P' :: R2) fun H => Q (.bl true) H) : Go T L fun H => spStopped CD [.ref p, .ref a, .int i, v] H Q E := fun H x t =>
  ⟨p, a, P, W, i, v, T, R2, rfl, ok, hz, hi, hl, x.pull2 (F := worldC CD) (G := poolC), t, k⟩
def dec1 : V → V
  | .int z => .int (z - 1)
  | x => x
theorem dec_opt {l : V} (h : l = .non ∨ ∃ z, l = .int z) : dec1 l = .non ∨ ∃ z, dec1 l = .int z := by
  rcases h with rfl | ⟨z, rfl⟩
  · exact .inl rfl
  · exact .inr ⟨_, rfl⟩
theorem go_written2 {T : Tups} {L R1 R2 : List Chunk} {Q : VK} {E : XK} {p dx c CD : Addr} {w : Int} {l : V} {cells : List V} {i : Nat} {v : V} [q1 : Pull pt L p (.ins CD dx (dfs w c l)) R1] [q2 : Pull pt R1 c (.lst cells) R2] (hl : l = .non ∨ ∃ z, l = .int z) (h0 : l ≠ .int 0) (hi : i < 100000) (hc : cells.length < 100000)
    (k : ∀ q, Go ((q, tupD) :: T) (diskL p dx c CD (w + 1) (dec1 l) (wr cells i v) R2) fun H => Q (.ref q) H) : Go T L fun H => spWritten CD [.ref p, .int i, v] H Q E :=
  go_written hl hi hc (fun e => absurd e h0) (fun e => by subst e; exact k) (fun z e _ => by subst e; exact k)
theorem wr_any {cells : List V} {i : Nat} {v : V} : (cells ++ List.replicate ((i : Int) + 1 - cells.length).toNat V.non).set i v = wr cells i v := by
  unfold wr
  rw [show ((i : Int) + 1 - cells.length).toNat = i + 1 - cells.length by omega]
theorem wr_len {cells : List V} {i : Nat} {v : V} : (wr cells i v).length = cells.length + (i + 1 - cells.length) := by
  unfold wr
  rw [List.length_set, List.length_append, List.length_replicate]
theorem wr_all {T : Tups} {cells : List V} {i : Nat} {v : V} (h : ∀ x ∈ cells, Con T x) (hv : Con T v) : ∀ x ∈ wr cells i v, Con T x := fun x hx => by
  unfold wr at hx
  rcases List.mem_or_eq_of_mem_set hx with hx | rfl
  · rcases List.mem_append.mp hx with hx | hx
    · exact h x hx
    · rw [(List.mem_replicate.mp hx).2]
      exact .inl (.inl rfl)
  · exact hv
theorem wr_get {cells : List V} {i : Nat} {v : V} : (wr cells i v)[i]? = some v := by
  unfold wr
  rw [List.getElem?_set_self (by rw [List.length_append, List.length_replicate]; omega)]
def spStep (CD : Addr) : Sp := fun vs H Q E => ∃ (p a : Addr) (P : Pl) (W : Wd) (T : Tups) (R : List Chunk), vs = [.ref p, .ref a] ∧ OkW T W ∧ W.cells.length ≤ 80000 ∧ Has H (worldC CD a W :: poolC p P :: R) ∧ HasT H T ∧ ∀ P' T' W', Mo T T' → OkW T' W' → W'.cells.length ≤ W.cells.length + 61 → Go T' (worldC CD a W' :: poolC p P' :: R) (Q (.bl true))
theorem go_step {CD : Addr} {T : Tups} {L R1 R2 : List Chunk} {p a : Addr} {P : Pl} {W : Wd} {Q : VK} {E : XK} [q1 : Pull (worldC CD) L a W R1] [q2 : Pull poolC R1 p P R2] (ok : OkW T W) (hz : W.cells.length ≤ 80000) (k : ∀ P' T' W', Mo T T' → OkW T' W' → W'.cells.length ≤ W.cells.length + 61 → Go T' (worldC CD a W' :: poolC p P' :: R2) fun H => Q (.bl true) H) : Go T L fun H => spStep CD [.ref p, .ref a] H Q E := fun H x t =>
  ⟨p, a, P, W, T, R2, rfl, ok, hz, x.pull2 (F := worldC CD) (G := poolC), t, k⟩
section
variable {P : Program} {w : World} {K : PySem.W.Frag} {mg : Str → Option Value} {base : Heap} {CD CO CS CI : Addr}
theorem sc_law_stopped : FnScope ["pool", "world", "index", "content", "k", "told"] ["pool", "world", "index", "content"] (defScope s_law_stopped) := ⟨rfl, rfl, rfl, by decide +kernel, rfl, by decide +kernel, by decide +kernel⟩
theorem d_stopped {dvs : List V} (tx : Tx K mg "_law_stopped" "_law_stopped" s_law_stopped ["pool", "world", "index", "content"] dvs) [T : Txt K mg CD CO CS CI] (D_law_draw : FnD P w K mg base "_law_draw" 1 ["pool", "size"] [] spDraw) (D_law_same : FnD P w K mg base "_law_same" 4 ["told", "due"] [] (spSame 3)) (D_law_written : FnD P w K mg base "_law_written" 5 ["disk", "index", "content"] [] (spWritten CD)) (D_law_allowed : FnD P w K mg base "_law_allowed" 8 ["disk", "number"] [] (spAllowed CD)) (D_law_stands : FnD P w K mg base "_law_stands" 6 ["pool", "world"] [] (spStands CD)) : FnD P w K mg base "_law_stopped" 9 ["pool", "world", "index", "content"] dvs (spStopped CD) := by
  obtain ⟨f, fd, ds, F, hm, hb, hd⟩ := tx.ex
  refine ⟨f, fd, ds, okN F sc_law_stopped (fun vs H Q E h => ?_) (fun cdv A outer s H vs Q E hr tk hp h => ?_), hm, F.kp, hb, hd⟩
  · obtain ⟨p, a, P0, W, i, v, T', R, rfl, ok, hz, hi, hl, hs, ht, k⟩ := h
    rfl
  · obtain ⟨p, a, P0, W, i, v, T', R, rfl, ok, hz, hi, hl, hs, ht, k⟩ := h
    have nd := sc_law_stopped.nd
    refine ⟨_, (pss_cons (ps_for hp rfl (pi_range1 rfl T.n_range (pa_cons pe_int pa_nil)) (pg_name (i := 4) nd rfl (Or.inl rfl))
  (pss_cons (ps_set (i := 5) nd rfl (Or.inl rfl) (pe_clD D_law_written (hr.mono (by decide)) rfl (fun σ => L2N.passAt tk σ) (pa_cons (pe_ix (ixSeqK (K := K)) (pv 1) pe_int (fun _ _ => rfl)) (pa_cons (pv 2) (pa_cons (pv 3) pa_nil)))))
  (pss_one (ps_if (PW.pt (pw_or (pt_not (pt_val (pe_clD D_law_same (hr.mono (by decide)) rfl (fun σ => L2N.passAt tk σ) (pa_cons (pv 5) (pa_cons (pe_tup (pa_cons pe_str (pa_cons pe_str (pa_cons (pe_ix (ixSeqK (K := K)) (pv 1) pe_int (fun _ _ => rfl)) pa_nil)))) pa_nil))))) (pw_or1 (pt_not (pt_val (pe_clD D_law_stands (hr.mono (by decide)) rfl (fun σ => L2N.passAt tk σ) (pa_cons (pv 0) (pa_cons (pv 1) pa_nil)))))))) (pss_one (ps_ret pe_bl)) pss_nil))))
  (pss_cons (ps_asg (pe_op opAdd pe_int (pe_clD D_law_draw (hr.mono (by decide)) rfl (fun σ => L2N.passAt tk σ) (pa_cons (pv 0) (pa_cons pe_int pa_nil)))) (pg_sub (pv 1) pe_int set_list))
  (pss_one (ps_ret (pe_clD D_law_same (hr.mono (by decide)) rfl (fun σ => L2N.passAt tk σ) (pa_cons (pe_clD D_law_allowed (hr.mono (by decide)) rfl (fun σ => L2N.passAt tk σ) (pa_cons (pe_ix (ixSeqK (K := K)) (pv 1) pe_int (fun _ _ => rfl)) (pa_cons (pe_ix (ixSeqK (K := K)) (pv 1) pe_int (fun _ _ => rfl)) pa_nil))) (pa_cons (pe_tup (pa_cons pe_str pa_nil)) pa_nil))))))), ?_⟩
    refine go_start hs ht ?_
    try dsimp only [cxOf, WOf]
    rw [show L2.start _ _ = [some (.ref p), some (.ref a), some (.int i), some v, none, none] from rfl]
    obtain ⟨dp, dx, c, h, w', l, cells⟩ := W
    have hl : l = .int 0 := hl
    subst hl
    dsimp only at hz
    repeat walk_at "oc"
    refine go_range (fun j σ1 T1 L1 => Mo T' T1 ∧ ∃ P1 v4 v5, L1 = worldC CD a ⟨dp, dx, c, h, w', .int 0, cells⟩ :: poolC p P1 :: R ∧ σ1 = [some (.ref p), some (.ref a), some (.int i), some v, v4, v5]) ⟨inferInstance, P0, none, none, rfl, rfl⟩ ?_ ?_
    · rintro j σ1 T1 L1 hj ⟨m1, P1, v4, v5, rfl, rfl⟩
      refine world_open ?_
      dsimp only
      unfold diskL
      repeat walk_at "oc"
      refine go_written (.inr ⟨0, rfl⟩) hi (by omega) (fun _ q => ?_) (fun e => by cases e) (fun z e hz => by cases e; exact absurd rfl hz)
      repeat walk_at "oc"
      rename_i q2
      refine go_same (sm_tup (xs := tupS (.int w')) ⟨.tail _ (.head _)⟩ ⟨.head _⟩ (by show 3 ≤ 100000; decide) fun x hx => ?_) ?_
      · rcases List.mem_cons.mp hx with rfl | hx
        · exact .inr (.inr (.inr ⟨_, rfl⟩))
        rcases List.mem_cons.mp hx with rfl | hx
        · exact .inr (.inr (.inr ⟨_, rfl⟩))
        · rw [List.mem_singleton.mp hx]
          exact .inr (.inr (.inl ⟨_, rfl⟩))
      repeat walk_at "oc"
      refine Go.ent (world_close (CD := CD) (a := a) (p := dp) (dx := dx) (c := c) (h := h) (w := w') (l := .int 0) (cells := cells) (R := poolC p P1 :: R) ?_)
      refine go_stands ok.more hz fun P2 => ?_
      repeat walk_at "oc"
      dsimp only
      exact go_at ⟨inferInstance, P2, _, _, rfl, rfl⟩
    · rintro σ1 T1 L1 ⟨m1, P1, v4, v5, rfl, rfl⟩
      refine world_open ?_
      dsimp only
      unfold diskL
      repeat walk_at "oc"
      refine go_draw (by decide) (by decide) fun r P2 h0 h1 => ?_
      repeat walk_at "oc"
      refine go_allowed (.inr ⟨_, rfl⟩) (fun z e hz => by cases e; omega) (fun _ q => ?_)
      repeat walk_at "oc"
      refine go_same (sm_tup (xs := tupD) ⟨.tail _ (.head _)⟩ ⟨.head _⟩ (by show 1 ≤ 100000; decide) fun x hx => ?_) ?_
      · rw [List.mem_singleton.mp hx]
        exact .inr (.inr (.inr ⟨_, rfl⟩))
      exact Go.entT (world_close (k P2 (1 + r) (by omega)))

end


section
variable {P : Program} {w : World} {K : PySem.W.Frag} {mg : Str → Option Value} {base : Heap} {CD CO CS CI : Addr}
theorem sc_law_write_step : FnScope ["pool", "world", "held", "index", "content", "k"] ["pool", "world"] (defScope s_law_write_step) := ⟨rfl, rfl, rfl, by decide +kernel, rfl, by decide +kernel, by decide +kernel⟩
theorem d_write_step {dvs : List V} (tx : Tx K mg "_law_write_step" "_law_write_step" s_law_write_step ["pool", "world"] dvs) [T : Txt K mg CD CO CS CI] (D_law_draw : FnD P w K mg base "_law_draw" 1 ["pool", "size"] [] spDraw) (D_law_same : FnD P w K mg base "_law_same" 4 ["told", "due"] [] (spSame 3)) (D_law_content : FnD P w K mg base "_law_content" 4 ["pool"] [] spContent) (D_law_written : FnD P w K mg base "_law_written" 5 ["disk", "index", "content"] [] (spWritten CD)) (D_law_stopped : FnD P w K mg base "_law_stopped" 9 ["pool", "world", "index", "content"] [] (spStopped CD)) (M_Disk_read_cell : MeD P w K mg base CD "read_cell" 1 ["self", "index"] [] (spRead CD)) : FnD P w K mg base "_law_write_step" 10 ["pool", "world"] dvs (spStep CD) := by
  obtain ⟨f, fd, ds, F, hm, hb, hd⟩ := tx.ex
  refine ⟨f, fd, ds, okN F sc_law_write_step (fun vs H Q E h => ?_) (fun cdv A outer s H vs Q E hr tk hp h => ?_), hm, F.kp, hb, hd⟩
  · obtain ⟨p, a, P0, W, T', R, rfl, ok, hz, hs, ht, k⟩ := h
    rfl
  · obtain ⟨p, a, P0, W, T', R, rfl, ok, hz, hs, ht, k⟩ := h
    have nd := sc_law_write_step.nd
    refine ⟨_, (pss_cons (ps_set (i := 2) nd rfl (Or.inl rfl) (pe_ix (ixSeqK (K := K)) (pv 1) pe_int (fun _ _ => rfl)))
  (pss_cons (ps_set (i := 3) nd rfl (Or.inl rfl) (pe_clD D_law_draw (hr.mono (by decide)) rfl (fun σ => L2N.passAt tk σ) (pa_cons (pv 0) (pa_cons (pe_op opAdd (pe_callB (callLenK (K := K)) (by rfl) T.n_len (by decide +kernel) (pa_cons (pv 2) pa_nil)) pe_int) pa_nil))))
  (Evl.pss_cut (ps_if (pt_cmpR (opEqK (K := K) hr.units) (pe_clD D_law_draw (hr.mono (by decide)) rfl (fun σ => L2N.passAt tk σ) (pa_cons (pv 0) (pa_cons pe_int pa_nil))) pe_int (nomark _)) (pss_one (ps_set (i := 3) nd rfl (Or.inl rfl) (pe_op opAdd (pe_callB (callLenK (K := K)) (by rfl) T.n_len (by decide +kernel) (pa_cons (pv 2) pa_nil)) (pe_clD D_law_draw (hr.mono (by decide)) rfl (fun σ => L2N.passAt tk σ) (pa_cons (pv 0) (pa_cons pe_int pa_nil)))))) pss_nil)
  (pss_cons (ps_set (i := 4) nd rfl (Or.inl rfl) (pe_clD D_law_content (hr.mono (by decide)) rfl (fun σ => L2N.passAt tk σ) (pa_cons (pv 0) pa_nil)))
  (Evl.pss_cut (ps_if (PW.pt (pw_and (pt_cmpR op_lt (pv 3) (pe_callB (callLenK (K := K)) (by rfl) T.n_len (by decide +kernel) (pa_cons (pv 2) pa_nil)) (nomark _)) (pw_and1 (pt_cmpR (opEqK (K := K) hr.units) (pe_clD D_law_draw (hr.mono (by decide)) rfl (fun σ => L2N.passAt tk σ) (pa_cons (pv 0) (pa_cons pe_int pa_nil))) pe_int (nomark _))))) (pss_one (ps_set (i := 4) nd rfl (Or.inl rfl) (pe_ix (ixSeqK (K := K)) (pv 2) (pv 3) (fun _ _ => rfl)))) pss_nil)
  (Evl.pss_cut (ps_if (pt_cmpR (opEqK (K := K) hr.units) (pe_ix (ixSeqK (K := K)) (pv 1) pe_int (fun _ _ => rfl)) pe_int (nomark _)) (pss_one (ps_if (pt_not (pt_val (pe_clD D_law_stopped (hr.mono (by decide)) rfl (fun σ => L2N.passAt tk σ) (pa_cons (pv 0) (pa_cons (pv 1) (pa_cons (pv 3) (pa_cons (pv 4) pa_nil))))))) (pss_one (ps_ret pe_bl)) pss_nil)) pss_nil)
  (pss_cons (ps_for hp rfl (pi_range1 rfl T.n_range (pa_cons (pe_op op_sub (pe_op opAdd (pv 3) pe_int) (pe_callB (callLenK (K := K)) (by rfl) T.n_len (by decide +kernel) (pa_cons (pv 2) pa_nil))) pa_nil)) (pg_name (i := 5) nd rfl (Or.inl rfl))
  (pss_one (ps_expr (pe_bm PySem.F.plainAttrs_list PySem.F.slot_list_append PySem.F.type_list_append mt_append (pv 2) (pa_cons pe_non pa_nil)))))
  (pss_cons (ps_asg (pv 4) (pg_sub (pv 2) (pv 3) set_list))
  (pss_cons (ps_asg (pe_op opAdd (pe_ix (ixSeqK (K := K)) (pv 1) pe_int (fun _ _ => rfl)) pe_int) (pg_sub (pv 1) pe_int set_list))
  (Evl.pss_cut (ps_if (pt_cmpR opNotN (pe_ix (ixSeqK (K := K)) (pv 1) pe_int (fun _ _ => rfl)) pe_non (nomark _)) (pss_one (ps_asg (pe_op op_sub (pe_ix (ixSeqK (K := K)) (pv 1) pe_int (fun _ _ => rfl)) pe_int) (pg_sub (pv 1) pe_int set_list))) pss_nil)
  (pss_cons (ps_if (pt_not (pt_val (pe_clD D_law_same (hr.mono (by decide)) rfl (fun σ => L2N.passAt tk σ) (pa_cons (pe_clD D_law_written (hr.mono (by decide)) rfl (fun σ => L2N.passAt tk σ) (pa_cons (pe_ix (ixSeqK (K := K)) (pv 1) pe_int (fun _ _ => rfl)) (pa_cons (pv 3) (pa_cons (pv 4) pa_nil)))) (pa_cons (pe_tup (pa_cons pe_str pa_nil)) pa_nil))))) (pss_one (ps_ret pe_bl)) pss_nil)
  (pss_one (ps_ret (pe_clD D_law_same (hr.mono (by decide)) rfl (fun σ => L2N.passAt tk σ) (pa_cons (pe_meD (pe_ix (ixSeqK (K := K)) (pv 1) pe_int (fun _ _ => rfl)) T.cDisk M_Disk_read_cell (hr.mono (by decide)) (fun σ => L2N.passAt tk σ) (pa_cons (pv 3) pa_nil)) (pa_cons (pv 4) pa_nil)))))))))))))))), ?_⟩
    refine go_start hs ht ?_
    try dsimp only [cxOf, WOf]
    rw [show L2.start _ _ = [some (.ref p), some (.ref a), none, none, none, none] from rfl]
    obtain ⟨dp, dx, c, h, w', l, cells⟩ := W
    obtain ⟨hl, hall⟩ := ok
    dsimp only at hl hall hz k ⊢
    refine world_open ?_
    dsimp only
    unfold diskL
    repeat walk_at "oc"
    refine go_draw (by omega) (by omega) fun r P1 h0 h1 => ?_
    repeat walk_at "oc"
    refine go_cut (fun σ1 T1 L1 => T1 = T' ∧ ∃ (n : Nat) (P2 : Pl), n ≤ cells.length + 60 ∧ σ1 = [some (.ref p), some (.ref a), some (.ref h), some (.int n), none, none] ∧ L1 = worldC CD a ⟨dp, dx, c, h, w', l, cells⟩ :: poolC p P2 :: R) ?_ ?_
    · repeat walk_at "oc"
      refine go_draw (by decide) (by decide) fun r2 P2 h2 h3 => ?_
      repeat walk_at "oc"
      refine go_d (fun h4 => ?_) (fun h4 => ?_)
      · repeat walk_at "oc"
        refine go_draw (by decide) (by decide) fun r3 P3 h5 h6 => ?_
        repeat walk_at "oc"
        dsimp only
        refine Go.ent (world_close (CD := CD) (a := a) (p := dp) (dx := dx) (c := c) (h := h) (w := w') (l := l) (cells := cells) (R := poolC p P3 :: R) ?_)
        refine go_at ⟨rfl, cells.length + r3.toNat, P3, by omega, ?_, rfl⟩
        rw [show (((cells.length + r3.toNat : Nat)) : Int) = (cells.length : Int) + r3 by omega]
      · repeat walk_at "oc"
        dsimp only
        refine Go.ent (world_close (CD := CD) (a := a) (p := dp) (dx := dx) (c := c) (h := h) (w := w') (l := l) (cells := cells) (R := poolC p P2 :: R) ?_)
        refine go_at ⟨rfl, r.toNat, P2, by omega, ?_, rfl⟩
        rw [show ((r.toNat : Nat) : Int) = r by omega]
    · rintro σ1 T1 L1 ⟨rfl, n, P2, hn, rfl, rfl⟩
      refine world_open ?_
      dsimp only
      unfold diskL
      repeat walk_at "oc"
      refine go_content fun v P3 T3 m3 hv => ?_
      repeat walk_at "oc"
      refine go_cut (fun σ1 T2 L1 => T2 = T3 ∧ ∃ (v : V) (P4 : Pl), Con T3 v ∧ σ1 = [some (.ref p), some (.ref a), some (.ref h), some (.int n), some v, none] ∧ L1 = worldC CD a ⟨dp, dx, c, h, w', l, cells⟩ :: poolC p P4 :: R) ?_ ?_
      · repeat walk_at "oc"
        refine go_d (fun h4 => ?_) (fun h4 => ?_)
        · repeat walk_at "oc"
          refine go_draw (by decide) (by decide) fun r4 P4 h5 h6 => ?_
          repeat walk_at "oc"
          have hlt : n < cells.length := by omega
          refine go_d (fun h7 => ?_) (fun h7 => ?_)
          · repeat walk_at "oc"
            refine go_sqL (atI_of (List.getElem?_eq_getElem hlt)) ?_
            repeat walk_at "oc"
            dsimp only
            refine Go.ent (world_close (CD := CD) (a := a) (p := dp) (dx := dx) (c := c) (h := h) (w := w') (l := l) (cells := cells) (R := poolC p P4 :: R) ?_)
            exact go_at ⟨rfl, _, P4, con_more (hall _ (List.getElem_mem hlt)), rfl, rfl⟩
          · repeat walk_at "oc"
            dsimp only
            refine Go.ent (world_close (CD := CD) (a := a) (p := dp) (dx := dx) (c := c) (h := h) (w := w') (l := l) (cells := cells) (R := poolC p P4 :: R) ?_)
            exact go_at ⟨rfl, _, P4, hv, rfl, rfl⟩
        · repeat walk_at "oc"
          dsimp only
          refine Go.ent (world_close (CD := CD) (a := a) (p := dp) (dx := dx) (c := c) (h := h) (w := w') (l := l) (cells := cells) (R := poolC p P3 :: R) ?_)
          exact go_at ⟨rfl, _, P3, hv, rfl, rfl⟩
      · rintro σ1 T1 L1 ⟨rfl, v, P4, hv, rfl, rfl⟩
        refine world_open ?_
        dsimp only
        unfold diskL
        refine go_cut (fun σ1 T2 L1 => T2 = T1 ∧ ∃ (l2 : V) (P4 : Pl), (l2 = .non ∨ ∃ z, l2 = .int z) ∧ l2 ≠ .int 0 ∧ σ1 = [some (.ref p), some (.ref a), some (.ref h), some (.int n), some v, none] ∧ L1 = worldC CD a ⟨dp, dx, c, h, w', l2, cells⟩ :: poolC p P4 :: R) ?_ ?_
        · rcases hl with rfl | ⟨z, rfl⟩
          · repeat walk_at "oc"
            dsimp only
            refine Go.ent (world_close (CD := CD) (a := a) (p := dp) (dx := dx) (c := c) (h := h) (w := w') (l := .non) (cells := cells) (R := poolC p P4 :: R) ?_)
            exact go_at ⟨rfl, _, P4, .inl rfl, (fun e => by cases e), rfl, rfl⟩
          · repeat walk_at "oc"
            refine go_d (fun h7 => ?_) (fun h7 => ?_)
            · subst h7
              repeat walk_at "oc"
              refine Go.ent (world_close (CD := CD) (a := a) (p := dp) (dx := dx) (c := c) (h := h) (w := w') (l := .int 0) (cells := cells) (R := poolC p P4 :: R) ?_)
              refine go_stopped ⟨.inr ⟨0, rfl⟩, fun x hx => con_more (hall x hx)⟩ (by show cells.length ≤ 90000; omega) (by omega) rfl fun P5 z hz => ?_
              repeat walk_at "oc"
              dsimp only
              exact go_at ⟨rfl, _, P5, .inr ⟨z, rfl⟩, (fun e => by cases e; omega), rfl, rfl⟩
            · repeat walk_at "oc"
              dsimp only
              refine Go.ent (world_close (CD := CD) (a := a) (p := dp) (dx := dx) (c := c) (h := h) (w := w') (l := .int z) (cells := cells) (R := poolC p P4 :: R) ?_)
              exact go_at ⟨rfl, _, P4, .inr ⟨z, rfl⟩, (fun e => by cases e; exact h7 rfl), rfl, rfl⟩
        · rintro σ1 T2 L1 ⟨rfl, l2, P5, hl2, h02, rfl, rfl⟩
          refine world_open ?_
          dsimp only
          unfold diskL
          repeat walk_at "oc"
          refine Go.ent (L' := pt h (.lst cells) :: pt a (HO.lst [V.ref dp, V.ref h, V.int w', l2]) :: pt dp (HO.ins CD dx (dfs w' c l2)) :: pt c (HO.lst cells) :: poolC p P5 :: R) ?_
          refine go_range (fun j σ1 T3 L1 => T3 = T2 ∧ ∃ v5, σ1 = [some (.ref p), some (.ref a), some (.ref h), some (.int n), some v, v5] ∧ L1 = pt h (.lst (cells ++ List.replicate j V.non)) :: pt a (HO.lst [V.ref dp, V.ref h, V.int w', l2]) :: pt dp (HO.ins CD dx (dfs w' c l2)) :: pt c (HO.lst cells) :: poolC p P5 :: R) ⟨rfl, none, rfl, ?_⟩ ?_ ?_
          · rw [List.replicate_zero, List.append_nil]
          · rintro j σ1 T3 L1 hj ⟨rfl, v5, rfl, rfl⟩
            repeat walk_at "oc"
            dsimp only
            rw [List.append_assoc, show List.replicate j V.non ++ [V.non] = List.replicate (j + 1) V.non from List.replicate_succ'.symm]
            exact go_at ⟨rfl, _, rfl, rfl⟩
          · rintro σ1 T3 L1 ⟨rfl, v5, rfl, rfl⟩
            repeat walk_at "oc"
            refine' go_setL (k := n) (by exact ixN_nat (by rw [List.length_append, List.length_replicate]; omega)) (by exact wr_any) ?_
            repeat walk_at "oc"
            refine go_cut (fun σ1 T2 L1 => T2 = T3 ∧ σ1 = [some (.ref p), some (.ref a), some (.ref h), some (.int n), some v, v5] ∧ L1 = pt a (HO.lst [V.ref dp, V.ref h, V.int (w' + 1), dec1 l2]) :: pt h (HO.lst (wr cells n v)) :: pt dp (HO.ins CD dx (dfs w' c l2)) :: pt c (HO.lst cells) :: poolC p P5 :: R) ?_ ?_
            · rcases hl2 with rfl | ⟨z, rfl⟩
              · repeat walk_at "oc"
                dsimp only
                exact go_at ⟨rfl, rfl, rfl⟩
              · repeat walk_at "oc"
                dsimp only
                exact go_at ⟨rfl, rfl, rfl⟩
            · rintro σ1 T4 L1 ⟨rfl, rfl, rfl⟩
              repeat walk_at "oc"
              refine go_written2 hl2 h02 (by omega) (by omega) fun q => ?_
              repeat walk_at "oc"
              refine go_same (sm_tup (xs := tupD) ⟨.tail _ (.head _)⟩ ⟨.head _⟩ (by show 1 ≤ 100000; decide) fun x hx => ?_) ?_
              · rw [List.mem_singleton.mp hx]
                exact .inr (.inr (.inr ⟨_, rfl⟩))
              repeat walk_at "oc"
              refine go_dread ?_
              rw [wr_get]
              repeat walk_at "oc"
              refine go_same (sm_con (con_more hv)) ?_
              exact Go.entT (world_close (k P5 T4 ⟨dp, dx, c, h, w' + 1, dec1 l2, wr cells n v⟩ m3 ⟨dec_opt hl2, wr_all (fun x hx => con_more (hall x hx)) hv⟩ (by show (wr cells n v).length ≤ cells.length + 61; rw [wr_len]; omega)))

end


def spWhole (CD : Addr) : Sp := fun vs H Q E => ∃ (a : Addr) (W : Wd) (T : Tups) (R : List Chunk), vs = [.ref a] ∧ OkW T W ∧ W.cells.length ≤ 90000 ∧ Has H (worldC CD a W :: R) ∧ HasT H T ∧ Go T (worldC CD a W :: R) (Q (.bl true))
theorem go_whole {CD : Addr} {T : Tups} {L R : List Chunk} {a : Addr} {W : Wd} {Q : VK} {E : XK} [q1 : Pull (worldC CD) L a W R] (ok : OkW T W) (hz : W.cells.length ≤ 90000) (k : Go T (worldC CD a W :: R) fun H => Q (.bl true) H) : Go T L fun H => spWhole CD [.ref a] H Q E := fun H x t =>
  ⟨a, W, T, R, rfl, ok, hz, x.pull (F := worldC CD), t, k⟩
def spAlStep (CD : Addr) : Sp := fun vs H Q E => ∃ (p a : Addr) (P : Pl) (W : Wd) (T : Tups) (R : List Chunk), vs = [.ref p, .ref a] ∧ OkW T W ∧ Has H (worldC CD a W :: poolC p P :: R) ∧ HasT H T ∧ ∀ P' W', OkW T W' → W'.cells.length = W.cells.length → Go T (worldC CD a W' :: poolC p P' :: R) (Q (.bl true))
theorem go_alstep {CD : Addr} {T : Tups} {L R1 R2 : List Chunk} {p a : Addr} {P : Pl} {W : Wd} {Q : VK} {E : XK} [q1 : Pull (worldC CD) L a W R1] [q2 : Pull poolC R1 p P R2] (ok : OkW T W) (k : ∀ P' W', OkW T W' → W'.cells.length = W.cells.length → Go T (worldC CD a W' :: poolC p P' :: R2) fun H => Q (.bl true) H) : Go T L fun H => spAlStep CD [.ref p, .ref a] H Q E := fun H x t =>
  ⟨p, a, P, W, T, R2, rfl, ok, x.pull2 (F := worldC CD) (G := poolC), t, k⟩
theorem pow20 {r z : Int} (h : 0 ≤ r) (e : V.int (10 ^ Int.toNat 20 + r) = .int z) (hz : z < 0) : False := by
  cases e
  have : (0 : Int) ≤ 10 ^ Int.toNat 20 := by decide
  omega
theorem one_str {s : Str} : ∀ x ∈ [V.str s], Sc x := fun x hx => by
  rw [List.mem_singleton.mp hx]
  exact .inr (.inr (.inr ⟨_, rfl⟩))
section
variable {P : Program} {w : World} {K : PySem.W.Frag} {mg : Str → Option Value} {base : Heap} {CD CO CS CI : Addr}
theorem sc_law_allow_step : FnScope ["pool", "world", "pick", "number"] ["pool", "world"] (defScope s_law_allow_step) := ⟨rfl, rfl, rfl, by decide +kernel, rfl, by decide +kernel, by decide +kernel⟩
theorem d_allow_step {dvs : List V} (tx : Tx K mg "_law_allow_step" "_law_allow_step" s_law_allow_step ["pool", "world"] dvs) [T : Txt K mg CD CO CS CI] (D_law_draw : FnD P w K mg base "_law_draw" 1 ["pool", "size"] [] spDraw) (D_law_same : FnD P w K mg base "_law_same" 4 ["told", "due"] [] (spSame 3)) (D_law_allowed : FnD P w K mg base "_law_allowed" 8 ["disk", "number"] [] (spAllowed CD)) : FnD P w K mg base "_law_allow_step" 9 ["pool", "world"] dvs (spAlStep CD) := by
  obtain ⟨f, fd, ds, F, hm, hb, hd⟩ := tx.ex
  refine ⟨f, fd, ds, okN F sc_law_allow_step (fun vs H Q E h => ?_) (fun cdv A outer s H vs Q E hr tk hp h => ?_), hm, F.kp, hb, hd⟩
  · obtain ⟨p, a, P0, W, T', R, rfl, ok, hs, ht, k⟩ := h
    rfl
  · obtain ⟨p, a, P0, W, T', R, rfl, ok, hs, ht, k⟩ := h
    have nd := sc_law_allow_step.nd
    refine ⟨_, (pss_cons (ps_set (i := 2) nd rfl (Or.inl rfl) (pe_clD D_law_draw (hr.mono (by decide)) rfl (fun σ => L2N.passAt tk σ) (pa_cons (pv 0) (pa_cons pe_int pa_nil))))
  (pss_cons (ps_set (i := 3) nd rfl (Or.inl rfl) (pe_clD D_law_draw (hr.mono (by decide)) rfl (fun σ => L2N.passAt tk σ) (pa_cons (pv 0) (pa_cons pe_int pa_nil))))
  (pss_cons (ps_if (pt_cmpR (opEqK (K := K) hr.units) (pv 2) pe_int (nomark _)) (pss_one (ps_set (i := 3) nd rfl (Or.inl rfl) pe_non)) pss_nil)
  (pss_cons (ps_if (pt_cmpR (opEqK (K := K) hr.units) (pv 2) pe_int (nomark _)) (pss_one (ps_set (i := 3) nd rfl (Or.inl rfl) (pe_op opAdd (pe_op op_pow pe_int pe_int) (pe_clD D_law_draw (hr.mono (by decide)) rfl (fun σ => L2N.passAt tk σ) (pa_cons (pv 0) (pa_cons (pe_op op_pow pe_int pe_int) pa_nil)))))) pss_nil)
  (pss_cons (ps_if (pt_cmpR (opEqK (K := K) hr.units) (pv 2) pe_int (nomark _)) (pss_cons (ps_set (i := 3) nd rfl (Or.inl rfl) (pe_op op_sub (pe_un un_neg pe_int) (pv 3)))
  (pss_one (ps_ret (pe_clD D_law_same (hr.mono (by decide)) rfl (fun σ => L2N.passAt tk σ) (pa_cons (pe_clD D_law_allowed (hr.mono (by decide)) rfl (fun σ => L2N.passAt tk σ) (pa_cons (pe_ix (ixSeqK (K := K)) (pv 1) pe_int (fun _ _ => rfl)) (pa_cons (pv 3) pa_nil))) (pa_cons (pe_tup (pa_cons pe_str (pa_cons pe_str (pa_cons (pv 3) pa_nil)))) pa_nil)))))) pss_nil)
  (pss_cons (ps_asg (pv 3) (pg_sub (pv 1) pe_int set_list))
  (pss_one (ps_ret (pe_clD D_law_same (hr.mono (by decide)) rfl (fun σ => L2N.passAt tk σ) (pa_cons (pe_clD D_law_allowed (hr.mono (by decide)) rfl (fun σ => L2N.passAt tk σ) (pa_cons (pe_ix (ixSeqK (K := K)) (pv 1) pe_int (fun _ _ => rfl)) (pa_cons (pv 3) pa_nil))) (pa_cons (pe_tup (pa_cons pe_str pa_nil)) pa_nil))))))))))), ?_⟩
    refine go_start hs ht ?_
    try dsimp only [cxOf, WOf]
    rw [show L2.start _ _ = [some (.ref p), some (.ref a), none, none] from rfl]
    obtain ⟨dp, dx, c, h, w', l, cells⟩ := W
    obtain ⟨hl, hall⟩ := ok
    dsimp only at hl hall k ⊢
    refine world_open ?_
    dsimp only
    unfold diskL
    repeat walk_at "oc"
    refine go_draw (by decide) (by decide) fun r P1 h0 h1 => ?_
    repeat walk_at "oc"
    refine go_draw (by decide) (by decide) fun r2 P2 h2 h3 => ?_
    repeat walk_at "oc"
    have tail : ∀ (P3 : Pl) (l3 : V), (l3 = .non ∨ ∃ z, l3 = .int z) → Go T' (worldC CD a ⟨dp, dx, c, h, w', l3, cells⟩ :: poolC p P3 :: R) (Q (.bl true)) := fun P3 l3 h3 => k P3 _ ⟨h3, hall⟩ rfl
    refine go_d (fun e3 => ?_) (fun e3 => ?_)
    · repeat walk_at "oc"
      refine go_allowed (.inl rfl) (fun z e hz => by cases e) (fun _ q => ?_)
      repeat walk_at "oc"
      refine go_same (sm_tup (xs := tupD) ⟨.tail _ (.head _)⟩ ⟨.head _⟩ (by show 1 ≤ 100000; decide) one_str) ?_
      exact Go.entT (world_close (tail P2 _ (.inl rfl)))
    · repeat walk_at "oc"
      refine go_d (fun e2 => ?_) (fun e2 => ?_)
      · repeat walk_at "oc"
        refine go_draw (by decide) (by decide) fun r3 P3 h5 h6 => ?_
        repeat walk_at "oc"
        refine go_allowed (.inr ⟨_, rfl⟩) (fun z e hz => (pow20 h5 e hz).elim) (fun _ q => ?_)
        repeat walk_at "oc"
        refine go_same (sm_tup (xs := tupD) ⟨.tail _ (.head _)⟩ ⟨.head _⟩ (by show 1 ≤ 100000; decide) one_str) ?_
        exact Go.entT (world_close (tail P3 (.int (10 ^ Int.toNat 20 + r3)) (.inr ⟨_, rfl⟩)))
      · repeat walk_at "oc"
        refine go_d (fun e1 => ?_) (fun e1 => ?_)
        · repeat walk_at "oc"
          refine go_allowed (.inr ⟨_, rfl⟩) (fun z e hz q => ?_) (fun e => absurd (show -1 - r2 < 0 by omega) (e _ rfl))
          repeat walk_at "oc"
          refine go_same (sm_tup (xs := tupI (.int (-1 - r2))) ⟨.tail _ (.head _)⟩ ⟨.head _⟩ (by show 3 ≤ 100000; decide) fun x hx => ?_) ?_
          · rcases List.mem_cons.mp hx with rfl | hx
            · exact .inr (.inr (.inr ⟨_, rfl⟩))
            rcases List.mem_cons.mp hx with rfl | hx
            · exact .inr (.inr (.inr ⟨_, rfl⟩))
            · rw [List.mem_singleton.mp hx]
              exact .inr (.inr (.inl ⟨_, rfl⟩))
          exact Go.entT (world_close (tail P2 _ hl))
        · repeat walk_at "oc"
          refine go_allowed (.inr ⟨_, rfl⟩) (fun z e hz => by cases e; omega) (fun _ q => ?_)
          repeat walk_at "oc"
          refine go_same (sm_tup (xs := tupD) ⟨.tail _ (.head _)⟩ ⟨.head _⟩ (by show 1 ≤ 100000; decide) one_str) ?_
          exact Go.entT (world_close (tail P2 (.int r2) (.inr ⟨_, rfl⟩)))

theorem sc_law_whole : FnScope ["world", "told"] ["world"] (defScope s_law_whole) := ⟨rfl, rfl, rfl, by decide +kernel, rfl, by decide +kernel, by decide +kernel⟩
theorem d_whole {dvs : List V} (tx : Tx K mg "_law_whole" "_law_whole" s_law_whole ["world"] dvs) [T : Txt K mg CD CO CS CI] (D_law_same : FnD P w K mg base "_law_same" 4 ["told", "due"] [] (spSame 3)) (M_Disk_cells : MeD P w K mg base CD "cells" 1 ["self"] [] (spCells CD)) : FnD P w K mg base "_law_whole" 5 ["world"] dvs (spWhole CD) := by
  obtain ⟨f, fd, ds, F, hm, hb, hd⟩ := tx.ex
  refine ⟨f, fd, ds, okN F sc_law_whole (fun vs H Q E h => ?_) (fun cdv A outer s H vs Q E hr tk hp h => ?_), hm, F.kp, hb, hd⟩
  · obtain ⟨a, W, T', R, rfl, ok, hz, hs, ht, k⟩ := h
    rfl
  · obtain ⟨a, W, T', R, rfl, ok, hz, hs, ht, k⟩ := h
    have nd := sc_law_whole.nd
    refine ⟨_, (pss_cons (ps_set (i := 1) nd rfl (Or.inl rfl) (pe_meD0 (pe_ix (ixSeqK (K := K)) (pv 0) pe_int (fun _ _ => rfl)) T.cDisk M_Disk_cells (hr.mono (by decide)) (fun σ => L2N.passAt tk σ)))
  (pss_cons (ps_if (pt_not (pt_val (pe_clD D_law_same (hr.mono (by decide)) rfl (fun σ => L2N.passAt tk σ) (pa_cons (pv 1) (pa_cons (pe_ix (ixSeqK (K := K)) (pv 0) pe_int (fun _ _ => rfl)) pa_nil))))) (pss_one (ps_ret pe_bl)) pss_nil)
  (pss_cons (ps_expr (pe_bm PySem.F.plainAttrs_list PySem.F.slot_list_append PySem.F.type_list_append mt_append (pv 1) (pa_cons pe_str pa_nil)))
  (pss_cons (ps_asg pe_str (pg_sub (pv 1) pe_int set_list))
  (pss_one (ps_ret (pe_clD D_law_same (hr.mono (by decide)) rfl (fun σ => L2N.passAt tk σ) (pa_cons (pe_meD0 (pe_ix (ixSeqK (K := K)) (pv 0) pe_int (fun _ _ => rfl)) T.cDisk M_Disk_cells (hr.mono (by decide)) (fun σ => L2N.passAt tk σ)) (pa_cons (pe_ix (ixSeqK (K := K)) (pv 0) pe_int (fun _ _ => rfl)) pa_nil))))))))), ?_⟩
    refine go_start hs ht ?_
    try dsimp only [cxOf, WOf]
    rw [show L2.start _ _ = [some (.ref a), none] from rfl]
    obtain ⟨dp, dx, c, h, w', l, cells⟩ := W
    obtain ⟨hl, hall⟩ := ok
    dsimp only at hl hall hz
    refine world_open ?_
    dsimp only
    unfold diskL
    repeat walk_at "oc"
    refine go_dcells fun q => ?_
    repeat walk_at "oc"
    refine go_same (sm_lst (xs := cells) inferInstance inferInstance (by omega) hall) ?_
    repeat walk_at "oc"
    refine' go_setL (k := 0) (by exact ixN_nat (by rw [List.length_append]; exact Nat.succ_pos _)) rfl ?_
    repeat walk_at "oc"
    refine go_dcells fun q => ?_
    repeat walk_at "oc"
    refine go_same (sm_lst (xs := cells) inferInstance inferInstance (by omega) hall) ?_
    exact Go.ent (world_close k)

end


def spCopied (CD : Addr) : Sp := fun vs H Q E => ∃ (p a : Addr) (P : Pl) (W : Wd) (T : Tups) (R : List Chunk), vs = [.ref p, .ref a] ∧ OkW T W ∧ W.cells.length ≤ 70000 ∧ Has H (worldC CD a W :: poolC p P :: R) ∧ HasT H T ∧ ∀ P' T' W', Mo T T' → OkW T' W' → W'.cells.length ≤ W.cells.length + 61 → Go T' (worldC CD a W' :: poolC p P' :: R) (Q (.bl true))
theorem go_copied {CD : Addr} {T : Tups} {L R1 R2 : List Chunk} {p a : Addr} {P : Pl} {W : Wd} {Q : VK} {E : XK} [q1 : Pull (worldC CD) L a W R1] [q2 : Pull poolC R1 p P R2] (ok : OkW T W) (hz : W.cells.length ≤ 70000) (k : ∀ P' T' W', Mo T T' → OkW T' W' → W'.cells.length ≤ W.cells.length + 61 → Go T' (worldC CD a W' :: poolC p P' :: R2) fun H => Q (.bl true) H) : Go T L fun H => spCopied CD [.ref p, .ref a] H Q E := fun H x t =>
  ⟨p, a, P, W, T, R2, rfl, ok, hz, x.pull2 (F := worldC CD) (G := poolC), t, k⟩
theorem go_pool {T : Tups} {L : List Chunk} {K : PySem.W.Frag} {s : Addr} {ns : List Int} {Q : VK} {E : XK} (r : ∀ H, Has H L → SqL K H s (ns.map V.int)) (hz : ns.length ≤ 100000) (k : ∀ p P, Go T (poolC p P :: L) fun H => Q (.ref p) H) : Go T L fun H => spPool K [.ref s] H Q E := fun H x t => ⟨s, ns, T, L, rfl, r, hz, x, t, k⟩
def spLaw (K : PySem.W.Frag) : Sp := fun vs H Q E => ∃ (s : Addr) (ns : List Int) (T : Tups) (L : List Chunk), vs = [.ref s] ∧ (∀ H, Has H L → SqL K H s (ns.map V.int)) ∧ ns.length ≤ 100000 ∧ Has H L ∧ HasT H T ∧ ∀ H', Q (.bl true) H'
section
variable {P : Program} {w : World} {K : PySem.W.Frag} {mg : Str → Option Value} {base : Heap} {CD CO CS CI : Addr}
theorem sc_law_copied : FnScope ["pool", "world", "other"] ["pool", "world"] (defScope s_law_copied) := ⟨rfl, rfl, rfl, by decide +kernel, rfl, by decide +kernel, by decide +kernel⟩
theorem d_copied {dvs : List V} (tx : Tx K mg "_law_copied" "_law_copied" s_law_copied ["pool", "world"] dvs) [T : Txt K mg CD CO CS CI] (M_Disk : MkD P w K mg base CD "Disk" 1 ["self", "cells"] [] (spInit CD)) (M_Disk_cells : MeD P w K mg base CD "cells" 1 ["self"] [] (spCells CD)) (D_law_stands : FnD P w K mg base "_law_stands" 6 ["pool", "world"] [] (spStands CD)) (D_law_write_step : FnD P w K mg base "_law_write_step" 10 ["pool", "world"] [] (spStep CD)) (D_law_whole : FnD P w K mg base "_law_whole" 5 ["world"] [] (spWhole CD)) : FnD P w K mg base "_law_copied" 12 ["pool", "world"] dvs (spCopied CD) := by
  obtain ⟨f, fd, ds, F, hm, hb, hd⟩ := tx.ex
  refine ⟨f, fd, ds, okN F sc_law_copied (fun vs H Q E h => ?_) (fun cdv A outer s H vs Q E hr tk hp h => ?_), hm, F.kp, hb, hd⟩
  · obtain ⟨p, a, P0, W, T', R, rfl, ok, hz, hs, ht, k⟩ := h
    rfl
  · obtain ⟨p, a, P0, W, T', R, rfl, ok, hz, hs, ht, k⟩ := h
    have nd := sc_law_copied.nd
    refine ⟨_, (pss_cons (ps_set (i := 2) nd rfl (Or.inl rfl) (pe_lst (pa_cons (pe_mkD M_Disk (hr.mono (by decide)) rfl (fun σ => L2N.passAt tk σ) (pa_cons (pe_meD0 (pe_ix (ixSeqK (K := K)) (pv 1) pe_int (fun _ _ => rfl)) T.cDisk M_Disk_cells (hr.mono (by decide)) (fun σ => L2N.passAt tk σ)) pa_nil)) (pa_cons (pe_callTy (callListK (K := K)) (by rfl) T.n_list (by decide +kernel) (pa_cons (pe_ix (ixSeqK (K := K)) (pv 1) pe_int (fun _ _ => rfl)) pa_nil)) (pa_cons pe_int (pa_cons pe_non pa_nil))))))
  (pss_cons (ps_if (PW.pt (pw_or (pt_not (pt_val (pe_clD D_law_stands (hr.mono (by decide)) rfl (fun σ => L2N.passAt tk σ) (pa_cons (pv 0) (pa_cons (pv 2) pa_nil))))) (pw_or1 (pt_not (pt_val (pe_clD D_law_write_step (hr.mono (by decide)) rfl (fun σ => L2N.passAt tk σ) (pa_cons (pv 0) (pa_cons (pv 2) pa_nil)))))))) (pss_one (ps_ret pe_bl)) pss_nil)
  (pss_cons (ps_if (PW.pt (pw_or (pt_not (pt_val (pe_clD D_law_stands (hr.mono (by decide)) rfl (fun σ => L2N.passAt tk σ) (pa_cons (pv 0) (pa_cons (pv 2) pa_nil))))) (pw_or1 (pt_not (pt_val (pe_clD D_law_whole (hr.mono (by decide)) rfl (fun σ => L2N.passAt tk σ) (pa_cons (pv 2) pa_nil))))))) (pss_one (ps_ret pe_bl)) pss_nil)
  (pss_cons (ps_if (PW.pt (pw_or (pt_not (pt_val (pe_clD D_law_write_step (hr.mono (by decide)) rfl (fun σ => L2N.passAt tk σ) (pa_cons (pv 0) (pa_cons (pv 1) pa_nil))))) (pw_or1 (pt_not (pt_val (pe_clD D_law_whole (hr.mono (by decide)) rfl (fun σ => L2N.passAt tk σ) (pa_cons (pv 2) pa_nil))))))) (pss_one (ps_ret pe_bl)) pss_nil)
  (pss_one (ps_ret (pe_and (pe_clD D_law_stands (hr.mono (by decide)) rfl (fun σ => L2N.passAt tk σ) (pa_cons (pv 0) (pa_cons (pv 1) pa_nil))) (pe_one (pe_clD D_law_whole (hr.mono (by decide)) rfl (fun σ => L2N.passAt tk σ) (pa_cons (pv 1) pa_nil)))))))))), ?_⟩
    refine go_start hs ht ?_
    try dsimp only [cxOf, WOf]
    rw [show L2.start _ _ = [some (.ref p), some (.ref a), none] from rfl]
    obtain ⟨dp, dx, c, h, w', l, cells⟩ := W
    have ok2 := ok
    obtain ⟨hl, hall⟩ := ok2
    dsimp only at hl hall k hz ⊢
    refine world_open ?_
    dsimp only
    unfold diskL
    repeat walk_at "oc"
    refine go_dcells fun q => ?_
    repeat walk_at "oc"
    rename_i dp2 dx2
    refine go_init (a := q) (cells := cells) fun c2 => ?_
    repeat walk_at "oc"
    rename_i h2 b
    refine Go.ent (world_close (CD := CD) (a := b) (p := dp2) (dx := dx2) (c := c2) (h := h2) (w := 0) (l := .non) (cells := cells) (R := pt a (.lst [.ref dp, .ref h, .int w', l]) :: diskL dp dx c CD w' l cells (pt h (.lst cells) :: poolC p P0 :: R)) ?_)
    refine Go.ent (L' := pt a (.lst [.ref dp, .ref h, .int w', l]) :: diskL dp dx c CD w' l cells (pt h (.lst cells) :: worldC CD b ⟨dp2, dx2, c2, h2, 0, .non, cells⟩ :: poolC p P0 :: R)) ?_
    refine world_close ?_
    refine go_stands ⟨.inl rfl, hall⟩ (by show cells.length ≤ 90000; omega) fun P1 => ?_
    repeat walk_at "oc"
    refine go_step ⟨.inl rfl, hall⟩ (by show cells.length ≤ 80000; omega) fun P2 T2 W2 m2 ok2 hz2 => ?_
    dsimp only at hz2
    repeat walk_at "oc"
    refine go_stands ok2 (by omega) fun P3 => ?_
    repeat walk_at "oc"
    refine go_whole ok2 (by omega) ?_
    repeat walk_at "oc"
    refine go_step ok.more (by show cells.length ≤ 80000; omega) fun P4 T4 W4 m4 ok4 hz4 => ?_
    dsimp only at hz4
    repeat walk_at "oc"
    refine go_whole ok2.more (by omega) ?_
    repeat walk_at "oc"
    refine go_stands ok4 (by omega) fun P5 => ?_
    repeat walk_at "oc"
    refine go_whole ok4 (by omega) ?_
    exact Go.ent (k P5 T4 W4 (m2.trans m4) ok4 hz4)

theorem sc_law : FnScope ["script", "pool", "worlds", "steps", "k", "world", "good"] ["script"] (defScope s_law) := ⟨rfl, rfl, rfl, by decide +kernel, rfl, by decide +kernel, by decide +kernel⟩
theorem d_law {f : Addr} {fd : FuncData} (F : FunG K "law" "law" s_law f fd) [T : Txt K mg CD CO CS CI] (D_law_pool : FnD P w K mg base "_law_pool" 1 ["script"] [] (spPool K)) (D_law_draw : FnD P w K mg base "_law_draw" 1 ["pool", "size"] [] spDraw) (D_law_world : FnD P w K mg base "_law_world" 5 ["pool"] [] (spWorld CD)) (D_law_allow_step : FnD P w K mg base "_law_allow_step" 9 ["pool", "world"] [] (spAlStep CD)) (D_law_write_step : FnD P w K mg base "_law_write_step" 10 ["pool", "world"] [] (spStep CD)) (D_law_stands : FnD P w K mg base "_law_stands" 6 ["pool", "world"] [] (spStands CD)) (D_law_whole : FnD P w K mg base "_law_whole" 5 ["world"] [] (spWhole CD)) (D_law_copied : FnD P w K mg base "_law_copied" 12 ["pool", "world"] [] (spCopied CD)) : FnOk P w K mg base (L2N.CX P w) 14 f fd ["script"] (spLaw K) := by
  refine okN F sc_law (fun vs H Q E h => ?_) (fun cdv A outer s H vs Q E hr tk hp h => ?_)
  · obtain ⟨s, ns, T', L, rfl, hr0, hz, hs, ht, k⟩ := h
    rfl
  · obtain ⟨s, ns, T', L, rfl, hr0, hz, hs, ht, k⟩ := h
    have nd := sc_law.nd
    refine ⟨_, (pss_cons (ps_set (i := 1) nd rfl (Or.inl rfl) (pe_clD D_law_pool (hr.mono (by decide)) rfl (fun σ => L2N.passAt tk σ) (pa_cons (pv 0) pa_nil)))
  (pss_cons (ps_set (i := 2) nd rfl (Or.inl rfl) (pe_lst (pa_cons (pe_clD D_law_world (hr.mono (by decide)) rfl (fun σ => L2N.passAt tk σ) (pa_cons (pv 1) pa_nil)) (pa_cons (pe_clD D_law_world (hr.mono (by decide)) rfl (fun σ => L2N.passAt tk σ) (pa_cons (pv 1) pa_nil)) pa_nil))))
  (pss_cons (ps_set (i := 3) nd rfl (Or.inl rfl) (pe_op opAdd pe_int (pe_clD D_law_draw (hr.mono (by decide)) rfl (fun σ => L2N.passAt tk σ) (pa_cons (pv 1) (pa_cons pe_int pa_nil)))))
  (Evl.pss_cut (ps_if (pt_cmpR (opEqK (K := K) hr.units) (pe_clD D_law_draw (hr.mono (by decide)) rfl (fun σ => L2N.passAt tk σ) (pa_cons (pv 1) (pa_cons pe_int pa_nil))) pe_int (nomark _)) (pss_one (ps_set (i := 3) nd rfl (Or.inl rfl) (pe_op opAdd (pv 3) (pe_clD D_law_draw (hr.mono (by decide)) rfl (fun σ => L2N.passAt tk σ) (pa_cons (pv 1) (pa_cons pe_int pa_nil)))))) pss_nil)
  (pss_cons (ps_for hp rfl (pi_range1 rfl T.n_range (pa_cons (pv 3) pa_nil)) (pg_name (i := 4) nd rfl (Or.inl rfl))
  (pss_cons (ps_set (i := 5) nd rfl (Or.inl rfl) (pe_ix (ixSeqK (K := K)) (pv 2) (pe_clD D_law_draw (hr.mono (by decide)) rfl (fun σ => L2N.passAt tk σ) (pa_cons (pv 1) (pa_cons pe_int pa_nil))) (fun _ _ => rfl)))
  (pss_cons (ps_if (pt_cmpR (opEqK (K := K) hr.units) (pe_clD D_law_draw (hr.mono (by decide)) rfl (fun σ => L2N.passAt tk σ) (pa_cons (pv 1) (pa_cons pe_int pa_nil))) pe_int (nomark _)) (pss_one (ps_set (i := 6) nd rfl (Or.inl rfl) (pe_clD D_law_allow_step (hr.mono (by decide)) rfl (fun σ => L2N.passAt tk σ) (pa_cons (pv 1) (pa_cons (pv 5) pa_nil))))) (pss_one (ps_set (i := 6) nd rfl (Or.inl rfl) (pe_clD D_law_write_step (hr.mono (by decide)) rfl (fun σ => L2N.passAt tk σ) (pa_cons (pv 1) (pa_cons (pv 5) pa_nil))))))
  (pss_one (ps_if (PW.pt (pw_or (pt_not (pt_val (pv 6))) (pw_or (pt_not (pt_val (pe_clD D_law_stands (hr.mono (by decide)) rfl (fun σ => L2N.passAt tk σ) (pa_cons (pv 1) (pa_cons (pe_ix (ixSeqK (K := K)) (pv 2) pe_int (fun _ _ => rfl)) pa_nil))))) (pw_or1 (pt_not (pt_val (pe_clD D_law_stands (hr.mono (by decide)) rfl (fun σ => L2N.passAt tk σ) (pa_cons (pv 1) (pa_cons (pe_ix (ixSeqK (K := K)) (pv 2) pe_int (fun _ _ => rfl)) pa_nil))))))))) (pss_one (ps_ret pe_bl)) pss_nil)))))
  (pss_cons (ps_for hp rfl (pi_list (pv 2)) (pg_name (i := 5) nd rfl (Or.inl rfl))
  (pss_one (ps_if (PW.pt (pw_or (pt_not (pt_val (pe_clD D_law_whole (hr.mono (by decide)) rfl (fun σ => L2N.passAt tk σ) (pa_cons (pv 5) pa_nil)))) (pw_or1 (pt_not (pt_val (pe_clD D_law_stands (hr.mono (by decide)) rfl (fun σ => L2N.passAt tk σ) (pa_cons (pv 1) (pa_cons (pv 5) pa_nil)))))))) (pss_one (ps_ret pe_bl)) pss_nil)))
  (pss_one (ps_ret (pe_and (pe_clD D_law_copied (hr.mono (by decide)) rfl (fun σ => L2N.passAt tk σ) (pa_cons (pv 1) (pa_cons (pe_ix (ixSeqK (K := K)) (pv 2) pe_int (fun _ _ => rfl)) pa_nil))) (pe_one (pe_clD D_law_whole (hr.mono (by decide)) rfl (fun σ => L2N.passAt tk σ) (pa_cons (pe_ix (ixSeqK (K := K)) (pv 2) pe_int (fun _ _ => rfl)) pa_nil)))))))))))), ?_⟩
    refine go_start hs ht ?_
    try dsimp only [cxOf, WOf]
    rw [show L2.start _ _ = [some (.ref s), none, none, none, none, none, none] from rfl]
    repeat walk_at "oc"
    refine go_pool hr0 hz fun p P0 => ?_
    repeat walk_at "oc"
    refine go_world fun a0 P1 T1 W0 m1 ok0 hz0 => ?_
    repeat walk_at "oc"
    refine go_world fun a1 P2 T2 W1 m2 ok1 hz1 => ?_
    have ok0 := ok0.more (T' := T2)
    repeat walk_at "oc"
    rename_i ws
    refine go_draw (by decide) (by decide) fun r1 P3 h2 h3 => ?_
    repeat walk_at "oc"
    refine go_cut (fun σ1 T3 L1 => T3 = T2 ∧ ∃ (n : Int) (P4 : Pl), 0 ≤ n ∧ n ≤ 100 ∧ σ1 = [some (.ref s), some (.ref p), some (.ref ws), some (.int n), none, none, none] ∧ L1 = pt ws (.lst [.ref a0, .ref a1]) :: worldC CD a0 W0 :: worldC CD a1 W1 :: poolC p P4 :: L) ?_ ?_
    · repeat walk_at "oc"
      refine go_draw (by decide) (by decide) fun r2 P4 h4 h5 => ?_
      repeat walk_at "oc"
      refine go_d (fun e3 => ?_) (fun e3 => ?_)
      · repeat walk_at "oc"
        refine go_draw (by decide) (by decide) fun r3 P5 h6 h7 => ?_
        repeat walk_at "oc"
        dsimp only
        exact go_at' ⟨rfl, _, P5, by omega, by omega, rfl, rfl⟩
      · repeat walk_at "oc"
        dsimp only
        exact go_at' ⟨rfl, _, P4, by omega, by omega, rfl, rfl⟩
    · rintro σ1 T3 L1 ⟨rfl, n, P4, hn0, hn, rfl, rfl⟩
      repeat walk_at "oc"
      refine go_range (fun j σ1 T4 L1 => ∃ (P5 : Pl) (W2 W3 : Wd) (v4 v5 v6 : Option V), OkW T4 W2 ∧ OkW T4 W3 ∧ W2.cells.length ≤ 100 + 61 * j ∧ W3.cells.length ≤ 100 + 61 * j ∧ σ1 = [some (.ref s), some (.ref p), some (.ref ws), some (.int n), v4, v5, v6] ∧ L1 = pt ws (.lst [.ref a0, .ref a1]) :: worldC CD a0 W2 :: worldC CD a1 W3 :: poolC p P5 :: L) ⟨P4, W0, W1, none, none, none, ok0, ok1, by omega, by omega, rfl, rfl⟩ ?_ ?_
      · rintro j σ1 T4 L1 hj ⟨P5, W2, W3, v4, v5, v6, ok2, ok3, hz2, hz3, rfl, rfl⟩
        repeat walk_at "oc"
        refine go_draw (by decide) (by decide) fun r2 P6 h4 h5 => ?_
        have go : ∀ (P8 : Pl) (T8 : Tups) (W8 W9 : Wd) (v4 v5 v6 : Option V), OkW T8 W8 → OkW T8 W9 → W8.cells.length ≤ 100 + 61 * (j + 1) → W9.cells.length ≤ 100 + 61 * (j + 1) → True := fun _ _ _ _ _ _ _ _ _ _ _ => trivial
        obtain rfl | rfl : r2 = 0 ∨ r2 = 1 := by omega
        · repeat walk_at "oc"
          refine go_draw (by decide) (by decide) fun r3 P7 h6 h7 => ?_
          repeat walk_at "oc"
          refine go_d (fun e3 => ?_) (fun e3 => ?_)
          · repeat walk_at "oc"
            refine go_alstep ok2 fun P8 W8 ok8 hz8 => ?_
            repeat walk_at "oc"
            refine go_stands ok8 (by omega) fun P9 => ?_
            repeat walk_at "oc"
            refine go_stands ok3 (by omega) fun P9 => ?_
            repeat walk_at "oc"
            dsimp only
            exact go_at' ⟨P9, W8, W3, _, _, _, ok8, ok3, by omega, by omega, rfl, rfl⟩
          · repeat walk_at "oc"
            refine go_step ok2 (by omega) fun P8 T8 W8 m8 ok8 hz8 => ?_
            repeat walk_at "oc"
            refine go_stands ok8 (by omega) fun P9 => ?_
            repeat walk_at "oc"
            refine go_stands ok3.more (by omega) fun P9 => ?_
            repeat walk_at "oc"
            dsimp only
            exact go_at' ⟨P9, W8, W3, _, _, _, ok8, ok3.more, by omega, by omega, rfl, rfl⟩
        · repeat walk_at "oc"
          refine go_draw (by decide) (by decide) fun r3 P7 h6 h7 => ?_
          repeat walk_at "oc"
          refine go_d (fun e3 => ?_) (fun e3 => ?_)
          · repeat walk_at "oc"
            refine go_alstep ok3 fun P8 W8 ok8 hz8 => ?_
            repeat walk_at "oc"
            refine go_stands ok2 (by omega) fun P9 => ?_
            repeat walk_at "oc"
            refine go_stands ok8 (by omega) fun P9 => ?_
            repeat walk_at "oc"
            dsimp only
            exact go_at' ⟨P9, W2, W8, _, _, _, ok2, ok8, by omega, by omega, rfl, rfl⟩
          · repeat walk_at "oc"
            refine go_step ok3 (by omega) fun P8 T8 W8 m8 ok8 hz8 => ?_
            repeat walk_at "oc"
            refine go_stands ok2.more (by omega) fun P9 => ?_
            repeat walk_at "oc"
            refine go_stands ok8 (by omega) fun P9 => ?_
            repeat walk_at "oc"
            dsimp only
            exact go_at' ⟨P9, W2, W8, _, _, _, ok2.more, ok8, by omega, by omega, rfl, rfl⟩
      · rintro σ1 T4 L1 ⟨P5, W2, W3, v4, v5, v6, ok2, ok3, hz2, hz3, rfl, rfl⟩
        have hz2 : W2.cells.length ≤ 10000 := by omega
        have hz3 : W3.cells.length ≤ 10000 := by omega
        repeat walk_at "oc"
        refine go_over (xs := [.ref a0, .ref a1]) (fun j σ1 T5 L1 => T5 = T4 ∧ ∃ (P6 : Pl) (v5 : Option V), σ1 = [some (.ref s), some (.ref p), some (.ref ws), some (.int n), v4, v5, v6] ∧ L1 = pt ws (.lst [.ref a0, .ref a1]) :: worldC CD a0 W2 :: worldC CD a1 W3 :: poolC p P6 :: L) ⟨rfl, P5, _, rfl, rfl⟩ ?_ ?_ ?_
        · rintro j σ1 T5 L1 ⟨rfl, P6, v5, rfl, rfl⟩
          infer_instance
        · rintro j v σ1 T5 L1 hv ⟨rfl, P6, v5, rfl, rfl⟩
          have hv2 := List.mem_of_getElem? hv
          rcases List.mem_cons.mp hv2 with rfl | hv2
          · repeat walk_at "oc"
            refine go_whole ok2 (by omega) ?_
            repeat walk_at "oc"
            refine go_stands ok2 (by omega) fun P9 => ?_
            repeat walk_at "oc"
            dsimp only
            exact go_at' ⟨rfl, P9, _, rfl, rfl⟩
          · rw [List.mem_singleton] at hv2
            subst hv2
            repeat walk_at "oc"
            refine go_whole ok3 (by omega) ?_
            repeat walk_at "oc"
            refine go_stands ok3 (by omega) fun P9 => ?_
            repeat walk_at "oc"
            dsimp only
            exact go_at' ⟨rfl, P9, _, rfl, rfl⟩
        · rintro σ1 T5 L1 ⟨rfl, P6, v5, rfl, rfl⟩
          repeat walk_at "oc"
          refine go_copied ok2 (by omega) fun P7 T7 W7 m7 ok7 hz7 => ?_
          repeat walk_at "oc"
          refine go_whole ok3.more (by omega) ?_
          repeat walk_at "oc"
          exact fun H _ _ => k H

end

theorem b1_DiskU_initU_2_1 : B1 "__init__" "Disk.__init__" s_DiskU_initU ["self", "cells"] 1 2 1 := fun T kV doc pm an cdv ct us its h1 h2 => match us, its, h1, h2 with | [u0, u1], [t0], _, _ => ⟨_, rfl, rfl⟩
theorem b1_DiskU_initU_1_0 : B1 "__init__" "Disk.__init__" s_DiskU_initU ["self", "cells"] 1 1 0 := fun T kV doc pm an cdv ct us its h1 h2 => match us, its, h1, h2 with | [u0], [t0], _, _ => ⟨_, rfl, rfl⟩
theorem b0_DiskU_lenU : B0 "__len__" "Disk.__len__" s_DiskU_lenU ["self"] := fun _ _ _ _ _ _ us hl => match us, hl with | [_], _ => rfl
theorem b0_Disk_cells : B0 "cells" "Disk.cells" s_Disk_cells ["self"] := fun _ _ _ _ _ _ us hl => match us, hl with | [_], _ => rfl
theorem b0_Disk_read_cell : B0 "read_cell" "Disk.read_cell" s_Disk_read_cell ["self", "index"] := fun _ _ _ _ _ _ us hl => match us, hl with | [_, _], _ => rfl
theorem b0_Disk_write_cell : B0 "write_cell" "Disk.write_cell" s_Disk_write_cell ["self", "index", "content"] := fun _ _ _ _ _ _ us hl => match us, hl with | [_, _, _], _ => rfl
theorem b0_Disk_allow : B0 "allow" "Disk.allow" s_Disk_allow ["self", "allowed"] := fun _ _ _ _ _ _ us hl => match us, hl with | [_, _], _ => rfl
theorem b0_Disk_allowance : B0 "allowance" "Disk.allowance" s_Disk_allowance ["self"] := fun _ _ _ _ _ _ us hl => match us, hl with | [_], _ => rfl
theorem b0_Disk_allowance_set : B0 "allowance" "Disk.allowance" s_Disk_allowance_set ["self", "allowed"] := fun _ _ _ _ _ _ us hl => match us, hl with | [_, _], _ => rfl
theorem bE_StoppedU_initU : BE "Stopped.__init__" s_StoppedU_initU ["self", "writes"] := fun _ _ _ _ _ _ _ us hl => match us, hl with | [_, _], _ => rfl
theorem bE_InvalidAllowanceU_initU : BE "InvalidAllowance.__init__" s_InvalidAllowanceU_initU ["self", "allowed"] := fun _ _ _ _ _ _ _ us hl => match us, hl with | [_, _], _ => rfl
theorem b0_law_pool : B0 "_law_pool" "_law_pool" s_law_pool ["script"] := fun _ _ _ _ _ _ us hl => match us, hl with | [_], _ => rfl
theorem b0_law_draw : B0 "_law_draw" "_law_draw" s_law_draw ["pool", "size"] := fun _ _ _ _ _ _ us hl => match us, hl with | [_, _], _ => rfl
theorem b0_law_same : B0 "_law_same" "_law_same" s_law_same ["told", "due"] := fun _ _ _ _ _ _ us hl => match us, hl with | [_, _], _ => rfl
theorem b0_law_text : B0 "_law_text" "_law_text" s_law_text ["pool"] := fun _ _ _ _ _ _ us hl => match us, hl with | [_], _ => rfl
theorem b0_law_plain : B0 "_law_plain" "_law_plain" s_law_plain ["pool"] := fun _ _ _ _ _ _ us hl => match us, hl with | [_], _ => rfl
theorem b0_law_content : B0 "_law_content" "_law_content" s_law_content ["pool"] := fun _ _ _ _ _ _ us hl => match us, hl with | [_], _ => rfl
theorem b0_law_refusal : B0 "_law_refusal" "_law_refusal" s_law_refusal ["raised"] := fun _ _ _ _ _ _ us hl => match us, hl with | [_], _ => rfl
theorem b0_law_written : B0 "_law_written" "_law_written" s_law_written ["disk", "index", "content"] := fun _ _ _ _ _ _ us hl => match us, hl with | [_, _, _], _ => rfl
theorem b0_law_allowed : B0 "_law_allowed" "_law_allowed" s_law_allowed ["disk", "number"] := fun _ _ _ _ _ _ us hl => match us, hl with | [_, _], _ => rfl
theorem b0_law_world : B0 "_law_world" "_law_world" s_law_world ["pool"] := fun _ _ _ _ _ _ us hl => match us, hl with | [_], _ => rfl
theorem b0_law_stands : B0 "_law_stands" "_law_stands" s_law_stands ["pool", "world"] := fun _ _ _ _ _ _ us hl => match us, hl with | [_, _], _ => rfl
theorem b0_law_stopped : B0 "_law_stopped" "_law_stopped" s_law_stopped ["pool", "world", "index", "content"] := fun _ _ _ _ _ _ us hl => match us, hl with | [_, _, _, _], _ => rfl
theorem b0_law_write_step : B0 "_law_write_step" "_law_write_step" s_law_write_step ["pool", "world"] := fun _ _ _ _ _ _ us hl => match us, hl with | [_, _], _ => rfl
theorem b0_law_allow_step : B0 "_law_allow_step" "_law_allow_step" s_law_allow_step ["pool", "world"] := fun _ _ _ _ _ _ us hl => match us, hl with | [_, _], _ => rfl
theorem b0_law_whole : B0 "_law_whole" "_law_whole" s_law_whole ["world"] := fun _ _ _ _ _ _ us hl => match us, hl with | [_], _ => rfl
theorem b0_law_copied : B0 "_law_copied" "_law_copied" s_law_copied ["pool", "world"] := fun _ _ _ _ _ _ us hl => match us, hl with | [_, _], _ => rfl
set_option maxHeartbeats 40000000 in
theorem all_mk {l : PySem.W.OpenLaw} {w : World} {K : PySem.W.Frag} {h : Heap} {mg : Str → Option Value} {fa CD CO CS CI f4 : Addr} (X : K.In h) (G : h.Ns mainGlobals mg) (hfa : mg "law" = some (.ref fa))
    {od4 an4 : Option Addr} {sl4 : Array (Option Value)} {oc4 kV4 dc4 pm4 cd4 ct4 : Value}
    (a4 : PySem.W.nsIn K mainGlobals "law" = some (some (.ref f4))) (l4 : K.lookup f4 = some ⟨oc4, od4, .func (PySem.W.fnOf "law" "law" (defArgs s_law) (defBody s_law) (defScope s_law) .none kV4 dc4 pm4 an4 cd4 ct4), sl4⟩) (c4 : PySem.W.codeIn K cd4 "law" = true) (k4 : PySem.W.keepIn K (.ref f4) = true)
    (T : Txt K mg CD CO CS CI)
    (eS : ExcC K CS ∧ XfC K CS)
    (eI : ExcC K CI ∧ XfC K CI)
    (U0 : ExcC K CS → ExcC K CI → XfC K CS → XfC K CI → TxtX K CO CS CI)
    (tM_Disk : TxI K mg CD "Disk" "Disk.__init__" s_DiskU_initU ["self", "cells"] [])
    (tM_Disk0 : TxI K mg CD "Disk" "Disk.__init__" s_DiskU_initU ["self", "cells"] [.non])
    (tM_Disk_len : TxM K CD "__len__" "Disk.__len__" s_DiskU_lenU ["self"] [])
    (tM_Disk_cells : TxM K CD "cells" "Disk.cells" s_Disk_cells ["self"] [])
    (tM_Disk_read_cell : TxM K CD "read_cell" "Disk.read_cell" s_Disk_read_cell ["self", "index"] [])
    (tM_Disk_write_cell : TxM K CD "write_cell" "Disk.write_cell" s_Disk_write_cell ["self", "index", "content"] [])
    (tM_Disk_allow : TxM K CD "allow" "Disk.allow" s_Disk_allow ["self", "allowed"] [])
    (tP_all : TxP K CD "allowance" "Disk.allowance" s_Disk_allowance)
    (tS_all : TxS K CD "allowance" "Disk.allowance" s_Disk_allowance_set ["self", "allowed"])
    (tE_Stopped : TxE l.prog K mg CS "Stopped" "Stopped.__init__" s_StoppedU_initU ["self", "writes"])
    (tE_InvalidAllowance : TxE l.prog K mg CI "InvalidAllowance" "InvalidAllowance.__init__" s_InvalidAllowanceU_initU ["self", "allowed"])
    (t_law_pool : Tx K mg "_law_pool" "_law_pool" s_law_pool ["script"] [])
    (t_law_draw : Tx K mg "_law_draw" "_law_draw" s_law_draw ["pool", "size"] [])
    (t_law_same : Tx K mg "_law_same" "_law_same" s_law_same ["told", "due"] [])
    (t_law_text : Tx K mg "_law_text" "_law_text" s_law_text ["pool"] [])
    (t_law_plain : Tx K mg "_law_plain" "_law_plain" s_law_plain ["pool"] [])
    (t_law_content : Tx K mg "_law_content" "_law_content" s_law_content ["pool"] [])
    (t_law_refusal : Tx K mg "_law_refusal" "_law_refusal" s_law_refusal ["raised"] [])
    (t_law_written : Tx K mg "_law_written" "_law_written" s_law_written ["disk", "index", "content"] [])
    (t_law_allowed : Tx K mg "_law_allowed" "_law_allowed" s_law_allowed ["disk", "number"] [])
    (t_law_world : Tx K mg "_law_world" "_law_world" s_law_world ["pool"] [])
    (t_law_stands : Tx K mg "_law_stands" "_law_stands" s_law_stands ["pool", "world"] [])
    (t_law_stopped : Tx K mg "_law_stopped" "_law_stopped" s_law_stopped ["pool", "world", "index", "content"] [])
    (t_law_write_step : Tx K mg "_law_write_step" "_law_write_step" s_law_write_step ["pool", "world"] [])
    (t_law_allow_step : Tx K mg "_law_allow_step" "_law_allow_step" s_law_allow_step ["pool", "world"] [])
    (t_law_whole : Tx K mg "_law_whole" "_law_whole" s_law_whole ["world"] [])
    (t_law_copied : Tx K mg "_law_copied" "_law_copied" s_law_copied ["pool", "world"] [])
    : ∃ fd : FuncData, (∀ (s : Shared) (v : Value), BindsTo s fd ⟨[v], []⟩ [("script", v)]) ∧ ∀ base : Heap, K.In base → base.Ns mainGlobals mg → FnOk l.prog w K mg base (L2N.CX l.prog w) 14 fa fd ["script"] (spLaw K) := by
  have e := hfa.symm.trans (PySem.W.mg_of X G a4)
  cases e
  refine ⟨PySem.W.fnOf "law" "law" (defArgs s_law) (defBody s_law) (defScope s_law) .none kV4 dc4 pm4 an4 cd4 ct4, fun s v => .of_eq rfl, fun base _ _ => ?_⟩
  haveI U := U0 eS.1 eI.1 eS.2 eI.2
  have R_Stopped := r_Stopped (P := l.prog) (w := w) (base := base) tE_Stopped U.nS
  have R_InvalidAllowance := r_InvalidAllowance (P := l.prog) (w := w) (base := base) tE_InvalidAllowance U.nI
  have M_Disk_write_cell := m_write (P := l.prog) (w := w) (base := base) tM_Disk_write_cell (R_Stopped := R_Stopped)
  have M_Disk := m_init (P := l.prog) (w := w) (base := base) tM_Disk 
  have M_Disk0 := m_init (P := l.prog) (w := w) (base := base) tM_Disk0 
  have M_Disk_len := m_len (P := l.prog) (w := w) (base := base) tM_Disk_len 
  have M_Disk_cells := m_cells (P := l.prog) (w := w) (base := base) tM_Disk_cells 
  have M_Disk_read_cell := m_read (P := l.prog) (w := w) (base := base) tM_Disk_read_cell 
  have P_all := p_all (P := l.prog) (w := w) (base := base) tP_all 
  have S_all := s_all (P := l.prog) (w := w) (base := base) tS_all (R_InvalidAllowance := R_InvalidAllowance)
  have M_Disk_allow := m_allow (P := l.prog) (w := w) (base := base) tM_Disk_allow (S_all := S_all)
  have D_law_pool := d_pool (P := l.prog) (w := w) (base := base) t_law_pool 
  have D_law_draw := d_draw (P := l.prog) (w := w) (base := base) t_law_draw 
  have D_law_text := d_text (P := l.prog) (w := w) (base := base) t_law_text (D_law_draw := D_law_draw)
  have D_law_plain := d_plain (P := l.prog) (w := w) (base := base) t_law_plain (D_law_draw := D_law_draw) (D_law_text := D_law_text)
  have D_law_content := d_content (P := l.prog) (w := w) (base := base) t_law_content (D_law_draw := D_law_draw) (D_law_plain := D_law_plain)
  have D_law_same := d_same (P := l.prog) (w := w) (base := base) t_law_same 3
  have DX_law_refusal := d_refusal (P := l.prog) (w := w) (base := base) t_law_refusal 
  have D_law_written := d_written (P := l.prog) (w := w) (base := base) t_law_written (M_Disk_write_cell := M_Disk_write_cell) (DX_law_refusal := DX_law_refusal)
  have D_law_allowed := d_allowed (P := l.prog) (w := w) (base := base) t_law_allowed (M_Disk_allow := M_Disk_allow) (DX_law_refusal := DX_law_refusal)
  have D_law_world := d_world (P := l.prog) (w := w) (base := base) t_law_world (D_law_draw := D_law_draw) (D_law_content := D_law_content) (M_Disk := M_Disk) (M_Disk0 := M_Disk0)
  have D_law_stands := d_stands (P := l.prog) (w := w) (base := base) t_law_stands (D_law_draw := D_law_draw) (D_law_same := D_law_same) (M_Disk_len := M_Disk_len) (P_all := P_all) (M_Disk_read_cell := M_Disk_read_cell)
  have D_law_stopped := d_stopped (P := l.prog) (w := w) (base := base) t_law_stopped (D_law_draw := D_law_draw) (D_law_same := D_law_same) (D_law_written := D_law_written) (D_law_allowed := D_law_allowed) (D_law_stands := D_law_stands)
  have D_law_write_step := d_write_step (P := l.prog) (w := w) (base := base) t_law_write_step (D_law_draw := D_law_draw) (D_law_same := D_law_same) (D_law_content := D_law_content) (D_law_written := D_law_written) (D_law_stopped := D_law_stopped) (M_Disk_read_cell := M_Disk_read_cell)
  have D_law_allow_step := d_allow_step (P := l.prog) (w := w) (base := base) t_law_allow_step (D_law_draw := D_law_draw) (D_law_same := D_law_same) (D_law_allowed := D_law_allowed)
  have D_law_whole := d_whole (P := l.prog) (w := w) (base := base) t_law_whole (D_law_same := D_law_same) (M_Disk_cells := M_Disk_cells)
  have D_law_copied := d_copied (P := l.prog) (w := w) (base := base) t_law_copied (M_Disk := M_Disk) (M_Disk_cells := M_Disk_cells) (D_law_stands := D_law_stands) (D_law_write_step := D_law_write_step) (D_law_whole := D_law_whole)
  exact d_law (funG_mk l4 c4 k4) (D_law_pool := D_law_pool) (D_law_draw := D_law_draw) (D_law_world := D_law_world) (D_law_allow_step := D_law_allow_step) (D_law_write_step := D_law_write_step) (D_law_stands := D_law_stands) (D_law_whole := D_law_whole) (D_law_copied := D_law_copied)
theorem walk {l : PySem.W.OpenLaw} {q : Program} {loose : List Str} {XP : (Str → Option Value) → Heap → Prop} {YP : World → Heap → Prop} {d : DefRec} {K : Params → PySem.W.Frag} (hn : l.most = some 63) (hdf : d.params.defaults = [])
    (hY : ∀ (w : World) (h : Heap), YP w h → (K w.params).In h)
    (F : ∀ (w : World) (mg : Str → Option Value) (fa : Addr) (h : Heap), (K w.params).In h → h.Ns mainGlobals mg → mg d.name = some (.ref fa) →
      ∃ fd : FuncData, (∀ (s : Shared) (u : Value), BindsTo s fd ⟨[u], []⟩ [("script", u)]) ∧ ∀ base : Heap, (K w.params).In base → base.Ns mainGlobals mg → FnOk l.prog w (K w.params) mg base (L2N.CX l.prog w) 14 fa fd ["script"] (spLaw (K w.params))) :
    PySem.W.WalkO q loose XP YP l.row.toRowW d [] (fun f vs => PySem.call f vs) :=
  L2.walk_of (n := 63) (k := 14) (x := "script") (CX := fun w => L2N.CX l.prog w) (sp := fun w => spLaw (K w.params)) hn (by decide) hdf ⟨rfl, by decide, by decide⟩ hY F (fun _ H a ns hl _ hS => by
    obtain ⟨L, h1, h2⟩ := script_at hS
    exact ⟨a, ns, [], L, rfl, h2, by omega, h1, (fun e he => by cases he), fun _ => rfl⟩) fun _ _ _ _ _ z => by
    obtain ⟨_, _, _, _, _, _, _, _, _, _, _, _, z⟩ := z
    exact z.elim
end OC

open PySem PySem.W PyProof.Rows
set_option maxRecDepth 100000 in
set_option maxHeartbeats 0 in
theorem PySem.Challenge.cw_onecopy_k19_cells_holds : PySem.Challenge.rw_onecopy_k19_cells.Holds := by
  w_on; o_law; k_head; (case hw => w_witness2)
  k_fill
  refine OC.walk (l := PySem.Challenge.rw_onecopy_k19_cells) rfl rfl (fun w h Y => PySem.W.kIn_of Y) ?F
  case F =>
    intro w mg fa h KX G hmg
    refine' OC.all_mk KX G hmg ?aa4 ?ll4 ?cc4 ?kk4 { gDisk := (PySem.W.mg_of KX G ?g1), gOnecopyError := (PySem.W.mg_of KX G ?g2), gStopped := (PySem.W.mg_of KX G ?g3), gInvalidAllowance := (PySem.W.mg_of KX G ?g4), cDisk := (OC.cls_mk ?p5 ?h6 ?o7 ?s8), nW := (OC.noat_mk ?n9), nC := (OC.noat_mk ?n10), nL := (OC.noat_mk ?n11), n_len := (PySem.W.mg_none_of KX G ?n12), n_list := (PySem.W.mg_none_of KX G ?n13), n_int := (PySem.W.mg_none_of KX G ?n14), n_bool := (PySem.W.mg_none_of KX G ?n15), n_str := (PySem.W.mg_none_of KX G ?n16), n_tuple := (PySem.W.mg_none_of KX G ?n17), n_range := (PySem.W.mg_none_of KX G ?n18), n_isinstance := (PySem.W.mg_none_of KX G ?n19), n_ValueError := (PySem.W.mg_none_of KX G ?n20) }
      (OC.excC_mk ?z21 ?z22 ?z23 ?z24 ?z25 ?z26 ?z27 ?z28)
      (OC.excC_mk ?z29 ?z30 ?z31 ?z32 ?z33 ?z34 ?z35 ?z36)
      (fun a b c d => { eS := a, eI := b, xS := c, xI := d, nS := ?n37, nI := ?n38, kSS := ?k39, kSI := ?k40, kSV := ?k41, kIS := ?k42, kII := ?k43, kIV := ?k44, hS := (PySem.W.exm_ref ?z45 ?z46 ?z47 ?z48), hI := (PySem.W.exm_ref ?z49 ?z50 ?z51 ?z52) })
      (OC.txi1_mk [.non] 2 1 KX G ?g53 ?m54 ?a55 ?i56 ?q57 ?l58 ?c59 ?k60 ?t61 ?v62 (by decide) (by decide) OC.b1_DiskU_initU_2_1)
      (OC.txi1_mk [.non] 1 0 KX G ?g63 ?m64 ?a65 ?i66 ?q67 ?l68 ?c69 ?k70 ?t71 ?v72 (by decide) (by decide) OC.b1_DiskU_initU_1_0)
      (OC.txm_mk ?a73 ?i74 ?l75 ?c76 ?k77 OC.b0_DiskU_lenU)
      (OC.txm_mk ?a78 ?i79 ?l80 ?c81 ?k82 OC.b0_Disk_cells)
      (OC.txm_mk ?a83 ?i84 ?l85 ?c86 ?k87 OC.b0_Disk_read_cell)
      (OC.txm_mk ?a88 ?i89 ?l90 ?c91 ?k92 OC.b0_Disk_write_cell)
      (OC.txm_mk ?a93 ?i94 ?l95 ?c96 ?k97 OC.b0_Disk_allow)
      (OC.txp_mk ?a98 ?g99 ?t100 ?r101 ?l102 ?c103 ?k104 OC.b0_Disk_allowance)
      (OC.txs_mk ?a105 ?t106 ?r107 ?l108 ?c109 ?k110 OC.b0_Disk_allowance_set)
      (OC.txe_mk KX G ?g111 ?a112 ?t113 ?l114 ?c115 (OC.sup_mk KX G ?l116 ?v117 ?f118 ?e119 ?d120 ?s121 ?u122 ?w123 ?o124) ?x125 (OC.oex_mk ?l126 ?b127 ?s128 ?e129 ?t130 ?k131) ?y132 OC.bE_StoppedU_initU)
      (OC.txe_mk KX G ?g133 ?a134 ?t135 ?l136 ?c137 (OC.sup_mk KX G ?l138 ?v139 ?f140 ?e141 ?d142 ?s143 ?u144 ?w145 ?o146) ?x147 (OC.oex_mk ?l148 ?b149 ?s150 ?e151 ?t152 ?k153) ?y154 OC.bE_InvalidAllowanceU_initU)
      (OC.tx_mk KX G ?a155 ?l156 ?c157 ?k158 OC.b0_law_pool)
      (OC.tx_mk KX G ?a159 ?l160 ?c161 ?k162 OC.b0_law_draw)
      (OC.tx_mk KX G ?a163 ?l164 ?c165 ?k166 OC.b0_law_same)
      (OC.tx_mk KX G ?a167 ?l168 ?c169 ?k170 OC.b0_law_text)
      (OC.tx_mk KX G ?a171 ?l172 ?c173 ?k174 OC.b0_law_plain)
      (OC.tx_mk KX G ?a175 ?l176 ?c177 ?k178 OC.b0_law_content)
      (OC.tx_mk KX G ?a179 ?l180 ?c181 ?k182 OC.b0_law_refusal)
      (OC.tx_mk KX G ?a183 ?l184 ?c185 ?k186 OC.b0_law_written)
      (OC.tx_mk KX G ?a187 ?l188 ?c189 ?k190 OC.b0_law_allowed)
      (OC.tx_mk KX G ?a191 ?l192 ?c193 ?k194 OC.b0_law_world)
      (OC.tx_mk KX G ?a195 ?l196 ?c197 ?k198 OC.b0_law_stands)
      (OC.tx_mk KX G ?a199 ?l200 ?c201 ?k202 OC.b0_law_stopped)
      (OC.tx_mk KX G ?a203 ?l204 ?c205 ?k206 OC.b0_law_write_step)
      (OC.tx_mk KX G ?a207 ?l208 ?c209 ?k210 OC.b0_law_allow_step)
      (OC.tx_mk KX G ?a211 ?l212 ?c213 ?k214 OC.b0_law_whole)
      (OC.tx_mk KX G ?a215 ?l216 ?c217 ?k218 OC.b0_law_copied)
    (case aa4 => k_is); (case ll4 => k_is); (case cc4 => k_is); (case kk4 => k_is)
    (case g1 => k_is); (case g2 => k_is); (case g3 => k_is); (case g4 => k_is); (case p5 => k_is); (case h6 => k_is); (case o7 => k_is); (case s8 => k_is)
    (case n9 => k_is); (case n10 => k_is); (case n11 => k_is); (case n12 => k_is); (case n13 => k_is); (case n14 => k_is); (case n15 => k_is); (case n16 => k_is)
    (case n17 => k_is); (case n18 => k_is); (case n19 => k_is); (case n20 => k_is); (case z21 => k_is); (case z22 => k_is); (case z23 => k_is); (case z24 => k_is)
    (case z25 => k_is); (case z26 => k_is); (case z27 => k_is); (case z28 => k_is); (case z29 => k_is); (case z30 => k_is); (case z31 => k_is); (case z32 => k_is)
    (case z33 => k_is); (case z34 => k_is); (case z35 => k_is); (case z36 => k_is); (case n37 => k_is); (case n38 => k_is); (case k39 => kit_is); (case k40 => kit_is)
    (case k41 => kit_is); (case k42 => kit_is); (case k43 => kit_is); (case k44 => kit_is); (case z45 => k_is); (case z46 => k_is); (case z47 => k_is); (case z48 => k_is)
    (case z49 => k_is); (case z50 => k_is); (case z51 => k_is); (case z52 => k_is); (case g53 => k_is); (case m54 => k_is); (case a55 => k_is); (case i56 => k_is)
    (case q57 => k_is); (case l58 => k_is); (case c59 => k_is); (case k60 => k_is); (case t61 => k_is); (case v62 => exact .cons rfl .nil); (case g63 => k_is); (case m64 => k_is)
    (case a65 => k_is); (case i66 => k_is); (case q67 => k_is); (case l68 => k_is); (case c69 => k_is); (case k70 => k_is); (case t71 => k_is); (case v72 => exact .cons rfl .nil)
    (case a73 => k_is); (case i74 => k_is); (case l75 => k_is); (case c76 => k_is); (case k77 => k_is); (case a78 => k_is); (case i79 => k_is); (case l80 => k_is)
    (case c81 => k_is); (case k82 => k_is); (case a83 => k_is); (case i84 => k_is); (case l85 => k_is); (case c86 => k_is); (case k87 => k_is); (case a88 => k_is)
    (case i89 => k_is); (case l90 => k_is); (case c91 => k_is); (case k92 => k_is); (case a93 => k_is); (case i94 => k_is); (case l95 => k_is); (case c96 => k_is)
    (case k97 => k_is); (case a98 => k_is); (case g99 => k_is); (case t100 => k_is); (case r101 => k_is); (case l102 => k_is); (case c103 => k_is); (case k104 => k_is)
    (case a105 => k_is); (case t106 => k_is); (case r107 => k_is); (case l108 => k_is); (case c109 => k_is); (case k110 => k_is); (case g111 => k_is); (case a112 => k_is)
    (case t113 => k_is); (case l114 => k_is); (case c115 => k_is); (case l116 => k_is); (case v117 => exact rfl); (case f118 => exact rfl); (case e119 => k_is); (case d120 => k_is)
    (case s121 => k_is); (case u122 => k_is); (case w123 => exact rfl); (case o124 => k_is); (case x125 => ks_is); (case l126 => k_is); (case b127 => decide +kernel); (case s128 => k_is)
    (case e129 => k_is); (case t130 => k_is); (case k131 => k_is); (case y132 => k_is); (case g133 => k_is); (case a134 => k_is); (case t135 => k_is); (case l136 => k_is)
    (case c137 => k_is); (case l138 => k_is); (case v139 => exact rfl); (case f140 => exact rfl); (case e141 => k_is); (case d142 => k_is); (case s143 => k_is); (case u144 => k_is)
    (case w145 => exact rfl); (case o146 => k_is); (case x147 => ks_is); (case l148 => k_is); (case b149 => decide +kernel); (case s150 => k_is); (case e151 => k_is); (case t152 => k_is)
    (case k153 => k_is); (case y154 => k_is); (case a155 => k_is); (case l156 => k_is); (case c157 => k_is); (case k158 => k_is); (case a159 => k_is); (case l160 => k_is)
    (case c161 => k_is); (case k162 => k_is); (case a163 => k_is); (case l164 => k_is); (case c165 => k_is); (case k166 => k_is); (case a167 => k_is); (case l168 => k_is)
    (case c169 => k_is); (case k170 => k_is); (case a171 => k_is); (case l172 => k_is); (case c173 => k_is); (case k174 => k_is); (case a175 => k_is); (case l176 => k_is)
    (case c177 => k_is); (case k178 => k_is); (case a179 => k_is); (case l180 => k_is); (case c181 => k_is); (case k182 => k_is); (case a183 => k_is); (case l184 => k_is)
    (case c185 => k_is); (case k186 => k_is); (case a187 => k_is); (case l188 => k_is); (case c189 => k_is); (case k190 => k_is); (case a191 => k_is); (case l192 => k_is)
    (case c193 => k_is); (case k194 => k_is); (case a195 => k_is); (case l196 => k_is); (case c197 => k_is); (case k198 => k_is); (case a199 => k_is); (case l200 => k_is)
    (case c201 => k_is); (case k202 => k_is); (case a203 => k_is); (case l204 => k_is); (case c205 => k_is); (case k206 => k_is); (case a207 => k_is); (case l208 => k_is)
    (case c209 => k_is); (case k210 => k_is); (case a211 => k_is); (case l212 => k_is); (case c213 => k_is); (case k214 => k_is); (case a215 => k_is); (case l216 => k_is)
    (case c217 => k_is); (case k218 => k_is)
