import PyProof.Rows.All
import Wide.All
import OpenK.AllK
import Wide.FinOn
import KE.KExcSuper
import HandS.ForMost
import HandS.ForExc
import HandS.ExcInit
import HandS.ExcSuper
import HandS.FStr
import HandS.Head0
import HandS.Head1
import HandS.Head2
import HandS.HeadEnd
import HandS.HeadHook1
import HandS.HeadHook2
import HandS.HeadHook4
import HandS.HeadWalk
import HandS.IsInst
import KE.KExcIs
import HandS.ExcField
import HandS.Exc
import HandS.Lambda
import PySem.Challenge.RW_stillthenstorm_k79_whole_texts_of_needs
import HandS.Walk
import HandS.Flow
import HandS.Star
import KE.IntTextLaws
import HandS.CallLocal
import KE.GoesMore
import HandS.TupAny
import KE.KIntText
import HandS.OwnEq
import PyProof.InstNe
import KE.KFmtOwn
import PyProof.StrLawsRepr
import HandS.Defaults
set_option Elab.async false
set_option linter.all false
set_option maxRecDepth 100000
set_option maxHeartbeats 4000000
/-! super().__init__(..) in an own exception's __init__, over the hand layer -/
namespace SX
open PySem PySem.Spec PyProof.Rows L2
open PySem.W (ksEnv ksFn kxs_mw)
/-- what the written part says of such a class at C and of its __init__ at fI (its code at cda, its cell at cc) -/
structure SupC (P : Program) (K : PySem.W.Frag) (C fI cda cc : Addr) (qual : Str) (params : Arguments) (body : List Stmt) (scope : Scope) : Prop where
  oex : OexC K C
  fn : ∃ (oc : Value) (od : Option Addr) (doc pm : Value) (an : Option Addr) (ct : Value) (osl : Array (Option Value)), K.lookup fI = some ⟨oc, od, .func (ksFn "__init__" qual params body scope .none .none doc pm an (.ref cda) ct cc), osl⟩
  cd : PySem.W.codeIn K (.ref cda) qual = true
  code : ∃ (ccl : Value) (cdd : Option Addr) (vs : Array Value) (ccs : Array (Option Value)) (file : Str) (tf : Tok), K.lookup cda = some ⟨ccl, cdd, .fields vs, ccs⟩ ∧ vs[2]? = some (.str file tf) ∧ ((P.main.file : Str) == file) = true
  cell : ∃ (cl : Value) (cld : Option Addr) (csl : Array (Option Value)), K.lookup cc = some ⟨cl, cld, .cell (some (.ref C)), csl⟩
  opq : PySem.W.nsIn K PySem.cStatics "thirdparty.any" = some none
  sup : PySem.W.ks_superIn K C C "__init__" = some (some (.builtin "ValueError.__init__"))
  mro : PySem.W.mroIn K C (.ref C) = some true
  sub : PySem.W.subIn K (.ref C) (.type "ValueError") = some true
  top : (P.main.scope.names.lookup ("super" : Str)).isSome = false
/-- the scope: parameters local, __class__ free -/
structure SScope (N : List Str) (sc : Scope) : Prop where
  kind : sc.kind = .function
  co : sc.isCoroutine = false
  gen : sc.isGenerator = false
  nd : N.Nodup
  par : ∀ x ∈ N, sc.names.lookup x = some .local
  cls : sc.names.lookup ("__class__" : Str) = some .free
  sup : sc.names.lookup ("super" : Str) = some .globalImplicit
  nocell : ∀ y ∈ sc.names, y.2 ≠ .cell
  onlyfree : ∀ y : Str, sc.names.lookup y = some .free → y = "__class__"
def sCx (CX : CXT) (P : Program) (w : World) (K : PySem.W.Frag) (mg : Str → Option Value) (base : Heap) (N : List Str) (qual : Str) (scope : Scope) (f cda cc : Addr) (A : Around) (outer : List Env) (s : Shared) (H : Hp) (E : XK) : Cx where
  prog := P
  w := w
  K := K
  mg := mg
  base := base
  A := A.deeper (ksEnv qual scope s.heap.objs.size f (.ref cda) cc)
  N := N
  s_0 := s
  H_0 := H
  env := ksEnv qual scope s.heap.objs.size f (.ref cda) cc
  outer := outer
  stack := ksEnv qual scope s.heap.objs.size f (.ref cda) cc :: outer
  ex := []
  calm := true
  fn := fun _ => false
  pn := []
  xe := fun e s' => wpAny (model P w) (A.deeper (ksEnv qual scope s.heap.objs.size f (.ref cda) cc)) (leaving (ksEnv qual scope s.heap.objs.size f (.ref cda) cc) e) (fun _ s'' => CX outer H s E e s'') (fun e' s'' => CX outer H s E e' s'') s'
theorem cells_eq {y : Str} {cc c : Addr} (h : ([("__class__", cc)] : List (Str × Addr)).lookup y = some c) : y = "__class__" ∧ c = cc := by
  simp only [List.lookup] at h
  split at h
  · rename_i e
    exact ⟨by simpa using e, (Option.some.inj h).symm⟩
  · cases h
theorem lookup_mem' {α : Type} {y : Str} {u : α} : ∀ {l : List (Str × α)}, (y, u) ∈ l → (l.map (·.1)).Nodup → l.lookup y = some u
  | [], h, _ => by cases h
  | (z, v) :: r, h, nd => by
    rw [List.map_cons, List.nodup_cons] at nd
    rcases List.mem_cons.mp h with e | e
    · cases e
      simp [List.lookup]
    · have ne : (y == z) = false := by
        simp only [beq_eq_false_iff_ne, ne_eq]
        rintro rfl
        exact nd.1 (List.mem_map.mpr ⟨_, e, rfl⟩)
      rw [List.lookup_cons, ne]
      exact lookup_mem' e nd.2
theorem nth_bind {N : List Str} {us : List Value} (hN : N.Nodup) (hl : us.length = N.length) {i : Nat} {y : Str} {u : Value} (h1 : N[i]? = some y) (h2 : us[i]? = some u) : (N.zip us).reverse.lookup y = some u := by
  refine lookup_mem' (List.mem_reverse.mpr ?_) ?_
  · refine List.mem_of_getElem? (i := i) ?_
    rw [List.getElem?_zip_eq_some]
    exact ⟨h1, h2⟩
  · rw [List.map_reverse, List.map_fst_zip (by omega)]
    exact List.pairwise_reverse.mpr (List.Pairwise.imp (fun h => Ne.symm h) hN)
section
variable {P : Program} {w : World} {K : PySem.W.Frag} {mg : Str → Option Value} {base : Heap} {N : List Str} {qual : Str} {params : Arguments} {body : List Stmt} {scope : Scope} {f C cda cc : Addr} {CX : CXT} {A : Around} {outer : List Env} {s : Shared} {H : Hp} {E : XK}
theorem s_start (T : SupC P K C f cda cc qual params body scope) (S : SScope N scope) (hd : A.handled = none) (e0 : Env0 P w K mg base A outer s H) {us : List Value} {vs : List V} (hl : vs.length = N.length) (r : Vals vs us) {h₀ : Heap} {tk : Nat}
    (hns : h₀.Ns s.heap.objs.size (fun x => (N.zip us).reverse.lookup x)) (hk : ∀ b o, s.heap.get? b = some o → h₀.get? b = some o) :
    Inv (sCx CX P w K mg base N qual scope f cda cc A outer s H E) [] (vs.map some) H { s with heap := h₀, toks := tk } := by
  obtain ⟨cl, cld, csl, hcell⟩ := T.cell
  have noA : ∀ b : Addr, b ∉ (sCx CX P w K mg base N qual scope f cda cc A outer s H E).ex := fun b z => absurd (show b ∈ ([] : List Addr) from z) (by simp)
  have bcc := e0.bs cc _ (e0.mod.kin _ _ hcell)
  refine ⟨⟨e0.mod, S.kind, rfl, rfl, Nat.le_refl _, fun y z c h1 h2 => ?_, fun y hy => ?_, fun y c z => ?_, fun _ => hd, Around.frames_deeper e0.frames, .inr ⟨rfl, rfl⟩, fun b z => absurd z (noA b), e0.bs, e0.bsz, fun b _ _ => noA b, fun b z => absurd z (noA b), e0.funs, e0.frf⟩,
    rfl, e0.bare, Un.kept hk, ⟨_, hns, fun i y v h1 h2 h3 => ?_⟩, fun y c h => ?_, e0.hok.fresh (Nat.le_refl _), fun y c h => ?_, fun p hp => absurd (show p ∈ ([] : List (Addr × Obj)) from hp) (by simp), e0.hok.kept hk, ?_⟩
  · rw [(cells_eq h1).1, (cells_eq h2).1]
  · have hy : scope.names.lookup y = some .cell ∨ scope.names.lookup y = some .free := hy
    rcases hy with hy | hy
    · exact absurd rfl (S.nocell _ (PySem.mem_of_lookup hy))
    · rw [S.onlyfree y hy]
      exact ⟨cc, rfl⟩
  · have z : false = true := z
    cases z
  · have hi : i < vs.length := by
      have := (List.getElem?_eq_some_iff.mp h2).1
      simpa using this
    have ha : vs[i]? = some v := by
      rw [List.getElem?_map] at h2
      cases e : vs[i]? with
      | none => rw [e] at h2; cases h2
      | some a => rw [e] at h2; cases h2; rfl
    obtain ⟨u, hu, rv⟩ := r.get ha
    refine ⟨u, rv, .inl ⟨S.par y (List.mem_of_getElem? h1), ?_⟩⟩
    exact nth_bind S.nd (by rw [← r.length, hl]) h1 hu
  · obtain ⟨rfl, rfl⟩ := cells_eq h
    exact ⟨_, _, hk _ _ bcc.1, rfl⟩
  · obtain ⟨rfl, rfl⟩ := cells_eq h
    exact bcc.2
  · show (vs.map some).length = N.length
    rw [List.length_map, hl]
end
end SX

set_option Elab.async false
set_option linter.all false
set_option maxRecDepth 100000
set_option maxHeartbeats 4000000
namespace SX
open PySem PySem.Spec PyProof.Rows L2
open PySem.W (ksEnv ksFn kxs_mw)
section
open PySem.W
variable {prog : Program} {w : World} {A : Around} {E : Value → Shared → Prop} {h : Heap} {g : Array GenState} {d : Drawn} {t : Nat} {os : OsState}
variable {nm q : Str} {C N : Addr} {bs bm : List Value} {hdct : Bool} {sn : List Str} {sub : List Value} {ab : Bool} {col : Option Bool} {dd : Option Addr} {k0 k1 k2 k3 k5 : Option Value}
theorem call_bwV {u e t0 : Addr} {rest : List Value} {Q : Value → Shared → Prop}
    (hC : h.get? C = some (excClassObj nm q C N bs bm hdct sn sub ab col dd k0 k1 k2 k3 k5 "ValueError.__new__")) (he : h.get? e = some (HandSPX.excO C t0)) (hu : h.get? u = some (kxs_mw "ValueError.__init__" e)) (hrest : rest.length ≤ sizeLine)
    (hq : ∀ h' t1, (∀ b o, b ≠ e → h.get? b = some o → h'.get? b = some o) → h'.get? e = some (HandSPX.excO C t1) → Q .none ⟨h', g, d, t, os⟩) :
    wpAny (model prog w) A (call (.ref u) rest) Q E ⟨h, g, d, t, os⟩ := by
  refine wpAny_call (codeAny_of_tree ?_)
  show wpAny _ A.in1 (callAny (.ref u) ⟨rest, []⟩) _ _ _
  simp only [callAny]
  refine wpAny_bind (wpAny_load hu ?_)
  simp only [kxs_mw, show (Value.type "method-wrapper" == Value.type "method" || Value.type "method-wrapper" == Value.type "builtin_function_or_method" || Value.type "method-wrapper" == Value.type "method-wrapper") = true by decide, if_true]
  refine W.KFB.if_so (by decide) ?_
  refine wpAny_bind (ESX.check_bound F.excBase_ValueError hC he rfl ?_)
  refine wpAny_bind (wpAny_pure (wpAny_pure ?_))
  refine ⟨Code.quiet_builtin _ (by decide +kernel), codeAny_builtin F.excBase_ValueError.initEntry ?_⟩
  rw [Around.under_plainId F.excBase_ValueError.init.plain _]
  wp_walk
  refine hq _ h.objs.size (fun b o hb ho => ?_) ?_
  · rw [Heap.get?_update_other _ _ (Ne.symm hb)]
    exact Heap.get?_push_of_some _ ho
  · rw [Heap.get?_update_self _ (Heap.get?_push_of_some _ he) rfl]
    rfl
end
section
variable {P : Program} {w : World} {K : PySem.W.Frag} {mg : Str → Option Value} {base : Heap} {N : List Str} {qual : Str} {params : Arguments} {body : List Stmt} {scope : Scope} {fI C cda cc : Addr} {CX : CXT} {A : Around} {outer : List Env} {s0 : Shared} {H0 : Hp} {E : XK}
/-- super().__init__(e, ..), self the exception at x that is being made -/
theorem sup_stmt (T : SupC P K C fI cda cc qual params body scope) (S : SScope N scope) (hp : (params.posonlyargs ++ params.args).head?.map (·.arg) = some ("self" : Str)) (hN0 : N[0]? = some ("self" : Str)) (hms : mg "super" = none)
    {e : Expr} {es : List Expr} {ta : TA} {p0 p1 p2 pos pos' : Pos} {x : Addr} {pins : List (Addr × Obj)} {σ : L2.St} {H : Hp} {s : Shared} {R : Hp → Prop}
    (ha : PA (sCx CX P w K mg base N qual scope fI cda cc A outer s0 H0 E) (e :: es) ta)
    (I : Inv (sCx CX P w K mg base N qual scope fI cda cc A outer s0 H0 E) pins σ H s) (hs : σ[0]? = some (some (.ref x))) (hx : H x = some (exo x C none))
    (h : ta σ H fun vs H1 => vs.length ≤ 1000 ∧ H1 x = some (exo x C none) ∧ R H1)
    (hsw : swapsWith (.Call (.Attribute (.Call (.Name "super" p0) [] [] p1) "__init__" p2) (e :: es) [] pos) none pos'.line (sCx CX P w K mg base N qual scope fI cda cc A outer s0 H0 E).env = pure false := by rfl)
    {pl : Sem Bool} (he : eval (.Call (.Attribute (.Call (.Name "super" p0) [] [] p1) "__init__" p2) (e :: es) [] pos) (sCx CX P w K mg base N qual scope fI cda cc A outer s0 H0 E).env = (do
      let ov ← attributeBase (.Call (.Name "super" p0) [] [] p1) "__init__" (sCx CX P w K mg base N qual scope fI cda cc A outer s0 H0 E).env (eval (.Call (.Name "super" p0) [] [] p1) (sCx CX P w K mg base N qual scope fI cda cc A outer s0 H0 E).env)
      standAt p2.atName
      let (f, first) ← holding [ov] (getMethod ov "__init__" pl)
      callWith pos f first (backTo pos (starEach (e :: es) (sCx CX P w K mg base N qual scope fI cda cc A outer s0 H0 E).env)) []) := by rfl)
    (hst : starEach (e :: es) (sCx CX P w K mg base N qual scope fI cda cc A outer s0 H0 E).env = (false, eval e (sCx CX P w K mg base N qual scope fI cda cc A outer s0 H0 E).env) :: starEach es (sCx CX P w K mg base N qual scope fI cda cc A outer s0 H0 E).env := by rfl)
    (hpl : (backTo pos (starEach es (sCx CX P w K mg base N qual scope fI cda cc A outer s0 H0 E).env)).any (·.1) = false := by rfl) :
    PySem.wpAt (model P w) (sCx CX P w K mg base N qual scope fI cda cc A outer s0 H0 E).A (.func body (sCx CX P w K mg base N qual scope fI cda cc A outer s0 H0 E).env)
      (exec (.Expr (.Call (.Attribute (.Call (.Name "super" p0) [] [] p1) "__init__" p2) (e :: es) [] pos) pos') (sCx CX P w K mg base N qual scope fI cda cc A outer s0 H0 E).env)
      (fun fl s' => fl = .next ∧ ∃ H1, Inv (sCx CX P w K mg base N qual scope fI cda cc A outer s0 H0 E) pins σ H1 s' ∧ R H1) (sCx CX P w K mg base N qual scope fI cda cc A outer s0 H0 E).xe s := by
  obtain ⟨oc, od, doc, pm, an, ct, osl, hf⟩ := T.fn
  obtain ⟨ccl, cdd, vs, ccs, file, tf, hcode, hvs, hfile⟩ := T.code
  obtain ⟨cl, cld, csl, hcell⟩ := T.cell
  obtain ⟨nm, q, Nn, bs, bm, sn, sub, ab, col, dd, k0, k1, k2, k3, k5, hC, hbm⟩ := T.oex.cls
  obtain ⟨ar, har, hself⟩ := Option.map_eq_some_iff.mp hp
  have X : K.In s.heap := I.kIn
  obtain ⟨t0, hxo⟩ := exo_at I.hok hx
  obtain ⟨m, hn, hl⟩ := I.loc
  have look : m ("self" : Str) = some (.ref x) := by
    obtain ⟨u, ru, l⟩ := hl 0 ("self" : Str) (.ref x) hN0 hs (.inl (S.par _ (List.mem_of_getElem? hN0)))
    have eu : u = Value.ref x := ru
    rw [eu] at l
    rcases l with ⟨_, l⟩ | ⟨k, _⟩
    · exact l
    · have k0 : scope.names.lookup ("self" : Str) = some .local := S.par _ (List.mem_of_getElem? hN0)
      have k : scope.names.lookup ("self" : Str) = some .cell ∨ scope.names.lookup ("self" : Str) = some .free := k
      rcases k with k | k <;> rw [k0] at k <;> cases k
  obtain ⟨mb, hmb, hblt⟩ := I.mod.blt
  have hxC : x ≠ C := fun z => by
    have q1 := X _ _ hC
    rw [← z, hxo] at q1
    cases q1
  obtain ⟨hh, g, d, t, os⟩ := s
  refine ks_wpAt_Expr_any (ks_wpAt_MethodCall (pl := pl) ?_ he) I.quiet hsw
  refine ks_wpAt_super_base (env := (sCx CX P w K mg base N qual scope fI cda cc A outer s0 H0 E).env) S.sup S.cls (by decide) rfl (X _ _ hf) rfl har rfl (X _ _ hcode) rfl hvs hfile T.top ?_
  refine PySem.W.ks_loadName_global S.kind S.sup (Calls.loadGlobal_builtin (by exact I.mod.glob.keeps I.bk) hms (by exact hmb.keeps I.bk) ((hblt _ (by decide +kernel)).trans (by decide +kernel : bootBuiltins "super" = some (.type "super"))) ⟨rfl, ?_⟩)
  refine wpAny_loadName_free S.kind S.cls rfl ⟨_, X _ _ hcell, rfl⟩ ?_
  rw [hself]
  refine wpAny_loadName_local S.kind (S.par _ (List.mem_of_getElem? hN0)) hn look ?_
  refine ks_wpAny_isType_cls (X _ _ hC) rfl ⟨rfl, ?_⟩
  refine ks_wpAny_call_super (X _ _ hC) rfl hxo rfl (fun c e => by cases e) (PySem.W.looks_mroIn X T.mro) (fun h' e k => ?_)
  have I1 := I.kept (t' := t) (h' := h') k
  have X1 : K.In h' := I1.kIn
  have hcd : PySem.W.clsIn K C = some { name := nm, bases := bs, mro := .ref C :: bm, ns := Nn, qualname := q, hasDict := true, slotNames := sn, subclasses := sub, abstract := ab, collection := col, hasDel := false } := by unfold PySem.W.clsIn; rw [hC] <;> rfl
  have hsup := T.sup
  unfold PySem.W.ks_superIn at hsup
  rw [hcd] at hsup
  have It : PySem.W.InstAt h' x (HandSPX.excO C t0) C none := ⟨k _ _ hxo, rfl, rfl, trivial⟩
  refine PySem.W.kxs_getMethod PySem.W.kxs_ValueError e (PySem.W.looks_opaque X1 T.opq) (l₀ := .ref C :: bm) ?_ rfl X1 hsup (It.type.andThen (PySem.W.looks_subIn X1 T.sub)) hxC (by decide) ?_
  · exact fun A Q E s k q => wpAny_bind ((PySem.W.looks_clsIn X1 hcd) A _ E s k (wpAny_pure q))
  have hu : (h'.push (kxs_mw "ValueError.__init__" x)).get? h'.objs.size = some (kxs_mw "ValueError.__init__" x) := Heap.get?_push_at rfl rfl
  have I2 : Inv (sCx CX P w K mg base N qual scope fI cda cc A outer s0 H0 E) pins σ H ⟨h'.push (kxs_mw "ValueError.__init__" x), g, d, t + 1, os⟩ := I1.kept (t' := t + 1) (h' := h'.push (kxs_mw "ValueError.__init__" x)) fun b o e => Heap.get?_push_of_some _ e
  have fp := I1.fpOk (b := h'.objs.size) (H' := H) (Nat.le_refl _) (I1.hok.fresh (Nat.le_refl _))
  have I3 : Inv (sCx CX P w K mg base N qual scope fI cda cc A outer s0 H0 E) (pins ++ [(h'.objs.size, kxs_mw "ValueError.__init__" x)]) σ H ⟨h'.push (kxs_mw "ValueError.__init__" x), g, d, t + 1, os⟩ := I2.pins_of fun p hp => by
    rcases List.mem_append.mp hp with z | z
    · exact I2.pin p (List.mem_append_right _ z)
    · have z : p = (h'.objs.size, kxs_mw "ValueError.__init__" x) := by simpa using z
      subst z
      exact ⟨hu, fp.1, fp.2.1, fp.2.2.1, fun v z => by cases z⟩
  rw [hst]
  refine PySem.W.kxs_callWith (i := "ValueError.__init__") (x := x) (by show (false || (backTo pos (starEach es _)).any (·.1)) = false; rw [hpl]; rfl) ?_
  have run := ha.run pos (pins ++ [(h'.objs.size, kxs_mw "ValueError.__init__" x)]) _ σ H _ I3 h
  rw [hst] at run
  refine PySem.Calls.evalArgs_plain (thn run fun us s1 hh => ?_)
  obtain ⟨vs, H1, I4, r1, hlen, hx1, hR⟩ := hh
  have pin := I4.pin (h'.objs.size, kxs_mw "ValueError.__init__" x) (List.mem_append_right _ (List.mem_append_right _ (List.mem_singleton.mpr rfl)))
  refine ⟨pin.1, ?_⟩
  obtain ⟨t1, hx1o⟩ := exo_at I4.hok hx1
  obtain ⟨h1, g1, d1, tk1, os1⟩ := s1
  show wpAny _ _ (call (.ref h'.objs.size) us) _ _ _
  refine call_bwV (I4.kIn _ _ hC) hx1o pin.1 (by rw [← Paired.length r1, sizeLine_eq]; omega) fun h2 t2 k2 hx2 => ⟨rfl, H1, ?_, hR⟩
  have I5 := I4.unpinned
  have J := I5.write (t' := tk1) (x := x) (e := x) (o := exo x C none) (by rw [hx1]; exact True.intro) (.inl rfl) k2 ⟨_, hx2⟩ (exo_ok hx2)
  have eu : upd H1 x (exo x C none) = H1 := by
    funext b
    by_cases hb : b = x
    · rw [hb, upd_same, hx1]
    · rw [upd_ne hb]
  rw [eu] at J
  exact J
end
end SX

set_option Elab.async false
set_option linter.all false
set_option maxRecDepth 100000
set_option maxHeartbeats 4000000
namespace SX
open PySem PySem.Spec PyProof.Rows L2
open PySem.W (ksEnv ksFn kxs_mw)
section
variable {P : Program} {w : World} {K : PySem.W.Frag} {mg : Str → Option Value} {base : Heap} {N : List Str} {qual : Str} {params : Arguments} {scope : Scope} {fI C cda cc : Addr} {CX : CXT}
/-- THE RULE for such an __init__: its first row is super().__init__(e, ..) -/
theorem sup_fn {k : Nat} {sp : Sp} {e : Expr} {es : List Expr} {p0 p1 p2 pos pos' : Pos} {rest : List Stmt} {oc : Value} {od : Option Addr} {doc pm : Value} {an : Option Addr} {ct : Value} {osl : Array (Option Value)}
    (T : SupC P K C fI cda cc qual params (.Expr (.Call (.Attribute (.Call (.Name "super" p0) [] [] p1) "__init__" p2) (e :: es) [] pos) pos' :: rest) scope)
    (lk : K.lookup fI = some ⟨oc, od, .func (ksFn "__init__" qual params (.Expr (.Call (.Attribute (.Call (.Name "super" p0) [] [] p1) "__init__" p2) (e :: es) [] pos) pos' :: rest) scope .none .none doc pm an (.ref cda) ct cc), osl⟩)
    (S : SScope N scope) (hp : (params.posonlyargs ++ params.args).head?.map (·.arg) = some ("self" : Str)) (hN0 : N[0]? = some ("self" : Str)) (hms : mg "super" = none) (len : ∀ vs H Q E, sp vs H Q E → vs.length = N.length)
    (hbody : ∀ (A : Around) (outer : List Env) (s : Shared) (H : Hp) (vs : List V) (Q : VK) (E : XK), Room k (A.deeper (ksEnv qual scope s.heap.objs.size fI (.ref cda) cc)) → sp vs H Q E →
      ∃ (x : Addr) (ta : TA) (tr : TS), PA (sCx CX P w K mg base N qual scope fI cda cc A outer s H E) (e :: es) ta ∧ PSs (sCx CX P w K mg base N qual scope fI cda cc A outer s H E) rest tr ∧ vs[0]? = some (.ref x) ∧ H x = some (exo x C none) ∧
        ta (vs.map some) H fun vs1 H1 => vs1.length ≤ 1000 ∧ H1 x = some (exo x C none) ∧ tr { nx := fun _ H' => Q .non H', rt := Q } (vs.map some) H1)
    (hsw : ∀ env : Env, swapsWith (.Call (.Attribute (.Call (.Name "super" p0) [] [] p1) "__init__" p2) (e :: es) [] pos) none pos'.line env = pure false := by intro _; rfl)
    {pl : Env → Sem Bool} (he : ∀ env : Env, eval (.Call (.Attribute (.Call (.Name "super" p0) [] [] p1) "__init__" p2) (e :: es) [] pos) env = (do
      let ov ← attributeBase (.Call (.Name "super" p0) [] [] p1) "__init__" env (eval (.Call (.Name "super" p0) [] [] p1) env)
      standAt p2.atName
      let (f, first) ← holding [ov] (getMethod ov "__init__" (pl env))
      callWith pos f first (backTo pos (starEach (e :: es) env)) []) := by intro _; rfl)
    (hst : ∀ env : Env, starEach (e :: es) env = (false, eval e env) :: starEach es env := by intro _; rfl)
    (hpl : ∀ env : Env, (backTo pos (starEach es env)).any (·.1) = false := by intro _; rfl) :
    FnOk P w K mg base CX (k + 1) fI (ksFn "__init__" qual params (.Expr (.Call (.Attribute (.Call (.Name "super" p0) [] [] p1) "__init__" p2) (e :: es) [] pos) pos' :: rest) scope .none .none doc pm an (.ref cda) ct cc) N sp := by
  refine ⟨len, fun A outer s H args us vs Q E hr e0 hb r hsp => ?_⟩
  have hl := len _ _ _ _ hsp
  have KX : K.In s.heap := e0.mod.kin.keeps fun b o e => (e0.bs b o e).1
  have lim : s.heap.NoLimit := e0.mod.nolimit.keeps fun b o e => (e0.bs b o e).1
  refine ks_codeAny_call_defAt (fd := ksFn "__init__" qual params (.Expr (.Call (.Attribute (.Call (.Name "super" p0) [] [] p1) "__init__" p2) (e :: es) [] pos) pos' :: rest) scope .none .none doc pm an (.ref cda) ct cc)
    (body := .Expr (.Call (.Attribute (.Call (.Name "super" p0) [] [] p1) "__init__" p2) (e :: es) [] pos) pos' :: rest) (binds := N.zip us) hr.depth (KX _ _ lk) rfl lim (PySem.W.codeRec_of KX T.cd) rfl hb S.nocell (fun y hy => S.par _ (List.of_mem_zip hy).1) (fun h₀ hns hk => ?_) S.co S.gen S.kind
  obtain ⟨x, ta, tr, hA, hR, hv0, hx, hq⟩ := hbody A outer s H vs Q E (hr.deeper _) hsp
  have I : Inv (sCx CX P w K mg base N qual scope fI cda cc A outer s H E) [] (vs.map some) H { s with heap := h₀, toks := s.toks + (N.zip us).length } := s_start T S hr.hd e0 hl r hns hk
  have fin : ∀ {σ' : L2.St} {H' : Hp} {v : V} {u : Value} {s' : Shared}, Inv (sCx CX P w K mg base N qual scope fI cda cc A outer s H E) [] σ' H' s' → RelV v u → Q v H' → CE outer P w H s Q u s' :=
    fun {σ' H' v u s'} J rv q => ⟨v, H', J.os, J.bare, J.base, J.hok, rv, q⟩
  refine ks_wpAt_execs_cons (ks_wpAt_mono (sup_stmt T S hp hN0 hms hA I (by rw [List.getElem?_map, hv0]; rfl) hx hq (hsw _) (pl := pl _) (he _) (hst _) (hpl _)) (fun fl s1 hh => ?_) fun _ _ z => z)
  obtain ⟨rfl, H1, I1, q1⟩ := hh
  refine wpAt_of_wpAny (wpAny_mono (hR.run [] s1 (vs.map some) H1 _ I1 q1) (fun fl s' hs => ?_) fun e s' hs => hs)
  cases fl with
  | ret u =>
    obtain ⟨v, σ', H', J, rv, q⟩ := hs
    exact fin J rv q
  | next =>
    obtain ⟨σ', H', J, q⟩ := hs
    exact fin (v := V.non) (u := Value.none) J rfl q
  | brk =>
    obtain ⟨_, _, _, q⟩ := hs
    exact False.elim q
  | cont =>
    obtain ⟨_, _, _, q⟩ := hs
    exact False.elim q
end
end SX

set_option Elab.async false
set_option linter.all false
set_option maxRecDepth 100000
set_option maxHeartbeats 4000000
/-! a Hook of our own: the head's facts, the defs, the __init__s that close over __class__, the empty tables -/
namespace SH
open PySem PySem.Spec PyProof.Rows L2 He
open PySem.W (ksEnv ksFn)
/-- an __init__ as it stands: all but the closure's addresses -/
abbrev IniV : Type := Option (Str × Str × Arguments × FuncBody × Scope × Addr × List Str × Value × Value × Addr)
def iniObs (K : PySem.W.Frag) (x : Str) : IniV := match K.lookup (ma K (ga K x) "__init__") with
  | some o => (match o.data with
    | .func fd => some (fd.name, fd.qualname, fd.params, fd.body, fd.scope, fd.globals, fd.closure.map (·.1), fd.defaults, fd.kwdefaults, fd.builtins)
    | _ => none)
  | none => none
structure IniD where
  cls : Str
  qual : Str
  params : Arguments
  body : List Stmt
  scope : Scope
def IniD.val (d : IniD) : IniV := some ("__init__", d.qual, d.params, .stmts d.body, d.scope, mainGlobals, ["__class__"], .none, .none, builtinsNs)
/-- the code object and the cell of such an __init__ -/
def iniCode (K : PySem.W.Frag) (x : Str) : Addr := match K.lookup (ma K (ga K x) "__init__") with
  | some o => (match o.data with
    | .func fd => (match fd.code with
      | .ref c => c
      | _ => 0)
    | _ => 0)
  | none => 0
def iniCell (K : PySem.W.Frag) (x : Str) : Addr := match K.lookup (ma K (ga K x) "__init__") with
  | some o => (match o.data with
    | .func fd => (match fd.closure with
      | (_, c) :: _ => c
      | [] => 0)
    | _ => 0)
  | none => 0
def isRefCode (K : PySem.W.Frag) (x : Str) : Bool := match K.lookup (ma K (ga K x) "__init__") with
  | some o => (match o.data with
    | .func fd => (match fd.code with
      | .ref c => true
      | _ => false)
    | _ => false)
  | none => false
/-- the class object -/
def oexB (K : PySem.W.Frag) (C : Addr) : Bool := match K.lookup C with
  | some ⟨.type t, _, .cls cd, sl⟩ => (match cd.mro, sl.toList with
    | .ref D :: bm, [_, _, _, _, some (.builtin n), _] => decide (t = "type") && (decide (D = C) && (decide (n = "ValueError.__new__") && (!cd.hasDel && (cd.hasDict && HandSPX.refsVE bm))))
    | _, _ => false)
  | _ => false
theorem oexB_ok {K : PySem.W.Frag} {C : Addr} (h : oexB K C = true) : ∃ nm q N bs bm sn sub ab col dd k0 k1 k2 k3 k5, K.lookup C = some (excClassObj nm q C N bs bm true sn sub ab col dd k0 k1 k2 k3 k5 "ValueError.__new__") ∧ HandSPX.refsVE bm = true := by
  unfold oexB at h
  split at h
  · rename_i t dd cd sl ho
    split at h
    · rename_i D bm k0 k1 k2 k3 n k5 hm hs
      obtain ⟨h1, h⟩ := ba h
      obtain ⟨h2, h⟩ := ba h
      obtain ⟨h3, h⟩ := ba h
      obtain ⟨h4, h⟩ := ba h
      obtain ⟨h5, h6⟩ := ba h
      have e1 := of_decide_eq_true h1
      have e2 := of_decide_eq_true h2
      have e3 := of_decide_eq_true h3
      have e4 : cd.hasDel = false := by simpa using h4
      obtain ⟨nm, bs, mro, ns, qn, hd, sn, sub, ab, col, del⟩ := cd
      dsimp only at hm e4 h5
      subst hm e4 h5 e1 e2 e3
      obtain ⟨l⟩ := sl
      have hs' : l = [k0, k1, k2, k3, some (.builtin "ValueError.__new__"), k5] := hs
      subst hs'
      exact ⟨nm, qn, ns, bs, bm, sn, sub, ab, col, dd, k0, k1, k2, k3, k5, ho, h6⟩
    · cases h
  · cases h
/-- the text's file, at a code object -/
def fileB (f : Str) (K : PySem.W.Frag) (c : Addr) : Bool := match K.lookup c with
  | some o => (match o.data with
    | .fields vs => (match (vs.toList[2]? : Option Value) with
      | some (Value.str z _) => f == z
      | _ => false)
    | _ => false)
  | none => false
theorem fileB_ok {f : Str} {K : PySem.W.Frag} {c : Addr} (h : fileB f K c = true) : ∃ (ccl : Value) (cdd : Option Addr) (vs : Array Value) (ccs : Array (Option Value)) (file : Str) (tf : Tok), K.lookup c = some ⟨ccl, cdd, .fields vs, ccs⟩ ∧ vs[2]? = some (.str file tf) ∧ (f == file) = true := by
  unfold fileB at h
  split at h
  · rename_i o ho
    obtain ⟨oc, od, dt, osl⟩ := o
    cases dt with
    | fields vs =>
      have h' : (match (vs.toList[2]? : Option Value) with
        | some (Value.str z _) => f == z
        | _ => false) = true := h
      split at h'
      · rename_i z t hz
        exact ⟨oc, od, vs, osl, z, t, ho, by simpa using hz, h'⟩
      · cases h'
    | _ => cases h
  · cases h
def cellB (K : PySem.W.Frag) (c C : Addr) : Bool := match K.lookup c with
  | some o => (match o.data with
    | .cell (some (.ref D)) => decide (D = C)
    | _ => false)
  | none => false
theorem cellB_ok {K : PySem.W.Frag} {c C : Addr} (h : cellB K c C = true) : ∃ (cl : Value) (cld : Option Addr) (csl : Array (Option Value)), K.lookup c = some ⟨cl, cld, .cell (some (.ref C)), csl⟩ := by
  unfold cellB at h
  split at h
  · rename_i o ho
    obtain ⟨oc, od, dt, osl⟩ := o
    split at h
    · rename_i D hD
      have e : D = C := of_decide_eq_true h
      have hD' : dt = .cell (some (.ref D)) := hD
      subst e hD'
      exact ⟨oc, od, osl, ho⟩
    · cases h
  · cases h
/-- all of one such class -/
def supB (f : Str) (K : PySem.W.Frag) (d : IniD) : Bool :=
  oexB K (ga K d.cls) && (eqO (PySem.W.findIn K (.ref (ga K d.cls)) "__setattr__") (some (some (.builtin "object.__setattr__"))) && (decide (PySem.W.subIn K (.ref (ga K d.cls)) (.type "BaseException") = some true) && (decide (PySem.W.typeIn K (.ref (ga K d.cls)) = some (.type "type")) && (PySem.W.keepIn K (.ref (ga K d.cls)) &&
  (PySem.W.codeIn K (.ref (iniCode K d.cls)) d.qual && (isRefCode K d.cls && (fileB f K (iniCode K d.cls) && (cellB K (iniCell K d.cls) (ga K d.cls) && (eqO (PySem.W.nsIn K PySem.cStatics "thirdparty.any") (some none) && (eqO (PySem.W.ks_superIn K (ga K d.cls) (ga K d.cls) "__init__") (some (some (.builtin "ValueError.__init__"))) &&
  (decide (PySem.W.mroIn K (ga K d.cls) (.ref (ga K d.cls)) = some true) && (decide (PySem.W.subIn K (.ref (ga K d.cls)) (.type "ValueError") = some true) && (eqO (PySem.W.findIn K (.ref (ga K d.cls)) "__init__") (some (some (.ref (ma K (ga K d.cls) "__init__")))) && decide (PySem.W.typeIn K (.ref (ma K (ga K d.cls) "__init__")) = some (.type "function")))))))))))))))
structure SupF (P : Program) (K : PySem.W.Frag) (d : IniD) : Prop where
  t : SX.SupC P K (ga K d.cls) (ma K (ga K d.cls) "__init__") (iniCode K d.cls) (iniCell K d.cls) d.qual d.params d.body d.scope
  init : PySem.W.findIn K (.ref (ga K d.cls)) "__init__" = some (some (.ref (ma K (ga K d.cls) "__init__")))
  ty : PySem.W.typeIn K (.ref (ma K (ga K d.cls) "__init__")) = some (.type "function")
theorem supB_ok {P : Program} {K : PySem.W.Frag} {d : IniD} (h : supB P.main.file K d = true) (e : iniObs K d.cls = d.val) (htop : (P.main.scope.names.lookup ("super" : Str)).isSome = false) : SupF P K d := by
  unfold supB at h
  obtain ⟨h1, h⟩ := ba h
  obtain ⟨h2, h⟩ := ba h
  obtain ⟨h3, h⟩ := ba h
  obtain ⟨h4, h⟩ := ba h
  obtain ⟨h5, h⟩ := ba h
  obtain ⟨h6, h⟩ := ba h
  obtain ⟨h6b, h⟩ := ba h
  obtain ⟨h7, h⟩ := ba h
  obtain ⟨h8, h⟩ := ba h
  obtain ⟨h9, h⟩ := ba h
  obtain ⟨h10, h⟩ := ba h
  obtain ⟨h11, h⟩ := ba h
  obtain ⟨h12, h⟩ := ba h
  obtain ⟨h13, h14⟩ := ba h
  refine ⟨⟨⟨oexB_ok h1, eqO_ok h2, of_decide_eq_true h3, of_decide_eq_true h4, h5⟩, ?_, h6, fileB_ok h7, cellB_ok h8, eqO_ok h9, eqO_ok h10, of_decide_eq_true h11, of_decide_eq_true h12, htop⟩, eqO_ok h13, of_decide_eq_true h14⟩
  unfold iniObs at e
  cases q : K.lookup (ma K (ga K d.cls) "__init__") with
  | none =>
    rw [q] at e
    cases e
  | some o =>
    obtain ⟨oc, od, dt, osl⟩ := o
    rw [q] at e
    cases dt with
    | func fd =>
      obtain ⟨n1, n2, n3, n4, n5, n6, n7, n8, n9, n10, n11, n12, n13, n14, n15⟩ := fd
      have e' : (some (n1, n2, n3, n4, n5, n6, n7.map (·.1), n8, n9, n15) : IniV) = (some (("__init__" : Str), d.qual, d.params, FuncBody.stmts d.body, d.scope, mainGlobals, [("__class__" : Str)], Value.none, Value.none, builtinsNs) : IniV) := e
      injection e' with e'
      injection e' with a1 e'
      injection e' with a2 e'
      injection e' with a3 e'
      injection e' with a4 e'
      injection e' with a5 e'
      injection e' with a6 e'
      injection e' with a7 e'
      injection e' with a8 e'
      injection e' with a9 a10
      obtain ⟨c2, rfl⟩ : ∃ c2 : Addr, n7 = [(("__class__" : Str), c2)] := by
        match n7, a7 with
        | [(y, c2)], a7 =>
          have ey : y = "__class__" := by simpa using a7
          exact ⟨c2, by rw [ey]⟩
      have el : iniCell K d.cls = c2 := by
        unfold iniCell
        rw [q]
      have h6c : ∃ c, n13 = .ref c := by
        unfold isRefCode at h6b
        rw [q] at h6b
        cases n13 with
        | ref c => exact ⟨c, rfl⟩
        | _ => cases h6b
      obtain ⟨c, rfl⟩ := h6c
      have ec : iniCode K d.cls = c := by
        unfold iniCode
        rw [q]
      subst a1 a2 a3 a4 a5 a6 a8 a9 a10
      exact ⟨oc, od, n10, n11, n12, n14, osl, by rw [ec, el] <;> exact q⟩
    | _ => cases e
/-- what is told at the head -/
structure Says (f : Str) (fa : List Fa) (fn : List DefD) (ini : List IniD) (tf : List Defn) (ex : PySem.W.Frag → Bool) (h : Heap) (K : PySem.W.Frag) : Prop where
  d : SaysD fa fn K
  ex : ex K = true
  sup : ∀ d ∈ ini, supB f K d = true ∧ iniObs K d.cls = d.val
  hd : ∀ p ∈ tf, PySem.W.codeHdIn K (cT K p).1 (cT K p).2 = true
  out : ∀ p ∈ tf, K.lookup (cT K p).2 = none
  empty : ∀ p ∈ tf, h.get? (cT K p).2 = some { cls := .none, data := .fields #[] }
abbrev Al : Type := AlD × (Bool × List IniV)
def obsK (f : Str) (fa : List Fa) (fn : List DefD) (ini : List IniD) (tf : List Defn) (ex : PySem.W.Frag → Bool) (g : Addr → Option Obj) (K : PySem.W.Frag) : Al :=
  (obsD fa fn K, (ex K && (tabsB g tf K && ini.all fun d => supB f K d)), ini.map fun d => iniObs K d.cls)
def frK (n : Nat) (g : Addr → Option Obj) : PySem.W.Frag := frT g (asD g n ++ [PySem.cStatics])
theorem says_of {n : Nat} {f : Str} {fa : List Fa} {fn : List DefD} {ini : List IniD} {tf : List Defn} {ex : PySem.W.Frag → Bool} {h : Heap} (e : obsK f fa fn ini tf ex h.get? (frK n h.get?) = (valD fn, true, ini.map IniD.val)) : Says f fa fn ini tf ex h (frK n h.get?) := by
  have e1 : obsD fa fn (frK n h.get?) = valD fn := congrArg (fun z : Al => z.1) e
  have e2 : (ex (frK n h.get?) && (tabsB h.get? tf (frK n h.get?) && ini.all fun d => supB f (frK n h.get?) d)) = true := congrArg (fun z : Al => z.2.1) e
  have e3 : (ini.map fun d => iniObs (frK n h.get?) d.cls) = ini.map IniD.val := congrArg (fun z : Al => z.2.2) e
  obtain ⟨x1, x⟩ := ba e2
  obtain ⟨x2, x3⟩ := ba x
  have tab : ∀ p ∈ tf, ∃ o, h.get? (cT (frK n h.get?) p).2 = some o ∧ emptyTab o = true ∧ PySem.W.codeHdIn (frK n h.get?) (cT (frK n h.get?) p).1 (cT (frK n h.get?) p).2 = true := fun p hp => by
    obtain ⟨y1, y2⟩ := ba (List.all_eq_true.mp x2 p hp)
    split at y2
    · rename_i o ho
      exact ⟨o, ho, y2, y1⟩
    · cases y2
  refine ⟨e1, x1, fun d hd => ⟨List.all_eq_true.mp x3 d hd, ?_⟩, fun p hp => ?_, fun p hp => ?_, fun p hp => ?_⟩
  · obtain ⟨i, hi, ei⟩ := List.mem_iff_getElem.mp hd
    have q := congrArg (fun l : List IniV => l[i]?) e3
    simp only [List.getElem?_map, List.getElem?_eq_getElem hi, ei, Option.map_some] at q
    exact Option.some.inj q
  · obtain ⟨_, _, _, z⟩ := tab p hp
    exact z
  · obtain ⟨o, q, z, _⟩ := tab p hp
    exact frT_none q z
  · obtain ⟨o, q, z, _⟩ := tab p hp
    rw [q, emptyTab_eq z]
def hook (n : Nat) (f : Str) (fa : List Fa) (fn : List DefD) (ini : List IniD) (tf : List Defn) (ex : PySem.W.Frag → Bool) : PySem.W.Hook where
  α := Al
  obs := fun s => obsK f fa fn ini tf ex s.heap.get? (frK n s.heap.get?)
  val := fun _ => (valD fn, true, ini.map IniD.val)
  says := fun _ h => ∃ K : PySem.W.Frag, K.In h ∧ Says f fa fn ini tf ex h K
  of := fun _ _ e => ⟨_, frT_in, says_of e⟩
  keeps := fun _ _ _ ⟨K, hK, c⟩ k => ⟨K, PySem.W.Frag.In.keeps hK k, ⟨c.d, c.ex, c.sup, c.hd, c.out, fun p hp => k _ _ (c.empty p hp)⟩⟩
/-- the same, off the tree: the addresses are reckoned once -/
def ob (n : Nat) (f : Str) (fa : List Fa) (fn : List DefD) (ini : List IniD) (tf : List Defn) (ex : PySem.W.Frag → Bool) (s : PySem.W.SharedT) : Al :=
  obsK f fa fn ini tf ex (HandSHeadRun.getT s) (frK n (HandSHeadRun.getT s))
theorem ob_eq {n : Nat} {f : Str} {fa : List Fa} {fn : List DefD} {ini : List IniD} {tf : List Defn} {ex : PySem.W.Frag → Bool} (s : PySem.W.SharedT) : ob n f fa fn ini tf ex s = (hook n f fa fn ini tf ex).obs s.abs := by
  have e : HandSHeadRun.getT s = s.abs.heap.get? := funext (HandSHeadRun.getT_eq s)
  unfold ob
  rw [e]
  rfl
end SH

set_option Elab.async false
set_option linter.all false
set_option maxRecDepth 100000
set_option maxHeartbeats 4000000
namespace SH
open PySem PySem.Spec PyProof.Rows L2 He
/-- two runs looked at apart; ex is looked at in the first one -/
theorem run_join {r : PySem.W.OpenRow} {q : Program} {n M : Nat} {f : Str} {fa fa' : List Fa} {fn fn' : List DefD} {ini ini' : List IniD} {tf tf' : List Defn} {ex : PySem.W.Frag → Bool} {loose : List PySem.Str} {w : World}
    (r1 : HandSHeadRun.RunEq r q (hook n f fa fn ini tf ex) (ob n f fa fn ini tf ex) M loose w) (r2 : HandSHeadRun.RunEq r q (hook n f fa' fn' ini' tf' (fun _ => true)) (ob n f fa' fn' ini' tf' (fun _ => true)) M loose w) :
    HandSHeadRun.RunEq r q (hook n f (fa ++ fa') (fn ++ fn') (ini ++ ini') (tf ++ tf') ex) (ob n f (fa ++ fa') (fn ++ fn') (ini ++ ini') (tf ++ tf') ex) M loose w := by
  intro os
  obtain ⟨s, hs, h1⟩ := Option.map_eq_some_iff.mp (r1 os)
  obtain ⟨s', hs', h2⟩ := Option.map_eq_some_iff.mp (r2 os)
  rw [hs] at hs'
  cases hs'
  rw [hs]
  show some (_, _, _) = some (_, _, _)
  injection h1 with a1 h1
  injection h1 with a2 a3
  injection h2 with b1 h2
  injection h2 with b2 b3
  have c3 : obsK f fa fn ini tf ex (HandSHeadRun.getT s) (frK n (HandSHeadRun.getT s)) = (valD fn, true, ini.map IniD.val) := a3
  have d3 : obsK f fa' fn' ini' tf' (fun _ => true) (HandSHeadRun.getT s) (frK n (HandSHeadRun.getT s)) = (valD fn', true, ini'.map IniD.val) := b3
  have e3 : obsK f (fa ++ fa') (fn ++ fn') (ini ++ ini') (tf ++ tf') ex (HandSHeadRun.getT s) (frK n (HandSHeadRun.getT s)) = (valD (fn ++ fn'), true, (ini ++ ini').map IniD.val) := by
    unfold obsK obsD valD at c3 d3 ⊢
    injection c3 with c1 c2
    injection c1 with c1 c1'
    injection c2 with c2 c2'
    injection d3 with d1 d2
    injection d1 with d1 d1'
    injection d2 with d2 d2'
    simp only [Bool.and_eq_true] at c1 c2 d1 d2
    simp only [List.all_append, List.map_append, c1', c2', d1', d2', c1.1, c1.2, d1.1, d1.2, c2.1, d2.2.2, c2.2.2, Bool.and_true, Bool.true_and, Prod.mk.injEq, true_and, and_true]
    have t1 := c2.2.1
    have t2 := d2.2.1
    unfold tabsB at t1 t2 ⊢
    rw [List.all_append, t1, t2]
    rfl
  rw [a1, a2]
  exact congrArg some (congrArg (fun z => (true, _, z)) e3)
end SH

set_option Elab.async false
set_option linter.all false
set_option maxRecDepth 100000
set_option maxHeartbeats 4000000
namespace SX
open PySem PySem.Spec PyProof.Rows L2
open PySem.W (ksEnv ksFn kxs_mw)
/-- what an f-string writes out: a short text, a small int -/
def Okv (v : V) : Prop := (∃ y : Str, v = .str y ∧ y.length ≤ 1000) ∨ ∃ i : Int, v = .int i ∧ i.natAbs < 10 ^ 100
/-- __init__(self, part): super().__init__(f"..{part}"); self.part = part -/
def spI (C : Addr) (fld : Str) : Sp := fun vs H Q _ => ∃ (a : Addr) (v : V), vs = [.ref a, v] ∧ H a = some (exo a C none) ∧ Okv v ∧ ∀ d, H d = none → d ≠ a → Q .non (upd (upd H d (exd d [(fld, v)])) a (exo a C (some d)))
theorem log2_lt {n k : Nat} (hk : 0 < k) (h : n < 2 ^ k) : n.log2 < k := by
  by_cases h0 : n = 0
  · subst h0
    simpa using hk
  · exact (Nat.log2_lt h0).mpr h
theorem ok_init1 {P : Program} {w : World} {K : PySem.W.Frag} {mg : Str → Option Value} {base : Heap} {CX : CXT} {C fI cda cc : Addr} {qual part fld lit : Str} {params : Arguments} {scope : Scope}
    {j1 : Nat} {p0 p1 p2 p3 p4 p5 p6 p7 p8 p9 p10 p11 p12 : Pos}
    (T : SupC P K C fI cda cc qual params [.Expr (.Call (.Attribute (.Call (.Name "super" p0) [] [] p1) "__init__" p2) [.JoinedStr [.Constant (.str lit) j1 p3, .FormattedValue (.Name part p4) (-1) none p5] p6] [] p7) p8, .Assign [.Attribute (.Name "self" p9) fld p10] (.Name part p11) p12] scope)
    (S : SScope ["self", part] scope) (hp : (params.posonlyargs ++ params.args).head?.map (·.arg) = some ("self" : Str)) (hms : mg "super" = none)
    (hd1 : (part == ("__debug__" : Str)) = false) (hd2 : (part == ("__classdict__" : Str)) = false) (hlit : lit.length ≤ 1000) (hno : PySem.W.findIn K (.ref C) fld = some none)
    {pl : Env → Sem Bool} (he : ∀ env : Env, eval (.Call (.Attribute (.Call (.Name "super" p0) [] [] p1) "__init__" p2) [.JoinedStr [.Constant (.str lit) j1 p3, .FormattedValue (.Name part p4) (-1) none p5] p6] [] p7) env = (do
      let ov ← attributeBase (.Call (.Name "super" p0) [] [] p1) "__init__" env (eval (.Call (.Name "super" p0) [] [] p1) env)
      standAt p2.atName
      let (f, first) ← holding [ov] (getMethod ov "__init__" (pl env))
      callWith p7 f first (backTo p7 (starEach [.JoinedStr [.Constant (.str lit) j1 p3, .FormattedValue (.Name part p4) (-1) none p5] p6] env)) [])) :
    ∃ fd, FnOk P w K mg base CX 1 fI fd ["self", part] (spI C fld) ∧ (∃ (doc pm : Value) (an : Option Addr) (ct : Value), fd = ksFn "__init__" qual params [.Expr (.Call (.Attribute (.Call (.Name "super" p0) [] [] p1) "__init__" p2) [.JoinedStr [.Constant (.str lit) j1 p3, .FormattedValue (.Name part p4) (-1) none p5] p6] [] p7) p8, .Assign [.Attribute (.Name "self" p9) fld p10] (.Name part p11) p12] scope .none .none doc pm an (.ref cda) ct cc) := by
  obtain ⟨oc, od, doc, pm, an, ct, osl, lk⟩ := T.fn
  refine ⟨_, sup_fn (k := 0) T lk S hp rfl hms (fun vs H Q E h => ?_) (fun A outer s H vs Q E hr h => ?_) (he := he), doc, pm, an, ct, rfl⟩
  · obtain ⟨a, v, rfl, _⟩ := h
    rfl
  · obtain ⟨a, v, rfl, ha, hv, k⟩ := h
    have visP : Vis (sCx CX P w K mg base ["self", part] qual scope fI cda cc A outer s H E).env.scope part := .inl (S.par part (by simp))
    have visS : Vis (sCx CX P w K mg base ["self", part] qual scope fI cda cc A outer s H E).env.scope "self" := .inl (S.par "self" (by simp))
    refine ⟨a, _, _, pa_cons (pe_joined (PJ.cons pe_str (PJ.cons (pe_fmt (pe_var (i := 1) rfl visP hd1 hd2)) PJ.nil))) pa_nil, pss_one (ps_ost (pe_var (i := 0) rfl visS) (pe_var (i := 1) rfl visP hd1 hd2)), rfl, ha, ?_⟩
    have e0 : ∀ y : Str, (Str.empty ++ y).length = y.length := fun y => by
      rw [PySem.Str.length_append]
      exact Nat.zero_add _
    have fin : ∀ z : Str, (lit ++ z).length ≤ sizeLine → ∀ vs1 : List V, vs1 = [V.str (Str.empty ++ lit ++ z)] → vs1.length ≤ 1000 ∧ H a = some (exo a C none) ∧ tOst K fld (tVar 0) (tVar 1) { nx := fun _ H' => Q .non H', rt := Q } ([V.ref a, v].map some) H := fun z hz vs1 hvs => by
      subst hvs
      refine ⟨by show 1 ≤ 1000; omega, ha, v, rfl, _, rfl, a, C, rfl, T.oex, hno, .inl ⟨ha, fun dx n ne => k dx n ne⟩⟩
    refine ⟨lit, rfl, ?_, v, rfl, ?_⟩
    · rw [e0, sizeLine_eq]
      omega
    · rcases hv with ⟨y, rfl, hy⟩ | ⟨i, rfl, hi⟩
      · refine .inl ⟨y, rfl, by rw [sizeLine_eq]; omega, y, rfl, ?_, ?_⟩
        · rw [PySem.Str.length_append, e0, sizeLine_eq]
          omega
        · exact fin y (by rw [PySem.Str.length_append, sizeLine_eq]; omega) _ rfl
      · have hl : (Str.ofString (toString i)).length ≤ 301 := by
          have e := int_text_length_le10 (k := 100) (by decide) hi
          rw [PySem.ofString_length]
          omega
        have hg : i.natAbs.log2 < 1920 := log2_lt (by decide) (Nat.lt_trans hi (by decide))
        refine .inr ⟨i, rfl, hg, Str.ofString (toString i), rfl, ?_, ?_⟩
        · rw [PySem.Str.length_append, e0, sizeLine_eq]
          omega
        · exact fin _ (by rw [PySem.Str.length_append, sizeLine_eq]; omega) _ rfl
/-- C(e): the error is made -/
theorem pmk_1 {X : Cx} {C fI : Addr} {fd : FuncData} {ps : List Str} {fld x : Str} {e : Expr} {ta : TA} {p pos : Pos} (T : OexC X.K C) (iC : PySem.W.findIn X.K (.ref C) "__init__" = some (some (.ref fI))) (tI : PySem.W.typeIn X.K (.ref fI) = some (.type "function"))
    (F1 : FnOk X.prog X.w X.K X.mg X.base (L2.CX X.prog X.w) 1 fI fd ps (spI C fld)) (hr : Room 2 X.A) (hb : Binds X.K fd ps []) (hg : Gl X x) (hm : X.mg x = some (.ref C)) (ha : PA X [e] ta)
    (hdb : (x == ("__debug__" : Str)) = false := by decide) (he : starEach [e] X.env = (false, eval e X.env) :: starEach [] X.env := by rfl) (hpl : (backTo pos (starEach [] X.env)).any (·.1) = false := by rfl) :
    PMk X (.Call (.Name x p) [e] [] pos) (tMkO C (spI C fld) [] ta) := pmk_oex (sp := spI C fld) (dvs := []) T iC tI F1 hr hb .nil (fun _ _ _ _ _ _ _ h => by
    obtain ⟨_, _, _, _, _, _, _, _, _, _, _, _, z⟩ := h
    exact z.elim) hg hm ha hdb he hpl
/-- what follows the argument: Q of its class, its own dict (new) and the heap -/
theorem mkO_of {C : Addr} {fld : Str} {v : V} {H1 : Hp} {Q : XK} (hv : Okv v) (k : ∀ d, H1 d = none → Q (.ref C) (some d) (upd H1 d (.xd [(fld, v)]))) :
    [v].length ≤ 1000 ∧ ∀ a, H1 a = none → spI C fld (.ref a :: ([v] ++ [])) (upd H1 a (exo a C none))
      (fun v H2 => v = .non ∧ ∃ (d : Addr) (fs : List (Str × V)), H2 a = some (exo a C (some d)) ∧ H2 d = some (exd d fs) ∧ H1 d = none ∧ Q (.ref C) (some d) (upd (del H2 a) d (.xd fs))) (fun _ _ _ => False) := by
  refine ⟨by show 1 ≤ 1000; omega, fun a ha => ⟨a, v, rfl, upd_same, hv, fun d hd hda => ⟨rfl, d, [(fld, v)], upd_same, ?_, ?_, ?_⟩⟩⟩
  · rw [upd_ne hda, upd_same]
  · rw [upd_ne hda] at hd
    exact hd
  · rw [upd_ne hda] at hd
    have e : upd (del (upd (upd (upd H1 a (exo a C none)) d (exd d [(fld, v)])) a (exo a C (some d))) a) d (.xd [(fld, v)]) = upd H1 d (.xd [(fld, v)]) := by
      funext b
      by_cases h1 : b = d
      · rw [h1, upd_same, upd_same]
      · rw [upd_ne h1, upd_ne h1]
        by_cases h2 : b = a
        · rw [h2, del_same, ha]
        · rw [del_ne h2, upd_ne h2, upd_ne h1, upd_ne h2]
    rw [e]
    exact k d hd
/-- raise C(e) -/
def tRz (C : Addr) (fld : Str) (W : WX) (ta : TA) : TS := fun _ σ H => tMkO C (spI C fld) [] ta σ H fun cls d H' => W cls d σ H'
theorem ps_rz {X : Cx} {W : WX} {C fI : Addr} {fd : FuncData} {ps : List Str} {fld x : Str} {e : Expr} {ta : TA} {p pos pos2 : Pos} (hc : X.calm = true) (tk : Takes X W) (T : OexC X.K C) (iC : PySem.W.findIn X.K (.ref C) "__init__" = some (some (.ref fI))) (tI : PySem.W.typeIn X.K (.ref fI) = some (.type "function"))
    (F1 : FnOk X.prog X.w X.K X.mg X.base (L2.CX X.prog X.w) 1 fI fd ps (spI C fld)) (hr : Room 2 X.A) (hb : Binds X.K fd ps []) (hg : Gl X x) (hm : X.mg x = some (.ref C)) (ha : PA X [e] ta)
    (hdb : (x == ("__debug__" : Str)) = false := by decide) (he : starEach [e] X.env = (false, eval e X.env) :: starEach [] X.env := by rfl) (hpl : (backTo pos (starEach [] X.env)).any (·.1) = false := by rfl) :
    PS X (.Raise (some (.Call (.Name x p) [e] [] pos)) none pos2) (tRz C fld W ta) := ps_raise hc tk (pmk_1 T iC tI F1 hr hb hg hm ha hdb he hpl)
end SX

set_option Elab.async false
set_option linter.all false
set_option maxRecDepth 100000
set_option maxHeartbeats 4000000
/-! an exception that is kept behind its except suite: caught = error -/
namespace SX
open PySem PySem.Spec PyProof.Rows L2
/-- an exception object of the class cls with its own dict d, seen at a -/
def exH (cls : Value) (d : Option Addr) (a : Addr) : HO := .ext fun h => ∃ (oe : Obj) (vs : Array Value), h.get? a = some oe ∧ Zc cls d oe ∧ oe.data = .fields vs
theorem exH_ok {P : Program} {w : World} {H : Hp} {h : Heap} {a : Addr} {cls : Value} {d : Option Addr} {oe : Obj} {vs : Array Value} (e : h.get? a = some oe) (z : Zc cls d oe) (q : oe.data = .fields vs) : ObjOk P w H h a (exH cls d a) :=
  ⟨⟨oe, vs, e, z, q⟩, ⟨oe, e⟩, fun _ _ ⟨o, v, q, r⟩ k => ⟨o, v, k o q, r⟩⟩
section
variable {X : Cx} {pins : List (Addr × Obj)} {σ : L2.St} {H : Hp} {s : Shared} {a : Addr}
/-- a thing that came behind the entry and is not tracked yet is tracked -/
theorem adopt {φ : Heap → Prop} (I : Inv X pins σ H s) (n0 : X.s_0.heap.get? a = none) (na : H a = none) (nL : X.env.locals ≠ a) (nC : ∀ x c, X.env.cells.lookup x = some c → c ≠ a) (nP : ∀ p ∈ X.pn ++ pins, p.1 ≠ a)
    (ok : ObjOk X.prog X.w (upd H a (.ext φ)) s.heap a (.ext φ)) : Inv X pins σ (upd H a (.ext φ)) s := by
  have ne0 : ∀ b o, X.s_0.heap.get? b = some o → b ≠ a := fun b o e z => by
    rw [z, n0] at e
    cases e
  have B := I.base
  refine ⟨I.ok, I.os, I.bare, ⟨B.keep, B.slot, fun b o e n hx => ?_, B.there, fun b xs e => ?_, fun b o u e => ?_, fun b ps e => ?_⟩, I.loc, I.cell, ?_, fun x c e => ?_, fun p hp => ?_, fun b u e => ?_, I.len⟩
  · rw [upd_ne (ne0 b o e)]
    exact B.free b o e n hx
  · have q := B.tups b xs e
    rw [upd_ne (ne_of_none q na)]
    exact q
  · have q := B.frzs b o u e
    rw [upd_ne (ne_of_none q na)]
    exact q
  · obtain ⟨m, q⟩ := B.tbls b ps e
    exact ⟨m, by rw [upd_ne (ne_of_none q na)]; exact q⟩
  · rw [upd_ne nL]
    exact I.free
  · rw [upd_ne (nC x c e)]
    exact I.freeC x c e
  · obtain ⟨e, n, r⟩ := I.pin p hp
    exact ⟨e, by rw [upd_ne (nP p hp)]; exact n, r⟩
  · by_cases hb : b = a
    · subst hb
      rw [upd_same] at e
      cases e
      exact ok
    · rw [upd_ne hb] at e
      exact (I.hok b u e).stay (fun c v _ q => q) (fun c q => by rw [upd_ne (ne_of_none q na)]; exact q) fun c xs q => by rw [upd_ne (ne_of_none q na)]; exact q
/-- out of a suite, the exception still pinned -/
theorem leave {q : Addr × Obj} (I : Inv (X.suite a (q :: (X.pn ++ pins))) [] σ H s) (ok : X.Ok) : Inv X (q :: pins) σ H s :=
  ⟨ok, I.os, I.bare, I.base, I.loc, I.cell, I.free, I.freeC, fun p hp => I.pin p (by
    rcases List.mem_append.mp hp with h | h
    · exact List.mem_append_left _ (List.mem_cons_of_mem _ (List.mem_append_left _ h))
    · rcases List.mem_cons.mp h with e | h
      · exact List.mem_append_left _ (by rw [e]; exact List.mem_cons_self)
      · exact List.mem_append_left _ (List.mem_cons_of_mem _ (List.mem_append_right _ h))), I.hok, I.len⟩
end
/-- the ends of a suite whose exception is kept: a is tracked behind it, the clause's name is gone -/
def held (i : Nat) (cls : Value) (d : Option Addr) (a : Addr) (D : Ends) : Ends where
  nx := fun σ' H' => H' a = none → D.nx (σ'.set i none) (upd H' a (exH cls d a))
  rt := fun v H' => H' a = none → D.rt v (upd H' a (exH cls d a))
  bk := fun σ' H' => H' a = none → D.bk (σ'.set i none) (upd H' a (exH cls d a))
  ct := fun σ' H' => H' a = none → D.ct (σ'.set i none) (upd H' a (exH cls d a))
/-- what an own exception class must have for isinstance of its instances -/
structure IsxC (K : PySem.W.Frag) (C : Addr) : Prop where
  cl : (PySem.W.clsIn K C).isSome = true
  ca : PySem.W.findIn K (.ref C) "__class__" = some (some (.builtin "object.__class__"))
  sp : PySem.W.specialIn K (.builtin "object.__class__") "__get__" = some (some (.builtin "getset_descriptor.__get__"))
  tk : PySem.W.takesIn K (.builtin "object.__class__") = some true
  mr : PySem.W.mroIn K C (.type "object") = some true
/-- isinstance(caught, c), one class -/
def rIsx (K : PySem.W.Frag) (C : Addr) : List V → Hp → VK → Prop := fun xs H Q => ∃ (a : Addr) (c : V) (d : Addr) (fs : List (Str × V)) (u : Value) (b : Bool), xs = [.ref a, c] ∧ ClsV c u ∧ H a = some (exH (.ref C) (some d) a) ∧ H d = some (.xd fs) ∧ PySem.W.kitOne K (.ref C) u = some b ∧ Q (.bl b) H
theorem inst_held {X : Cx} {pins : List (Addr × Obj)} {σ : L2.St} {H : Hp} {s : Shared} {a d C : Addr} {fs : List (Str × V)} (I : Inv X pins σ H s) (ha : H a = some (exH (.ref C) (some d) a)) (hd : H d = some (.xd fs)) :
    ∃ oe od, PySem.W.InstAt s.heap a oe C (some od) := by
  obtain ⟨⟨oe, vs, e, z, q⟩, _, _⟩ := (show ObjOk X.prog X.w H s.heap a (exH (.ref C) (some d) a) from I.hok a _ ha)
  obtain ⟨mA, hns, hr⟩ := (show ObjOk X.prog X.w H s.heap d (.xd fs) from I.hok d _ hd)
  obtain ⟨od, ho, hl⟩ := lookIn_ns hns
  exact ⟨oe, od, e, z.1, by unfold PySem.W.notCls; rw [q] <;> rfl, by rw [z.2]; exact ho⟩
theorem call_isx {X : Cx} {C : Addr} (T : XfC X.K C) (S : IsxC X.K C) : CallR X (.builtin "isinstance") (rIsx X.K C) := by
  intro pins s σ H xs us Q I r h
  obtain ⟨a, c, d, fs, u, b, rfl, k, ha, hd, e, q⟩ := h
  obtain ⟨u1, u2, rfl, r1, r2⟩ := vals2 r
  have e2 := k.eq r2
  subst e2
  cases (show u1 = Value.ref a from r1)
  obtain ⟨oe, od, J⟩ := inst_held I ha hd
  exact PySem.W.kia_one (PySem.W.kitx_exc S.cl T.ga T.gg T.exC S.ca S.sp S.tk S.mr) I.kIn J e (fun z => nomatch z) fun tk => ⟨.bl b, H, I.tok tk, rfl, q⟩
/-- caught.f -/
def tHx (C : Addr) (f : Str) (te : TE) : TE := fun σ H Q => te σ H fun x H1 => ∃ (a d : Addr) (fs : List (Str × V)) (v : V), x = .ref a ∧ H1 a = some (exH (.ref C) (some d) a) ∧ H1 d = some (.xd fs) ∧ fs.lookup f = some v ∧ Q v H1
theorem pe_hx {X : Cx} {C : Addr} {e : Expr} {te : TE} {pos : Pos} {n : Str} (T : XfC X.K C) (hno : PySem.W.findIn X.K (.ref C) n = some none) (he : PE X e te) (hb : attributeBase e n X.env (eval e X.env) = eval e X.env := by rfl) :
    PE X (.Attribute e n pos) (tHx C n te) := by
  refine ⟨fun pins s σ H Q I h => ?_⟩
  refine attr_of hb (thn (he.run pins s σ H _ I h) fun u s1 hh => ?_)
  obtain ⟨x, H1, I1, rx, a, d, fs, v, ex, ea, ed, l, q⟩ := hh
  subst ex
  obtain rfl : u = Value.ref a := rx
  obtain ⟨⟨oe, vs, e1, z, q1⟩, _, _⟩ := (show ObjOk X.prog X.w H1 s1.heap a (exH (.ref C) (some d) a) from I1.hok a _ ea)
  obtain ⟨mA, hns, hr⟩ := (show ObjOk X.prog X.w H1 s1.heap d (.xd fs) from I1.hok d _ ed)
  obtain ⟨od, ho, hl⟩ := lookIn_ns hns
  obtain ⟨u, hu, ru⟩ := RelO.some_of (v := v) (o := mA n) (by rw [← l]; exact hr n)
  have J : PySem.W.InstAt s1.heap a oe C (some od) := ⟨e1, z.1, by unfold PySem.W.notCls; rw [q1] <;> rfl, by rw [z.2]; exact ho⟩
  exact HandSPX.exc_get I1.kIn J T.ga T.gg T.exC (PySem.W.findObj_own T.hdC hno rfl (by rw [hl, hu])) (handed_of ru) ⟨v, H1, I1.tok _, ru, q⟩
end SX

set_option Elab.async false
set_option linter.all false
set_option maxRecDepth 100000
set_option maxHeartbeats 4000000
/-! a lambda with parameters that captures nothing: handed to a def, called there -/
namespace SX
open PySem PySem.Spec PyProof.Rows L2
open LamX (CodeO TabS Tabs ExtN TabB LamS)
abbrev lamO (q : Str) (params : Arguments) (body : Expr) (scope : Scope) (pm ctv : Value) (c' : Addr) : Obj := PySem.W.kla_obj "<lambda>" q params body scope [] pm c' ctv
/-- what such a lambda keeps, wherever it runs; one level below k + 1 -/
def LamKeeps (P : Program) (w : World) (K : PySem.W.Frag) (mg : Str → Option Value) (base : Heap) (k : Nat) (q : Str) (params : Arguments) (body : Expr) (scope : Scope) (N ps : List Str) (sp : Sp) : Prop :=
  FnScope N ps scope ∧ (∀ vs H Q E, sp vs H Q E → vs.length = ps.length) ∧ (∀ (pm cv ctv : Value) (us : List Value), us.length = ps.length → bindArgs (PySem.W.kla_fn "<lambda>" q params body scope [] pm cv ctv) ⟨us, []⟩ = pure (ps.zip us)) ∧
  ∀ (f c' : Addr) (A : Around) (outer : List Env) (s : Shared) (H : Hp) (vs : List V) (Q : VK) (E : XK), sp vs H Q E → Room k (A.deeper (envOfC q scope s.heap.objs.size f (.ref c'))) →
    ∃ t, PE (cxOf (L2.CX P w) P w K mg base N q scope f (.ref c') A outer s H E) body t ∧ t (L2.start N vs) H Q
theorem run_lam {P : Program} {w : World} {K : PySem.W.Frag} {mg : Str → Option Value} {base : Heap} {k : Nat} {q : Str} {params : Arguments} {body : Expr} {scope : Scope} {N ps : List Str} {sp : Sp} (L : LamKeeps P w K mg base k q params body scope N ps sp)
    {A : Around} {outer : List Env} {s : Shared} {H : Hp} {us : List Value} {vs : List V} {Q : VK} {E : XK} {f c' : Addr} {pm ctv : Value} (hr : Room (k + 1) A) (e0 : Env0 P w K mg base A outer s H) (hf : s.heap.get? f = some (lamO q params body scope pm ctv c')) (hc : s.heap.CodeRec (.ref c') q)
    (r : Vals vs us) (h : sp vs H Q E) : codeAny (model P w) A (.call (.ref f) ⟨us, []⟩) (CR (L2.CX P w) outer P w H s Q E) s := by
  obtain ⟨S, hlen, hbind, hbody⟩ := L
  have hl : vs.length = ps.length := hlen _ _ _ _ h
  have lim : s.heap.NoLimit := e0.mod.nolimit.keeps fun b o e => (e0.bs b o e).1
  refine PySem.W.kla_callFunE hr.depth hf rfl S.co S.gen rfl hc ?_
  rw [hbind _ _ _ us (by rw [← r.length]; exact hl)]
  refine wpAny_pure ?_
  have hkind : ∀ y ∈ ps.zip us, scope.names.lookup y.1 = some .local ∨ (scope.names.lookup y.1 = some .cell ∧ ((cellsFrom (s.heap.objs.size + 1) scope.names []).lookup y.1).isSome = true) := fun ⟨n, v⟩ hy => by
    rcases S.par n (List.of_mem_zip hy).1 with z | z
    · exact .inl z
    · exact .inr ⟨z, PySem.W.cellsFrom_some _ _ _ (.inl z)⟩
  refine wpAny_newFunctionEnv_cells S.kind hkind fun env he s1 x => ?_
  subst he
  refine ⟨lim.keeps x.toInCall.keep, ?_⟩
  obtain ⟨t, ht, hq⟩ := hbody f c' A outer s H vs Q E h (hr.deeper _)
  have I : Inv (cxOf (L2.CX P w) P w K mg base N q scope f (.ref c') A outer s H E) [] (L2.start N vs) H s1 := inv_start S hr.hd e0 hl r x
  refine PySem.W.kla_codeExpr (wpAny_mono (ht.run [] s1 (L2.start N vs) H Q I hq) (fun v s' hq => ?_) fun e s' hq => hq)
  obtain ⟨w', H', J', rv, q⟩ := hq
  exact ⟨w', H', J'.os, J'.bare, J'.base, J'.hok, rv, q⟩
/-- a(e, ..), where the slot i holds the lambda at f, which stood there at the entry -/
def tAct (i : Nat) (f c' : Addr) (q : Str) (sp : Sp) (E : XK) (t : TA) : TE := fun σ H Q => σ[i]? = some (some (.ref f)) ∧ t σ H fun vs H1 => H1 c' = some (CodeO c' q) ∧ sp vs H1 Q E
theorem pe_act1 {X : Cx} {k i : Nat} {q a : Str} {params : Arguments} {body : Expr} {scope : Scope} {N ps : List Str} {sp : Sp} {f c' : Addr} {pm ctv : Value} {E : XK} {e : Expr} {es : List Expr} {t : TA} {p pos : Pos} (L : LamKeeps X.prog X.w X.K X.mg X.base k q params body scope N ps sp)
    (hf : X.s_0.heap.get? f = some (lamO q params body scope pm ctv c')) (n0 : X.H_0 f = none) (nf : f ∉ X.fs) (nx : f ∉ X.ex) (hr : Room (k + 1) X.A) (hN : X.N[i]? = some a) (hv : Vis X.env.scope a) (hx : Passes (L2.CX X.prog X.w) X E) (ha : PA X (e :: es) t)
    (hd : (a == ("__debug__" : Str)) = false := by decide) (hcd : (a == ("__classdict__" : Str)) = false := by decide)
    (he : starEach (e :: es) X.env = (false, eval e X.env) :: starEach es X.env := by rfl) (hpl : (backTo pos (starEach es X.env)).any (·.1) = false := by rfl) :
    PE X (.Call (.Name a p) (e :: es) [] pos) (tAct i f c' q sp E t) := by
  refine ⟨fun pins s σ H Q I h => ?_⟩
  obtain ⟨hs, ht⟩ := h
  refine wpAny_Call_Name_kw (thn ((pe_var (pos := p) hN hv hd hcd).run pins s σ H (fun v H1 => v = .ref f ∧ H1 = H) I ⟨.ref f, hs, rfl, rfl⟩) fun u s1 ⟨v, H1, I1, r1, q1⟩ => ?_)
  obtain ⟨ev, eH⟩ := q1
  subst ev
  rw [eH] at I1
  obtain rfl : u = Value.ref f := r1
  have of1 : ∀ {σ' : L2.St} {H' : Hp} {s' : Shared} {pins' : List (Addr × Obj)}, Inv X pins' σ' H' s' → s'.heap.get? f = some (lamO q params body scope pm ctv c') := fun J => J.base.keep f _ hf n0 nf nx
  refine PySem.W.callWith_F ⟨_, _, _, _, of1 I1⟩ (thn (ha.run pos pins s1 σ _ _ I1 ht) fun us s2 ⟨vs, H2, I2, r, hc, hsp⟩ => ⟨⟨_, _, _, _, of1 I2⟩, ?_⟩) he hpl
  obtain ⟨⟨oc, ws, tt, hoc, hdc, hvc⟩, _, _⟩ := I2.hok c' _ hc
  refine wpAny_call (codeAny_mono (run_lam L hr I2.env0 (of1 I2) ⟨c', oc, ws, tt, rfl, hoc, hdc, hvc⟩ r hsp) fun res s' hq => ?_)
  cases res with
  | error er => exact hx pins σ H2 s2 er s' I2 hq
  | ok fl =>
    cases fl with
    | ret u => exact I2.after hq
    | next => exact False.elim hq
    | brk => exact False.elim hq
    | cont => exact False.elim hq
/-- g(e0, lambda ..: body): g's body is walked here; TT is what its walk asks -/
def tLam1 (T : List (Addr × Str)) (q : Str) (t0 : TE) (TT : Addr → Addr → V → Hp → VK → Prop) : TE := fun σ H Q => t0 σ H fun v0 H0 => Tabs T H0 ∧ ∀ (f c' : Addr) (H1 : Hp), ExtN H0 H1 → Tabs T H1 → H1 c' = some (CodeO c' q) → TT f c' v0 H1 Q
theorem pe_lam1 {X : Cx} {T : List (Addr × Str)} {TT : Addr → Addr → V → Hp → VK → Prop} {E : XK} {x p1 p2 : Str} {g c P : Addr} {k : Nat} {pg : Arguments} {bg : List Stmt} {sg : Scope} {dV kV doc pm cdv ct oc : Value} {an od : Option Addr} {osl : Array (Option Value)} {Ng : List Str}
    {params : Arguments} {body e0 : Expr} {scope : Scope} {t0 : TE} {p lpos pos : Pos} (hg : Gl X x) (hm : X.mg x = some (.ref g)) (hk : PySem.W.keepIn X.K (.ref g) = true)
    (lk : X.K.lookup g = some ⟨oc, od, .func (PySem.W.fnOf x x pg bg sg dV kV doc pm an cdv ct), osl⟩) (hcg : PySem.W.codeIn X.K cdv x = true) (hb : L2.Binds X.K (PySem.W.fnOf x x pg bg sg dV kV doc pm an cdv ct) [p1, p2] []) (Sg : FnScope Ng [p1, p2] sg)
    (TB : TabB X.base X.mg c P) (hcode : X.env.code = .ref c) (hmT : (P, X.env.qual ++ "<lambda>") ∈ T) (hu : ∀ p ∈ T, p.1 = P → p.2 = X.env.qual ++ "<lambda>") (hr : Room (k + 1) X.A) (hnf : ∀ y ∈ scope.names, y.2 ≠ .free) (hcl : cloFrom X.env.cells scope.names [] = []) (hdef : defaultsOf params X.env = ([], []))
    (hx : Passes (L2.CX X.prog X.w) X E) (h0 : PE X e0 t0)
    (hG : ∀ (f c' : Addr) (pm ctv : Value) (A : Around) (outer : List Env) (s : Shared) (H : Hp) (v0 : V) (Q : VK), s.heap.get? f = some (lamO (X.env.qual ++ "<lambda>") params body scope pm ctv c') → H f = none → f ∉ frs outer → H c' = some (CodeO c' (X.env.qual ++ "<lambda>")) → Room k (A.deeper (envOfC x sg s.heap.objs.size g cdv)) → TT f c' v0 H Q →
      ∃ t, PSs (cxOf (L2.CX X.prog X.w) X.prog X.w X.K X.mg X.base Ng x sg g cdv A outer s H E) bg t ∧ t { nx := fun _ H' => Q .non H', rt := Q } (L2.start Ng [v0, .ref f]) H)
    (hdb : (x == ("__debug__" : Str)) = false := by decide)
    (he : starEach [e0, .Lambda params body scope lpos] X.env = (false, eval e0 X.env) :: starEach [.Lambda params body scope lpos] X.env := by rfl) :
    PE X (.Call (.Name x p) [e0, .Lambda params body scope lpos] [] pos) (tLam1 T (X.env.qual ++ "<lambda>") t0 TT) := by
  refine ⟨fun pins s σ H Q I h => ?_⟩
  refine wpAny_Call_Name_kw (ld_glob I hg hm ?_ hdb)
  refine PySem.W.callWith_K (h₀ := X.base) I.ok.mod.kin hk ?_ he (by rfl)
  rw [he]
  show wpAny _ _ (spliced ((false, eval e0 X.env) :: (false, eval (.Lambda params body scope lpos) X.env) :: backTo pos (starEach [] X.env))) _ _ s
  refine Calls.spliced_cons (thn (h0.run pins s σ H _ I h) fun u0 s1 ⟨v0, H0, I0, r0, hT, hk0⟩ => ?_)
  refine Calls.spliced_cons (LamX.lam_make2 I0 TB hcode hmT hu hT hdef (fun y hy e => absurd e (hnf y hy)) fun f c' pm' ctv H1 s' I1 eN T1 hf hfn hfr hco => ?_)
  rw [hcl] at hf
  refine Calls.spliced_nil ⟨I1.kIn, ?_⟩
  have rc : codeAny (model X.prog X.w) X.A (.call (.ref g) ⟨[u0, .ref f], []⟩) (CR (L2.CX X.prog X.w) X.stack X.prog X.w H1 s' Q E) s' := by
    refine LamX.run_ofS (N := Ng) (ps := [p1, p2]) (us := [u0, .ref f]) (vs := [v0, .ref f]) lk hcg Sg hr I1.env0 (hb s' [u0, .ref f] I1.kIn rfl) (.cons r0 (.cons rfl .nil)) rfl fun hr' => ?_
    exact hG f c' pm' ctv X.A X.stack s' H1 v0 Q hf hfn hfr hco hr' (hk0 f c' H1 eN T1 hco)
  refine wpAny_call (codeAny_mono rc fun r s2 hq => ?_)
  cases r with
  | error er => exact hx pins σ H1 s' er s2 I1 hq
  | ok fl =>
    cases fl with
    | ret u => exact I1.after hq
    | next => exact False.elim hq
    | brk => exact False.elim hq
    | cont => exact False.elim hq
end SX

set_option Elab.async false
set_option linter.all false
set_option maxRecDepth 100000
set_option maxHeartbeats 4000000
/-! facts of classes for isinstance: instances, kept exceptions -/
namespace SX
open PySem PySem.Spec PyProof.Rows L2
open He (ga ba eqO eqO_ok)
def getB (K : PySem.W.Frag) : Bool := eqO (PySem.W.specialIn K (.builtin "object.__class__") "__get__") (some (some (.builtin "getset_descriptor.__get__"))) && decide (PySem.W.takesIn K (.builtin "object.__class__") = some true)
/-- one class -/
def isxB (K : PySem.W.Frag) (x : Str) : Bool := (PySem.W.clsIn K (ga K x)).isSome && (eqO (PySem.W.findIn K (.ref (ga K x)) "__class__") (some (some (.builtin "object.__class__"))) && decide (PySem.W.mroIn K (ga K x) (.type "object") = some true))
/-- an exception class: its fields are read -/
def kitB (K : PySem.W.Frag) (p : Str × Str × Bool) : Bool := decide (PySem.W.kitOne K (.ref (ga K p.1)) (.ref (ga K p.2.1)) = some p.2.2)
def exAll (cs xs : List Str) (ps : List (Str × Str × Bool)) (K : PySem.W.Frag) : Bool := getB K && (cs.all (fun x => isxB K x) && (xs.all (fun x => xfB K (ga K x)) && ps.all (fun p => kitB K p)))
section
variable {K : PySem.W.Frag} {cs xs : List Str} {ps : List (Str × Str × Bool)}
theorem exAll_get (h : exAll cs xs ps K = true) : PySem.W.specialIn K (.builtin "object.__class__") "__get__" = some (some (.builtin "getset_descriptor.__get__")) ∧ PySem.W.takesIn K (.builtin "object.__class__") = some true :=
  ⟨eqO_ok (ba (ba h).1).1, of_decide_eq_true (ba (ba h).1).2⟩
theorem exAll_isx (h : exAll cs xs ps K = true) {x : Str} (hx : x ∈ cs) : IsxC K (ga K x) := by
  have q := List.all_eq_true.mp (ba (ba h).2).1 x hx
  obtain ⟨q1, q⟩ := ba q
  obtain ⟨q2, q3⟩ := ba q
  exact ⟨q1, eqO_ok q2, (exAll_get h).1, (exAll_get h).2, of_decide_eq_true q3⟩
theorem exAll_xf (h : exAll cs xs ps K = true) {x : Str} (hx : x ∈ xs) : XfC K (ga K x) := xfB_ok (List.all_eq_true.mp (ba (ba (ba h).2).2).1 x hx)
theorem exAll_kit (h : exAll cs xs ps K = true) {x y : Str} {b : Bool} (hx : (x, y, b) ∈ ps) : PySem.W.kitOne K (.ref (ga K x)) (.ref (ga K y)) = some b :=
  of_decide_eq_true (List.all_eq_true.mp (ba (ba (ba h).2).2).2 _ hx)
end
/-- an instance's type -/
theorem ty_ins {K : PySem.W.Frag} {H : Hp} {a C dx : Addr} {fs : List (Str × V)} (e : H a = some (.ins C dx fs)) (cl : Cls K C) (i : IsxC K C) : TyX K H (.ref a) (.ref C) := .base (.ins e cl i.ca i.sp i.tk i.mr)
end SX

set_option Elab.async false
set_option linter.all false
set_option maxRecDepth 100000
set_option maxHeartbeats 4000000
/-! as ps_try_hold, the number of slots known in the suite -/
namespace SX
open PySem PySem.Spec PyProof.Rows L2
def wHoldN (K : PySem.W.Frag) (n : Nat) (c : Value) (i : Nat) (ts : Addr → Value → Option Addr → TS) (Wout : WX) (D : Ends) : WX := fun cls d σ H =>
  ∃ b, PySem.W.exmOne K cls c = some b ∧ (b = true → σ.length = n → ∀ a, H a = none → ts a cls d (held i cls d a D) (σ.set i (some (.ref a))) H) ∧ (b = false → Wout cls d σ H)
section
variable {X : Cx} {x n : Str} {c : Value} {i : Nat} {body suite : List Stmt} {b₀ : Stmt} {np pos pos' : Pos} {tb : WX → TS} {ts : Addr → Value → Option Addr → TS} {Wout : WX}
theorem ps_try_holdN (hs : X.stack = X.env :: X.outer) (hf : X.env.frame = some X.env.locals) (hN : X.N.Nodup) (hi : X.N[i]? = some n) (hln : X.env.kindOf n = some .local) (hc : Names X x c) (hex : X.ex = []) (tk : Takes X Wout)
    (hb : ∀ (W : WX) (pn : List (Addr × Obj)) (xe : Value → Shared → Prop), Takes (X.tr pn xe) W → PassesOwn (model X.prog X.w) X.A X.env xe → PSs (X.tr pn xe) body (tb W))
    (hsu : ∀ (a : Addr) (oe : Obj) (cls : Value) (d : Option Addr) (pn : List (Addr × Obj)), Zc cls d oe → (∃ vs, oe.data = .fields vs) → PSs (X.suite a ((a, oe) :: pn)) (b₀ :: suite) (ts a cls d)) :
    PS X (.Try body [.ExceptHandler (some (.Name x np)) (some n) (b₀ :: suite) pos'] [] [] pos) (fun D σ H => tb (wHoldN X.K X.N.length c i ts Wout D) D σ H) := by
  refine ⟨fun pins s σ H D I h => ?_⟩
  have ok := I.ok
  have hfr : X.A.frames = some (X.env :: X.outer) := by rw [ok.frames, hs]
  refine wpAny_Try_except (wpAny_mono ((hb (wHoldN X.K X.N.length c i ts Wout D) (X.pn ++ pins) (fun e s₁ => wpAny (model X.prog X.w) X.A (noteFrame e X.env) (fun _ s₂ => wpAny (model X.prog X.w) X.A (setFlight e none) (fun _ s₃ =>
    wpAny (model X.prog X.w) X.A (handleBy e X.env [.ExceptHandler (some (.Name x np)) (some n) (b₀ :: suite) pos']) (SP X pins D) X.xe s₃) X.xe s₂) X.xe s₁) (fun u s' xx => ?_) PassesOwn.looking).run [] s σ H D (I.toTry _) h) (fun f s1 hsp => ?_) (fun e s1 he => he))
  · obtain ⟨a, B, sI, pins', σ', H', cls, d, rfl, J', nb, up, sky, na, os, ag, b, hb1, hyes, hno⟩ := xx
    have J : Inv X pins σ' H' sI := J'.ofTry ok
    have sky' : Sky B (X.env :: X.outer) a (Zc cls d) X.env.locals s'.heap := by rw [← hs]; exact sky
    show wpAny (model X.prog X.w) X.A (noteFrame (.ref a) X.env) _ _ _
    refine Sky.land Zc.steady hfr hf sky' fun h3 fl3 up3 => ?_
    have J3 : Inv X pins σ' H' { s' with heap := h3 } := J.landed nb fl3.1 (up.trans up3) os ag
    obtain ⟨oe3, vs3, he3, hz3, hd3⟩ := fl3.there
    have nfr : a ∉ frs (X.env :: X.outer) := fun hm => by
      obtain ⟨_, o', e', hnf⟩ := fl3.2.2.1.mem hm
      rw [he3] at e'
      cases e'
      exact hnf _ hd3
    have nL : a ≠ X.env.locals := fun z => nfr (List.mem_filterMap.mpr ⟨X.env, List.mem_cons_self, by rw [hf, z]⟩)
    have nF : a ∉ X.fs := fun hm => by
      obtain ⟨e, he, q⟩ := List.mem_filterMap.mp hm
      exact nfr (List.mem_filterMap.mpr ⟨e, List.mem_cons_of_mem _ he, q⟩)
    have gB : B.get? a = none := fl3.2.1
    have gI : sI.heap.get? a = none := by
      cases e : sI.heap.get? a with
      | none => rfl
      | some o => rw [nb a o e (by rw [hs]; exact nfr)] at gB; cases gB
    have g0 : X.s_0.heap.get? a = none := by
      cases e : X.s_0.heap.get? a with
      | none => rfl
      | some o =>
        obtain ⟨o', q⟩ := J.base.there a o e (by rw [hex]; exact fun z => nomatch z)
        rw [gI] at q
        cases q
    have nC : ∀ y k, X.env.cells.lookup y = some k → k ≠ a := fun y k e z => by
      obtain ⟨v, o, q, _⟩ := J.cell y k e
      rw [z, gI] at q
      cases q
    have nP : ∀ p ∈ X.pn ++ pins, p.1 ≠ a := fun p hp z => by
      have q := (J.pin p hp).1
      rw [z, gI] at q
      cases q
    have S3 := J3.suite he3 hd3 na nL nF
    refine wpAny_handleBy_cons (codeAny_handlers_test ?_) (by intro q; cases q)
    have LT : PySem.W.Looks (model X.prog X.w) h3 (typeOf (.ref a)) cls := fun A Q E s k q => wpAny_typeOf_ref (k _ _ he3) (by rw [hz3.1]; exact q)
    have LM := PySem.W.exm_one (M := model X.prog X.w) (J3.kIn) LT hb1
    have test : ∀ {Q : Value → Shared → Prop} {E : Value → Shared → Prop}, Q c { s' with heap := h3 } → wpAny (model X.prog X.w) (X.A.mark (some (.ref a))) (eval (.Name x np) X.env) Q E { s' with heap := h3 } := fun {Q E} q => by
      obtain ⟨hg, hdbg, hm | ⟨hm, hv, hnn⟩⟩ := hc
      · exact ld_glob (X := X.suite a ((a, oe3) :: (X.pn ++ pins))) S3 hg hm q hdbg
      · exact ld_blt (X := X.suite a ((a, oe3) :: (X.pn ++ pins))) S3 hg hm hv q hnn hdbg
    refine test (LM.here ?_)
    cases b with
    | true =>
      refine codeAny_handlers_suite_as (HandSPX.lands_againZ fl3 fun h4 fl4 up4 => ?_)
      have J4 : Inv X pins σ' H' { s' with heap := h4 } := J.landed nb fl4.1 ((up.trans up3).trans up4) os ag
      obtain ⟨oe4, vs4, he4, hz4, hd4⟩ := fl4.there
      have S4 := J4.suite he4 hd4 na nL nF
      refine store_ok (X := X.suite a ((a, oe4) :: (X.pn ++ pins))) (v := .ref a) S4 hN hi (.inl hln) rfl (fun s5 S5 => ?_) (.inr hln)
      refine wpAny_mono ((hsu a oe4 cls d (X.pn ++ pins) hz4 ⟨_, hd4⟩).run [] s5 _ H' _ S5 (hyes rfl J.len a na)) (fun f s6 hsp => ?_) (fun _ _ z => False.elim z)
      have fin : ∀ {σ6 : L2.St} {H6 : Hp} {Q : Shared → Prop}, Inv (X.suite a ((a, oe4) :: (X.pn ++ pins))) [] σ6 H6 s6 → (∀ s7, H6 a = none → Inv X pins (σ6.set i none) (upd H6 a (exH cls d a)) s7 → Q s7) →
          wpAny (model X.prog X.w) X.A (do bindName X.env n .none; unbindBehindTheSuite X.env n pos') (fun _ s7 => Q s7) X.xe s6 := fun {σ6 H6 Q} S6 hq => gone_ok (leave S6 ok) hN hi hln fun s7 J7 => by
        obtain ⟨e7, n7, _⟩ := J7.pin (a, oe4) (List.mem_append_right _ List.mem_cons_self)
        have K7 : Inv X pins (σ6.set i none) H6 s7 := ⟨J7.ok, J7.os, J7.bare, J7.base, J7.loc, J7.cell, J7.free, J7.freeC, fun p hp => J7.pin p (by
          rcases List.mem_append.mp hp with h | h
          · exact List.mem_append_left _ h
          · exact List.mem_append_right _ (List.mem_cons_of_mem _ h)), J7.hok, J7.len⟩
        exact hq s7 n7 (adopt K7 g0 n7 (Ne.symm nL) nC nP (exH_ok e7 hz4 hd4))
      cases f with
      | next =>
        obtain ⟨σ6, H6, S6, q6⟩ := hsp
        exact fin S6 fun s7 n7 J7 => ⟨_, _, J7, q6 n7⟩
      | brk =>
        obtain ⟨σ6, H6, S6, q6⟩ := hsp
        exact fin S6 fun s7 n7 J7 => ⟨_, _, J7, q6 n7⟩
      | cont =>
        obtain ⟨σ6, H6, S6, q6⟩ := hsp
        exact fin S6 fun s7 n7 J7 => ⟨_, _, J7, q6 n7⟩
      | ret u =>
        obtain ⟨v6, σ6, H6, S6, r6, q6⟩ := hsp
        exact fin S6 fun s7 n7 J7 => ⟨_, _, _, J7, r6, q6 n7⟩
    | false =>
      show wpAny _ X.A (handleBy (.ref a) X.env []) _ _ _
      refine wpAny_handleBy_nil ?_
      obtain ⟨k1, k2, k3, oe, vs, T, oT, ts', he, hz, hd, h1, hr⟩ := id fl3
      unfold PySem.passOn
      refine wpAny_bind (wpAny_field he hd h1 ?_)
      rw [if_neg (show ¬ ((Value.ref T == Value.none) = true) from by simp)]
      have out : wpAny (model X.prog X.w) X.A (setFlight (.ref a) X.env.frame) (fun _ s4 => wpAny (model X.prog X.w) X.A (throw (.ref a) : Sem Flow) (SP X pins D) X.xe s4) X.xe { s' with heap := h3 } := by
        rw [hf]
        exact HandSPX.setFlight_upZ fl3 fun h4 hh4 up4 => wpAny_throw (tk _ _ ⟨a, B, sI, pins, σ', H', cls, d, rfl, J, nb, (up.trans up3).trans up4, .inr (.inr (by rw [hs]; exact hh4)), na, os, ag, hno rfl⟩)
      first
        | exact wpAny_bind (wpAny_pure (wpAny_bind out))
        | exact wpAny_bind out
  · cases f with
    | next =>
      obtain ⟨σ', H', J', q⟩ := hsp
      exact wpAny_execs_nil ⟨σ', H', J'.ofTry ok, q⟩
    | brk =>
      obtain ⟨σ', H', J', q⟩ := hsp
      exact ⟨σ', H', J'.ofTry ok, q⟩
    | cont =>
      obtain ⟨σ', H', J', q⟩ := hsp
      exact ⟨σ', H', J'.ofTry ok, q⟩
    | ret u =>
      obtain ⟨v, σ', H', J', r, q⟩ := hsp
      exact ⟨v, σ', H', J'.ofTry ok, r, q⟩
end
end SX

set_option Elab.async false
set_option linter.all false
set_option maxRecDepth 100000
set_option maxHeartbeats 0
namespace K80
open PySem PySem.Spec PyProof.Rows L2
/-! ### the text by places (printed by genhead.py) -/
def top (i : Nat) : Stmt := PySem.Challenge.pw_stillthenstorm_k79_whole_texts_of_needs.main.body.getD i (.Pass ⟨0, 0, 0, 0⟩)
abbrev s_is_integer : Stmt := top 22
abbrev s_is_name : Stmt := top 23
abbrev s_need_integer : Stmt := top 24
abbrev s_need_name : Stmt := top 25
abbrev s_is_need : Stmt := top 34
abbrev s_need_need : Stmt := top 35
abbrev s_need_parts : Stmt := top 36
abbrev s_deep_of : Stmt := top 37
abbrev s_many_of : Stmt := top 38
abbrev s_is_figures : Stmt := top 42
abbrev s_is_any : Stmt := top 43
abbrev s_read_whole : Stmt := top 44
abbrev s_need_items : Stmt := top 46
abbrev s_take_part : Stmt := top 48
abbrev s_take_parts : Stmt := top 49
abbrev s_signs_behind : Stmt := top 50
abbrev s_take_need : Stmt := top 51
abbrev s_need_text : Stmt := top 52
abbrev s_read_need : Stmt := top 53
abbrev s__law_pen : Stmt := top 55
abbrev s__law_draw : Stmt := top 56
abbrev s__law_pick : Stmt := top 57
abbrev s__law_need_items : Stmt := top 58
abbrev s__law_plain_need : Stmt := top 59
abbrev s__law_is_name : Stmt := top 60
abbrev s__law_is_figures : Stmt := top 61
abbrev s__law_item : Stmt := top 62
abbrev s__law_need_step : Stmt := top 63
abbrev s__law_need_read : Stmt := top 64
abbrev s__law_bent : Stmt := top 65
abbrev s__law_caught : Stmt := top 66
abbrev s__law_any_need : Stmt := top 67
abbrev s__law_same : Stmt := top 68
abbrev s_law : Stmt := top 69
abbrev s_Has___init__ : Stmt := inClass (top 30) 0
abbrev s_Has___eq__ : Stmt := inClass (top 30) 1
abbrev s_Every___init__ : Stmt := inClass (top 31) 0
abbrev s_Every___eq__ : Stmt := inClass (top 31) 1
abbrev s_Some___init__ : Stmt := inClass (top 32) 0
abbrev s_Some___eq__ : Stmt := inClass (top 32) 1
abbrev s_Few___init__ : Stmt := inClass (top 33) 0
abbrev s_Few___eq__ : Stmt := inClass (top 33) 1
abbrev s_Scan___init__ : Stmt := inClass (top 41) 0
abbrev s_Scan_refuse : Stmt := inClass (top 41) 1
abbrev s_Scan_is_over : Stmt := inClass (top 41) 2
abbrev s_Scan_sees : Stmt := inClass (top 41) 3
abbrev s_Scan_next : Stmt := inClass (top 41) 4
abbrev s_Scan_take : Stmt := inClass (top 41) 5
abbrev s_Scan_take_name : Stmt := inClass (top 41) 6
abbrev s_Scan_take_number : Stmt := inClass (top 41) 7
abbrev s_Scan_finish : Stmt := inClass (top 41) 8
abbrev s_Room___init__ : Stmt := inClass (top 47) 0
abbrev s_Room_has : Stmt := inClass (top 47) 1
abbrev s_BadValue___init__ : Stmt := inClass (top 2) 0
abbrev s_BadNumber___init__ : Stmt := inClass (top 3) 0
abbrev s_BadName___init__ : Stmt := inClass (top 4) 0
abbrev s_BadNeed___init__ : Stmt := inClass (top 5) 0
abbrev s_BadHouse___init__ : Stmt := inClass (top 6) 0
abbrev s_BadState___init__ : Stmt := inClass (top 7) 0
abbrev s_BadWish___init__ : Stmt := inClass (top 8) 0
abbrev s_BadDiary___init__ : Stmt := inClass (top 9) 0
abbrev s_BadText___init__ : Stmt := inClass (top 10) 0
abbrev s_BadCommand___init__ : Stmt := inClass (top 11) 0
abbrev s_NoThing___init__ : Stmt := inClass (top 12) 0
abbrev s_NoDeed___init__ : Stmt := inClass (top 13) 0
abbrev s_NotYours___init__ : Stmt := inClass (top 14) 0
abbrev s_NotCarried___init__ : Stmt := inClass (top 15) 0
abbrev s_NotWaiting___init__ : Stmt := inClass (top 16) 0
abbrev s_Misfit___init__ : Stmt := inClass (top 17) 0
abbrev s_TooMany___init__ : Stmt := inClass (top 18) 0
abbrev s_Ended___init__ : Stmt := inClass (top 19) 0
/-! ### the defs -/
def d_is_integer : He.DefD := ⟨("is_integer", none), "is_integer", "is_integer", defArgs s_is_integer, defBody s_is_integer, defScope s_is_integer, [], []⟩
def d_is_name : He.DefD := ⟨("is_name", none), "is_name", "is_name", defArgs s_is_name, defBody s_is_name, defScope s_is_name, [], []⟩
def d_need_integer : He.DefD := ⟨("need_integer", none), "need_integer", "need_integer", defArgs s_need_integer, defBody s_need_integer, defScope s_need_integer, [.non], []⟩
def d_need_name : He.DefD := ⟨("need_name", none), "need_name", "need_name", defArgs s_need_name, defBody s_need_name, defScope s_need_name, [], []⟩
def d_is_need : He.DefD := ⟨("is_need", none), "is_need", "is_need", defArgs s_is_need, defBody s_is_need, defScope s_is_need, [], []⟩
def d_need_need : He.DefD := ⟨("need_need", none), "need_need", "need_need", defArgs s_need_need, defBody s_need_need, defScope s_need_need, [], []⟩
def d_need_parts : He.DefD := ⟨("need_parts", none), "need_parts", "need_parts", defArgs s_need_parts, defBody s_need_parts, defScope s_need_parts, [], []⟩
def d_deep_of : He.DefD := ⟨("deep_of", none), "deep_of", "deep_of", defArgs s_deep_of, defBody s_deep_of, defScope s_deep_of, [], []⟩
def d_many_of : He.DefD := ⟨("many_of", none), "many_of", "many_of", defArgs s_many_of, defBody s_many_of, defScope s_many_of, [], []⟩
def d_is_figures : He.DefD := ⟨("is_figures", none), "is_figures", "is_figures", defArgs s_is_figures, defBody s_is_figures, defScope s_is_figures, [], []⟩
def d_is_any : He.DefD := ⟨("is_any", none), "is_any", "is_any", defArgs s_is_any, defBody s_is_any, defScope s_is_any, [], []⟩
def d_read_whole : He.DefD := ⟨("read_whole", none), "read_whole", "read_whole", defArgs s_read_whole, defBody s_read_whole, defScope s_read_whole, [], []⟩
def d_need_items : He.DefD := ⟨("need_items", none), "need_items", "need_items", defArgs s_need_items, defBody s_need_items, defScope s_need_items, [], []⟩
def d_take_part : He.DefD := ⟨("take_part", none), "take_part", "take_part", defArgs s_take_part, defBody s_take_part, defScope s_take_part, [], []⟩
def d_take_parts : He.DefD := ⟨("take_parts", none), "take_parts", "take_parts", defArgs s_take_parts, defBody s_take_parts, defScope s_take_parts, [], []⟩
def d_signs_behind : He.DefD := ⟨("signs_behind", none), "signs_behind", "signs_behind", defArgs s_signs_behind, defBody s_signs_behind, defScope s_signs_behind, [], []⟩
def d_take_need : He.DefD := ⟨("take_need", none), "take_need", "take_need", defArgs s_take_need, defBody s_take_need, defScope s_take_need, [], []⟩
def d_need_text : He.DefD := ⟨("need_text", none), "need_text", "need_text", defArgs s_need_text, defBody s_need_text, defScope s_need_text, [], []⟩
def d_read_need : He.DefD := ⟨("read_need", none), "read_need", "read_need", defArgs s_read_need, defBody s_read_need, defScope s_read_need, [], []⟩
def d__law_pen : He.DefD := ⟨("_law_pen", none), "_law_pen", "_law_pen", defArgs s__law_pen, defBody s__law_pen, defScope s__law_pen, [], []⟩
def d__law_draw : He.DefD := ⟨("_law_draw", none), "_law_draw", "_law_draw", defArgs s__law_draw, defBody s__law_draw, defScope s__law_draw, [], []⟩
def d__law_pick : He.DefD := ⟨("_law_pick", none), "_law_pick", "_law_pick", defArgs s__law_pick, defBody s__law_pick, defScope s__law_pick, [], []⟩
def d__law_need_items : He.DefD := ⟨("_law_need_items", none), "_law_need_items", "_law_need_items", defArgs s__law_need_items, defBody s__law_need_items, defScope s__law_need_items, [], []⟩
def d__law_plain_need : He.DefD := ⟨("_law_plain_need", none), "_law_plain_need", "_law_plain_need", defArgs s__law_plain_need, defBody s__law_plain_need, defScope s__law_plain_need, [], []⟩
def d__law_is_name : He.DefD := ⟨("_law_is_name", none), "_law_is_name", "_law_is_name", defArgs s__law_is_name, defBody s__law_is_name, defScope s__law_is_name, [], []⟩
def d__law_is_figures : He.DefD := ⟨("_law_is_figures", none), "_law_is_figures", "_law_is_figures", defArgs s__law_is_figures, defBody s__law_is_figures, defScope s__law_is_figures, [], []⟩
def d__law_item : He.DefD := ⟨("_law_item", none), "_law_item", "_law_item", defArgs s__law_item, defBody s__law_item, defScope s__law_item, [], []⟩
def d__law_need_step : He.DefD := ⟨("_law_need_step", none), "_law_need_step", "_law_need_step", defArgs s__law_need_step, defBody s__law_need_step, defScope s__law_need_step, [], []⟩
def d__law_need_read : He.DefD := ⟨("_law_need_read", none), "_law_need_read", "_law_need_read", defArgs s__law_need_read, defBody s__law_need_read, defScope s__law_need_read, [], []⟩
def d__law_bent : He.DefD := ⟨("_law_bent", none), "_law_bent", "_law_bent", defArgs s__law_bent, defBody s__law_bent, defScope s__law_bent, [], []⟩
def d__law_caught : He.DefD := ⟨("_law_caught", none), "_law_caught", "_law_caught", defArgs s__law_caught, defBody s__law_caught, defScope s__law_caught, [], []⟩
def d__law_any_need : He.DefD := ⟨("_law_any_need", none), "_law_any_need", "_law_any_need", defArgs s__law_any_need, defBody s__law_any_need, defScope s__law_any_need, [], []⟩
def d__law_same : He.DefD := ⟨("_law_same", none), "_law_same", "_law_same", defArgs s__law_same, defBody s__law_same, defScope s__law_same, [], []⟩
def d_law : He.DefD := ⟨("law", none), "law", "law", defArgs s_law, defBody s_law, defScope s_law, [], []⟩
def d_Has___init__ : He.DefD := ⟨("Has", some "__init__"), "__init__", "Has.__init__", defArgs s_Has___init__, defBody s_Has___init__, defScope s_Has___init__, [], []⟩
def d_Has___eq__ : He.DefD := ⟨("Has", some "__eq__"), "__eq__", "Has.__eq__", defArgs s_Has___eq__, defBody s_Has___eq__, defScope s_Has___eq__, [], []⟩
def d_Every___init__ : He.DefD := ⟨("Every", some "__init__"), "__init__", "Every.__init__", defArgs s_Every___init__, defBody s_Every___init__, defScope s_Every___init__, [], []⟩
def d_Every___eq__ : He.DefD := ⟨("Every", some "__eq__"), "__eq__", "Every.__eq__", defArgs s_Every___eq__, defBody s_Every___eq__, defScope s_Every___eq__, [], []⟩
def d_Some___init__ : He.DefD := ⟨("Some", some "__init__"), "__init__", "Some.__init__", defArgs s_Some___init__, defBody s_Some___init__, defScope s_Some___init__, [], []⟩
def d_Some___eq__ : He.DefD := ⟨("Some", some "__eq__"), "__eq__", "Some.__eq__", defArgs s_Some___eq__, defBody s_Some___eq__, defScope s_Some___eq__, [], []⟩
def d_Few___init__ : He.DefD := ⟨("Few", some "__init__"), "__init__", "Few.__init__", defArgs s_Few___init__, defBody s_Few___init__, defScope s_Few___init__, [], []⟩
def d_Few___eq__ : He.DefD := ⟨("Few", some "__eq__"), "__eq__", "Few.__eq__", defArgs s_Few___eq__, defBody s_Few___eq__, defScope s_Few___eq__, [], []⟩
def d_Scan___init__ : He.DefD := ⟨("Scan", some "__init__"), "__init__", "Scan.__init__", defArgs s_Scan___init__, defBody s_Scan___init__, defScope s_Scan___init__, [], []⟩
def d_Scan_refuse : He.DefD := ⟨("Scan", some "refuse"), "refuse", "Scan.refuse", defArgs s_Scan_refuse, defBody s_Scan_refuse, defScope s_Scan_refuse, [], []⟩
def d_Scan_is_over : He.DefD := ⟨("Scan", some "is_over"), "is_over", "Scan.is_over", defArgs s_Scan_is_over, defBody s_Scan_is_over, defScope s_Scan_is_over, [], []⟩
def d_Scan_sees : He.DefD := ⟨("Scan", some "sees"), "sees", "Scan.sees", defArgs s_Scan_sees, defBody s_Scan_sees, defScope s_Scan_sees, [], []⟩
def d_Scan_next : He.DefD := ⟨("Scan", some "next"), "next", "Scan.next", defArgs s_Scan_next, defBody s_Scan_next, defScope s_Scan_next, [], []⟩
def d_Scan_take : He.DefD := ⟨("Scan", some "take"), "take", "Scan.take", defArgs s_Scan_take, defBody s_Scan_take, defScope s_Scan_take, [], []⟩
def d_Scan_take_name : He.DefD := ⟨("Scan", some "take_name"), "take_name", "Scan.take_name", defArgs s_Scan_take_name, defBody s_Scan_take_name, defScope s_Scan_take_name, [], []⟩
def d_Scan_take_number : He.DefD := ⟨("Scan", some "take_number"), "take_number", "Scan.take_number", defArgs s_Scan_take_number, defBody s_Scan_take_number, defScope s_Scan_take_number, [], []⟩
def d_Scan_finish : He.DefD := ⟨("Scan", some "finish"), "finish", "Scan.finish", defArgs s_Scan_finish, defBody s_Scan_finish, defScope s_Scan_finish, [], []⟩
def d_Room___init__ : He.DefD := ⟨("Room", some "__init__"), "__init__", "Room.__init__", defArgs s_Room___init__, defBody s_Room___init__, defScope s_Room___init__, [], []⟩
def d_Room_has : He.DefD := ⟨("Room", some "has"), "has", "Room.has", defArgs s_Room_has, defBody s_Room_has, defScope s_Room_has, [], []⟩
def fn : List He.DefD := ([d_is_integer, d_is_name, d_need_integer, d_need_name, d_is_need, d_need_need, d_need_parts, d_deep_of, d_many_of, d_is_figures, d_is_any, d_read_whole] : List He.DefD) ++ ([d_need_items, d_take_part, d_take_parts, d_signs_behind, d_take_need, d_need_text, d_read_need, d__law_pen, d__law_draw, d__law_pick, d__law_need_items, d__law_plain_need] : List He.DefD) ++ ([d__law_is_name, d__law_is_figures, d__law_item, d__law_need_step, d__law_need_read, d__law_bent, d__law_caught, d__law_any_need, d__law_same, d_law, d_Has___init__, d_Has___eq__] : List He.DefD) ++ ([d_Every___init__, d_Every___eq__, d_Some___init__, d_Some___eq__, d_Few___init__, d_Few___eq__, d_Scan___init__, d_Scan_refuse, d_Scan_is_over, d_Scan_sees, d_Scan_next, d_Scan_take] : List He.DefD) ++ ([d_Scan_take_name, d_Scan_take_number, d_Scan_finish, d_Room___init__, d_Room_has] : List He.DefD)
def i_BadValue : SH.IniD := ⟨"BadValue", "BadValue.__init__", defArgs s_BadValue___init__, defBody s_BadValue___init__, defScope s_BadValue___init__⟩
def i_BadNumber : SH.IniD := ⟨"BadNumber", "BadNumber.__init__", defArgs s_BadNumber___init__, defBody s_BadNumber___init__, defScope s_BadNumber___init__⟩
def i_BadName : SH.IniD := ⟨"BadName", "BadName.__init__", defArgs s_BadName___init__, defBody s_BadName___init__, defScope s_BadName___init__⟩
def i_BadNeed : SH.IniD := ⟨"BadNeed", "BadNeed.__init__", defArgs s_BadNeed___init__, defBody s_BadNeed___init__, defScope s_BadNeed___init__⟩
def i_BadHouse : SH.IniD := ⟨"BadHouse", "BadHouse.__init__", defArgs s_BadHouse___init__, defBody s_BadHouse___init__, defScope s_BadHouse___init__⟩
def i_BadState : SH.IniD := ⟨"BadState", "BadState.__init__", defArgs s_BadState___init__, defBody s_BadState___init__, defScope s_BadState___init__⟩
def i_BadWish : SH.IniD := ⟨"BadWish", "BadWish.__init__", defArgs s_BadWish___init__, defBody s_BadWish___init__, defScope s_BadWish___init__⟩
def i_BadDiary : SH.IniD := ⟨"BadDiary", "BadDiary.__init__", defArgs s_BadDiary___init__, defBody s_BadDiary___init__, defScope s_BadDiary___init__⟩
def i_BadText : SH.IniD := ⟨"BadText", "BadText.__init__", defArgs s_BadText___init__, defBody s_BadText___init__, defScope s_BadText___init__⟩
def i_BadCommand : SH.IniD := ⟨"BadCommand", "BadCommand.__init__", defArgs s_BadCommand___init__, defBody s_BadCommand___init__, defScope s_BadCommand___init__⟩
def i_NoThing : SH.IniD := ⟨"NoThing", "NoThing.__init__", defArgs s_NoThing___init__, defBody s_NoThing___init__, defScope s_NoThing___init__⟩
def i_NoDeed : SH.IniD := ⟨"NoDeed", "NoDeed.__init__", defArgs s_NoDeed___init__, defBody s_NoDeed___init__, defScope s_NoDeed___init__⟩
def i_NotYours : SH.IniD := ⟨"NotYours", "NotYours.__init__", defArgs s_NotYours___init__, defBody s_NotYours___init__, defScope s_NotYours___init__⟩
def i_NotCarried : SH.IniD := ⟨"NotCarried", "NotCarried.__init__", defArgs s_NotCarried___init__, defBody s_NotCarried___init__, defScope s_NotCarried___init__⟩
def i_NotWaiting : SH.IniD := ⟨"NotWaiting", "NotWaiting.__init__", defArgs s_NotWaiting___init__, defBody s_NotWaiting___init__, defScope s_NotWaiting___init__⟩
def i_Misfit : SH.IniD := ⟨"Misfit", "Misfit.__init__", defArgs s_Misfit___init__, defBody s_Misfit___init__, defScope s_Misfit___init__⟩
def i_TooMany : SH.IniD := ⟨"TooMany", "TooMany.__init__", defArgs s_TooMany___init__, defBody s_TooMany___init__, defScope s_TooMany___init__⟩
def i_Ended : SH.IniD := ⟨"Ended", "Ended.__init__", defArgs s_Ended___init__, defBody s_Ended___init__, defScope s_Ended___init__⟩
def ini : List SH.IniD := ([i_BadValue, i_BadNumber, i_BadName, i_BadNeed, i_BadHouse, i_BadState, i_BadWish, i_BadDiary, i_BadText, i_BadCommand, i_NoThing, i_NoDeed] : List SH.IniD) ++ ([i_NotYours, i_NotCarried, i_NotWaiting, i_Misfit, i_TooMany, i_Ended] : List SH.IniD)
def fa : List He.Fa := ([.glo "is_integer", .keep "is_integer", .glo "is_name", .keep "is_name", .glo "need_integer", .keep "need_integer", .glo "need_name", .keep "need_name", .glo "is_need", .keep "is_need", .glo "need_need", .keep "need_need"] : List He.Fa) ++ ([.glo "need_parts", .keep "need_parts", .glo "deep_of", .keep "deep_of", .glo "many_of", .keep "many_of", .glo "is_figures", .keep "is_figures", .glo "is_any", .keep "is_any", .glo "read_whole", .keep "read_whole"] : List He.Fa) ++ ([.glo "need_items", .keep "need_items", .glo "take_part", .keep "take_part", .glo "take_parts", .keep "take_parts", .glo "signs_behind", .keep "signs_behind", .glo "take_need", .keep "take_need", .glo "need_text", .keep "need_text"] : List He.Fa) ++ ([.glo "read_need", .keep "read_need", .glo "_law_pen", .keep "_law_pen", .glo "_law_draw", .keep "_law_draw", .glo "_law_pick", .keep "_law_pick", .glo "_law_need_items", .keep "_law_need_items", .glo "_law_plain_need", .keep "_law_plain_need"] : List He.Fa) ++ ([.glo "_law_is_name", .keep "_law_is_name", .glo "_law_is_figures", .keep "_law_is_figures", .glo "_law_item", .keep "_law_item", .glo "_law_need_step", .keep "_law_need_step", .glo "_law_need_read", .keep "_law_need_read", .glo "_law_bent", .keep "_law_bent"] : List He.Fa) ++ ([.glo "_law_caught", .keep "_law_caught", .glo "_law_any_need", .keep "_law_any_need", .glo "_law_same", .keep "_law_same", .glo "law", .keep "law", .glo "WatchError", .glo "BadValue", .glo "BadNumber", .glo "BadName"] : List He.Fa) ++ ([.glo "BadNeed", .glo "BadHouse", .glo "BadState", .glo "BadWish", .glo "BadDiary", .glo "BadText", .glo "BadCommand", .glo "NoThing", .glo "NoDeed", .glo "NotYours", .glo "NotCarried", .glo "NotWaiting"] : List He.Fa) ++ ([.glo "Misfit", .glo "TooMany", .glo "Ended", .glo "Has", .cls "Has", .mkr "Has", .noat "Has" "thing", .noat "Has" "word", .glo "Every", .cls "Every", .mkr "Every", .noat "Every" "parts"] : List He.Fa) ++ ([.noat "Every" "word", .glo "Some", .cls "Some", .mkr "Some", .noat "Some" "parts", .noat "Some" "word", .glo "Few", .cls "Few", .mkr "Few", .noat "Few" "many", .noat "Few" "parts", .noat "Few" "word"] : List He.Fa) ++ ([.glo "Scan", .cls "Scan", .mkr "Scan", .meth "Scan" "refuse", .meth "Scan" "is_over", .meth "Scan" "sees", .meth "Scan" "next", .meth "Scan" "take", .meth "Scan" "take_name", .meth "Scan" "take_number", .meth "Scan" "finish", .noat "Scan" "at"] : List He.Fa) ++ ([.noat "Scan" "words", .glo "Room", .cls "Room", .mkr "Room", .meth "Room" "has", .noat "Room" "owed", .noat "Room" "stand", .int "LONGEST" 12, .int "DEEPEST" 6, .int "LARGEST" 30, .int "WIDEST" 8, .int "MOST_DIGITS" 60] : List He.Fa) ++ ([.free "ValueError", .free "abs", .free "all", .free "bool", .free "enumerate", .free "int", .free "isinstance", .free "len", .free "list", .free "max", .free "min", .free "range"] : List He.Fa) ++ ([.free "repr", .free "str", .free "sum", .free "super", .free "tuple", .noat "BadValue" "part", .exm "BadValue" "WatchError" true, .noat "BadNumber" "part", .exm "BadNumber" "WatchError" true, .noat "BadName" "part", .exm "BadName" "WatchError" true, .noat "BadNeed" "part"] : List He.Fa) ++ ([.exm "BadNeed" "WatchError" true, .noat "BadHouse" "part", .exm "BadHouse" "WatchError" true, .noat "BadState" "part", .exm "BadState" "WatchError" true, .noat "BadWish" "part", .exm "BadWish" "WatchError" true, .noat "BadDiary" "part", .exm "BadDiary" "WatchError" true, .noat "BadText" "item", .exm "BadText" "WatchError" true, .noat "BadCommand" "word"] : List He.Fa) ++ ([.exm "BadCommand" "WatchError" true, .noat "NoThing" "name", .exm "NoThing" "WatchError" true, .noat "NoDeed" "number", .exm "NoDeed" "WatchError" true, .noat "NotYours" "deed", .exm "NotYours" "WatchError" true, .noat "NotCarried" "deed", .exm "NotCarried" "WatchError" true, .noat "NotWaiting" "deed", .exm "NotWaiting" "WatchError" true, .noat "Misfit" "part"] : List He.Fa) ++ ([.exm "Misfit" "WatchError" true, .noat "TooMany" "what", .noat "TooMany" "most", .exm "TooMany" "WatchError" true, .exm "Ended" "WatchError" true] : List He.Fa)
def tf : List He.Defn := [("read_need", none), ("_law_same", none), ("law", none)]
def bound : List PySem.Str := (["is_integer", "is_name", "need_integer", "need_name", "is_need", "need_need", "need_parts", "deep_of", "many_of", "is_figures", "is_any", "read_whole", "need_items", "take_part", "take_parts", "signs_behind", "take_need", "need_text", "read_need", "_law_pen"] : List PySem.Str) ++ (["_law_draw", "_law_pick", "_law_need_items", "_law_plain_need", "_law_is_name", "_law_is_figures", "_law_item", "_law_need_step", "_law_need_read", "_law_bent", "_law_caught", "_law_any_need", "_law_same", "Has", "Every", "Some", "Few", "Scan", "Room", "WatchError"] : List PySem.Str) ++ (["BadValue", "BadNumber", "BadName", "BadNeed", "BadHouse", "BadState", "BadWish", "BadDiary", "BadText", "BadCommand", "NoThing", "NoDeed", "NotYours", "NotCarried", "NotWaiting", "Misfit", "TooMany", "Ended", "LONGEST", "DEEPEST"] : List PySem.Str) ++ (["LARGEST", "WIDEST", "MOST_DIGITS"] : List PySem.Str)
abbrev R : PySem.W.OpenRow := PySem.W.OpenLaw.row PySem.Challenge.rw_stillthenstorm_k79_whole_texts_of_needs
def lawAt : Nat := 69
def pairsOf (l : List Str) : List (Str × Str × Bool) := l.flatMap fun x => l.map fun y => (x, y, decide (x = y))
def exPairs : List (Str × Str × Bool) := pairsOf ["Has", "Every", "Some", "Few"] ++ ([("BadText", "BadText", true), ("BadNeed", "BadText", false), ("BadNeed", "BadCommand", false), ("BadNeed", "TooMany", false), ("BadNeed", "BadValue", false), ("BadNeed", "BadNeed", true)] : List (Str × Str × Bool))
def exK : PySem.W.Frag → Bool := SX.exAll ["Has", "Every", "Some", "Few", "BadText", "BadNeed"] ["BadText", "BadNeed"] exPairs
end K80

set_option Elab.async false
set_option linter.all false
set_option maxRecDepth 100000
set_option maxHeartbeats 0
namespace K80
open PySem PySem.Spec PyProof.Rows L2
/-- the tables lie apart -/
def neK (K : PySem.W.Frag) : Bool := !decide ((He.cT K ("_law_same", none)).2 = (He.cT K ("read_need", none)).2) && (!decide ((He.cT K ("law", none)).2 = (He.cT K ("read_need", none)).2) && !decide ((He.cT K ("law", none)).2 = (He.cT K ("_law_same", none)).2))
/-- the == and != of a class -/
def eqcB (K : PySem.W.Frag) (c : Str) : Bool :=
  He.eqO (PySem.W.findIn K (.ref (He.ga K c)) "__ne__") (some (some (.builtin "object.__ne__"))) && (decide (PySem.W.mroIn K (He.ga K c) (.type "object") = some true) && (He.eqO (PySem.W.findIn K (.ref (He.ga K c)) "__eq__") (some (some (.ref (He.ma K (He.ga K c) "__eq__")))) && PySem.W.isFn K (.ref (He.ma K (He.ga K c) "__eq__"))))
def eqK (K : PySem.W.Frag) : Bool := eqcB K "Has" && (eqcB K "Every" && (eqcB K "Some" && eqcB K "Few"))
def exK2 (K : PySem.W.Frag) : Bool := exK K && (neK K && eqK K)
theorem neK_ok {K : PySem.W.Frag} (h : neK K = true) : (He.cT K ("_law_same", none)).2 ≠ (He.cT K ("read_need", none)).2 ∧ (He.cT K ("law", none)).2 ≠ (He.cT K ("read_need", none)).2 ∧ (He.cT K ("law", none)).2 ≠ (He.cT K ("_law_same", none)).2 := by
  unfold neK at h
  obtain ⟨h1, h⟩ := He.ba h
  obtain ⟨h2, h3⟩ := He.ba h
  exact ⟨by simpa using h1, by simpa using h2, by simpa using h3⟩
end K80

set_option Elab.async false
set_option linter.all false
set_option maxRecDepth 100000
set_option maxHeartbeats 0
namespace K80
open PySem PySem.Spec PyProof.Rows L2
theorem run_1 (w : World) : HandSHeadRun.RunEq R (PySem.W.view R.prog [69]) (SH.hook 5 "/claim/cut.py" fa [] [] [] (fun _ => true)) (SH.ob 5 "/claim/cut.py" fa [] [] [] (fun _ => true)) 12000 bound w := by
  intro os
  kernel_rfl
theorem run_2 (w : World) : HandSHeadRun.RunEq R (PySem.W.view R.prog [69]) (SH.hook 5 "/claim/cut.py" [] fn [] [] (fun _ => true)) (SH.ob 5 "/claim/cut.py" [] fn [] [] (fun _ => true)) 12000 bound w := by
  intro os
  kernel_rfl
theorem run_3 (w : World) : HandSHeadRun.RunEq R (PySem.W.view R.prog [69]) (SH.hook 5 "/claim/cut.py" [] [] ini [] (fun _ => true)) (SH.ob 5 "/claim/cut.py" [] [] ini [] (fun _ => true)) 12000 bound w := by
  intro os
  kernel_rfl
theorem run_4 (w : World) : HandSHeadRun.RunEq R (PySem.W.view R.prog [69]) (SH.hook 5 "/claim/cut.py" [] [] [] tf exK2) (SH.ob 5 "/claim/cut.py" [] [] [] tf exK2) 12000 bound w := by
  intro os
  kernel_rfl
end K80

set_option Elab.async false
set_option linter.all false
set_option maxRecDepth 100000
set_option maxHeartbeats 0
namespace K80
open PySem PySem.Spec PyProof.Rows L2
/-! ### the facts by name (printed by genhead.py) -/
/-- what the defs stand on -/
structure Z (P : Program) (w : World) (K : PySem.W.Frag) (mg : Str → Option Value) (base : Heap) : Prop where
  c : He.SaysD fa fn K
  X : K.In base
  G : base.Ns mainGlobals mg
  sup : ∀ d ∈ ini, SH.SupF P K d
  ex : exK K = true
  tb : ∀ t ∈ tf, LamX.TabB base mg (He.cT K t).1 (He.cT K t).2
section
variable {P : Program} {w : World} {K : PySem.W.Frag} {mg : Str → Option Value} {base : Heap}
theorem Z.g_is_integer (z : Z P w K mg base) : mg "is_integer" = some (.ref (He.ga K "is_integer")) := He.glo_ok z.X z.G (z.c.fact 0 (f := .glo "is_integer"))
theorem Z.k_is_integer (z : Z P w K mg base) : PySem.W.keepIn K (.ref (He.ga K "is_integer")) = true := He.keep_ok (z.c.fact 1 (f := .keep "is_integer"))
theorem Z.g_is_name (z : Z P w K mg base) : mg "is_name" = some (.ref (He.ga K "is_name")) := He.glo_ok z.X z.G (z.c.fact 2 (f := .glo "is_name"))
theorem Z.k_is_name (z : Z P w K mg base) : PySem.W.keepIn K (.ref (He.ga K "is_name")) = true := He.keep_ok (z.c.fact 3 (f := .keep "is_name"))
theorem Z.g_need_integer (z : Z P w K mg base) : mg "need_integer" = some (.ref (He.ga K "need_integer")) := He.glo_ok z.X z.G (z.c.fact 4 (f := .glo "need_integer"))
theorem Z.k_need_integer (z : Z P w K mg base) : PySem.W.keepIn K (.ref (He.ga K "need_integer")) = true := He.keep_ok (z.c.fact 5 (f := .keep "need_integer"))
theorem Z.g_need_name (z : Z P w K mg base) : mg "need_name" = some (.ref (He.ga K "need_name")) := He.glo_ok z.X z.G (z.c.fact 6 (f := .glo "need_name"))
theorem Z.k_need_name (z : Z P w K mg base) : PySem.W.keepIn K (.ref (He.ga K "need_name")) = true := He.keep_ok (z.c.fact 7 (f := .keep "need_name"))
theorem Z.g_is_need (z : Z P w K mg base) : mg "is_need" = some (.ref (He.ga K "is_need")) := He.glo_ok z.X z.G (z.c.fact 8 (f := .glo "is_need"))
theorem Z.k_is_need (z : Z P w K mg base) : PySem.W.keepIn K (.ref (He.ga K "is_need")) = true := He.keep_ok (z.c.fact 9 (f := .keep "is_need"))
theorem Z.g_need_need (z : Z P w K mg base) : mg "need_need" = some (.ref (He.ga K "need_need")) := He.glo_ok z.X z.G (z.c.fact 10 (f := .glo "need_need"))
theorem Z.k_need_need (z : Z P w K mg base) : PySem.W.keepIn K (.ref (He.ga K "need_need")) = true := He.keep_ok (z.c.fact 11 (f := .keep "need_need"))
theorem Z.g_need_parts (z : Z P w K mg base) : mg "need_parts" = some (.ref (He.ga K "need_parts")) := He.glo_ok z.X z.G (z.c.fact 12 (f := .glo "need_parts"))
theorem Z.k_need_parts (z : Z P w K mg base) : PySem.W.keepIn K (.ref (He.ga K "need_parts")) = true := He.keep_ok (z.c.fact 13 (f := .keep "need_parts"))
theorem Z.g_deep_of (z : Z P w K mg base) : mg "deep_of" = some (.ref (He.ga K "deep_of")) := He.glo_ok z.X z.G (z.c.fact 14 (f := .glo "deep_of"))
theorem Z.k_deep_of (z : Z P w K mg base) : PySem.W.keepIn K (.ref (He.ga K "deep_of")) = true := He.keep_ok (z.c.fact 15 (f := .keep "deep_of"))
theorem Z.g_many_of (z : Z P w K mg base) : mg "many_of" = some (.ref (He.ga K "many_of")) := He.glo_ok z.X z.G (z.c.fact 16 (f := .glo "many_of"))
theorem Z.k_many_of (z : Z P w K mg base) : PySem.W.keepIn K (.ref (He.ga K "many_of")) = true := He.keep_ok (z.c.fact 17 (f := .keep "many_of"))
theorem Z.g_is_figures (z : Z P w K mg base) : mg "is_figures" = some (.ref (He.ga K "is_figures")) := He.glo_ok z.X z.G (z.c.fact 18 (f := .glo "is_figures"))
theorem Z.k_is_figures (z : Z P w K mg base) : PySem.W.keepIn K (.ref (He.ga K "is_figures")) = true := He.keep_ok (z.c.fact 19 (f := .keep "is_figures"))
theorem Z.g_is_any (z : Z P w K mg base) : mg "is_any" = some (.ref (He.ga K "is_any")) := He.glo_ok z.X z.G (z.c.fact 20 (f := .glo "is_any"))
theorem Z.k_is_any (z : Z P w K mg base) : PySem.W.keepIn K (.ref (He.ga K "is_any")) = true := He.keep_ok (z.c.fact 21 (f := .keep "is_any"))
theorem Z.g_read_whole (z : Z P w K mg base) : mg "read_whole" = some (.ref (He.ga K "read_whole")) := He.glo_ok z.X z.G (z.c.fact 22 (f := .glo "read_whole"))
theorem Z.k_read_whole (z : Z P w K mg base) : PySem.W.keepIn K (.ref (He.ga K "read_whole")) = true := He.keep_ok (z.c.fact 23 (f := .keep "read_whole"))
theorem Z.g_need_items (z : Z P w K mg base) : mg "need_items" = some (.ref (He.ga K "need_items")) := He.glo_ok z.X z.G (z.c.fact 24 (f := .glo "need_items"))
theorem Z.k_need_items (z : Z P w K mg base) : PySem.W.keepIn K (.ref (He.ga K "need_items")) = true := He.keep_ok (z.c.fact 25 (f := .keep "need_items"))
theorem Z.g_take_part (z : Z P w K mg base) : mg "take_part" = some (.ref (He.ga K "take_part")) := He.glo_ok z.X z.G (z.c.fact 26 (f := .glo "take_part"))
theorem Z.k_take_part (z : Z P w K mg base) : PySem.W.keepIn K (.ref (He.ga K "take_part")) = true := He.keep_ok (z.c.fact 27 (f := .keep "take_part"))
theorem Z.g_take_parts (z : Z P w K mg base) : mg "take_parts" = some (.ref (He.ga K "take_parts")) := He.glo_ok z.X z.G (z.c.fact 28 (f := .glo "take_parts"))
theorem Z.k_take_parts (z : Z P w K mg base) : PySem.W.keepIn K (.ref (He.ga K "take_parts")) = true := He.keep_ok (z.c.fact 29 (f := .keep "take_parts"))
theorem Z.g_signs_behind (z : Z P w K mg base) : mg "signs_behind" = some (.ref (He.ga K "signs_behind")) := He.glo_ok z.X z.G (z.c.fact 30 (f := .glo "signs_behind"))
theorem Z.k_signs_behind (z : Z P w K mg base) : PySem.W.keepIn K (.ref (He.ga K "signs_behind")) = true := He.keep_ok (z.c.fact 31 (f := .keep "signs_behind"))
theorem Z.g_take_need (z : Z P w K mg base) : mg "take_need" = some (.ref (He.ga K "take_need")) := He.glo_ok z.X z.G (z.c.fact 32 (f := .glo "take_need"))
theorem Z.k_take_need (z : Z P w K mg base) : PySem.W.keepIn K (.ref (He.ga K "take_need")) = true := He.keep_ok (z.c.fact 33 (f := .keep "take_need"))
theorem Z.g_need_text (z : Z P w K mg base) : mg "need_text" = some (.ref (He.ga K "need_text")) := He.glo_ok z.X z.G (z.c.fact 34 (f := .glo "need_text"))
theorem Z.k_need_text (z : Z P w K mg base) : PySem.W.keepIn K (.ref (He.ga K "need_text")) = true := He.keep_ok (z.c.fact 35 (f := .keep "need_text"))
theorem Z.g_read_need (z : Z P w K mg base) : mg "read_need" = some (.ref (He.ga K "read_need")) := He.glo_ok z.X z.G (z.c.fact 36 (f := .glo "read_need"))
theorem Z.k_read_need (z : Z P w K mg base) : PySem.W.keepIn K (.ref (He.ga K "read_need")) = true := He.keep_ok (z.c.fact 37 (f := .keep "read_need"))
theorem Z.g__law_pen (z : Z P w K mg base) : mg "_law_pen" = some (.ref (He.ga K "_law_pen")) := He.glo_ok z.X z.G (z.c.fact 38 (f := .glo "_law_pen"))
theorem Z.k__law_pen (z : Z P w K mg base) : PySem.W.keepIn K (.ref (He.ga K "_law_pen")) = true := He.keep_ok (z.c.fact 39 (f := .keep "_law_pen"))
theorem Z.g__law_draw (z : Z P w K mg base) : mg "_law_draw" = some (.ref (He.ga K "_law_draw")) := He.glo_ok z.X z.G (z.c.fact 40 (f := .glo "_law_draw"))
theorem Z.k__law_draw (z : Z P w K mg base) : PySem.W.keepIn K (.ref (He.ga K "_law_draw")) = true := He.keep_ok (z.c.fact 41 (f := .keep "_law_draw"))
theorem Z.g__law_pick (z : Z P w K mg base) : mg "_law_pick" = some (.ref (He.ga K "_law_pick")) := He.glo_ok z.X z.G (z.c.fact 42 (f := .glo "_law_pick"))
theorem Z.k__law_pick (z : Z P w K mg base) : PySem.W.keepIn K (.ref (He.ga K "_law_pick")) = true := He.keep_ok (z.c.fact 43 (f := .keep "_law_pick"))
theorem Z.g__law_need_items (z : Z P w K mg base) : mg "_law_need_items" = some (.ref (He.ga K "_law_need_items")) := He.glo_ok z.X z.G (z.c.fact 44 (f := .glo "_law_need_items"))
theorem Z.k__law_need_items (z : Z P w K mg base) : PySem.W.keepIn K (.ref (He.ga K "_law_need_items")) = true := He.keep_ok (z.c.fact 45 (f := .keep "_law_need_items"))
theorem Z.g__law_plain_need (z : Z P w K mg base) : mg "_law_plain_need" = some (.ref (He.ga K "_law_plain_need")) := He.glo_ok z.X z.G (z.c.fact 46 (f := .glo "_law_plain_need"))
theorem Z.k__law_plain_need (z : Z P w K mg base) : PySem.W.keepIn K (.ref (He.ga K "_law_plain_need")) = true := He.keep_ok (z.c.fact 47 (f := .keep "_law_plain_need"))
theorem Z.g__law_is_name (z : Z P w K mg base) : mg "_law_is_name" = some (.ref (He.ga K "_law_is_name")) := He.glo_ok z.X z.G (z.c.fact 48 (f := .glo "_law_is_name"))
theorem Z.k__law_is_name (z : Z P w K mg base) : PySem.W.keepIn K (.ref (He.ga K "_law_is_name")) = true := He.keep_ok (z.c.fact 49 (f := .keep "_law_is_name"))
theorem Z.g__law_is_figures (z : Z P w K mg base) : mg "_law_is_figures" = some (.ref (He.ga K "_law_is_figures")) := He.glo_ok z.X z.G (z.c.fact 50 (f := .glo "_law_is_figures"))
theorem Z.k__law_is_figures (z : Z P w K mg base) : PySem.W.keepIn K (.ref (He.ga K "_law_is_figures")) = true := He.keep_ok (z.c.fact 51 (f := .keep "_law_is_figures"))
theorem Z.g__law_item (z : Z P w K mg base) : mg "_law_item" = some (.ref (He.ga K "_law_item")) := He.glo_ok z.X z.G (z.c.fact 52 (f := .glo "_law_item"))
theorem Z.k__law_item (z : Z P w K mg base) : PySem.W.keepIn K (.ref (He.ga K "_law_item")) = true := He.keep_ok (z.c.fact 53 (f := .keep "_law_item"))
theorem Z.g__law_need_step (z : Z P w K mg base) : mg "_law_need_step" = some (.ref (He.ga K "_law_need_step")) := He.glo_ok z.X z.G (z.c.fact 54 (f := .glo "_law_need_step"))
theorem Z.k__law_need_step (z : Z P w K mg base) : PySem.W.keepIn K (.ref (He.ga K "_law_need_step")) = true := He.keep_ok (z.c.fact 55 (f := .keep "_law_need_step"))
theorem Z.g__law_need_read (z : Z P w K mg base) : mg "_law_need_read" = some (.ref (He.ga K "_law_need_read")) := He.glo_ok z.X z.G (z.c.fact 56 (f := .glo "_law_need_read"))
theorem Z.k__law_need_read (z : Z P w K mg base) : PySem.W.keepIn K (.ref (He.ga K "_law_need_read")) = true := He.keep_ok (z.c.fact 57 (f := .keep "_law_need_read"))
theorem Z.g__law_bent (z : Z P w K mg base) : mg "_law_bent" = some (.ref (He.ga K "_law_bent")) := He.glo_ok z.X z.G (z.c.fact 58 (f := .glo "_law_bent"))
theorem Z.k__law_bent (z : Z P w K mg base) : PySem.W.keepIn K (.ref (He.ga K "_law_bent")) = true := He.keep_ok (z.c.fact 59 (f := .keep "_law_bent"))
theorem Z.g__law_caught (z : Z P w K mg base) : mg "_law_caught" = some (.ref (He.ga K "_law_caught")) := He.glo_ok z.X z.G (z.c.fact 60 (f := .glo "_law_caught"))
theorem Z.k__law_caught (z : Z P w K mg base) : PySem.W.keepIn K (.ref (He.ga K "_law_caught")) = true := He.keep_ok (z.c.fact 61 (f := .keep "_law_caught"))
theorem Z.g__law_any_need (z : Z P w K mg base) : mg "_law_any_need" = some (.ref (He.ga K "_law_any_need")) := He.glo_ok z.X z.G (z.c.fact 62 (f := .glo "_law_any_need"))
theorem Z.k__law_any_need (z : Z P w K mg base) : PySem.W.keepIn K (.ref (He.ga K "_law_any_need")) = true := He.keep_ok (z.c.fact 63 (f := .keep "_law_any_need"))
theorem Z.g__law_same (z : Z P w K mg base) : mg "_law_same" = some (.ref (He.ga K "_law_same")) := He.glo_ok z.X z.G (z.c.fact 64 (f := .glo "_law_same"))
theorem Z.k__law_same (z : Z P w K mg base) : PySem.W.keepIn K (.ref (He.ga K "_law_same")) = true := He.keep_ok (z.c.fact 65 (f := .keep "_law_same"))
theorem Z.g_law (z : Z P w K mg base) : mg "law" = some (.ref (He.ga K "law")) := He.glo_ok z.X z.G (z.c.fact 66 (f := .glo "law"))
theorem Z.k_law (z : Z P w K mg base) : PySem.W.keepIn K (.ref (He.ga K "law")) = true := He.keep_ok (z.c.fact 67 (f := .keep "law"))
theorem Z.g_WatchError (z : Z P w K mg base) : mg "WatchError" = some (.ref (He.ga K "WatchError")) := He.glo_ok z.X z.G (z.c.fact 68 (f := .glo "WatchError"))
theorem Z.g_BadValue (z : Z P w K mg base) : mg "BadValue" = some (.ref (He.ga K "BadValue")) := He.glo_ok z.X z.G (z.c.fact 69 (f := .glo "BadValue"))
theorem Z.g_BadNumber (z : Z P w K mg base) : mg "BadNumber" = some (.ref (He.ga K "BadNumber")) := He.glo_ok z.X z.G (z.c.fact 70 (f := .glo "BadNumber"))
theorem Z.g_BadName (z : Z P w K mg base) : mg "BadName" = some (.ref (He.ga K "BadName")) := He.glo_ok z.X z.G (z.c.fact 71 (f := .glo "BadName"))
theorem Z.g_BadNeed (z : Z P w K mg base) : mg "BadNeed" = some (.ref (He.ga K "BadNeed")) := He.glo_ok z.X z.G (z.c.fact 72 (f := .glo "BadNeed"))
theorem Z.g_BadHouse (z : Z P w K mg base) : mg "BadHouse" = some (.ref (He.ga K "BadHouse")) := He.glo_ok z.X z.G (z.c.fact 73 (f := .glo "BadHouse"))
theorem Z.g_BadState (z : Z P w K mg base) : mg "BadState" = some (.ref (He.ga K "BadState")) := He.glo_ok z.X z.G (z.c.fact 74 (f := .glo "BadState"))
theorem Z.g_BadWish (z : Z P w K mg base) : mg "BadWish" = some (.ref (He.ga K "BadWish")) := He.glo_ok z.X z.G (z.c.fact 75 (f := .glo "BadWish"))
theorem Z.g_BadDiary (z : Z P w K mg base) : mg "BadDiary" = some (.ref (He.ga K "BadDiary")) := He.glo_ok z.X z.G (z.c.fact 76 (f := .glo "BadDiary"))
theorem Z.g_BadText (z : Z P w K mg base) : mg "BadText" = some (.ref (He.ga K "BadText")) := He.glo_ok z.X z.G (z.c.fact 77 (f := .glo "BadText"))
theorem Z.g_BadCommand (z : Z P w K mg base) : mg "BadCommand" = some (.ref (He.ga K "BadCommand")) := He.glo_ok z.X z.G (z.c.fact 78 (f := .glo "BadCommand"))
theorem Z.g_NoThing (z : Z P w K mg base) : mg "NoThing" = some (.ref (He.ga K "NoThing")) := He.glo_ok z.X z.G (z.c.fact 79 (f := .glo "NoThing"))
theorem Z.g_NoDeed (z : Z P w K mg base) : mg "NoDeed" = some (.ref (He.ga K "NoDeed")) := He.glo_ok z.X z.G (z.c.fact 80 (f := .glo "NoDeed"))
theorem Z.g_NotYours (z : Z P w K mg base) : mg "NotYours" = some (.ref (He.ga K "NotYours")) := He.glo_ok z.X z.G (z.c.fact 81 (f := .glo "NotYours"))
theorem Z.g_NotCarried (z : Z P w K mg base) : mg "NotCarried" = some (.ref (He.ga K "NotCarried")) := He.glo_ok z.X z.G (z.c.fact 82 (f := .glo "NotCarried"))
theorem Z.g_NotWaiting (z : Z P w K mg base) : mg "NotWaiting" = some (.ref (He.ga K "NotWaiting")) := He.glo_ok z.X z.G (z.c.fact 83 (f := .glo "NotWaiting"))
theorem Z.g_Misfit (z : Z P w K mg base) : mg "Misfit" = some (.ref (He.ga K "Misfit")) := He.glo_ok z.X z.G (z.c.fact 84 (f := .glo "Misfit"))
theorem Z.g_TooMany (z : Z P w K mg base) : mg "TooMany" = some (.ref (He.ga K "TooMany")) := He.glo_ok z.X z.G (z.c.fact 85 (f := .glo "TooMany"))
theorem Z.g_Ended (z : Z P w K mg base) : mg "Ended" = some (.ref (He.ga K "Ended")) := He.glo_ok z.X z.G (z.c.fact 86 (f := .glo "Ended"))
theorem Z.g_Has (z : Z P w K mg base) : mg "Has" = some (.ref (He.ga K "Has")) := He.glo_ok z.X z.G (z.c.fact 87 (f := .glo "Has"))
theorem Z.cl_Has (z : Z P w K mg base) : Cls K (He.ga K "Has") := He.cls_ok (z.c.fact 88 (f := .cls "Has"))
theorem Z.mk_Has (z : Z P w K mg base) : Mk K (He.ga K "Has") (He.ma K (He.ga K "Has") "__init__") := He.mkr_ok (z.c.fact 89 (f := .mkr "Has"))
theorem Z.na_Has_thing (z : Z P w K mg base) : NoAttr K (He.ga K "Has") "thing" := He.noat_ok (z.c.fact 90 (f := .noat "Has" "thing"))
theorem Z.na_Has_word (z : Z P w K mg base) : NoAttr K (He.ga K "Has") "word" := He.noat_ok (z.c.fact 91 (f := .noat "Has" "word"))
theorem Z.g_Every (z : Z P w K mg base) : mg "Every" = some (.ref (He.ga K "Every")) := He.glo_ok z.X z.G (z.c.fact 92 (f := .glo "Every"))
theorem Z.cl_Every (z : Z P w K mg base) : Cls K (He.ga K "Every") := He.cls_ok (z.c.fact 93 (f := .cls "Every"))
theorem Z.mk_Every (z : Z P w K mg base) : Mk K (He.ga K "Every") (He.ma K (He.ga K "Every") "__init__") := He.mkr_ok (z.c.fact 94 (f := .mkr "Every"))
theorem Z.na_Every_parts (z : Z P w K mg base) : NoAttr K (He.ga K "Every") "parts" := He.noat_ok (z.c.fact 95 (f := .noat "Every" "parts"))
theorem Z.na_Every_word (z : Z P w K mg base) : NoAttr K (He.ga K "Every") "word" := He.noat_ok (z.c.fact 96 (f := .noat "Every" "word"))
theorem Z.g_Some (z : Z P w K mg base) : mg "Some" = some (.ref (He.ga K "Some")) := He.glo_ok z.X z.G (z.c.fact 97 (f := .glo "Some"))
theorem Z.cl_Some (z : Z P w K mg base) : Cls K (He.ga K "Some") := He.cls_ok (z.c.fact 98 (f := .cls "Some"))
theorem Z.mk_Some (z : Z P w K mg base) : Mk K (He.ga K "Some") (He.ma K (He.ga K "Some") "__init__") := He.mkr_ok (z.c.fact 99 (f := .mkr "Some"))
theorem Z.na_Some_parts (z : Z P w K mg base) : NoAttr K (He.ga K "Some") "parts" := He.noat_ok (z.c.fact 100 (f := .noat "Some" "parts"))
theorem Z.na_Some_word (z : Z P w K mg base) : NoAttr K (He.ga K "Some") "word" := He.noat_ok (z.c.fact 101 (f := .noat "Some" "word"))
theorem Z.g_Few (z : Z P w K mg base) : mg "Few" = some (.ref (He.ga K "Few")) := He.glo_ok z.X z.G (z.c.fact 102 (f := .glo "Few"))
theorem Z.cl_Few (z : Z P w K mg base) : Cls K (He.ga K "Few") := He.cls_ok (z.c.fact 103 (f := .cls "Few"))
theorem Z.mk_Few (z : Z P w K mg base) : Mk K (He.ga K "Few") (He.ma K (He.ga K "Few") "__init__") := He.mkr_ok (z.c.fact 104 (f := .mkr "Few"))
theorem Z.na_Few_many (z : Z P w K mg base) : NoAttr K (He.ga K "Few") "many" := He.noat_ok (z.c.fact 105 (f := .noat "Few" "many"))
theorem Z.na_Few_parts (z : Z P w K mg base) : NoAttr K (He.ga K "Few") "parts" := He.noat_ok (z.c.fact 106 (f := .noat "Few" "parts"))
theorem Z.na_Few_word (z : Z P w K mg base) : NoAttr K (He.ga K "Few") "word" := He.noat_ok (z.c.fact 107 (f := .noat "Few" "word"))
theorem Z.g_Scan (z : Z P w K mg base) : mg "Scan" = some (.ref (He.ga K "Scan")) := He.glo_ok z.X z.G (z.c.fact 108 (f := .glo "Scan"))
theorem Z.cl_Scan (z : Z P w K mg base) : Cls K (He.ga K "Scan") := He.cls_ok (z.c.fact 109 (f := .cls "Scan"))
theorem Z.mk_Scan (z : Z P w K mg base) : Mk K (He.ga K "Scan") (He.ma K (He.ga K "Scan") "__init__") := He.mkr_ok (z.c.fact 110 (f := .mkr "Scan"))
theorem Z.me_Scan_refuse (z : Z P w K mg base) : Meth K (He.ga K "Scan") "refuse" (He.ma K (He.ga K "Scan") "refuse") := He.meth_ok (z.c.fact 111 (f := .meth "Scan" "refuse"))
theorem Z.me_Scan_is_over (z : Z P w K mg base) : Meth K (He.ga K "Scan") "is_over" (He.ma K (He.ga K "Scan") "is_over") := He.meth_ok (z.c.fact 112 (f := .meth "Scan" "is_over"))
theorem Z.me_Scan_sees (z : Z P w K mg base) : Meth K (He.ga K "Scan") "sees" (He.ma K (He.ga K "Scan") "sees") := He.meth_ok (z.c.fact 113 (f := .meth "Scan" "sees"))
theorem Z.me_Scan_next (z : Z P w K mg base) : Meth K (He.ga K "Scan") "next" (He.ma K (He.ga K "Scan") "next") := He.meth_ok (z.c.fact 114 (f := .meth "Scan" "next"))
theorem Z.me_Scan_take (z : Z P w K mg base) : Meth K (He.ga K "Scan") "take" (He.ma K (He.ga K "Scan") "take") := He.meth_ok (z.c.fact 115 (f := .meth "Scan" "take"))
theorem Z.me_Scan_take_name (z : Z P w K mg base) : Meth K (He.ga K "Scan") "take_name" (He.ma K (He.ga K "Scan") "take_name") := He.meth_ok (z.c.fact 116 (f := .meth "Scan" "take_name"))
theorem Z.me_Scan_take_number (z : Z P w K mg base) : Meth K (He.ga K "Scan") "take_number" (He.ma K (He.ga K "Scan") "take_number") := He.meth_ok (z.c.fact 117 (f := .meth "Scan" "take_number"))
theorem Z.me_Scan_finish (z : Z P w K mg base) : Meth K (He.ga K "Scan") "finish" (He.ma K (He.ga K "Scan") "finish") := He.meth_ok (z.c.fact 118 (f := .meth "Scan" "finish"))
theorem Z.na_Scan_at (z : Z P w K mg base) : NoAttr K (He.ga K "Scan") "at" := He.noat_ok (z.c.fact 119 (f := .noat "Scan" "at"))
theorem Z.na_Scan_words (z : Z P w K mg base) : NoAttr K (He.ga K "Scan") "words" := He.noat_ok (z.c.fact 120 (f := .noat "Scan" "words"))
theorem Z.g_Room (z : Z P w K mg base) : mg "Room" = some (.ref (He.ga K "Room")) := He.glo_ok z.X z.G (z.c.fact 121 (f := .glo "Room"))
theorem Z.cl_Room (z : Z P w K mg base) : Cls K (He.ga K "Room") := He.cls_ok (z.c.fact 122 (f := .cls "Room"))
theorem Z.mk_Room (z : Z P w K mg base) : Mk K (He.ga K "Room") (He.ma K (He.ga K "Room") "__init__") := He.mkr_ok (z.c.fact 123 (f := .mkr "Room"))
theorem Z.me_Room_has (z : Z P w K mg base) : Meth K (He.ga K "Room") "has" (He.ma K (He.ga K "Room") "has") := He.meth_ok (z.c.fact 124 (f := .meth "Room" "has"))
theorem Z.na_Room_owed (z : Z P w K mg base) : NoAttr K (He.ga K "Room") "owed" := He.noat_ok (z.c.fact 125 (f := .noat "Room" "owed"))
theorem Z.na_Room_stand (z : Z P w K mg base) : NoAttr K (He.ga K "Room") "stand" := He.noat_ok (z.c.fact 126 (f := .noat "Room" "stand"))
theorem Z.i_LONGEST (z : Z P w K mg base) : ∃ t, mg "LONGEST" = some (.int 12 t) := He.int_ok z.X z.G (z.c.fact 127 (f := .int "LONGEST" 12))
theorem Z.i_DEEPEST (z : Z P w K mg base) : ∃ t, mg "DEEPEST" = some (.int 6 t) := He.int_ok z.X z.G (z.c.fact 128 (f := .int "DEEPEST" 6))
theorem Z.i_LARGEST (z : Z P w K mg base) : ∃ t, mg "LARGEST" = some (.int 30 t) := He.int_ok z.X z.G (z.c.fact 129 (f := .int "LARGEST" 30))
theorem Z.i_WIDEST (z : Z P w K mg base) : ∃ t, mg "WIDEST" = some (.int 8 t) := He.int_ok z.X z.G (z.c.fact 130 (f := .int "WIDEST" 8))
theorem Z.i_MOST_DIGITS (z : Z P w K mg base) : ∃ t, mg "MOST_DIGITS" = some (.int 60 t) := He.int_ok z.X z.G (z.c.fact 131 (f := .int "MOST_DIGITS" 60))
theorem Z.b_ValueError (z : Z P w K mg base) : mg "ValueError" = none := He.free_ok z.X z.G (z.c.fact 132 (f := .free "ValueError"))
theorem Z.b_abs (z : Z P w K mg base) : mg "abs" = none := He.free_ok z.X z.G (z.c.fact 133 (f := .free "abs"))
theorem Z.b_all (z : Z P w K mg base) : mg "all" = none := He.free_ok z.X z.G (z.c.fact 134 (f := .free "all"))
theorem Z.b_bool (z : Z P w K mg base) : mg "bool" = none := He.free_ok z.X z.G (z.c.fact 135 (f := .free "bool"))
theorem Z.b_enumerate (z : Z P w K mg base) : mg "enumerate" = none := He.free_ok z.X z.G (z.c.fact 136 (f := .free "enumerate"))
theorem Z.b_int (z : Z P w K mg base) : mg "int" = none := He.free_ok z.X z.G (z.c.fact 137 (f := .free "int"))
theorem Z.b_isinstance (z : Z P w K mg base) : mg "isinstance" = none := He.free_ok z.X z.G (z.c.fact 138 (f := .free "isinstance"))
theorem Z.b_len (z : Z P w K mg base) : mg "len" = none := He.free_ok z.X z.G (z.c.fact 139 (f := .free "len"))
theorem Z.b_list (z : Z P w K mg base) : mg "list" = none := He.free_ok z.X z.G (z.c.fact 140 (f := .free "list"))
theorem Z.b_max (z : Z P w K mg base) : mg "max" = none := He.free_ok z.X z.G (z.c.fact 141 (f := .free "max"))
theorem Z.b_min (z : Z P w K mg base) : mg "min" = none := He.free_ok z.X z.G (z.c.fact 142 (f := .free "min"))
theorem Z.b_range (z : Z P w K mg base) : mg "range" = none := He.free_ok z.X z.G (z.c.fact 143 (f := .free "range"))
theorem Z.b_repr (z : Z P w K mg base) : mg "repr" = none := He.free_ok z.X z.G (z.c.fact 144 (f := .free "repr"))
theorem Z.b_str (z : Z P w K mg base) : mg "str" = none := He.free_ok z.X z.G (z.c.fact 145 (f := .free "str"))
theorem Z.b_sum (z : Z P w K mg base) : mg "sum" = none := He.free_ok z.X z.G (z.c.fact 146 (f := .free "sum"))
theorem Z.b_super (z : Z P w K mg base) : mg "super" = none := He.free_ok z.X z.G (z.c.fact 147 (f := .free "super"))
theorem Z.b_tuple (z : Z P w K mg base) : mg "tuple" = none := He.free_ok z.X z.G (z.c.fact 148 (f := .free "tuple"))
theorem Z.na_BadValue_part (z : Z P w K mg base) : NoAttr K (He.ga K "BadValue") "part" := He.noat_ok (z.c.fact 149 (f := .noat "BadValue" "part"))
theorem Z.xm_BadValue (z : Z P w K mg base) : PySem.W.exmOne K (.ref (He.ga K "BadValue")) (.ref (He.ga K "WatchError")) = some true := He.exm_ok (z.c.fact 150 (f := .exm "BadValue" "WatchError" true))
theorem Z.na_BadNumber_part (z : Z P w K mg base) : NoAttr K (He.ga K "BadNumber") "part" := He.noat_ok (z.c.fact 151 (f := .noat "BadNumber" "part"))
theorem Z.xm_BadNumber (z : Z P w K mg base) : PySem.W.exmOne K (.ref (He.ga K "BadNumber")) (.ref (He.ga K "WatchError")) = some true := He.exm_ok (z.c.fact 152 (f := .exm "BadNumber" "WatchError" true))
theorem Z.na_BadName_part (z : Z P w K mg base) : NoAttr K (He.ga K "BadName") "part" := He.noat_ok (z.c.fact 153 (f := .noat "BadName" "part"))
theorem Z.xm_BadName (z : Z P w K mg base) : PySem.W.exmOne K (.ref (He.ga K "BadName")) (.ref (He.ga K "WatchError")) = some true := He.exm_ok (z.c.fact 154 (f := .exm "BadName" "WatchError" true))
theorem Z.na_BadNeed_part (z : Z P w K mg base) : NoAttr K (He.ga K "BadNeed") "part" := He.noat_ok (z.c.fact 155 (f := .noat "BadNeed" "part"))
theorem Z.xm_BadNeed (z : Z P w K mg base) : PySem.W.exmOne K (.ref (He.ga K "BadNeed")) (.ref (He.ga K "WatchError")) = some true := He.exm_ok (z.c.fact 156 (f := .exm "BadNeed" "WatchError" true))
theorem Z.na_BadHouse_part (z : Z P w K mg base) : NoAttr K (He.ga K "BadHouse") "part" := He.noat_ok (z.c.fact 157 (f := .noat "BadHouse" "part"))
theorem Z.xm_BadHouse (z : Z P w K mg base) : PySem.W.exmOne K (.ref (He.ga K "BadHouse")) (.ref (He.ga K "WatchError")) = some true := He.exm_ok (z.c.fact 158 (f := .exm "BadHouse" "WatchError" true))
theorem Z.na_BadState_part (z : Z P w K mg base) : NoAttr K (He.ga K "BadState") "part" := He.noat_ok (z.c.fact 159 (f := .noat "BadState" "part"))
theorem Z.xm_BadState (z : Z P w K mg base) : PySem.W.exmOne K (.ref (He.ga K "BadState")) (.ref (He.ga K "WatchError")) = some true := He.exm_ok (z.c.fact 160 (f := .exm "BadState" "WatchError" true))
theorem Z.na_BadWish_part (z : Z P w K mg base) : NoAttr K (He.ga K "BadWish") "part" := He.noat_ok (z.c.fact 161 (f := .noat "BadWish" "part"))
theorem Z.xm_BadWish (z : Z P w K mg base) : PySem.W.exmOne K (.ref (He.ga K "BadWish")) (.ref (He.ga K "WatchError")) = some true := He.exm_ok (z.c.fact 162 (f := .exm "BadWish" "WatchError" true))
theorem Z.na_BadDiary_part (z : Z P w K mg base) : NoAttr K (He.ga K "BadDiary") "part" := He.noat_ok (z.c.fact 163 (f := .noat "BadDiary" "part"))
theorem Z.xm_BadDiary (z : Z P w K mg base) : PySem.W.exmOne K (.ref (He.ga K "BadDiary")) (.ref (He.ga K "WatchError")) = some true := He.exm_ok (z.c.fact 164 (f := .exm "BadDiary" "WatchError" true))
theorem Z.na_BadText_item (z : Z P w K mg base) : NoAttr K (He.ga K "BadText") "item" := He.noat_ok (z.c.fact 165 (f := .noat "BadText" "item"))
theorem Z.xm_BadText (z : Z P w K mg base) : PySem.W.exmOne K (.ref (He.ga K "BadText")) (.ref (He.ga K "WatchError")) = some true := He.exm_ok (z.c.fact 166 (f := .exm "BadText" "WatchError" true))
theorem Z.na_BadCommand_word (z : Z P w K mg base) : NoAttr K (He.ga K "BadCommand") "word" := He.noat_ok (z.c.fact 167 (f := .noat "BadCommand" "word"))
theorem Z.xm_BadCommand (z : Z P w K mg base) : PySem.W.exmOne K (.ref (He.ga K "BadCommand")) (.ref (He.ga K "WatchError")) = some true := He.exm_ok (z.c.fact 168 (f := .exm "BadCommand" "WatchError" true))
theorem Z.na_NoThing_name (z : Z P w K mg base) : NoAttr K (He.ga K "NoThing") "name" := He.noat_ok (z.c.fact 169 (f := .noat "NoThing" "name"))
theorem Z.xm_NoThing (z : Z P w K mg base) : PySem.W.exmOne K (.ref (He.ga K "NoThing")) (.ref (He.ga K "WatchError")) = some true := He.exm_ok (z.c.fact 170 (f := .exm "NoThing" "WatchError" true))
theorem Z.na_NoDeed_number (z : Z P w K mg base) : NoAttr K (He.ga K "NoDeed") "number" := He.noat_ok (z.c.fact 171 (f := .noat "NoDeed" "number"))
theorem Z.xm_NoDeed (z : Z P w K mg base) : PySem.W.exmOne K (.ref (He.ga K "NoDeed")) (.ref (He.ga K "WatchError")) = some true := He.exm_ok (z.c.fact 172 (f := .exm "NoDeed" "WatchError" true))
theorem Z.na_NotYours_deed (z : Z P w K mg base) : NoAttr K (He.ga K "NotYours") "deed" := He.noat_ok (z.c.fact 173 (f := .noat "NotYours" "deed"))
theorem Z.xm_NotYours (z : Z P w K mg base) : PySem.W.exmOne K (.ref (He.ga K "NotYours")) (.ref (He.ga K "WatchError")) = some true := He.exm_ok (z.c.fact 174 (f := .exm "NotYours" "WatchError" true))
theorem Z.na_NotCarried_deed (z : Z P w K mg base) : NoAttr K (He.ga K "NotCarried") "deed" := He.noat_ok (z.c.fact 175 (f := .noat "NotCarried" "deed"))
theorem Z.xm_NotCarried (z : Z P w K mg base) : PySem.W.exmOne K (.ref (He.ga K "NotCarried")) (.ref (He.ga K "WatchError")) = some true := He.exm_ok (z.c.fact 176 (f := .exm "NotCarried" "WatchError" true))
theorem Z.na_NotWaiting_deed (z : Z P w K mg base) : NoAttr K (He.ga K "NotWaiting") "deed" := He.noat_ok (z.c.fact 177 (f := .noat "NotWaiting" "deed"))
theorem Z.xm_NotWaiting (z : Z P w K mg base) : PySem.W.exmOne K (.ref (He.ga K "NotWaiting")) (.ref (He.ga K "WatchError")) = some true := He.exm_ok (z.c.fact 178 (f := .exm "NotWaiting" "WatchError" true))
theorem Z.na_Misfit_part (z : Z P w K mg base) : NoAttr K (He.ga K "Misfit") "part" := He.noat_ok (z.c.fact 179 (f := .noat "Misfit" "part"))
theorem Z.xm_Misfit (z : Z P w K mg base) : PySem.W.exmOne K (.ref (He.ga K "Misfit")) (.ref (He.ga K "WatchError")) = some true := He.exm_ok (z.c.fact 180 (f := .exm "Misfit" "WatchError" true))
theorem Z.na_TooMany_what (z : Z P w K mg base) : NoAttr K (He.ga K "TooMany") "what" := He.noat_ok (z.c.fact 181 (f := .noat "TooMany" "what"))
theorem Z.na_TooMany_most (z : Z P w K mg base) : NoAttr K (He.ga K "TooMany") "most" := He.noat_ok (z.c.fact 182 (f := .noat "TooMany" "most"))
theorem Z.xm_TooMany (z : Z P w K mg base) : PySem.W.exmOne K (.ref (He.ga K "TooMany")) (.ref (He.ga K "WatchError")) = some true := He.exm_ok (z.c.fact 183 (f := .exm "TooMany" "WatchError" true))
theorem Z.xm_Ended (z : Z P w K mg base) : PySem.W.exmOne K (.ref (He.ga K "Ended")) (.ref (He.ga K "WatchError")) = some true := He.exm_ok (z.c.fact 184 (f := .exm "Ended" "WatchError" true))
theorem Z.f_is_integer (z : Z P w K mg base) : ∃ fd, FunD K "is_integer" "is_integer" (defArgs s_is_integer) (defBody s_is_integer) (defScope s_is_integer) [] [] (He.ga K "is_integer") fd := z.c.def_ 0 (d := d_is_integer)
theorem Z.f_is_name (z : Z P w K mg base) : ∃ fd, FunD K "is_name" "is_name" (defArgs s_is_name) (defBody s_is_name) (defScope s_is_name) [] [] (He.ga K "is_name") fd := z.c.def_ 1 (d := d_is_name)
theorem Z.f_need_integer (z : Z P w K mg base) : ∃ fd, FunD K "need_integer" "need_integer" (defArgs s_need_integer) (defBody s_need_integer) (defScope s_need_integer) [.non] [] (He.ga K "need_integer") fd := z.c.def_ 2 (d := d_need_integer)
theorem Z.f_need_name (z : Z P w K mg base) : ∃ fd, FunD K "need_name" "need_name" (defArgs s_need_name) (defBody s_need_name) (defScope s_need_name) [] [] (He.ga K "need_name") fd := z.c.def_ 3 (d := d_need_name)
theorem Z.f_is_need (z : Z P w K mg base) : ∃ fd, FunD K "is_need" "is_need" (defArgs s_is_need) (defBody s_is_need) (defScope s_is_need) [] [] (He.ga K "is_need") fd := z.c.def_ 4 (d := d_is_need)
theorem Z.f_need_need (z : Z P w K mg base) : ∃ fd, FunD K "need_need" "need_need" (defArgs s_need_need) (defBody s_need_need) (defScope s_need_need) [] [] (He.ga K "need_need") fd := z.c.def_ 5 (d := d_need_need)
theorem Z.f_need_parts (z : Z P w K mg base) : ∃ fd, FunD K "need_parts" "need_parts" (defArgs s_need_parts) (defBody s_need_parts) (defScope s_need_parts) [] [] (He.ga K "need_parts") fd := z.c.def_ 6 (d := d_need_parts)
theorem Z.f_deep_of (z : Z P w K mg base) : ∃ fd, FunD K "deep_of" "deep_of" (defArgs s_deep_of) (defBody s_deep_of) (defScope s_deep_of) [] [] (He.ga K "deep_of") fd := z.c.def_ 7 (d := d_deep_of)
theorem Z.f_many_of (z : Z P w K mg base) : ∃ fd, FunD K "many_of" "many_of" (defArgs s_many_of) (defBody s_many_of) (defScope s_many_of) [] [] (He.ga K "many_of") fd := z.c.def_ 8 (d := d_many_of)
theorem Z.f_is_figures (z : Z P w K mg base) : ∃ fd, FunD K "is_figures" "is_figures" (defArgs s_is_figures) (defBody s_is_figures) (defScope s_is_figures) [] [] (He.ga K "is_figures") fd := z.c.def_ 9 (d := d_is_figures)
theorem Z.f_is_any (z : Z P w K mg base) : ∃ fd, FunD K "is_any" "is_any" (defArgs s_is_any) (defBody s_is_any) (defScope s_is_any) [] [] (He.ga K "is_any") fd := z.c.def_ 10 (d := d_is_any)
theorem Z.f_read_whole (z : Z P w K mg base) : ∃ fd, FunD K "read_whole" "read_whole" (defArgs s_read_whole) (defBody s_read_whole) (defScope s_read_whole) [] [] (He.ga K "read_whole") fd := z.c.def_ 11 (d := d_read_whole)
theorem Z.f_need_items (z : Z P w K mg base) : ∃ fd, FunD K "need_items" "need_items" (defArgs s_need_items) (defBody s_need_items) (defScope s_need_items) [] [] (He.ga K "need_items") fd := z.c.def_ 12 (d := d_need_items)
theorem Z.f_take_part (z : Z P w K mg base) : ∃ fd, FunD K "take_part" "take_part" (defArgs s_take_part) (defBody s_take_part) (defScope s_take_part) [] [] (He.ga K "take_part") fd := z.c.def_ 13 (d := d_take_part)
theorem Z.f_take_parts (z : Z P w K mg base) : ∃ fd, FunD K "take_parts" "take_parts" (defArgs s_take_parts) (defBody s_take_parts) (defScope s_take_parts) [] [] (He.ga K "take_parts") fd := z.c.def_ 14 (d := d_take_parts)
theorem Z.f_signs_behind (z : Z P w K mg base) : ∃ fd, FunD K "signs_behind" "signs_behind" (defArgs s_signs_behind) (defBody s_signs_behind) (defScope s_signs_behind) [] [] (He.ga K "signs_behind") fd := z.c.def_ 15 (d := d_signs_behind)
theorem Z.f_take_need (z : Z P w K mg base) : ∃ fd, FunD K "take_need" "take_need" (defArgs s_take_need) (defBody s_take_need) (defScope s_take_need) [] [] (He.ga K "take_need") fd := z.c.def_ 16 (d := d_take_need)
theorem Z.f_need_text (z : Z P w K mg base) : ∃ fd, FunD K "need_text" "need_text" (defArgs s_need_text) (defBody s_need_text) (defScope s_need_text) [] [] (He.ga K "need_text") fd := z.c.def_ 17 (d := d_need_text)
theorem Z.f_read_need (z : Z P w K mg base) : ∃ fd, FunD K "read_need" "read_need" (defArgs s_read_need) (defBody s_read_need) (defScope s_read_need) [] [] (He.ga K "read_need") fd := z.c.def_ 18 (d := d_read_need)
theorem Z.f__law_pen (z : Z P w K mg base) : ∃ fd, FunD K "_law_pen" "_law_pen" (defArgs s__law_pen) (defBody s__law_pen) (defScope s__law_pen) [] [] (He.ga K "_law_pen") fd := z.c.def_ 19 (d := d__law_pen)
theorem Z.f__law_draw (z : Z P w K mg base) : ∃ fd, FunD K "_law_draw" "_law_draw" (defArgs s__law_draw) (defBody s__law_draw) (defScope s__law_draw) [] [] (He.ga K "_law_draw") fd := z.c.def_ 20 (d := d__law_draw)
theorem Z.f__law_pick (z : Z P w K mg base) : ∃ fd, FunD K "_law_pick" "_law_pick" (defArgs s__law_pick) (defBody s__law_pick) (defScope s__law_pick) [] [] (He.ga K "_law_pick") fd := z.c.def_ 21 (d := d__law_pick)
theorem Z.f__law_need_items (z : Z P w K mg base) : ∃ fd, FunD K "_law_need_items" "_law_need_items" (defArgs s__law_need_items) (defBody s__law_need_items) (defScope s__law_need_items) [] [] (He.ga K "_law_need_items") fd := z.c.def_ 22 (d := d__law_need_items)
theorem Z.f__law_plain_need (z : Z P w K mg base) : ∃ fd, FunD K "_law_plain_need" "_law_plain_need" (defArgs s__law_plain_need) (defBody s__law_plain_need) (defScope s__law_plain_need) [] [] (He.ga K "_law_plain_need") fd := z.c.def_ 23 (d := d__law_plain_need)
theorem Z.f__law_is_name (z : Z P w K mg base) : ∃ fd, FunD K "_law_is_name" "_law_is_name" (defArgs s__law_is_name) (defBody s__law_is_name) (defScope s__law_is_name) [] [] (He.ga K "_law_is_name") fd := z.c.def_ 24 (d := d__law_is_name)
theorem Z.f__law_is_figures (z : Z P w K mg base) : ∃ fd, FunD K "_law_is_figures" "_law_is_figures" (defArgs s__law_is_figures) (defBody s__law_is_figures) (defScope s__law_is_figures) [] [] (He.ga K "_law_is_figures") fd := z.c.def_ 25 (d := d__law_is_figures)
theorem Z.f__law_item (z : Z P w K mg base) : ∃ fd, FunD K "_law_item" "_law_item" (defArgs s__law_item) (defBody s__law_item) (defScope s__law_item) [] [] (He.ga K "_law_item") fd := z.c.def_ 26 (d := d__law_item)
theorem Z.f__law_need_step (z : Z P w K mg base) : ∃ fd, FunD K "_law_need_step" "_law_need_step" (defArgs s__law_need_step) (defBody s__law_need_step) (defScope s__law_need_step) [] [] (He.ga K "_law_need_step") fd := z.c.def_ 27 (d := d__law_need_step)
theorem Z.f__law_need_read (z : Z P w K mg base) : ∃ fd, FunD K "_law_need_read" "_law_need_read" (defArgs s__law_need_read) (defBody s__law_need_read) (defScope s__law_need_read) [] [] (He.ga K "_law_need_read") fd := z.c.def_ 28 (d := d__law_need_read)
theorem Z.f__law_bent (z : Z P w K mg base) : ∃ fd, FunD K "_law_bent" "_law_bent" (defArgs s__law_bent) (defBody s__law_bent) (defScope s__law_bent) [] [] (He.ga K "_law_bent") fd := z.c.def_ 29 (d := d__law_bent)
theorem Z.f__law_caught (z : Z P w K mg base) : ∃ fd, FunD K "_law_caught" "_law_caught" (defArgs s__law_caught) (defBody s__law_caught) (defScope s__law_caught) [] [] (He.ga K "_law_caught") fd := z.c.def_ 30 (d := d__law_caught)
theorem Z.f__law_any_need (z : Z P w K mg base) : ∃ fd, FunD K "_law_any_need" "_law_any_need" (defArgs s__law_any_need) (defBody s__law_any_need) (defScope s__law_any_need) [] [] (He.ga K "_law_any_need") fd := z.c.def_ 31 (d := d__law_any_need)
theorem Z.f__law_same (z : Z P w K mg base) : ∃ fd, FunD K "_law_same" "_law_same" (defArgs s__law_same) (defBody s__law_same) (defScope s__law_same) [] [] (He.ga K "_law_same") fd := z.c.def_ 32 (d := d__law_same)
theorem Z.f_law (z : Z P w K mg base) : ∃ fd, FunD K "law" "law" (defArgs s_law) (defBody s_law) (defScope s_law) [] [] (He.ga K "law") fd := z.c.def_ 33 (d := d_law)
theorem Z.f_Has___init__ (z : Z P w K mg base) : ∃ fd, FunD K "__init__" "Has.__init__" (defArgs s_Has___init__) (defBody s_Has___init__) (defScope s_Has___init__) [] [] (He.ma K (He.ga K "Has") "__init__") fd := z.c.def_ 34 (d := d_Has___init__)
theorem Z.f_Has___eq__ (z : Z P w K mg base) : ∃ fd, FunD K "__eq__" "Has.__eq__" (defArgs s_Has___eq__) (defBody s_Has___eq__) (defScope s_Has___eq__) [] [] (He.ma K (He.ga K "Has") "__eq__") fd := z.c.def_ 35 (d := d_Has___eq__)
theorem Z.f_Every___init__ (z : Z P w K mg base) : ∃ fd, FunD K "__init__" "Every.__init__" (defArgs s_Every___init__) (defBody s_Every___init__) (defScope s_Every___init__) [] [] (He.ma K (He.ga K "Every") "__init__") fd := z.c.def_ 36 (d := d_Every___init__)
theorem Z.f_Every___eq__ (z : Z P w K mg base) : ∃ fd, FunD K "__eq__" "Every.__eq__" (defArgs s_Every___eq__) (defBody s_Every___eq__) (defScope s_Every___eq__) [] [] (He.ma K (He.ga K "Every") "__eq__") fd := z.c.def_ 37 (d := d_Every___eq__)
theorem Z.f_Some___init__ (z : Z P w K mg base) : ∃ fd, FunD K "__init__" "Some.__init__" (defArgs s_Some___init__) (defBody s_Some___init__) (defScope s_Some___init__) [] [] (He.ma K (He.ga K "Some") "__init__") fd := z.c.def_ 38 (d := d_Some___init__)
theorem Z.f_Some___eq__ (z : Z P w K mg base) : ∃ fd, FunD K "__eq__" "Some.__eq__" (defArgs s_Some___eq__) (defBody s_Some___eq__) (defScope s_Some___eq__) [] [] (He.ma K (He.ga K "Some") "__eq__") fd := z.c.def_ 39 (d := d_Some___eq__)
theorem Z.f_Few___init__ (z : Z P w K mg base) : ∃ fd, FunD K "__init__" "Few.__init__" (defArgs s_Few___init__) (defBody s_Few___init__) (defScope s_Few___init__) [] [] (He.ma K (He.ga K "Few") "__init__") fd := z.c.def_ 40 (d := d_Few___init__)
theorem Z.f_Few___eq__ (z : Z P w K mg base) : ∃ fd, FunD K "__eq__" "Few.__eq__" (defArgs s_Few___eq__) (defBody s_Few___eq__) (defScope s_Few___eq__) [] [] (He.ma K (He.ga K "Few") "__eq__") fd := z.c.def_ 41 (d := d_Few___eq__)
theorem Z.f_Scan___init__ (z : Z P w K mg base) : ∃ fd, FunD K "__init__" "Scan.__init__" (defArgs s_Scan___init__) (defBody s_Scan___init__) (defScope s_Scan___init__) [] [] (He.ma K (He.ga K "Scan") "__init__") fd := z.c.def_ 42 (d := d_Scan___init__)
theorem Z.f_Scan_refuse (z : Z P w K mg base) : ∃ fd, FunD K "refuse" "Scan.refuse" (defArgs s_Scan_refuse) (defBody s_Scan_refuse) (defScope s_Scan_refuse) [] [] (He.ma K (He.ga K "Scan") "refuse") fd := z.c.def_ 43 (d := d_Scan_refuse)
theorem Z.f_Scan_is_over (z : Z P w K mg base) : ∃ fd, FunD K "is_over" "Scan.is_over" (defArgs s_Scan_is_over) (defBody s_Scan_is_over) (defScope s_Scan_is_over) [] [] (He.ma K (He.ga K "Scan") "is_over") fd := z.c.def_ 44 (d := d_Scan_is_over)
theorem Z.f_Scan_sees (z : Z P w K mg base) : ∃ fd, FunD K "sees" "Scan.sees" (defArgs s_Scan_sees) (defBody s_Scan_sees) (defScope s_Scan_sees) [] [] (He.ma K (He.ga K "Scan") "sees") fd := z.c.def_ 45 (d := d_Scan_sees)
theorem Z.f_Scan_next (z : Z P w K mg base) : ∃ fd, FunD K "next" "Scan.next" (defArgs s_Scan_next) (defBody s_Scan_next) (defScope s_Scan_next) [] [] (He.ma K (He.ga K "Scan") "next") fd := z.c.def_ 46 (d := d_Scan_next)
theorem Z.f_Scan_take (z : Z P w K mg base) : ∃ fd, FunD K "take" "Scan.take" (defArgs s_Scan_take) (defBody s_Scan_take) (defScope s_Scan_take) [] [] (He.ma K (He.ga K "Scan") "take") fd := z.c.def_ 47 (d := d_Scan_take)
theorem Z.f_Scan_take_name (z : Z P w K mg base) : ∃ fd, FunD K "take_name" "Scan.take_name" (defArgs s_Scan_take_name) (defBody s_Scan_take_name) (defScope s_Scan_take_name) [] [] (He.ma K (He.ga K "Scan") "take_name") fd := z.c.def_ 48 (d := d_Scan_take_name)
theorem Z.f_Scan_take_number (z : Z P w K mg base) : ∃ fd, FunD K "take_number" "Scan.take_number" (defArgs s_Scan_take_number) (defBody s_Scan_take_number) (defScope s_Scan_take_number) [] [] (He.ma K (He.ga K "Scan") "take_number") fd := z.c.def_ 49 (d := d_Scan_take_number)
theorem Z.f_Scan_finish (z : Z P w K mg base) : ∃ fd, FunD K "finish" "Scan.finish" (defArgs s_Scan_finish) (defBody s_Scan_finish) (defScope s_Scan_finish) [] [] (He.ma K (He.ga K "Scan") "finish") fd := z.c.def_ 50 (d := d_Scan_finish)
theorem Z.f_Room___init__ (z : Z P w K mg base) : ∃ fd, FunD K "__init__" "Room.__init__" (defArgs s_Room___init__) (defBody s_Room___init__) (defScope s_Room___init__) [] [] (He.ma K (He.ga K "Room") "__init__") fd := z.c.def_ 51 (d := d_Room___init__)
theorem Z.f_Room_has (z : Z P w K mg base) : ∃ fd, FunD K "has" "Room.has" (defArgs s_Room_has) (defBody s_Room_has) (defScope s_Room_has) [] [] (He.ma K (He.ga K "Room") "has") fd := z.c.def_ 52 (d := d_Room_has)
theorem Z.s_BadValue (z : Z P w K mg base) : SH.SupF P K i_BadValue := z.sup _ (List.mem_of_getElem? (i := 0) rfl)
theorem Z.s_BadNumber (z : Z P w K mg base) : SH.SupF P K i_BadNumber := z.sup _ (List.mem_of_getElem? (i := 1) rfl)
theorem Z.s_BadName (z : Z P w K mg base) : SH.SupF P K i_BadName := z.sup _ (List.mem_of_getElem? (i := 2) rfl)
theorem Z.s_BadNeed (z : Z P w K mg base) : SH.SupF P K i_BadNeed := z.sup _ (List.mem_of_getElem? (i := 3) rfl)
theorem Z.s_BadHouse (z : Z P w K mg base) : SH.SupF P K i_BadHouse := z.sup _ (List.mem_of_getElem? (i := 4) rfl)
theorem Z.s_BadState (z : Z P w K mg base) : SH.SupF P K i_BadState := z.sup _ (List.mem_of_getElem? (i := 5) rfl)
theorem Z.s_BadWish (z : Z P w K mg base) : SH.SupF P K i_BadWish := z.sup _ (List.mem_of_getElem? (i := 6) rfl)
theorem Z.s_BadDiary (z : Z P w K mg base) : SH.SupF P K i_BadDiary := z.sup _ (List.mem_of_getElem? (i := 7) rfl)
theorem Z.s_BadText (z : Z P w K mg base) : SH.SupF P K i_BadText := z.sup _ (List.mem_of_getElem? (i := 8) rfl)
theorem Z.s_BadCommand (z : Z P w K mg base) : SH.SupF P K i_BadCommand := z.sup _ (List.mem_of_getElem? (i := 9) rfl)
theorem Z.s_NoThing (z : Z P w K mg base) : SH.SupF P K i_NoThing := z.sup _ (List.mem_of_getElem? (i := 10) rfl)
theorem Z.s_NoDeed (z : Z P w K mg base) : SH.SupF P K i_NoDeed := z.sup _ (List.mem_of_getElem? (i := 11) rfl)
theorem Z.s_NotYours (z : Z P w K mg base) : SH.SupF P K i_NotYours := z.sup _ (List.mem_of_getElem? (i := 12) rfl)
theorem Z.s_NotCarried (z : Z P w K mg base) : SH.SupF P K i_NotCarried := z.sup _ (List.mem_of_getElem? (i := 13) rfl)
theorem Z.s_NotWaiting (z : Z P w K mg base) : SH.SupF P K i_NotWaiting := z.sup _ (List.mem_of_getElem? (i := 14) rfl)
theorem Z.s_Misfit (z : Z P w K mg base) : SH.SupF P K i_Misfit := z.sup _ (List.mem_of_getElem? (i := 15) rfl)
theorem Z.s_TooMany (z : Z P w K mg base) : SH.SupF P K i_TooMany := z.sup _ (List.mem_of_getElem? (i := 16) rfl)
theorem Z.s_Ended (z : Z P w K mg base) : SH.SupF P K i_Ended := z.sup _ (List.mem_of_getElem? (i := 17) rfl)
end
section
variable {P : Program} {w : World} {K : PySem.W.Frag} {mg : Str → Option Value} {base : Heap}
theorem Z.isx (z : Z P w K mg base) {x : Str} (hx : x ∈ (["Has", "Every", "Some", "Few", "BadText", "BadNeed"] : List Str) := by decide +kernel) : SX.IsxC K (He.ga K x) := SX.exAll_isx z.ex hx
theorem Z.xf (z : Z P w K mg base) : XfC K (He.ga K "BadText") := SX.exAll_xf z.ex (by decide +kernel)
theorem Z.xfX (z : Z P w K mg base) {x : Str} (hx : x ∈ (["BadText", "BadNeed"] : List Str) := by decide +kernel) : XfC K (He.ga K x) := SX.exAll_xf z.ex hx
theorem Z.kit (z : Z P w K mg base) {x y : Str} {b : Bool} (hx : (x, y, b) ∈ exPairs := by decide +kernel) : PySem.W.kitOne K (.ref (He.ga K x)) (.ref (He.ga K y)) = some b := SX.exAll_kit z.ex hx
end
end K80

set_option Elab.async false
set_option linter.all false
set_option maxRecDepth 100000
set_option maxHeartbeats 4000000
namespace SX
open PySem PySem.Spec PyProof.Rows L2
theorem passF {X : Cx} : Passes (L2.CX X.prog X.w) X (fun _ _ _ => False) := fun _ _ _ _ _ _ _ h => by
  obtain ⟨_, _, _, _, _, _, _, _, _, _, _, _, z⟩ := h
  exact z.elim
theorem lc_strF {z : Str} {te : TE} {i : Nat} {σ : L2.St} {H : Hp} {Q : VK} (F : _ → V) (hlen : z.cps.size ≤ sizeLine) (hi : i < σ.length)
    (hF : ∀ c (σ2 : L2.St) (H2 : Hp) (R : VK), σ2[i]? = some (some (.str ⟨#[c]⟩)) → R (F c) H2 → te σ2 H2 R) (hQ : ∀ D, H D = none → Q (.ref D) (upd H D (.lst (z.cps.toList.map F)))) (D : Addr) (hD : H D = none) :
    ∃ W : Nat → Nat → Hp → Prop, (∃ m, W 0 m (upd H D (.lst []))) ∧ ∀ k m H, W k m H →
      ((Its z).stop k H ∧ Q (.ref D) H) ∨ ((Its z).go k H ∧ ∃ Nx : Hp → Prop, (∀ H', Nx H' → ∃ m', m' < m ∧ W (k + 1) m' H') ∧ ∀ x H', (Its z).yld k H x H' → gName i x (wipe σ [i]) H' fun σ2 H2 => wipe σ2 [i] = wipe σ [i] ∧ tYes σ2 H2 fun b H3 =>
        if b = true then te σ2 H3 fun y H4 => ∃ acc, H4 D = some (.lst acc) ∧ acc.length < sizeLine ∧ Nx (upd H4 D (.lst (acc ++ [y]))) else Nx H3) := by
  refine lc_it walk_str (fun k H' => H' = upd H D (.lst ((z.cps.toList.take k).map F))) rfl (fun _ _ _ _ => True.intro) ?_ ?_
  · rintro k x H1 H2 hk rfl ⟨rfl, c, hc, rfl⟩
    show wipe ((wipe σ [i]).set i (some (.str ⟨#[c]⟩))) [i] = wipe σ [i] ∧ _
    refine ⟨?_, ?_⟩
    · show ((σ.set i none).set i (some (.str ⟨#[c]⟩))).set i none = σ.set i none
      rw [List.set_set, List.set_set]
    · show te _ _ _
      refine hF c _ _ _ ?_ ?_
      · show ((σ.set i none).set i (some (.str ⟨#[c]⟩)))[i]? = _
        rw [List.getElem?_set_self (by simpa using hi)]
      · refine ⟨_, upd_same, ?_, ?_⟩
        · rw [List.length_map, List.length_take]
          have : k < z.cps.size := hk
          omega
        · rw [upd_upd]
          have e : z.cps.toList[k]? = some c := by simpa using hc
          have e2 : z.cps.toList.take (k + 1) = z.cps.toList.take k ++ [c] := by rw [List.take_add_one, e]; rfl
          rw [e2, List.map_append]
          rfl
  · rintro H' rfl
    have e : z.cps.toList.take z.cps.size = z.cps.toList := List.take_of_length_le (by simp)
    rw [e]
    exact hQ D hD
theorem tLc_strV {z : Str} {te : TE} {i j : Nat} {σ : L2.St} {H : Hp} {Q : VK} (F : _ → V) (hj : σ[j]? = some (some (.str z))) (hlen : z.cps.size ≤ sizeLine) (hi : i < σ.length)
    (hF : ∀ c (σ2 : L2.St) (H2 : Hp) (R : VK), σ2[i]? = some (some (.str ⟨#[c]⟩)) → R (F c) H2 → te σ2 H2 R) (hQ : ∀ D, H D = none → Q (.ref D) (upd H D (.lst (z.cps.toList.map F)))) :
    tLc (iStr (tVar j)) (gName i) tYes te [i] σ H Q := ⟨_, hj, z, rfl, fun D hD => lc_strF F hlen hi hF hQ D hD⟩
end SX
namespace K80
open PySem PySem.Spec PyProof.Rows L2 SX
section
variable {P : Program} {w : World} {K : PySem.W.Frag} {mg : Str → Option Value} {base : Heap}
/-- tracked things stay -/
def Grow (H H' : Hp) : Prop := ∀ p o, H p = some o → H' p = some o
theorem Grow.refl (H : Hp) : Grow H H := fun _ _ h => h
theorem Grow.new {H : Hp} {a : Addr} {o : HO} (h : H a = none) : Grow H (upd H a o) := fun p q e => by
  rw [upd_ne (ne_of_none e h)]
  exact e
theorem Grow.trans {H H1 H2 : Hp} (a : Grow H H1) (b : Grow H1 H2) : Grow H H2 := fun p o h => b p o (a p o h)
/-- a name -/
def signB (lo hi : Str) (z : Str) : Bool := !decide (z.cps.toList < lo.cps.toList) && !decide (hi.cps.toList < z.cps.toList)
def allB (lo hi : Str) (y : Str) : Bool := y.cps.toList.all fun c => signB lo hi ⟨#[c]⟩
def nameB (y : Str) : Bool := decide (1 ≤ y.length) && (decide (y.length ≤ 12) && allB "a" "z" y)
/-- lo <= sign <= hi -/
theorem sign_read {i : Nat} {c : Nat} {lo hi : Str} {σ2 : L2.St} {H2 : Hp} {R : VK} (hv : σ2[i]? = some (some (.str ⟨#[c]⟩))) (hR : R (.bl (signB lo hi ⟨#[c]⟩)) H2) :
    tChain (fun x y H Q => ∃ i j, x = V.str i ∧ y = V.str j ∧ Q (V.bl !decide (j.cps.toList < i.cps.toList)) H) (fun x y H Q => ∃ i j, x = V.str i ∧ y = V.str j ∧ Q (V.bl !decide (j.cps.toList < i.cps.toList)) H) (tC (V.str lo)) (tVar i) (tC (V.str hi)) σ2 H2 R := by
  refine ⟨_, hv, _, _, rfl, rfl, _, rfl, ?_⟩
  by_cases h3 : (⟨#[c]⟩ : Str).cps.toList < lo.cps.toList
  · rw [decide_eq_true h3]
    refine iteF ?_
    have e : signB lo hi ⟨#[c]⟩ = false := by
      unfold signB
      rw [decide_eq_true h3]
      rfl
    rw [e] at hR
    exact hR
  · rw [decide_eq_false h3]
    refine iteT ⟨_, _, rfl, rfl, ?_⟩
    have e : signB lo hi ⟨#[c]⟩ = !decide (hi.cps.toList < (⟨#[c]⟩ : Str).cps.toList) := by
      unfold signB
      rw [decide_eq_false h3]
      rfl
    rw [e] at hR
    exact hR
theorem sc_is_name : FnScope ["value", "sign"] ["value"] (defScope s_is_name) := ⟨rfl, rfl, rfl, by decide +kernel, rfl, by decide +kernel, by decide +kernel⟩
def sp_is_name : Sp := fun vs H Q _ => ∃ y : Str, vs = [.str y] ∧ y.length ≤ sizeLine ∧ ∀ H', Grow H H' → Q (.bl (nameB y)) H'
theorem ok_is_name (z : Z P w K mg base) {f : Addr} {fd : FuncData} (F : FunD K "is_name" "is_name" (defArgs s_is_name) (defBody s_is_name) (defScope s_is_name) [] [] f fd) : FnOk P w K mg base (L2.CX P w) 1 f fd ["value"] sp_is_name := by
  refine F.ok sc_is_name (fun vs H Q E h => ?_) (fun cdv A outer s H vs Q E hr h => ?_)
  · obtain ⟨y, rfl, _⟩ := h
    rfl
  · obtain ⟨y, rfl, hy, hQ⟩ := h
    obtain ⟨tL, iL⟩ := z.i_LONGEST
    refine ⟨_, pss_cons (ps_if (PW.pt (pw_or (pt_not (pt_val (pe_callB call_isi rfl z.b_isinstance (by decide +kernel) (pa_cons (pv 0) (pa_cons (pe_bltn rfl z.b_str (by decide +kernel) (show RelV (.ty "str") (.type "str") from rfl)) pa_nil))))) (pw_or1 (pt_not (pt_chain op_le op_le pe_int (pe_callB call_len_str rfl z.b_len (by decide +kernel) (pa_cons (pv 0) pa_nil)) (pe_glob (v := .int 12) rfl iL ⟨_, rfl⟩)))))) (pss_one (ps_ret pe_bl)) pss_nil)
      (pss_one (ps_ret (pe_callB (cr_all rfl) rfl z.b_all (by decide +kernel) (pa_cons (pe_lc (own := [("sign", 1)]) (g := gName 1) (tt := tYes) rfl sc_is_name.nd (pi_str (pv 0)) (blkOk_by (N := ["value", "sign"]) (sc := defScope s_is_name) (by decide +kernel)) (fun _ _ _ _ _ => pg_name (i := 1) sc_is_name.nd rfl (Or.inl rfl)) (fun _ _ _ _ _ => pts_nil) (fun _ _ _ _ _ => pe_chain op_le_str op_le_str pe_str (pv 1) pe_str)) pa_nil)))), ?_⟩
    refine ⟨_, rfl, _, _, _, _, _, rfl, .ty "str", .base (.str _), kit_ty (r := true) (by decide +kernel), _, rfl, iteF ?_⟩
    refine ⟨_, rfl, _, rfl, hy, _, _, rfl, rfl, _, rfl, ?_⟩
    by_cases h1 : (1 : Int) ≤ (y.length : Int)
    · rw [decide_eq_true h1]
      refine iteT ⟨_, _, rfl, rfl, _, rfl, ?_⟩
      by_cases h2 : (y.length : Int) ≤ 12
      · rw [decide_eq_true h2]
        have hlen : y.cps.size ≤ sizeLine := hy
        have hn : nameB y = allB "a" "z" y := by
          unfold nameB
          rw [decide_eq_true (show 1 ≤ y.length by omega), decide_eq_true (show y.length ≤ 12 by omega)]
          rfl
        refine iteF ?_
        dsimp only [tNext, tRet, tCB, tCons, List.map]
        refine tLc_strV (fun c => .bl (signB "a" "z" ⟨#[c]⟩)) rfl hlen (Nat.lt_succ_self 1) (fun c σ2 H2 R hv hR => ?_) (fun D hD => ?_)
        · exact sign_read hv hR
        · have e : y.cps.toList.map (fun c => V.bl (signB "a" "z" ⟨#[c]⟩)) = (y.cps.toList.map fun c => signB "a" "z" ⟨#[c]⟩).map V.bl := by rw [List.map_map]; rfl
          refine ⟨D, _, rfl, SqL.of (by rw [upd_same, e]), ?_⟩
          have e2 : (y.cps.toList.map fun c => signB "a" "z" ⟨#[c]⟩).all id = allB "a" "z" y := by
            unfold allB
            rw [List.all_map]
            rfl
          rw [e2, ← hn]
          exact hQ _ (Grow.new hD)
      · rw [decide_eq_false h2]
        have hn : nameB y = false := by
          unfold nameB
          rw [decide_eq_false (show ¬ y.length ≤ 12 by omega)]
          simp
        rw [hn] at hQ
        exact iteT (hQ _ (Grow.refl H))
    · rw [decide_eq_false h1]
      have hn : nameB y = false := by
        unfold nameB
        rw [decide_eq_false (show ¬ 1 ≤ y.length by omega)]
        rfl
      rw [hn] at hQ
      exact iteF ⟨_, rfl, iteT (hQ _ (Grow.refl H))⟩
end
end K80

set_option Elab.async false
set_option linter.all false
set_option maxRecDepth 100000
set_option maxHeartbeats 4000000
namespace K80
open PySem PySem.Spec PyProof.Rows L2 SX
open He (ga ma)
section
variable {P : Program} {w : World} {K : PySem.W.Frag} {mg : Str → Option Value} {base : Heap}
/-! ### is_any -/
theorem sc_is_any : FnScope ["name"] ["name"] (defScope s_is_any) := ⟨rfl, rfl, rfl, by decide +kernel, rfl, by decide +kernel, by decide +kernel⟩
theorem ok_is_any (z : Z P w K mg base) : ∃ fd, FnOk P w K mg base (L2.CX P w) 2 (ga K "is_any") fd ["name"] sp_is_name ∧ Binds K fd ["name"] [] := by
  obtain ⟨f1, F1⟩ := z.f_is_name
  obtain ⟨f2, F2⟩ := z.f_is_any
  have G1 := ok_is_name z F1
  have b1 : Binds K f1 ["value"] [] := F1.bindsN fun _ _ _ _ _ _ us hl => match us, hl with | [_], _ => rfl
  refine ⟨f2, F2.ok sc_is_any (fun vs H Q E h => ?_) (fun cdv A outer s H vs Q E hr h => ?_), F2.bindsN fun _ _ _ _ _ _ us hl => match us, hl with | [_], _ => rfl⟩
  · obtain ⟨y, rfl, _⟩ := h
    rfl
  · obtain ⟨y, rfl, hy, hQ⟩ := h
    exact ⟨_, pss_one (ps_ret (pe_call G1 hr rfl z.g_is_name z.k_is_name b1 .nil passF (pa_cons (pv 0) pa_nil))), _, rfl, y, rfl, hy, hQ⟩
/-! ### is_figures -/
def figB (y : Str) : Bool := decide (1 ≤ y.length) && (decide (y.length ≤ 60) && (allB "0" "9" y && (decide (y = "0") || !decide (y.cps.toList.head? = some 48))))
theorem sc_is_figures : FnScope ["item", "sign"] ["item"] (defScope s_is_figures) := ⟨rfl, rfl, rfl, by decide +kernel, rfl, by decide +kernel, by decide +kernel⟩
def sp_is_figures : Sp := fun vs H Q _ => ∃ y : Str, vs = [.str y] ∧ y.length ≤ sizeLine ∧ ∀ H', Grow H H' → Q (.bl (figB y)) H'
theorem ok_is_figures (z : Z P w K mg base) : ∃ fd, FnOk P w K mg base (L2.CX P w) 1 (ga K "is_figures") fd ["item"] sp_is_figures ∧ Binds K fd ["item"] [] := by
  obtain ⟨fd, F⟩ := z.f_is_figures
  refine ⟨fd, F.ok sc_is_figures (fun vs H Q E h => ?_) (fun cdv A outer s H vs Q E hr h => ?_), F.bindsN fun _ _ _ _ _ _ us hl => match us, hl with | [_], _ => rfl⟩
  · obtain ⟨y, rfl, _⟩ := h
    rfl
  · obtain ⟨y, rfl, hy, hQ⟩ := h
    obtain ⟨tL, iL⟩ := z.i_MOST_DIGITS
    refine ⟨_, pss_cons (ps_if (PW.pt (pw_or (pt_not (pt_chain op_le op_le pe_int (pe_callB call_len_str rfl z.b_len (by decide +kernel) (pa_cons (pv 0) pa_nil)) (pe_glob (v := .int 60) rfl iL ⟨_, rfl⟩))) (pw_or1 (pt_not (pt_val (pe_callB (cr_all rfl) rfl z.b_all (by decide +kernel) (pa_cons (pe_lc (own := [("sign", 1)]) (g := gName 1) (tt := tYes) rfl sc_is_figures.nd (pi_str (pv 0)) (blkOk_by (N := ["item", "sign"]) (sc := defScope s_is_figures) (by decide +kernel)) (fun _ _ _ _ _ => pg_name (i := 1) sc_is_figures.nd rfl (Or.inl rfl)) (fun _ _ _ _ _ => pts_nil) (fun _ _ _ _ _ => pe_chain op_le_str op_le_str pe_str (pv 1) pe_str)) pa_nil))))))) (pss_one (ps_ret pe_bl)) pss_nil)
      (pss_one (ps_ret (pe_or (pe_cmpR op_eq (pv 0) pe_str (nomark _)) (pe_one (pe_cmpR op_ne (pe_ix ix_str (pv 0) pe_int (fun _ _ => rfl)) pe_str (nomark _)))))), ?_⟩
    refine ⟨_, rfl, _, rfl, hy, _, _, rfl, rfl, _, rfl, ?_⟩
    by_cases h1 : (1 : Int) ≤ (y.length : Int)
    · rw [decide_eq_true h1]
      refine iteT ⟨_, _, rfl, rfl, _, rfl, ?_⟩
      by_cases h2 : (y.length : Int) ≤ 60
      · rw [decide_eq_true h2]
        refine iteF ?_
        have hlen : y.cps.size ≤ sizeLine := hy
        dsimp only [tNot, tB, tCB, tCons, List.map]
        refine tLc_strV (fun c => .bl (signB "0" "9" ⟨#[c]⟩)) rfl hlen (Nat.lt_succ_self 1) (fun c σ2 H2 R hv hR => ?_) (fun D hD => ?_)
        · exact sign_read hv hR
        · have e : y.cps.toList.map (fun c => V.bl (signB "0" "9" ⟨#[c]⟩)) = (y.cps.toList.map fun c => signB "0" "9" ⟨#[c]⟩).map V.bl := by rw [List.map_map]; rfl
          refine ⟨D, _, rfl, SqL.of (by rw [upd_same, e]), _, rfl, ?_⟩
          have e2 : (y.cps.toList.map fun c => signB "0" "9" ⟨#[c]⟩).all id = allB "0" "9" y := by
            unfold allB
            rw [List.all_map]
            rfl
          rw [e2]
          have hn : figB y = (allB "0" "9" y && (decide (y = "0") || !decide (y.cps.toList.head? = some 48))) := by
            unfold figB
            rw [decide_eq_true (show 1 ≤ y.length by omega), decide_eq_true (show y.length ≤ 60 by omega)]
            rfl
          rw [hn] at hQ
          cases h3 : allB "0" "9" y with
          | false =>
            rw [h3] at hQ
            exact iteT (hQ _ (Grow.new hD))
          | true =>
            rw [h3] at hQ
            refine iteF ⟨_, rfl, rfl, _, rfl, ?_⟩
            have e3 : decide (V.str y = V.str "0") = decide (y = "0") := by
              by_cases h : y = "0"
              · rw [decide_eq_true h, decide_eq_true (by rw [h])]
              · rw [decide_eq_false h, decide_eq_false fun q => h (V.str.inj q)]
            rw [e3]
            by_cases h4 : y = "0"
            · rw [decide_eq_true h4] at hQ ⊢
              exact iteT (hQ _ (Grow.new hD))
            · rw [decide_eq_false h4] at hQ ⊢
              obtain ⟨c, cs, ec⟩ : ∃ c cs, y.cps.toList = c :: cs := by
                cases q : y.cps.toList with
                | nil =>
                  have : y.cps.toList.length = 0 := by rw [q]; rfl
                  have h5 : y.length = y.cps.toList.length := by simp [Str.length]
                  omega
                | cons c cs => exact ⟨c, cs, rfl⟩
              refine iteF ⟨_, rfl, y, 0, c, rfl, rfl, hy, atI_nat (j := 0) (by rw [ec]; rfl), rfl, ?_⟩
              have e5 : (!decide (V.str ⟨#[c]⟩ = V.str "0")) = !decide (y.cps.toList.head? = some 48) := by
                rw [ec]
                by_cases h : c = 48
                · subst h
                  rfl
                · rw [decide_eq_false (show ¬ ((c :: cs).head? = some 48) from fun q => h (Option.some.inj q))]
                  rw [decide_eq_false fun q => h ?_]
                  have q2 := congrArg (fun z : Str => z.cps.toList) (V.str.inj q)
                  have q3 : [c] = [48] := q2
                  exact (List.cons.inj q3).1
              rw [← e5] at hQ
              exact hQ _ (Grow.new hD)
      · rw [decide_eq_false h2]
        have hn : figB y = false := by
          unfold figB
          rw [decide_eq_false (show ¬ y.length ≤ 60 by omega)]
          simp
        rw [hn] at hQ
        exact iteT (hQ _ (Grow.refl H))
    · rw [decide_eq_false h1]
      have hn : figB y = false := by
        unfold figB
        rw [decide_eq_false (show ¬ 1 ≤ y.length by omega)]
        rfl
      rw [hn] at hQ
      exact iteF ⟨_, rfl, iteT (hQ _ (Grow.refl H))⟩
end
end K80

set_option Elab.async false
set_option linter.all false
set_option maxRecDepth 100000
set_option maxHeartbeats 4000000
/-! needs as forests; rules: a class called with a starred argument, a comprehension over a tuple whose turns add to the heap -/
namespace SX
open PySem PySem.Spec PyProof.Rows L2
open He (ga ma)
open K80 (Grow)
open StX
inductive Kd where
  | every | some | few
  deriving DecidableEq
/-- a row of needs: the first one, then the rest -/
inductive Fo where
  | nil
  | has (s : Str) (r : Fo)
  | node (k : Kd) (m : Int) (kids r : Fo)
def small (m : Int) : Int := if 0 ≤ m ∧ m ≤ 1000 then m else 0
theorem small_ok {m : Int} (h : 0 ≤ m ∧ m ≤ 1000) : small m = m := if_pos h
theorem small_bd (m : Int) : 0 ≤ small m ∧ small m ≤ 1000 := by
  unfold small
  split <;> omega
def nodeO (K : PySem.W.Frag) (k : Kd) (m : Int) (dx p : Addr) : HO := match k with
  | .every => .ins (ga K "Every") dx [("parts", .ref p), ("word", .str "every")]
  | .some => .ins (ga K "Some") dx [("parts", .ref p), ("word", .str "some")]
  | .few => .ins (ga K "Few") dx [("parts", .ref p), ("many", .int (small m)), ("word", .str "few")]
def hasO (K : PySem.W.Frag) (s : Str) (dx : Addr) : HO := .ins (ga K "Has") dx [("thing", .str s), ("word", .str "has")]
/-- the values vs are the needs of a row -/
def NeedsAt (K : PySem.W.Frag) (H : Hp) : Fo → List V → Prop
  | .nil, vs => vs = []
  | .has s r, vs => ∃ a dx vs', vs = .ref a :: vs' ∧ H a = some (hasO K s dx) ∧ NeedsAt K H r vs'
  | .node k m kids r, vs => ∃ a dx p kvs vs', vs = .ref a :: vs' ∧ H a = some (nodeO K k m dx p) ∧ H p = some (.tup kvs) ∧ NeedsAt K H kids kvs ∧ NeedsAt K H r vs'
def Fo.deep : Fo → Nat
  | .nil => 0
  | .has _ r => max 1 r.deep
  | .node _ _ kids r => max (1 + kids.deep) r.deep
def Fo.size : Fo → Nat
  | .nil => 0
  | .has _ r => 1 + r.size
  | .node _ _ kids r => 1 + kids.size + r.size
def Fo.len : Fo → Nat
  | .nil => 0
  | .has _ r => 1 + r.len
  | .node _ _ _ r => 1 + r.len
def Fo.app : Fo → Fo → Fo
  | .nil, g => g
  | .has s r, g => .has s (r.app g)
  | .node k m kids r, g => .node k m kids (r.app g)
/-- one need of a row -/
def Fo.at : Fo → Nat → Fo
  | .nil, _ => .nil
  | .has s _, 0 => .has s .nil
  | .has _ r, i + 1 => r.at i
  | .node k m kids _, 0 => .node k m kids .nil
  | .node _ _ _ r, i + 1 => r.at i
section
variable {K : PySem.W.Frag} {H H' : Hp}
theorem NeedsAt.len : ∀ {F : Fo} {vs : List V}, NeedsAt K H F vs → vs.length = F.len
  | .nil, _, h => by rw [show _ = [] from h]; rfl
  | .has s r, _, ⟨_, _, _, e, _, t⟩ => by
    rw [e, List.length_cons, t.len]
    exact Nat.add_comm _ _
  | .node k m kids r, _, ⟨_, _, _, _, _, e, _, _, _, t⟩ => by
    rw [e, List.length_cons, t.len]
    exact Nat.add_comm _ _
theorem NeedsAt.grow (g : ∀ p o, H p = some o → H' p = some o) : ∀ {F : Fo} {vs : List V}, NeedsAt K H F vs → NeedsAt K H' F vs
  | .nil, _, h => h
  | .has s r, _, ⟨a, dx, vs', e, h, t⟩ => ⟨a, dx, vs', e, g _ _ h, t.grow g⟩
  | .node k m kids r, _, ⟨a, dx, p, kvs, vs', e, h, hp, tk, t⟩ => ⟨a, dx, p, kvs, vs', e, g _ _ h, g _ _ hp, tk.grow g, t.grow g⟩
theorem NeedsAt.app : ∀ {F G : Fo} {vs ws : List V}, NeedsAt K H F vs → NeedsAt K H G ws → NeedsAt K H (F.app G) (vs ++ ws)
  | .nil, _, _, _, h, t => by rw [show _ = [] from h]; exact t
  | .has s r, _, _, _, ⟨a, dx, vs', e, h, t⟩, u => ⟨a, dx, vs' ++ _, by rw [e]; rfl, h, t.app u⟩
  | .node k m kids r, _, _, _, ⟨a, dx, p, kvs, vs', e, h, hp, tk, t⟩, u => ⟨a, dx, p, kvs, vs' ++ _, by rw [e]; rfl, h, hp, tk, t.app u⟩
/-- one of them, by its place -/
theorem NeedsAt.get : ∀ {F : Fo} {vs : List V} {i : Nat} {v : V}, NeedsAt K H F vs → vs[i]? = some v → NeedsAt K H (F.at i) [v] ∧ (F.at i).deep ≤ F.deep ∧ 1 ≤ (F.at i).deep ∧ (F.at i).len = 1
  | .nil, _, _, _, h, e => by
    rw [show _ = [] from h] at e
    cases e
  | .has s r, _, 0, v, ⟨a, dx, vs', e, h, t⟩, q => by
    subst e
    cases q
    exact ⟨⟨a, dx, [], rfl, h, rfl⟩, by show max 1 0 ≤ max 1 _; omega, Nat.le_refl _, rfl⟩
  | .has s r, _, i + 1, v, ⟨a, dx, vs', e, h, t⟩, q => by
    subst e
    obtain ⟨h1, h2, h3, h4⟩ := t.get (i := i) q
    exact ⟨h1, Nat.le_trans h2 (Nat.le_max_right _ _), h3, h4⟩
  | .node k m kids r, _, 0, v, ⟨a, dx, p, kvs, vs', e, h, hp, tk, t⟩, q => by
    subst e
    cases q
    exact ⟨⟨a, dx, p, kvs, [], rfl, h, hp, tk, rfl⟩, by show max (1 + kids.deep) 0 ≤ max (1 + kids.deep) _; omega, by show 1 ≤ max (1 + kids.deep) 0; omega, rfl⟩
  | .node k m kids r, _, i + 1, v, ⟨a, dx, p, kvs, vs', e, h, hp, tk, t⟩, q => by
    subst e
    obtain ⟨h1, h2, h3, h4⟩ := t.get (i := i) q
    exact ⟨h1, Nat.le_trans h2 (Nat.le_max_right _ _), h3, h4⟩
end
/-- the numbers of each -/
def Fo.deeps : Fo → List Nat
  | .nil => []
  | .has _ r => 1 :: r.deeps
  | .node _ _ kids r => (1 + kids.deep) :: r.deeps
def Fo.sizes : Fo → List Nat
  | .nil => []
  | .has _ r => 1 :: r.sizes
  | .node _ _ kids r => (1 + kids.size) :: r.sizes
theorem Fo.deeps_len : ∀ F : Fo, F.deeps.length = F.len
  | .nil => rfl
  | .has _ r => by show r.deeps.length + 1 = 1 + r.len; rw [r.deeps_len]; omega
  | .node _ _ _ r => by show r.deeps.length + 1 = 1 + r.len; rw [r.deeps_len]; omega
theorem Fo.sizes_len : ∀ F : Fo, F.sizes.length = F.len
  | .nil => rfl
  | .has _ r => by show r.sizes.length + 1 = 1 + r.len; rw [r.sizes_len]; omega
  | .node _ _ _ r => by show r.sizes.length + 1 = 1 + r.len; rw [r.sizes_len]; omega
theorem Fo.sizes_sum : ∀ F : Fo, F.sizes.sum = F.size
  | .nil => rfl
  | .has _ r => by show 1 + r.sizes.sum = 1 + r.size; rw [r.sizes_sum]
  | .node _ _ kids r => by show 1 + kids.size + r.sizes.sum = 1 + kids.size + r.size; rw [r.sizes_sum]
theorem Fo.deeps_at : ∀ (F : Fo) (i : Nat), i < F.len → F.deeps[i]? = some (F.at i).deep
  | .nil, _, h => absurd h (Nat.not_lt_zero _)
  | .has _ r, 0, _ => by show some 1 = some (max 1 0); rfl
  | .has _ r, i + 1, h => r.deeps_at i (by have : i + 1 < 1 + r.len := h; omega)
  | .node _ _ kids r, 0, _ => by show some (1 + kids.deep) = some (max (1 + kids.deep) 0); rw [Nat.max_eq_left (Nat.zero_le _)]
  | .node _ _ kids r, i + 1, h => r.deeps_at i (by have : i + 1 < 1 + r.len := h; omega)
theorem Fo.sizes_at : ∀ (F : Fo) (i : Nat), i < F.len → F.sizes[i]? = some (F.at i).size
  | .nil, _, h => absurd h (Nat.not_lt_zero _)
  | .has _ r, 0, _ => rfl
  | .has _ r, i + 1, h => r.sizes_at i (by have : i + 1 < 1 + r.len := h; omega)
  | .node _ _ kids r, 0, _ => rfl
  | .node _ _ kids r, i + 1, h => r.sizes_at i (by have : i + 1 < 1 + r.len := h; omega)
theorem Fo.deep_max : ∀ F : Fo, (∀ d ∈ F.deeps, d ≤ F.deep) ∧ (F.deeps ≠ [] → F.deep ∈ F.deeps)
  | .nil => ⟨fun _ h => absurd h (by simp [Fo.deeps]), fun h => absurd rfl h⟩
  | .has _ r => by
    obtain ⟨h1, h2⟩ := r.deep_max
    refine ⟨fun d hd => ?_, fun _ => ?_⟩
    · rcases List.mem_cons.mp hd with e | e
      · rw [e]; exact Nat.le_max_left _ _
      · exact Nat.le_trans (h1 d e) (Nat.le_max_right _ _)
    · show max 1 r.deep ∈ 1 :: r.deeps
      by_cases h : r.deep ≤ 1
      · rw [Nat.max_eq_left h]; exact List.mem_cons_self
      · rw [Nat.max_eq_right (by omega)]
        refine List.mem_cons_of_mem _ (h2 fun e => ?_)
        cases r with
        | nil => exact h (Nat.zero_le _)
        | has _ _ => cases e
        | node _ _ _ _ => cases e
  | .node _ _ kids r => by
    obtain ⟨h1, h2⟩ := r.deep_max
    refine ⟨fun d hd => ?_, fun _ => ?_⟩
    · rcases List.mem_cons.mp hd with e | e
      · rw [e]; exact Nat.le_max_left _ _
      · exact Nat.le_trans (h1 d e) (Nat.le_max_right _ _)
    · show max (1 + kids.deep) r.deep ∈ (1 + kids.deep) :: r.deeps
      by_cases h : r.deep ≤ 1 + kids.deep
      · rw [Nat.max_eq_left h]; exact List.mem_cons_self
      · rw [Nat.max_eq_right (by omega)]
        refine List.mem_cons_of_mem _ (h2 fun e => ?_)
        cases r with
        | nil => exact h (Nat.zero_le _)
        | has _ _ => cases e
        | node _ _ _ _ => cases e
/-- [f(x) for x in t]: each turn may add to the heap -/
theorem lc_tupG {K : PySem.W.Frag} {a : Addr} {xs : List V} {te : TE} {i : Nat} {σ : L2.St} {H : Hp} {D : Addr} {Qd : Hp → Prop} (ys : List V) (hD : H D = none) (hT : H a = some (.tup xs)) (hl : ys.length = xs.length) (hz : xs.length ≤ sizeLine) (hi : i < σ.length)
    (hF : ∀ (k : Nat) (x y : V) (σ2 : L2.St) (H2 : Hp) (R : VK), xs[k]? = some x → ys[k]? = some y → σ2[i]? = some (some x) → Grow H H2 → (∀ H3, Grow H2 H3 → R y H3) → te σ2 H2 R) (hQ : ∀ H', Grow H H' → H' D = some (.lst ys) → Qd H') :
    ∃ W : Nat → Nat → Hp → Prop, (∃ m, W 0 m (upd H D (.lst []))) ∧ ∀ k m H, W k m H →
      ((Itt K a).stop k H ∧ Qd H) ∨ ((Itt K a).go k H ∧ ∃ Nx : Hp → Prop, (∀ H', Nx H' → ∃ m', m' < m ∧ W (k + 1) m' H') ∧ ∀ x H', (Itt K a).yld k H x H' → gName i x (wipe σ [i]) H' fun σ2 H2 => wipe σ2 [i] = wipe σ [i] ∧ tYes σ2 H2 fun b H3 =>
        if b = true then te σ2 H3 fun y H4 => ∃ acc, H4 D = some (.lst acc) ∧ acc.length < sizeLine ∧ Nx (upd H4 D (.lst (acc ++ [y]))) else Nx H3) := by
  have gu : ∀ {H1 : Hp} {o : HO}, Grow H H1 → Grow H (upd H1 D o) := fun {H1 o} g p q e => by
    rw [upd_ne (ne_of_none e hD)]
    exact g p q e
  refine lc_it walk_tup (fun k H' => Grow H H' ∧ H' D = some (.lst (ys.take k))) ⟨Grow.new hD, upd_same⟩ (fun k H' _ q => .inl (.inl (q.1 _ _ hT))) ?_ ?_
  · rintro k x H1 H2 hk ⟨g, e⟩ ⟨rfl, hx⟩
    obtain ⟨y, hy⟩ : ∃ y, ys[k]? = some y := ⟨ys[k], List.getElem?_eq_getElem (by omega)⟩
    show wipe ((wipe σ [i]).set i (some x)) [i] = wipe σ [i] ∧ _
    refine ⟨?_, ?_⟩
    · show ((σ.set i none).set i (some x)).set i none = σ.set i none
      rw [List.set_set, List.set_set]
    · show te _ _ _
      refine hF k x y _ _ _ hx hy ?_ g fun H3 g3 => ?_
      · show ((σ.set i none).set i (some x))[i]? = _
        rw [List.getElem?_set_self (by simpa using hi)]
      · refine ⟨_, g3 _ _ e, ?_, gu (g.trans g3), ?_⟩
        · rw [List.length_take]
          omega
        · rw [upd_same]
          have e2 : ys.take (k + 1) = ys.take k ++ [y] := by rw [List.take_add_one, hy]; rfl
          rw [e2]
  · rintro H' ⟨g, e⟩
    rw [List.take_of_length_le (by omega)] at e
    exact hQ H' g e
section
variable {X : Cx} {CX : CXT} {k : Nat} {f C : Addr} {sp : Sp} {E : XK} {x : Str} {e : Expr} {es : List Expr} {te : TE} {t : TA} {p sp_ pos : Pos}
/-- C(*y) -/
def tMakeS1 (K : PySem.W.Frag) (C : Addr) (sp : Sp) (E : XK) (te : TE) : TE := fun σ H Q => te σ H fun y H1 => ∃ a xs, y = V.ref a ∧ (SqT K H1 a xs ∨ SqL K H1 a xs) ∧ ∀ x dx, H1 x = none → H1 dx = none → dx ≠ x →
  sp (V.ref x :: xs) (upd (upd H1 dx (.own x)) x (.ins C dx [])) (fun v H2 => v = .non ∧ Q (.ref x) H2) E
theorem pe_makeS1 (M : Mk X.K C f) (F : FnR X.prog X.w X.K X.mg X.base CX k f sp) (hr : Room (k + 1) X.A) (hg : Gl X x) (hm : X.mg x = some (.ref C)) (hx : Passes CX X E) (he : PE X e te) (hd : (x == ("__debug__" : Str)) = false := by decide)
    (hst : starEach [.Starred e sp_] X.env = [(true, eval e X.env)] := by rfl) : PE X (.Call (.Name x p) [.Starred e sp_] [] pos) (tMakeS1 X.K C sp E te) := by
  refine ⟨fun pins s σ H Q I h => ?_⟩
  refine wpAny_Call_Name_kw (ld_glob I hg hm ?_ hd)
  refine PySem.W.callWith_S (h₀ := X.base) I.ok.mod.kin M.kp (thn (he.run pins s σ H _ I h) fun v s1 ⟨y, H1, I1, ry, a, xs, ey, hxs, q⟩ => ?_) hst
  subst ey
  obtain rfl : v = Value.ref a := ry
  exact star_any I1 hxs fun us s2 I2 rv => ⟨I2.kIn, run_makeR M F hr hx I2 rv q⟩
/-- C(e, .., *y) -/
theorem pe_makeS2 (M : Mk X.K C f) (F : FnR X.prog X.w X.K X.mg X.base CX k f sp) (hr : Room (k + 1) X.A) (hg : Gl X x) (hm : X.mg x = some (.ref C)) (hx : Passes CX X E) (ha : PA X (e :: es) t) (hd : (x == ("__debug__" : Str)) = false := by decide)
    (he : starEach (e :: es) X.env = (false, eval e X.env) :: starEach es X.env := by rfl) (hst : (backTo pos (starEach es X.env)).any (·.1) = true := by rfl) :
    PE X (.Call (.Name x p) (e :: es) [] pos) (tMakeR C sp E t) := by
  refine ⟨fun pins s σ H Q I h => ?_⟩
  refine wpAny_Call_Name_kw (ld_glob I hg hm ?_ hd)
  exact PySem.W.callWith_S2 (h₀ := X.base) I.ok.mod.kin M.kp (thn (ha.run pos pins s σ H _ I h) fun us s1 ⟨vs, H1, I1, r, q⟩ => ⟨I1.kIn, run_makeR M F hr hx I1 r q⟩) he hst
end
end SX

set_option Elab.async false
set_option linter.all false
set_option maxRecDepth 100000
set_option maxHeartbeats 4000000
namespace K80
open PySem PySem.Spec PyProof.Rows L2 SX
open He (ga ma)
/-- tracked things but a stay -/
def But (a : Addr) (H H' : Hp) : Prop := ∀ p o, H p = some o → p ≠ a → H' p = some o
theorem But.refl {a : Addr} (H : Hp) : But a H H := fun _ _ h _ => h
theorem But.trans {a : Addr} {H H1 H2 : Hp} (x : But a H H1) (y : But a H1 H2) : But a H H2 := fun p o h n => y p o (x p o h n) n
theorem But.grow {a : Addr} {H H1 : Hp} (g : Grow H H1) : But a H H1 := fun p o h _ => g p o h
theorem But.upd {a : Addr} {H H1 : Hp} {o : HO} (g : But a H H1) : But a H (upd H1 a o) := fun p q h n => by
  rw [upd_ne n]
  exact g p q h n
section
variable {P : Program} {w : World} {K : PySem.W.Frag} {mg : Str → Option Value} {base : Heap}
/-! ### is_integer, need_integer, need_name, Has -/
theorem sc_is_integer : FnScope ["value"] ["value"] (defScope s_is_integer) := ⟨rfl, rfl, rfl, by decide +kernel, rfl, by decide +kernel, by decide +kernel⟩
def sp_is_integer : Sp := fun vs H Q _ => ∃ i : Int, vs = [.int i] ∧ Q (.bl true) H
theorem ok_is_integer (z : Z P w K mg base) : ∃ fd, FnOk P w K mg base (L2.CX P w) 1 (ga K "is_integer") fd ["value"] sp_is_integer ∧ Binds K fd ["value"] [] := by
  obtain ⟨fd, F⟩ := z.f_is_integer
  refine ⟨fd, F.ok sc_is_integer (fun vs H Q E h => ?_) (fun cdv A outer s H vs Q E hr h => ?_), F.bindsN fun _ _ _ _ _ _ us hl => match us, hl with | [_], _ => rfl⟩
  · obtain ⟨y, rfl, _⟩ := h
    rfl
  · obtain ⟨i, rfl, hQ⟩ := h
    refine ⟨_, pss_one (ps_ret (pe_and (pe_callB call_isi rfl z.b_isinstance (by decide +kernel) (pa_cons (pv 0) (pa_cons (pe_bltn rfl z.b_int (by decide +kernel) (show RelV (.ty "int") (.type "int") from rfl)) pa_nil))) (pe_one (pe_not (pe_callB call_isi rfl z.b_isinstance (by decide +kernel) (pa_cons (pv 0) (pa_cons (pe_bltn rfl z.b_bool (by decide +kernel) (show RelV (.ty "bool") (.type "bool") from rfl)) pa_nil))))))), ?_⟩
    refine ⟨_, rfl, _, _, _, _, _, rfl, .ty "int", .base (.int _), kit_ty (r := true) (by decide +kernel), _, rfl, iteT ?_⟩
    exact ⟨_, rfl, _, _, _, _, _, rfl, .ty "bool", .base (.int _), kit_ty (r := false) (by decide +kernel), _, rfl, hQ⟩
theorem sc_need_integer : FnScope ["part", "value", "least", "most"] ["part", "value", "least", "most"] (defScope s_need_integer) := ⟨rfl, rfl, rfl, by decide +kernel, rfl, by decide +kernel, by decide +kernel⟩
def sp_need_integer : Sp := fun vs H Q _ => ∃ (p : Str) (v l m : Int), vs = [.str p, .int v, .int l, .int m] ∧ l ≤ v ∧ v ≤ m ∧ Q (.int v) H
theorem ok_need_integer (z : Z P w K mg base) : ∃ fd, FnOk P w K mg base (L2.CX P w) 2 (ga K "need_integer") fd ["part", "value", "least", "most"] sp_need_integer ∧ Binds K fd ["part", "value", "least", "most"] [] := by
  obtain ⟨f1, G1, b1⟩ := ok_is_integer z
  obtain ⟨fd, F⟩ := z.f_need_integer
  obtain ⟨ds, rd, bd⟩ := F.binds1 (ps := ["part", "value", "least", "most"]) 4 1 (fun z => nomatch z) rfl (fun T kV doc pm an cdv ct us its hu hi => match us, hu, its, hi with | [_, _, _, _], _, [_], _ => ⟨_, rfl, rfl⟩)
  obtain rfl : ds = [] := by
    cases rd
    rfl
  refine ⟨fd, F.ok sc_need_integer (fun vs H Q E h => ?_) (fun cdv A outer s H vs Q E hr h => ?_), bd⟩
  · obtain ⟨_, _, _, _, rfl, _⟩ := h
    rfl
  · obtain ⟨p, v, l, m, rfl, h1, h2, hQ⟩ := h
    refine ⟨_, pss_cons (ps_if (PW.pt (pw_or (pt_not (pt_val (pe_call G1 hr rfl z.g_is_integer z.k_is_integer b1 .nil passF (pa_cons (pv 1) pa_nil)))) (pw_or1 (pt_cmpR op_lt (pv 1) (pv 2) (nomark _))))) (pss_one ps_never) pss_nil)
      (pss_cons (ps_if (PW.pt (pw_and (pt_cmpR op_notN (pv 3) pe_non (nomark _)) (pw_and1 (pt_cmpR op_gt (pv 1) (pv 3) (nomark _))))) (pss_one ps_never) pss_nil) (pss_one (ps_ret (pv 1)))), ?_⟩
    refine ⟨_, rfl, v, rfl, _, rfl, iteF ⟨_, rfl, _, rfl, _, _, rfl, rfl, _, rfl, ?_⟩⟩
    rw [decide_eq_false (by omega)]
    refine iteF ⟨_, rfl, rfl, _, rfl, iteT ⟨_, rfl, _, rfl, _, _, rfl, rfl, _, rfl, ?_⟩⟩
    rw [decide_eq_false (by omega)]
    exact iteF ⟨_, rfl, hQ⟩
theorem sc_need_name : FnScope ["part", "value"] ["part", "value"] (defScope s_need_name) := ⟨rfl, rfl, rfl, by decide +kernel, rfl, by decide +kernel, by decide +kernel⟩
def sp_need_name : Sp := fun vs H Q _ => ∃ (p y : Str), vs = [.str p, .str y] ∧ y.length ≤ sizeLine ∧ nameB y = true ∧ ∀ H', Grow H H' → Q (.str y) H'
theorem ok_need_name (z : Z P w K mg base) : ∃ fd, FnOk P w K mg base (L2.CX P w) 2 (ga K "need_name") fd ["part", "value"] sp_need_name ∧ Binds K fd ["part", "value"] [] := by
  obtain ⟨f1, F1⟩ := z.f_is_name
  have G1 := ok_is_name z F1
  have b1 : Binds K f1 ["value"] [] := F1.bindsN fun _ _ _ _ _ _ us hl => match us, hl with | [_], _ => rfl
  obtain ⟨fd, F⟩ := z.f_need_name
  refine ⟨fd, F.ok sc_need_name (fun vs H Q E h => ?_) (fun cdv A outer s H vs Q E hr h => ?_), F.bindsN fun _ _ _ _ _ _ us hl => match us, hl with | [_, _], _ => rfl⟩
  · obtain ⟨_, _, rfl, _⟩ := h
    rfl
  · obtain ⟨p, y, rfl, hy, hn, hQ⟩ := h
    refine ⟨_, pss_cons (ps_if (pt_not (pt_val (pe_call G1 hr rfl z.g_is_name z.k_is_name b1 .nil passF (pa_cons (pv 1) pa_nil)))) (pss_one ps_never) pss_nil) (pss_one (ps_ret (pv 1))), ?_⟩
    refine ⟨_, rfl, y, rfl, hy, fun H' g => ⟨_, rfl, ?_⟩⟩
    rw [hn]
    exact iteF ⟨_, rfl, hQ H' g⟩
theorem sc_Has : FnScope ["self", "thing"] ["self", "thing"] (defScope s_Has___init__) := ⟨rfl, rfl, rfl, by decide +kernel, rfl, by decide +kernel, by decide +kernel⟩
def sp_Has (K : PySem.W.Frag) : Sp := fun vs H Q _ => ∃ (a dx : Addr) (y : Str), vs = [.ref a, .str y] ∧ H a = some (.ins (ga K "Has") dx []) ∧ y.length ≤ sizeLine ∧ nameB y = true ∧ ∀ H', But a H H' → H' a = some (hasO K y dx) → Q .non H'
theorem ok_Has (z : Z P w K mg base) : ∃ fd, FnOk P w K mg base (L2.CX P w) 3 (ma K (ga K "Has") "__init__") fd ["self", "thing"] (sp_Has K) ∧ Binds K fd ["self", "thing"] [] := by
  obtain ⟨f1, G1, b1⟩ := ok_need_name z
  obtain ⟨fd, F⟩ := z.f_Has___init__
  refine ⟨fd, F.ok sc_Has (fun vs H Q E h => ?_) (fun cdv A outer s H vs Q E hr h => ?_), F.bindsN fun _ _ _ _ _ _ us hl => match us, hl with | [_, _], _ => rfl⟩
  · obtain ⟨_, _, _, rfl, _⟩ := h
    rfl
  · obtain ⟨a, dx, y, rfl, ha, hy, hn, hQ⟩ := h
    refine ⟨_, pss_cons (ps_fld (pv 0) (pe_call G1 hr rfl z.g_need_name z.k_need_name b1 .nil passF (pa_cons pe_str (pa_cons (pv 1) pa_nil))) rfl) (pss_one (ps_fld (pv 0) pe_str rfl)), ?_⟩
    refine ⟨_, rfl, _, y, rfl, hy, hn, fun H' g => ⟨_, rfl, a, _, dx, _, rfl, g _ _ ha, z.cl_Has, z.na_Has_thing, by decide, ?_⟩⟩
    refine ⟨_, rfl, a, _, dx, _, rfl, upd_same, z.cl_Has, z.na_Has_word, by show 1 < 1000; decide, ?_⟩
    exact hQ _ (But.upd (But.upd (But.grow g))) upd_same
/-! ### is_need, need_need -/
theorem need_ty (z : Z P w K mg base) {H : Hp} {F : Fo} {v : V} (h : NeedsAt K H F [v]) (h1 : F.len = 1) : ∃ c : Str, c ∈ (["Has", "Every", "Some", "Few"] : List Str) ∧ TyX K H v (.ref (ga K c)) ∧
    ((∃ s a dx, F = .has s .nil ∧ v = .ref a ∧ c = "Has" ∧ H a = some (hasO K s dx)) ∨ ∃ k m kids a dx p kvs, F = .node k m kids .nil ∧ v = .ref a ∧ c ≠ "Has" ∧ H a = some (nodeO K k m dx p) ∧ H p = some (.tup kvs) ∧ NeedsAt K H kids kvs) := by
  cases F with
  | nil => cases h1
  | has s r =>
    obtain ⟨a, dx, vs', e, ha, t⟩ := h
    cases e
    cases r with
    | nil => exact ⟨"Has", by decide +kernel, ty_ins ha z.cl_Has z.isx, .inl ⟨s, a, dx, rfl, rfl, rfl, ha⟩⟩
    | has _ r => exact absurd h1 (by show 1 + (1 + r.len) ≠ 1; omega)
    | node _ _ _ r => exact absurd h1 (by show 1 + (1 + r.len) ≠ 1; omega)
  | node k m kids r =>
    obtain ⟨a, dx, p, kvs, vs', e, ha, hp, tk, t⟩ := h
    cases e
    cases r with
    | nil =>
      cases k with
      | every => exact ⟨"Every", by decide +kernel, ty_ins ha z.cl_Every z.isx, .inr ⟨.every, m, kids, a, dx, p, kvs, rfl, rfl, by decide +kernel, ha, hp, tk⟩⟩
      | some => exact ⟨"Some", by decide +kernel, ty_ins ha z.cl_Some z.isx, .inr ⟨.some, m, kids, a, dx, p, kvs, rfl, rfl, by decide +kernel, ha, hp, tk⟩⟩
      | few => exact ⟨"Few", by decide +kernel, ty_ins ha z.cl_Few z.isx, .inr ⟨.few, m, kids, a, dx, p, kvs, rfl, rfl, by decide +kernel, ha, hp, tk⟩⟩
    | has _ r => exact absurd h1 (by show 1 + (1 + r.len) ≠ 1; omega)
    | node _ _ _ r => exact absurd h1 (by show 1 + (1 + r.len) ≠ 1; omega)
theorem kit_four (z : Z P w K mg base) {c : Str} (h : c ∈ (["Has", "Every", "Some", "Few"] : List Str)) : PySem.W.kitAny K (.ref (ga K c)) [.ref (ga K "Has"), .ref (ga K "Every"), .ref (ga K "Some"), .ref (ga K "Few")] = some true := by
  have k : ∀ y ∈ (["Has", "Every", "Some", "Few"] : List Str), PySem.W.kitOne K (.ref (ga K c)) (.ref (ga K y)) = some (decide (c = y)) := fun y hy => z.kit (List.mem_append_left _ (List.mem_flatMap.mpr ⟨c, h, List.mem_map.mpr ⟨y, hy, rfl⟩⟩))
  refine kitAny_cons (k _ (by decide +kernel)) (fun h1 => kitAny_cons (k _ (by decide +kernel)) (fun h2 => kitAny_cons (k _ (by decide +kernel)) (fun h3 => kitAny_cons (k _ (by decide +kernel)) (fun h4 => ?_) fun _ => rfl) fun _ => rfl) fun _ => rfl) fun _ => rfl
  have n1 := of_decide_eq_false h1
  have n2 := of_decide_eq_false h2
  have n3 := of_decide_eq_false h3
  have n4 := of_decide_eq_false h4
  exfalso
  simp only [List.mem_cons, List.not_mem_nil, or_false] at h
  rcases h with h | h | h | h
  · exact n1 h
  · exact n2 h
  · exact n3 h
  · exact n4 h
theorem sc_is_need : FnScope ["value"] ["value"] (defScope s_is_need) := ⟨rfl, rfl, rfl, by decide +kernel, rfl, by decide +kernel, by decide +kernel⟩
def sp_is_need (K : PySem.W.Frag) : Sp := fun vs H Q _ => ∃ (v : V) (F : Fo), vs = [v] ∧ NeedsAt K H F [v] ∧ F.len = 1 ∧ ∀ H', Grow H H' → Q (.bl true) H'
theorem ok_is_need (z : Z P w K mg base) : ∃ fd, FnOk P w K mg base (L2.CX P w) 1 (ga K "is_need") fd ["value"] (sp_is_need K) ∧ Binds K fd ["value"] [] := by
  obtain ⟨fd, F⟩ := z.f_is_need
  refine ⟨fd, F.ok sc_is_need (fun vs H Q E h => ?_) (fun cdv A outer s H vs Q E hr h => ?_), F.bindsN fun _ _ _ _ _ _ us hl => match us, hl with | [_], _ => rfl⟩
  · obtain ⟨y, _, rfl, _⟩ := h
    rfl
  · obtain ⟨v, F, rfl, hF, h1, hQ⟩ := h
    refine ⟨_, pss_one (ps_ret (pe_callB call_isiT rfl z.b_isinstance (by decide +kernel) (pa_cons (pv 0) (pa_cons (pe_tup (pa_cons (pe_glob (v := .ref (ga K "Has")) rfl z.g_Has rfl) (pa_cons (pe_glob (v := .ref (ga K "Every")) rfl z.g_Every rfl) (pa_cons (pe_glob (v := .ref (ga K "Some")) rfl z.g_Some rfl) (pa_cons (pe_glob (v := .ref (ga K "Few")) rfl z.g_Few rfl) pa_nil))))) pa_nil)))), ?_⟩
    refine ⟨v, rfl, by show 4 ≤ sizeLine; rw [sizeLine_eq]; decide, fun p hp => ?_⟩
    obtain ⟨c, hc, ty, _⟩ := need_ty z (hF.grow (Grow.new (o := .tup [.ref (ga K "Has"), .ref (ga K "Every"), .ref (ga K "Some"), .ref (ga K "Few")]) hp)) h1
    exact ⟨v, p, _, _, _, true, rfl, upd_same, .cons (.own _) (.cons (.own _) (.cons (.own _) (.cons (.own _) .nil))), ty, kit_four z hc, hQ _ (Grow.new hp)⟩
theorem sc_need_need : FnScope ["part", "value"] ["part", "value"] (defScope s_need_need) := ⟨rfl, rfl, rfl, by decide +kernel, rfl, by decide +kernel, by decide +kernel⟩
def sp_need_need (K : PySem.W.Frag) : Sp := fun vs H Q _ => ∃ (p : Str) (v : V) (F : Fo), vs = [.str p, v] ∧ NeedsAt K H F [v] ∧ F.len = 1 ∧ ∀ H', Grow H H' → Q v H'
theorem ok_need_need (z : Z P w K mg base) : ∃ fd, FnOk P w K mg base (L2.CX P w) 2 (ga K "need_need") fd ["part", "value"] (sp_need_need K) ∧ Binds K fd ["part", "value"] [] := by
  obtain ⟨f1, G1, b1⟩ := ok_is_need z
  obtain ⟨fd, F⟩ := z.f_need_need
  refine ⟨fd, F.ok sc_need_need (fun vs H Q E h => ?_) (fun cdv A outer s H vs Q E hr h => ?_), F.bindsN fun _ _ _ _ _ _ us hl => match us, hl with | [_, _], _ => rfl⟩
  · obtain ⟨_, _, _, rfl, _⟩ := h
    rfl
  · obtain ⟨p, v, F, rfl, hF, h1, hQ⟩ := h
    refine ⟨_, pss_cons (ps_if (pt_not (pt_val (pe_call G1 hr rfl z.g_is_need z.k_is_need b1 .nil passF (pa_cons (pv 1) pa_nil)))) (pss_one ps_never) pss_nil) (pss_one (ps_ret (pv 1))), ?_⟩
    exact ⟨_, rfl, v, F, rfl, hF, h1, fun H' g => ⟨_, rfl, iteF ⟨_, rfl, hQ H' g⟩⟩⟩
end
end K80

set_option Elab.async false
set_option linter.all false
set_option maxRecDepth 100000
set_option maxHeartbeats 4000000
namespace K80
open PySem PySem.Spec PyProof.Rows L2 SX
open He (ga ma)
section
variable {P : Program} {w : World} {K : PySem.W.Frag} {mg : Str → Option Value} {base : Heap}
theorem len_size : ∀ F : Fo, F.len ≤ F.size
  | .nil => Nat.le_refl _
  | .has _ r => by have := len_size r; show 1 + r.len ≤ 1 + r.size; omega
  | .node _ _ kids r => by have := len_size r; show 1 + r.len ≤ 1 + kids.size + r.size; omega
theorem at_size : ∀ (F : Fo) (i : Nat), (F.at i).size ≤ F.size
  | .nil, _ => Nat.le_refl _
  | .has _ r, 0 => by show 1 + 0 ≤ 1 + r.size; omega
  | .has _ r, i + 1 => by have := at_size r i; show (r.at i).size ≤ 1 + r.size; omega
  | .node _ _ kids r, 0 => by show 1 + kids.size + 0 ≤ 1 + kids.size + r.size; omega
  | .node _ _ kids r, i + 1 => by have := at_size r i; show (r.at i).size ≤ 1 + kids.size + r.size; omega
theorem len_zero : ∀ {F : Fo}, F.len = 0 → F = .nil
  | .nil, _ => rfl
  | .has _ r, h => absurd h (by show ¬ 1 + r.len = 0; omega)
  | .node _ _ _ r, h => absurd h (by show ¬ 1 + r.len = 0; omega)
/-- need.parts of a need that is none of one thing -/
theorem parts_of (z : Z P w K mg base) (k : Kd) (m : Int) (dx p : Addr) : ∃ C fs, nodeO K k m dx p = .ins C dx fs ∧ Cls K C ∧ NoAttr K C "parts" ∧ fs.lookup ("parts" : Str) = some (V.ref p) := by
  cases k with
  | every => exact ⟨_, _, rfl, z.cl_Every, z.na_Every_parts, rfl⟩
  | some => exact ⟨_, _, rfl, z.cl_Some, z.na_Some_parts, rfl⟩
  | few => exact ⟨_, _, rfl, z.cl_Few, z.na_Few_parts, rfl⟩
theorem kit_has (z : Z P w K mg base) {c : Str} (h : c ∈ (["Has", "Every", "Some", "Few"] : List Str)) : PySem.W.kitOne K (.ref (ga K c)) (.ref (ga K "Has")) = some (decide (c = "Has")) :=
  z.kit (List.mem_append_left _ (List.mem_flatMap.mpr ⟨c, h, List.mem_map.mpr ⟨"Has", by decide +kernel, rfl⟩⟩))
/-! ### deep_of -/
theorem sc_deep_of : FnScope ["need", "part"] ["need"] (defScope s_deep_of) := ⟨rfl, rfl, rfl, by decide +kernel, rfl, by decide +kernel, by decide +kernel⟩
def sp_deep_of (K : PySem.W.Frag) (d : Nat) : Sp := fun vs H Q _ => ∃ (v : V) (F : Fo), vs = [v] ∧ NeedsAt K H F [v] ∧ F.len = 1 ∧ F.size ≤ 1000 ∧ F.deep ≤ d ∧ ∀ H', Grow H H' → Q (.int F.deep) H'
theorem ok_deep_of (z : Z P w K mg base) : ∃ fd, (∀ d, FnOk P w K mg base (L2.CX P w) (2 + d) (ga K "deep_of") fd ["need"] (sp_deep_of K d)) ∧ Binds K fd ["need"] [] := by
  obtain ⟨f1, G1, b1⟩ := ok_need_need z
  obtain ⟨fd, F⟩ := z.f_deep_of
  have b : Binds K fd ["need"] [] := F.bindsN fun _ _ _ _ _ _ us hl => match us, hl with | [_], _ => rfl
  refine ⟨fd, fun d => ?_, b⟩
  induction d with
  | zero =>
    refine F.ok sc_deep_of (fun vs H Q E h => ?_) (fun cdv A outer s H vs Q E hr h => ?_)
    · obtain ⟨_, _, rfl, _⟩ := h
      rfl
    · obtain ⟨v, F, rfl, hF, h1, _, h2, _⟩ := h
      obtain ⟨_, _, h3, _⟩ := hF.get (i := 0) rfl
      cases F with
      | nil => cases h1
      | has s r => exact absurd h2 (by show ¬ max 1 r.deep ≤ 0; omega)
      | node k m kids r => exact absurd h2 (by show ¬ max (1 + kids.deep) r.deep ≤ 0; omega)
  | succ d G =>
    refine F.ok sc_deep_of (fun vs H Q E h => ?_) (fun cdv A outer s H vs Q E hr h => ?_)
    · obtain ⟨_, _, rfl, _⟩ := h
      rfl
    · obtain ⟨v, F, rfl, hF, h1, hs, h2, hQ⟩ := h
      refine ⟨_, pss_cons (ps_expr (pe_call G1 (hr.mono (Nat.le_add_right 2 d)) rfl z.g_need_need z.k_need_need b1 .nil passF (pa_cons pe_str (pa_cons (pv 0) pa_nil))))
        (pss_cons (ps_if (PW.pt (pw_or (pt_val (pe_callB call_isi rfl z.b_isinstance (by decide +kernel) (pa_cons (pv 0) (pa_cons (pe_glob (v := .ref (ga K "Has")) rfl z.g_Has rfl) pa_nil)))) (pw_or1 (pt_not (pt_truth (pe_fld (pv 0) rfl) (by intro _; rfl)))))) (pss_one (ps_ret pe_int)) pss_nil)
        (pss_one (ps_ret (pe_op op_add pe_int (pe_callB (cr_max rfl) rfl z.b_max (by decide +kernel) (pa_cons (pe_lc (own := [("part", 1)]) (g := gName 1) (tt := tYes) rfl sc_deep_of.nd (pi_tup (pe_fld (pv 0) rfl)) (blkOk_by (N := ["need", "part"]) (sc := defScope s_deep_of) (by decide +kernel)) (fun _ _ _ _ _ => pg_name (i := 1) sc_deep_of.nd rfl (Or.inl rfl)) (fun _ _ _ _ _ => pts_nil) (fun _ _ _ _ _ => pe_call G hr rfl z.g_deep_of z.k_deep_of b .nil passF (pa_cons (pv 1) pa_nil))) pa_nil)))))), ?_⟩
      refine ⟨v, rfl, _, v, F, rfl, hF, h1, fun H1 g1 => ?_⟩
      obtain ⟨c, hc, ty, hk⟩ := need_ty z (hF.grow g1) h1
      refine ⟨v, rfl, _, _, _, _, _, rfl, .own _, ty, kit_has z hc, _, rfl, ?_⟩
      rcases hk with ⟨s, a, dx, rfl, rfl, rfl, ha⟩ | ⟨k, m, kids, a, dx, p, kvs, rfl, rfl, hne, ha, hp, tk⟩
      · exact iteT (iteT (hQ H1 g1))
      · rw [decide_eq_false hne]
        obtain ⟨C, fs, eO, cl, na, lk⟩ := parts_of z k m dx p
        rw [eO] at ha
        refine iteF ⟨_, rfl, a, C, dx, fs, _, rfl, ha, cl, na, lk, _, .inr (.inl ⟨kvs, SqT.of hp, rfl⟩), ?_⟩
        have hn := tk.len
        have hd : kids.deep ≤ d := by
          have e : max (1 + kids.deep) 0 ≤ d + 1 := h2
          omega
        cases kvs with
        | nil =>
          have e : kids = .nil := len_zero (by rw [← hn]; rfl)
          subst e
          exact iteT (hQ H1 g1)
        | cons v0 kv0 =>
          refine iteF ⟨_, rfl, a, C, dx, fs, _, rfl, ha, cl, na, lk, p, rfl, ⟨_, SqT.of hp⟩, fun D hD => ?_⟩
          have dl := kids.deeps_len
          have hks : kids.size ≤ 1000 := by
            have e : 1 + kids.size + 0 ≤ 1000 := hs
            omega
          have hkl := len_size kids
          refine lc_tupG (kids.deeps.map fun n : Nat => V.int (n : Int)) hD hp (by rw [List.length_map, dl, hn]) (by rw [hn, sizeLine_eq]; omega) (by show 1 < 2; decide) (fun j x y σ2 H2 R hx hy hv g2 hR => ?_) (fun H3 g3 hD3 => ?_)
          · obtain ⟨q1, q2, q3, q4⟩ := tk.get hx
            have hj : j < kids.len := by
              rw [← hn]
              exact (List.getElem?_eq_some_iff.mp hx).1
            have ey : y = .int ((kids.at j).deep : Int) := by
              rw [List.getElem?_map, kids.deeps_at j hj] at hy
              exact (Option.some.inj hy).symm
            refine ⟨_, hv, x, kids.at j, rfl, q1.grow g2, q4, Nat.le_trans (at_size kids j) hks, Nat.le_trans q2 hd, fun H4 g4 => ?_⟩
            rw [← ey]
            exact hR H4 g4
          · have e1 : (kids.deeps.map fun n : Nat => V.int (n : Int)) = (kids.deeps.map fun n : Nat => (n : Int)).map V.int := by rw [List.map_map]; rfl
            rw [e1] at hD3
            refine ⟨D, _, rfl, SqL.of hD3, by rw [List.length_map, dl, ← hn]; exact Nat.succ_pos _, fun m hm hle => ?_⟩
            obtain ⟨n, hn1, rfl⟩ := List.mem_map.mp hm
            obtain ⟨x1, x2⟩ := kids.deep_max
            have hne2 : kids.deeps ≠ [] := fun z => by
              rw [z] at hn1
              cases hn1
            have u1 := x1 n hn1
            have u2 := hle _ (List.mem_map.mpr ⟨kids.deep, x2 hne2, rfl⟩)
            have e2 : n = kids.deep := by omega
            subst e2
            refine ⟨_, _, rfl, rfl, ?_⟩
            have e3 : (1 : Int) + (kids.deep : Int) = ((Fo.node k m kids .nil).deep : Int) := by
              show (1 : Int) + (kids.deep : Int) = ((max (1 + kids.deep) 0 : Nat) : Int)
              omega
            have q := hQ _ (g1.trans g3)
            rw [← e3] at q
            exact q
/-! ### many_of -/
theorem sc_many_of : FnScope ["need", "part"] ["need"] (defScope s_many_of) := ⟨rfl, rfl, rfl, by decide +kernel, rfl, by decide +kernel, by decide +kernel⟩
def sp_many_of (K : PySem.W.Frag) (d : Nat) : Sp := fun vs H Q _ => ∃ (v : V) (F : Fo), vs = [v] ∧ NeedsAt K H F [v] ∧ F.len = 1 ∧ F.size ≤ 1000 ∧ F.deep ≤ d ∧ ∀ H', Grow H H' → Q (.int F.size) H'
theorem ok_many_of (z : Z P w K mg base) : ∃ fd, (∀ d, FnOk P w K mg base (L2.CX P w) (2 + d) (ga K "many_of") fd ["need"] (sp_many_of K d)) ∧ Binds K fd ["need"] [] := by
  obtain ⟨f1, G1, b1⟩ := ok_need_need z
  obtain ⟨fd, F⟩ := z.f_many_of
  have b : Binds K fd ["need"] [] := F.bindsN fun _ _ _ _ _ _ us hl => match us, hl with | [_], _ => rfl
  refine ⟨fd, fun d => ?_, b⟩
  induction d with
  | zero =>
    refine F.ok sc_many_of (fun vs H Q E h => ?_) (fun cdv A outer s H vs Q E hr h => ?_)
    · obtain ⟨_, _, rfl, _⟩ := h
      rfl
    · obtain ⟨v, F, rfl, hF, h1, _, h2, _⟩ := h
      cases F with
      | nil => cases h1
      | has s r => exact absurd h2 (by show ¬ max 1 r.deep ≤ 0; omega)
      | node k m kids r => exact absurd h2 (by show ¬ max (1 + kids.deep) r.deep ≤ 0; omega)
  | succ d G =>
    refine F.ok sc_many_of (fun vs H Q E h => ?_) (fun cdv A outer s H vs Q E hr h => ?_)
    · obtain ⟨_, _, rfl, _⟩ := h
      rfl
    · obtain ⟨v, F, rfl, hF, h1, hs, h2, hQ⟩ := h
      refine ⟨_, pss_cons (ps_expr (pe_call G1 (hr.mono (Nat.le_add_right 2 d)) rfl z.g_need_need z.k_need_need b1 .nil passF (pa_cons pe_str (pa_cons (pv 0) pa_nil))))
        (pss_cons (ps_if (pt_val (pe_callB call_isi rfl z.b_isinstance (by decide +kernel) (pa_cons (pv 0) (pa_cons (pe_glob (v := .ref (ga K "Has")) rfl z.g_Has rfl) pa_nil)))) (pss_one (ps_ret pe_int)) pss_nil)
        (pss_one (ps_ret (pe_op op_add pe_int (pe_callB (cr_sum rfl) rfl z.b_sum (by decide +kernel) (pa_cons (pe_lc (own := [("part", 1)]) (g := gName 1) (tt := tYes) rfl sc_many_of.nd (pi_tup (pe_fld (pv 0) rfl)) (blkOk_by (N := ["need", "part"]) (sc := defScope s_many_of) (by decide +kernel)) (fun _ _ _ _ _ => pg_name (i := 1) sc_many_of.nd rfl (Or.inl rfl)) (fun _ _ _ _ _ => pts_nil) (fun _ _ _ _ _ => pe_call G hr rfl z.g_many_of z.k_many_of b .nil passF (pa_cons (pv 1) pa_nil))) pa_nil)))))), ?_⟩
      refine ⟨v, rfl, _, v, F, rfl, hF, h1, fun H1 g1 => ?_⟩
      obtain ⟨c, hc, ty, hk⟩ := need_ty z (hF.grow g1) h1
      refine ⟨v, rfl, _, _, _, _, _, rfl, .own _, ty, kit_has z hc, _, rfl, ?_⟩
      rcases hk with ⟨s, a, dx, rfl, rfl, rfl, ha⟩ | ⟨k, m, kids, a, dx, p, kvs, rfl, rfl, hne, ha, hp, tk⟩
      · exact iteT (hQ H1 g1)
      · rw [decide_eq_false hne]
        obtain ⟨C, fs, eO, cl, na, lk⟩ := parts_of z k m dx p
        rw [eO] at ha
        have hn := tk.len
        have hd : kids.deep ≤ d := by
          have e : max (1 + kids.deep) 0 ≤ d + 1 := h2
          omega
        refine iteF ⟨_, rfl, a, C, dx, fs, _, rfl, ha, cl, na, lk, p, rfl, ⟨_, SqT.of hp⟩, fun D hD => ?_⟩
        have dl := kids.sizes_len
        have hks : kids.size ≤ 1000 := by
          have e : 1 + kids.size + 0 ≤ 1000 := hs
          omega
        have hkl := len_size kids
        refine lc_tupG (kids.sizes.map fun n : Nat => V.int (n : Int)) hD hp (by rw [List.length_map, dl, hn]) (by rw [hn, sizeLine_eq]; omega) (by show 1 < 2; decide) (fun j x y σ2 H2 R hx hy hv g2 hR => ?_) (fun H3 g3 hD3 => ?_)
        · obtain ⟨q1, q2, q3, q4⟩ := tk.get hx
          have hj : j < kids.len := by
            rw [← hn]
            exact (List.getElem?_eq_some_iff.mp hx).1
          have ey : y = .int ((kids.at j).size : Int) := by
            rw [List.getElem?_map, kids.sizes_at j hj] at hy
            exact (Option.some.inj hy).symm
          refine ⟨_, hv, x, kids.at j, rfl, q1.grow g2, q4, Nat.le_trans (at_size kids j) hks, Nat.le_trans q2 hd, fun H4 g4 => ?_⟩
          rw [← ey]
          exact hR H4 g4
        · have e1 : (kids.sizes.map fun n : Nat => V.int (n : Int)) = (kids.sizes.map fun n : Nat => (n : Int)).map V.int := by rw [List.map_map]; rfl
          rw [e1] at hD3
          refine ⟨D, _, rfl, SqL.of hD3, _, _, rfl, rfl, ?_⟩
          have es : ∀ l : List Nat, (l.map fun n : Nat => (n : Int)).sum = ((l.sum : Nat) : Int) := fun l => by
            induction l with
            | nil => rfl
            | cons n l ih =>
              rw [List.map_cons, List.sum_cons, List.sum_cons, ih]
              omega
          have e3 : (1 : Int) + (kids.sizes.map fun n : Nat => (n : Int)).sum = ((Fo.node k m kids .nil).size : Int) := by
            rw [es, kids.sizes_sum]
            show (1 : Int) + (kids.size : Int) = ((1 + kids.size + 0 : Nat) : Int)
            omega
          have q := hQ _ (g1.trans g3)
          rw [← e3] at q
          exact q
theorem sum_cast : ∀ l : List Nat, (l.map fun n : Nat => (n : Int)).sum = ((l.sum : Nat) : Int)
  | [] => rfl
  | n :: l => by
    rw [List.map_cons, List.sum_cons, List.sum_cons, sum_cast l]
    omega
/-! ### need_parts -/
theorem sc_need_parts : FnScope ["parts", "part"] ["parts"] (defScope s_need_parts) := ⟨rfl, rfl, rfl, by decide +kernel, rfl, by decide +kernel, by decide +kernel⟩
def sp_need_parts (K : PySem.W.Frag) : Sp := fun vs H Q _ => ∃ (p : Addr) (kvs : List V) (F : Fo), vs = [.ref p] ∧ H p = some (.tup kvs) ∧ NeedsAt K H F kvs ∧ F.len ≤ 8 ∧ F.deep ≤ 5 ∧ F.size ≤ 29 ∧ ∀ H', Grow H H' → Q (.ref p) H'
theorem ok_need_parts (z : Z P w K mg base) : ∃ fd, FnOk P w K mg base (L2.CX P w) 8 (ga K "need_parts") fd ["parts"] (sp_need_parts K) ∧ Binds K fd ["parts"] [] := by
  obtain ⟨f1, G1, b1⟩ := ok_need_need z
  obtain ⟨f2, G2, b2⟩ := ok_deep_of z
  obtain ⟨f3, G3, b3⟩ := ok_many_of z
  obtain ⟨fd, F⟩ := z.f_need_parts
  refine ⟨fd, F.ok sc_need_parts (fun vs H Q E h => ?_) (fun cdv A outer s H vs Q E hr h => ?_), F.bindsN fun _ _ _ _ _ _ us hl => match us, hl with | [_], _ => rfl⟩
  · obtain ⟨_, _, _, rfl, _⟩ := h
    rfl
  · obtain ⟨p, kvs, F, rfl, hp, hF, l8, d5, s29, hQ⟩ := h
    obtain ⟨t1, i1⟩ := z.i_WIDEST
    obtain ⟨t2, i2⟩ := z.i_DEEPEST
    obtain ⟨t3, i3⟩ := z.i_LARGEST
    have hn := hF.len
    refine ⟨_, pss_cons (ps_if (pt_cmpR op_gt (pe_callB call_len rfl z.b_len (by decide +kernel) (pa_cons (pv 0) pa_nil)) (pe_glob (v := .int 8) rfl i1 ⟨_, rfl⟩) (nomark _)) (pss_one ps_never) pss_nil)
      (pss_cons (ps_for PassesOwn.leaving rfl (pi_tup (pv 0)) (pg_name (i := 1) sc_need_parts.nd rfl (Or.inl rfl)) (pss_one (ps_expr (pe_call G1 (hr.mono (by decide)) rfl z.g_need_need z.k_need_need b1 .nil passF (pa_cons pe_str (pa_cons (pv 1) pa_nil))))))
      (pss_cons (ps_if (PW.pt (pw_and (pt_truth (pv 0) (by intro _; rfl)) (pw_and1 (pt_cmpR op_gt (pe_op op_add (pe_callB (cr_max rfl) rfl z.b_max (by decide +kernel) (pa_cons (pe_lc (own := [("part", 1)]) (g := gName 1) (tt := tYes) rfl sc_need_parts.nd (pi_tup (pv 0)) (blkOk_by (N := ["parts", "part"]) (sc := defScope s_need_parts) (by decide +kernel)) (fun _ _ _ _ _ => pg_name (i := 1) sc_need_parts.nd rfl (Or.inl rfl)) (fun _ _ _ _ _ => pts_nil) (fun _ _ _ _ _ => pe_call (G2 5) hr rfl z.g_deep_of z.k_deep_of b2 .nil passF (pa_cons (pv 1) pa_nil))) pa_nil)) pe_int) (pe_glob (v := .int 6) rfl i2 ⟨_, rfl⟩) (nomark _))))) (pss_one ps_never) pss_nil)
      (pss_cons (ps_if (pt_cmpR op_gt (pe_op op_add (pe_callB (cr_sum rfl) rfl z.b_sum (by decide +kernel) (pa_cons (pe_lc (own := [("part", 1)]) (g := gName 1) (tt := tYes) rfl sc_need_parts.nd (pi_tup (pv 0)) (blkOk_by (N := ["parts", "part"]) (sc := defScope s_need_parts) (by decide +kernel)) (fun _ _ _ _ _ => pg_name (i := 1) sc_need_parts.nd rfl (Or.inl rfl)) (fun _ _ _ _ _ => pts_nil) (fun _ _ _ _ _ => pe_call (G3 5) hr rfl z.g_many_of z.k_many_of b3 .nil passF (pa_cons (pv 1) pa_nil))) pa_nil)) pe_int) (pe_glob (v := .int 30) rfl i3 ⟨_, rfl⟩) (nomark _)) (pss_one ps_never) pss_nil)
      (pss_one (ps_ret (pe_callTy call_tupleT rfl z.b_tuple (by decide +kernel) (pa_cons (pv 0) pa_nil))))))), ?_⟩
    refine ⟨_, rfl, _, _, rfl, .inr ⟨_, SqT.of hp, rfl⟩, _, _, rfl, rfl, _, rfl, ?_⟩
    rw [decide_eq_false (by omega)]
    refine iteF ⟨_, rfl, p, rfl, ⟨_, SqT.of hp⟩, ?_⟩
    refine for_it walk_tup (fun k σ' H' => Grow H H' ∧ σ'[0]? = some (some (.ref p)) ∧ σ'.length = 2) ⟨Grow.refl H, rfl, rfl⟩ (fun k σ' H' _ q => SqT.of (q.1 _ _ hp)) (fun k x σ' H1 H2 hk q y => ?_) fun σ' H1 q => ?_
    · obtain ⟨g, q0, q1⟩ := q
      obtain ⟨rfl, hx⟩ := y
      obtain ⟨n1, n2, n3, n4⟩ := hF.get hx
      refine ⟨x, ?_, ?_⟩
      · show (σ'.set 1 (some x))[1]? = _
        rw [List.getElem?_set_self (by omega)]
      · refine ⟨_, x, F.at k, rfl, n1.grow g, n4, fun H3 g3 => ?_⟩
        refine ⟨g.trans g3, ?_, ?_⟩
        · show (σ'.set 1 (some x))[0]? = _
          rw [List.getElem?_set_ne (by decide)]
          exact q0
        · show (σ'.set 1 (some x)).length = 2
          rw [List.length_set]
          exact q1
    · obtain ⟨g, q0, q1⟩ := q
      have hp1 := g _ _ hp
      have hF1 := hF.grow g
      have hkl := len_size F
      have fin : ∀ H2, Grow H1 H2 → tSeq (tIfS (tTest (tOp (rI0 fun i j => .bl (decide (j < i))) (tOp (rI0 fun i j => .int (i + j)) (tCB (rSum K) (tCons (tLc (iTup K (tVar 0)) (gName 1) tYes (tCall (sp_many_of K 5) [] (fun _ _ _ => False) (tCons (tVar 1) tNil)) [1]) tNil)) (tC (.int 1))) (tC (.int 30)))) tNever tNext) (tRet (tCB (fun xs H Q => ∃ a ys, xs = [V.ref a] ∧ SqT K H a ys ∧ Q (.ref a) H) (tCons (tVar 0) tNil))) { nx := fun _ H' => Q .non H', rt := Q } σ' H2 := fun H2 g2 => by
        refine ⟨_, q0, p, rfl, ⟨_, SqT.of (g2 _ _ hp1)⟩, fun D hD => ?_⟩
        have dl := F.sizes_len
        refine lc_tupG (F.sizes.map fun n : Nat => V.int (n : Int)) hD (g2 _ _ hp1) (by rw [List.length_map, dl, hn]) (by rw [hn, sizeLine_eq]; omega) (by omega) (fun j x y σ2 H3 R hx hy hv g3 hR => ?_) (fun H3 g3 hD3 => ?_)
        · obtain ⟨n1, n2, n3, n4⟩ := hF1.get hx
          have hj : j < F.len := by
            rw [← hn]
            exact (List.getElem?_eq_some_iff.mp hx).1
          have ey : y = .int ((F.at j).size : Int) := by
            rw [List.getElem?_map, F.sizes_at j hj] at hy
            exact (Option.some.inj hy).symm
          refine ⟨_, hv, x, F.at j, rfl, (n1.grow g2).grow g3, n4, Nat.le_trans (at_size F j) (by omega), Nat.le_trans n2 d5, fun H4 g4 => ?_⟩
          rw [← ey]
          exact hR H4 g4
        · have e1 : (F.sizes.map fun n : Nat => V.int (n : Int)) = (F.sizes.map fun n : Nat => (n : Int)).map V.int := by rw [List.map_map]; rfl
          rw [e1] at hD3
          refine ⟨D, _, rfl, SqL.of hD3, _, _, rfl, rfl, _, _, rfl, rfl, _, rfl, ?_⟩
          have e3 : (F.sizes.map fun n : Nat => (n : Int)).sum = (F.size : Int) := by rw [sum_cast, F.sizes_sum]
          rw [e3, decide_eq_false (by omega)]
          exact iteF ⟨_, q0, p, _, rfl, SqT.of (g3 _ _ (g2 _ _ hp1)), hQ _ ((g.trans g2).trans g3)⟩
      refine ⟨_, q0, _, .inr (.inl ⟨_, SqT.of hp1, rfl⟩), ?_⟩
      cases kvs with
      | nil => exact iteF (fin H1 (Grow.refl H1))
      | cons v0 kv0 =>
        refine iteT ⟨_, q0, p, rfl, ⟨_, SqT.of hp1⟩, fun D hD => ?_⟩
        have dl := F.deeps_len
        refine lc_tupG (F.deeps.map fun n : Nat => V.int (n : Int)) hD hp1 (by rw [List.length_map, dl, hn]) (by rw [hn, sizeLine_eq]; omega) (by omega) (fun j x y σ2 H3 R hx hy hv g3 hR => ?_) (fun H3 g3 hD3 => ?_)
        · obtain ⟨n1, n2, n3, n4⟩ := hF1.get hx
          have hj : j < F.len := by
            rw [← hn]
            exact (List.getElem?_eq_some_iff.mp hx).1
          have ey : y = .int ((F.at j).deep : Int) := by
            rw [List.getElem?_map, F.deeps_at j hj] at hy
            exact (Option.some.inj hy).symm
          refine ⟨_, hv, x, F.at j, rfl, n1.grow g3, n4, Nat.le_trans (at_size F j) (by omega), Nat.le_trans n2 d5, fun H4 g4 => ?_⟩
          rw [← ey]
          exact hR H4 g4
        · have e1 : (F.deeps.map fun n : Nat => V.int (n : Int)) = (F.deeps.map fun n : Nat => (n : Int)).map V.int := by rw [List.map_map]; rfl
          rw [e1] at hD3
          refine ⟨D, _, rfl, SqL.of hD3, by rw [List.length_map, dl, ← hn]; exact Nat.succ_pos _, fun m hm hle => ⟨_, _, rfl, rfl, _, _, rfl, rfl, _, rfl, ?_⟩⟩
          obtain ⟨n, hn1, rfl⟩ := List.mem_map.mp hm
          have u1 := F.deep_max.1 n hn1
          rw [decide_eq_false (by omega)]
          exact iteF (fin H3 g3)
end
end K80

set_option Elab.async false
set_option linter.all false
set_option maxRecDepth 100000
set_option maxHeartbeats 4000000
namespace K80
open PySem PySem.Spec PyProof.Rows L2 SX StX
open He (ga ma)
section
variable {P : Program} {w : World} {K : PySem.W.Frag} {mg : Str → Option Value} {base : Heap}
/-- the parts within a need are as they must be -/
def Fits (F : Fo) : Prop := F.len ≤ 8 ∧ F.deep ≤ 5 ∧ F.size ≤ 29
/-- C(*parts) -/
def sp_node (K : PySem.W.Frag) (C : Str) (k : Kd) : Sp := fun vs H Q _ => ∃ (a dx p : Addr) (kvs : List V) (F : Fo), vs = [.ref a, .ref p] ∧ H a = some (.ins (ga K C) dx []) ∧ H p = some (.tup kvs) ∧ NeedsAt K H F kvs ∧ Fits F ∧ ∀ H', But a H H' → H' a = some (nodeO K k 0 dx p) → Q .non H'
def sp_nodeR (K : PySem.W.Frag) (C : Str) (k : Kd) : Sp := fun vs H Q E => ∃ ws rest, vs = ws ++ rest ∧ ws.length = 1 ∧ rest.length ≤ sizeLine ∧ ∀ p, H p = none → sp_node K C k (ws ++ [V.ref p]) (upd H p (.tup rest)) Q E
theorem sc_Every : FnScope ["self", "parts"] ["self", "parts"] (defScope s_Every___init__) := ⟨rfl, rfl, rfl, by decide +kernel, rfl, by decide +kernel, by decide +kernel⟩
theorem ok_Every (z : Z P w K mg base) : FnR P w K mg base (L2.CX P w) 9 (ma K (ga K "Every") "__init__") (sp_nodeR K "Every" .every) := by
  obtain ⟨f1, G1, b1⟩ := ok_need_parts z
  obtain ⟨fd, F⟩ := z.f_Every___init__
  obtain ⟨oc, od, dV, kV, doc, pm, an, cdv, ct, osl, rfl, lk, hcd, hD, hK⟩ := F.ex
  obtain rfl : dV = .none := by
    rcases hD with ⟨_, e⟩ | ⟨e, _⟩
    · exact e
    · exact absurd rfl e
  refine fn_star (ps := ["self"]) (pv := "parts") lk hcd sc_Every cxUp (bind_star1 (B := fun us => bindArgs (PySem.W.fnOf "__init__" "Every.__init__" (defArgs s_Every___init__) (defBody s_Every___init__) (defScope s_Every___init__) .none kV doc pm an cdv ct) ⟨us, []⟩) (fun a => rfl) (fun a r rs => rfl)) fun A outer s H vs Q E hr h => ?_
  obtain ⟨a, dx, p, kvs, F, rfl, ha, hp, hF, hf, hQ⟩ := h
  refine ⟨_, pss_cons (ps_fld (pv 0) (pe_call G1 hr rfl z.g_need_parts z.k_need_parts b1 .nil passF (pa_cons (pv 1) pa_nil)) rfl) (pss_one (ps_fld (pv 0) pe_str rfl)), ?_⟩
  refine ⟨_, rfl, p, kvs, F, rfl, hp, hF, hf.1, hf.2.1, hf.2.2, fun H' g => ⟨_, rfl, a, _, dx, _, rfl, g _ _ ha, z.cl_Every, z.na_Every_parts, by decide, ?_⟩⟩
  refine ⟨_, rfl, a, _, dx, _, rfl, upd_same, z.cl_Every, z.na_Every_word, by show 1 < 1000; decide, ?_⟩
  exact hQ _ (But.upd (But.upd (But.grow g))) upd_same
theorem sc_Some : FnScope ["self", "parts"] ["self", "parts"] (defScope s_Some___init__) := ⟨rfl, rfl, rfl, by decide +kernel, rfl, by decide +kernel, by decide +kernel⟩
theorem ok_Some (z : Z P w K mg base) : FnR P w K mg base (L2.CX P w) 9 (ma K (ga K "Some") "__init__") (sp_nodeR K "Some" .some) := by
  obtain ⟨f1, G1, b1⟩ := ok_need_parts z
  obtain ⟨fd, F⟩ := z.f_Some___init__
  obtain ⟨oc, od, dV, kV, doc, pm, an, cdv, ct, osl, rfl, lk, hcd, hD, hK⟩ := F.ex
  obtain rfl : dV = .none := by
    rcases hD with ⟨_, e⟩ | ⟨e, _⟩
    · exact e
    · exact absurd rfl e
  refine fn_star (ps := ["self"]) (pv := "parts") lk hcd sc_Some cxUp (bind_star1 (B := fun us => bindArgs (PySem.W.fnOf "__init__" "Some.__init__" (defArgs s_Some___init__) (defBody s_Some___init__) (defScope s_Some___init__) .none kV doc pm an cdv ct) ⟨us, []⟩) (fun a => rfl) (fun a r rs => rfl)) fun A outer s H vs Q E hr h => ?_
  obtain ⟨a, dx, p, kvs, F, rfl, ha, hp, hF, hf, hQ⟩ := h
  refine ⟨_, pss_cons (ps_fld (pv 0) (pe_call G1 hr rfl z.g_need_parts z.k_need_parts b1 .nil passF (pa_cons (pv 1) pa_nil)) rfl) (pss_one (ps_fld (pv 0) pe_str rfl)), ?_⟩
  refine ⟨_, rfl, p, kvs, F, rfl, hp, hF, hf.1, hf.2.1, hf.2.2, fun H' g => ⟨_, rfl, a, _, dx, _, rfl, g _ _ ha, z.cl_Some, z.na_Some_parts, by decide, ?_⟩⟩
  refine ⟨_, rfl, a, _, dx, _, rfl, upd_same, z.cl_Some, z.na_Some_word, by show 1 < 1000; decide, ?_⟩
  exact hQ _ (But.upd (But.upd (But.grow g))) upd_same
def sp_few (K : PySem.W.Frag) : Sp := fun vs H Q _ => ∃ (a dx p : Addr) (m : Int) (kvs : List V) (F : Fo), vs = [.ref a, .int m, .ref p] ∧ H a = some (.ins (ga K "Few") dx []) ∧ H p = some (.tup kvs) ∧ NeedsAt K H F kvs ∧ Fits F ∧ 1 ≤ m ∧ m ≤ 8 ∧ m ≤ F.len ∧ ∀ H', But a H H' → H' a = some (nodeO K .few m dx p) → Q .non H'
def sp_fewR (K : PySem.W.Frag) : Sp := fun vs H Q E => ∃ ws rest, vs = ws ++ rest ∧ ws.length = 2 ∧ rest.length ≤ sizeLine ∧ ∀ p, H p = none → sp_few K (ws ++ [V.ref p]) (upd H p (.tup rest)) Q E
theorem sc_Few : FnScope ["self", "many", "parts"] ["self", "many", "parts"] (defScope s_Few___init__) := ⟨rfl, rfl, rfl, by decide +kernel, rfl, by decide +kernel, by decide +kernel⟩
theorem ok_Few (z : Z P w K mg base) : FnR P w K mg base (L2.CX P w) 9 (ma K (ga K "Few") "__init__") (sp_fewR K) := by
  obtain ⟨f1, G1, b1⟩ := ok_need_parts z
  obtain ⟨f2, G2, b2⟩ := ok_need_integer z
  obtain ⟨t1, i1⟩ := z.i_WIDEST
  obtain ⟨fd, F⟩ := z.f_Few___init__
  obtain ⟨oc, od, dV, kV, doc, pm, an, cdv, ct, osl, rfl, lk, hcd, hD, hK⟩ := F.ex
  obtain rfl : dV = .none := by
    rcases hD with ⟨_, e⟩ | ⟨e, _⟩
    · exact e
    · exact absurd rfl e
  refine fn_star (ps := ["self", "many"]) (pv := "parts") lk hcd sc_Few cxUp (bind_star2 (B := fun us => bindArgs (PySem.W.fnOf "__init__" "Few.__init__" (defArgs s_Few___init__) (defBody s_Few___init__) (defScope s_Few___init__) .none kV doc pm an cdv ct) ⟨us, []⟩) (fun a b => rfl) (fun a b r rs => rfl)) fun A outer s H vs Q E hr h => ?_
  obtain ⟨a, dx, p, m, kvs, F, rfl, ha, hp, hF, hf, m1, m8, ml, hQ⟩ := h
  refine ⟨_, pss_cons (ps_expr (pe_call G2 (hr.mono (by decide)) rfl z.g_need_integer z.k_need_integer b2 .nil passF (pa_cons pe_str (pa_cons (pv 1) (pa_cons pe_int (pa_cons (pe_glob (v := .int 8) rfl i1 ⟨_, rfl⟩) pa_nil))))))
    (pss_cons (ps_fld (pv 0) (pe_call G1 hr rfl z.g_need_parts z.k_need_parts b1 .nil passF (pa_cons (pv 2) pa_nil)) rfl)
    (pss_cons (ps_if (pt_cmpR op_gt (pv 1) (pe_callB call_len rfl z.b_len (by decide +kernel) (pa_cons (pe_fld (pv 0) rfl) pa_nil)) (nomark _)) (pss_one ps_never) pss_nil)
    (pss_cons (ps_fld (pv 0) (pv 1) rfl) (pss_one (ps_fld (pv 0) pe_str rfl))))), ?_⟩
  refine ⟨_, rfl, _, m, 1, 8, rfl, m1, m8, ?_⟩
  refine ⟨_, rfl, p, kvs, F, rfl, hp, hF, hf.1, hf.2.1, hf.2.2, fun H' g => ⟨_, rfl, a, _, dx, _, rfl, g _ _ ha, z.cl_Few, z.na_Few_parts, by decide, ?_⟩⟩
  have np : p ≠ a := fun e => by
    rw [e, ha] at hp
    cases hp
  have hp1 : upd H' a (.ins (ga K "Few") dx (putF "parts" (.ref p) [])) p = some (.tup kvs) := by
    rw [upd_ne np]
    exact g _ _ hp
  refine ⟨_, rfl, _, rfl, a, _, dx, _, _, rfl, upd_same, z.cl_Few, z.na_Few_parts, rfl, _, _, rfl, .inr ⟨_, SqT.of hp1, rfl⟩, _, _, rfl, rfl, _, rfl, ?_⟩
  have hn := hF.len
  rw [decide_eq_false (by omega)]
  refine iteF ⟨_, rfl, _, rfl, a, _, dx, _, rfl, upd_same, z.cl_Few, z.na_Few_many, by show 1 < 1000; decide, ?_⟩
  refine ⟨_, rfl, a, _, dx, _, rfl, upd_same, z.cl_Few, z.na_Few_word, by show 2 < 1000; decide, ?_⟩
  refine hQ _ (But.upd (But.upd (But.upd (But.grow g)))) ?_
  rw [upd_same]
  show some (HO.ins (ga K "Few") dx [("parts", .ref p), ("many", .int m), ("word", .str "few")]) = some (HO.ins (ga K "Few") dx [("parts", .ref p), ("many", .int (small m)), ("word", .str "few")])
  rw [small_ok ⟨by omega, by omega⟩]
end
end K80

set_option Elab.async false
set_option linter.all false
set_option maxRecDepth 100000
set_option maxHeartbeats 4000000
namespace K80
open PySem PySem.Spec PyProof.Rows L2 SX StX
open He (ga ma)
/-- a scan: its words' list, where it stands -/
def scanO (K : PySem.W.Frag) (dx wl : Addr) (i : Nat) : HO := .ins (ga K "Scan") dx [("words", .ref wl), ("at", .int i)]
def badO (i : Nat) : HO := .xd [("item", .int i)]
structure ScanAt (K : PySem.W.Frag) (H : Hp) (sc dx wl : Addr) (ws : List Str) (i : Nat) : Prop where
  s : H sc = some (scanO K dx wl i)
  w : H wl = some (.lst (ws.map V.str))
  l : ws.length ≤ 1000000
  i : i ≤ ws.length
  z : ∀ y ∈ ws, y.length ≤ 1000000
/-- the error of item i leaves, whatever was added -/
def Refuses (K : PySem.W.Frag) (H : Hp) (i : Nat) (E : XK) : Prop := ∀ d H1, Grow H H1 → H1 d = some (badO i) → E (.ref (ga K "BadText")) (some d) H1
theorem ScanAt.but {K : PySem.W.Frag} {H H' : Hp} {sc dx wl : Addr} {ws : List Str} {i j : Nat} (h : ScanAt K H sc dx wl ws i) (g : But sc H H') (e : H' sc = some (scanO K dx wl j)) (hj : j ≤ ws.length) : ScanAt K H' sc dx wl ws j :=
  ⟨e, g _ _ h.w (fun q => by
    have e1 := h.s
    rw [← q, h.w] at e1
    cases e1), h.l, hj, h.z⟩
theorem ScanAt.grow {K : PySem.W.Frag} {H H' : Hp} {sc dx wl : Addr} {ws : List Str} {i : Nat} (h : ScanAt K H sc dx wl ws i) (g : Grow H H') : ScanAt K H' sc dx wl ws i := ⟨g _ _ h.s, g _ _ h.w, h.l, h.i, h.z⟩
theorem inV_str (y : Str) : ∀ cs : List Str, inV (.str y) (cs.map V.str) = decide (y ∈ cs)
  | [] => rfl
  | c :: cs => by
    show (eqV (.str c) (.str y) || inV (.str y) (cs.map V.str)) = _
    rw [inV_str y cs]
    have e : eqV (.str c) (.str y) = decide (y = c) := by
      show (c == y) = decide (y = c)
      by_cases h : y = c
      · rw [h]
        simp
      · rw [decide_eq_false h]
        exact beq_eq_false_iff_ne.mpr fun q => h q.symm
    rw [e]
    by_cases h : y = c
    · rw [decide_eq_true h, decide_eq_true (show y ∈ c :: cs by rw [h]; exact List.mem_cons_self), Bool.true_or]
    · rw [decide_eq_false h, Bool.false_or]
      by_cases h2 : y ∈ cs
      · rw [decide_eq_true h2, decide_eq_true (List.mem_cons_of_mem _ h2)]
      · rw [decide_eq_false h2, decide_eq_false fun q => (List.mem_cons.mp q).elim h h2]
theorem flat_strs : ∀ cs : List Str, (cs.map V.str).all flatV = true
  | [] => rfl
  | c :: cs => by
    show (true && (cs.map V.str).all flatV) = true
    rw [flat_strs cs]
    rfl
section
variable {P : Program} {w : World} {K : PySem.W.Frag} {mg : Str → Option Value} {base : Heap}
theorem okv_nat {i : Nat} (h : i ≤ 1000000) : Okv (.int (i : Int)) := .inr ⟨_, rfl, by
  have e : ((i : Int)).natAbs = i := by omega
  rw [e]
  exact Nat.lt_of_le_of_lt h (by decide)⟩
/-! ### BadText, refuse -/
theorem sc_BadText : SScope ["self", "item"] (defScope s_BadText___init__) := ⟨rfl, rfl, rfl, by decide +kernel, by decide +kernel, rfl, rfl, by decide +kernel, fun y h => (by decide +kernel : ∀ p ∈ (defScope s_BadText___init__).names, p.2 = NameKind.free → p.1 = ("__class__" : Str)) _ (PySem.mem_of_lookup h) rfl⟩
theorem na_item (z : Z P w K mg base) : PySem.W.findIn K (.ref (ga K "BadText")) "item" = some none := z.na_BadText_item
theorem ok_BadText (z : Z P w K mg base) : ∃ fd, FnOk P w K mg base (L2.CX P w) 1 (ma K (ga K "BadText") "__init__") fd ["self", "item"] (spI (ga K "BadText") "item") ∧ Binds K fd ["self", "item"] [] := by
  obtain ⟨fd, F, doc, pm, an, ct, e⟩ := ok_init1 (mg := mg) (base := base) (w := w) (CX := L2.CX P w) (part := "item") (fld := "item") (lit := "cannot stand: item ") z.s_BadText.t sc_BadText rfl z.b_super (by decide) (by decide) (by decide) z.na_BadText_item (he := fun _ => rfl)
  refine ⟨fd, F, ?_⟩
  rw [e]
  exact Binds.all fun us hl => match us, hl with | [_, _], _ => rfl
theorem sc_refuse : FnScope ["self"] ["self"] (defScope s_Scan_refuse) := ⟨rfl, rfl, rfl, by decide +kernel, rfl, by decide +kernel, by decide +kernel⟩
def sp_refuse (K : PySem.W.Frag) : Sp := fun vs H _ E => ∃ (sc dx wl : Addr) (ws : List Str) (i : Nat), vs = [.ref sc] ∧ ScanAt K H sc dx wl ws i ∧ Refuses K H i E
theorem ok_refuse (z : Z P w K mg base) : ∃ fd, FnOk P w K mg base (L2.CX P w) 3 (ma K (ga K "Scan") "refuse") fd ["self"] (sp_refuse K) ∧ Binds K fd ["self"] [] := by
  obtain ⟨f1, F1, b1⟩ := ok_BadText z
  obtain ⟨fd, F⟩ := z.f_Scan_refuse
  refine ⟨fd, F.ok sc_refuse (fun vs H Q E h => ?_) (fun cdv A outer s H vs Q E hr h => ?_), F.bindsN fun _ _ _ _ _ _ us hl => match us, hl with | [_], _ => rfl⟩
  · obtain ⟨_, _, _, _, _, rfl, _⟩ := h
    rfl
  · obtain ⟨sc, dx, wl, ws, i, rfl, hS, hE⟩ := h
    refine ⟨_, pss_one (ps_rz rfl (takes_of rfl rfl rfl rfl) z.s_BadText.t.oex z.s_BadText.init z.s_BadText.ty F1 hr b1 rfl z.g_BadText (pa_cons (pe_fld (pv 0) rfl) pa_nil)), ?_⟩
    refine ⟨_, rfl, sc, _, dx, _, _, rfl, hS.s, z.cl_Scan, z.na_Scan_at, rfl, mkO_of (okv_nat (Nat.le_trans hS.i hS.l)) fun d hd => ?_⟩
    exact hE d _ (Grow.new hd) upd_same
/-! ### is_over, sees, next -/
theorem sc_is_over : FnScope ["self"] ["self"] (defScope s_Scan_is_over) := ⟨rfl, rfl, rfl, by decide +kernel, rfl, by decide +kernel, by decide +kernel⟩
def sp_is_over (K : PySem.W.Frag) : Sp := fun vs H Q _ => ∃ (sc dx wl : Addr) (ws : List Str) (i : Nat), vs = [.ref sc] ∧ ScanAt K H sc dx wl ws i ∧ Q (.bl (decide (i = ws.length))) H
theorem ok_is_over (z : Z P w K mg base) : ∃ fd, FnOk P w K mg base (L2.CX P w) 1 (ma K (ga K "Scan") "is_over") fd ["self"] (sp_is_over K) ∧ Binds K fd ["self"] [] := by
  obtain ⟨fd, F⟩ := z.f_Scan_is_over
  refine ⟨fd, F.ok sc_is_over (fun vs H Q E h => ?_) (fun cdv A outer s H vs Q E hr h => ?_), F.bindsN fun _ _ _ _ _ _ us hl => match us, hl with | [_], _ => rfl⟩
  · obtain ⟨_, _, _, _, _, rfl, _⟩ := h
    rfl
  · obtain ⟨sc, dx, wl, ws, i, rfl, hS, hQ⟩ := h
    refine ⟨_, pss_one (ps_ret (pe_cmpR op_eq (pe_fld (pv 0) rfl) (pe_callB call_len rfl z.b_len (by decide +kernel) (pa_cons (pe_fld (pv 0) rfl) pa_nil)) (nomark _))), ?_⟩
    refine ⟨_, rfl, sc, _, dx, _, _, rfl, hS.s, z.cl_Scan, z.na_Scan_at, rfl, _, rfl, sc, _, dx, _, _, rfl, hS.s, z.cl_Scan, z.na_Scan_words, rfl, _, _, rfl, .inl ⟨_, SqL.of hS.w, rfl⟩, rfl, ?_⟩
    rw [List.length_map]
    have e : decide (V.int (i : Int) = V.int (ws.length : Int)) = decide (i = ws.length) := by
      by_cases h : i = ws.length
      · rw [decide_eq_true h, decide_eq_true (by rw [h])]
      · rw [decide_eq_false h, decide_eq_false fun q => h (by have := V.int.inj q; omega)]
    rw [e]
    exact hQ
theorem sc_sees : FnScope ["self", "word"] ["self", "word"] (defScope s_Scan_sees) := ⟨rfl, rfl, rfl, by decide +kernel, rfl, by decide +kernel, by decide +kernel⟩
def sp_sees (K : PySem.W.Frag) : Sp := fun vs H Q _ => ∃ (sc dx wl : Addr) (ws : List Str) (i : Nat) (y : Str), vs = [.ref sc, .str y] ∧ ScanAt K H sc dx wl ws i ∧ Q (.bl (decide (ws[i]? = some y))) H
theorem ok_sees (z : Z P w K mg base) : ∃ fd, FnOk P w K mg base (L2.CX P w) 2 (ma K (ga K "Scan") "sees") fd ["self", "word"] (sp_sees K) ∧ Binds K fd ["self", "word"] [] := by
  obtain ⟨f1, G1, b1⟩ := ok_is_over z
  obtain ⟨fd, F⟩ := z.f_Scan_sees
  refine ⟨fd, F.ok sc_sees (fun vs H Q E h => ?_) (fun cdv A outer s H vs Q E hr h => ?_), F.bindsN fun _ _ _ _ _ _ us hl => match us, hl with | [_, _], _ => rfl⟩
  · obtain ⟨_, _, _, _, _, _, rfl, _⟩ := h
    rfl
  · obtain ⟨sc, dx, wl, ws, i, y, rfl, hS, hQ⟩ := h
    refine ⟨_, pss_one (ps_ret (pe_and (pe_not (pe_meth0 (pv 0) z.cl_Scan z.me_Scan_is_over G1 hr b1 .nil passF)) (pe_one (pe_cmpR op_eq (pe_ix ix_list (pe_fld (pv 0) rfl) (pe_fld (pv 0) rfl) (fun _ _ => rfl)) (pv 1) (nomark _))))), ?_⟩
    refine ⟨_, rfl, sc, dx, _, rfl, hS.s, rfl, sc, dx, wl, ws, i, rfl, hS, _, rfl, _, rfl, ?_⟩
    by_cases h : i = ws.length
    · rw [decide_eq_true h]
      refine iteF ?_
      rw [decide_eq_false (by rw [h, List.getElem?_eq_none (Nat.le_refl _)]; exact fun q => nomatch q)] at hQ
      exact hQ
    · rw [decide_eq_false h]
      have hi : i < ws.length := Nat.lt_of_le_of_ne hS.i h
      refine iteT ⟨_, rfl, sc, _, dx, _, _, rfl, hS.s, z.cl_Scan, z.na_Scan_words, rfl, _, rfl, sc, _, dx, _, _, rfl, hS.s, z.cl_Scan, z.na_Scan_at, rfl, wl, _, _, _, rfl, rfl, SqL.of hS.w, atI_nat (j := i) (v := V.str ws[i]) (by rw [List.getElem?_map, List.getElem?_eq_getElem hi]; rfl), _, rfl, rfl, ?_⟩
      have e : decide (V.str ws[i] = V.str y) = decide (ws[i]? = some y) := by
        rw [List.getElem?_eq_getElem hi]
        by_cases h : ws[i] = y
        · rw [h, decide_eq_true rfl, decide_eq_true rfl]
        · rw [decide_eq_false fun q => h (V.str.inj q), decide_eq_false fun q => h (Option.some.inj q)]
      rw [e]
      exact hQ
theorem sc_next : FnScope ["self"] ["self"] (defScope s_Scan_next) := ⟨rfl, rfl, rfl, by decide +kernel, rfl, by decide +kernel, by decide +kernel⟩
def sp_next (K : PySem.W.Frag) : Sp := fun vs H Q E => ∃ (sc dx wl : Addr) (ws : List Str) (i : Nat), vs = [.ref sc] ∧ ScanAt K H sc dx wl ws i ∧ (∀ y, ws[i]? = some y → Q (.str y) H) ∧ (ws[i]? = none → Refuses K H i E)
theorem ok_next (z : Z P w K mg base) : ∃ fd, FnOk P w K mg base (L2.CX P w) 4 (ma K (ga K "Scan") "next") fd ["self"] (sp_next K) ∧ Binds K fd ["self"] [] := by
  obtain ⟨f1, G1, b1⟩ := ok_is_over z
  obtain ⟨f2, G2, b2⟩ := ok_refuse z
  obtain ⟨fd, F⟩ := z.f_Scan_next
  refine ⟨fd, F.ok sc_next (fun vs H Q E h => ?_) (fun cdv A outer s H vs Q E hr h => ?_), F.bindsN fun _ _ _ _ _ _ us hl => match us, hl with | [_], _ => rfl⟩
  · obtain ⟨_, _, _, _, _, rfl, _⟩ := h
    rfl
  · obtain ⟨sc, dx, wl, ws, i, rfl, hS, hQ, hE⟩ := h
    refine ⟨_, pss_cons (ps_if (pt_val (pe_meth0 (pv 0) z.cl_Scan z.me_Scan_is_over G1 (hr.mono (by decide)) b1 .nil passF)) (pss_one (ps_expr (pe_meth0 (pv 0) z.cl_Scan z.me_Scan_refuse G2 hr b2 .nil (passes_call (E := E) (takes_of rfl rfl rfl rfl) fun _ _ _ _ q => q)))) pss_nil)
      (pss_one (ps_ret (pe_ix ix_list (pe_fld (pv 0) rfl) (pe_fld (pv 0) rfl) (fun _ _ => rfl)))), ?_⟩
    refine ⟨_, rfl, sc, dx, _, rfl, hS.s, rfl, sc, dx, wl, ws, i, rfl, hS, _, rfl, ?_⟩
    by_cases h : i = ws.length
    · rw [decide_eq_true h]
      exact iteT ⟨_, rfl, sc, dx, _, rfl, hS.s, rfl, sc, dx, wl, ws, i, rfl, hS, hE (by rw [h, List.getElem?_eq_none (Nat.le_refl _)])⟩
    · rw [decide_eq_false h]
      have hi : i < ws.length := Nat.lt_of_le_of_ne hS.i h
      exact iteF ⟨_, rfl, sc, _, dx, _, _, rfl, hS.s, z.cl_Scan, z.na_Scan_words, rfl, _, rfl, sc, _, dx, _, _, rfl, hS.s, z.cl_Scan, z.na_Scan_at, rfl, wl, _, _, _, rfl, rfl, SqL.of hS.w, atI_nat (j := i) (v := V.str ws[i]) (by rw [List.getElem?_map, List.getElem?_eq_getElem hi]; rfl), hQ _ (List.getElem?_eq_getElem hi)⟩
end
end K80

set_option Elab.async false
set_option linter.all false
set_option maxRecDepth 100000
set_option maxHeartbeats 4000000
namespace K80
open PySem PySem.Spec PyProof.Rows L2 SX StX
open He (ga ma)
/-! ### figures -/
def valB (y : Str) : Int := (PySem.intText? y).getD 0
theorem sign_lt {a b : Nat} : ([a] : List Nat) < [b] ↔ a < b := by
  constructor
  · intro h
    cases h with
    | rel h => exact h
    | cons h => cases h
  · intro h
    exact List.Lex.rel h
theorem signB_iff {a b c : Nat} : signB ⟨#[a]⟩ ⟨#[b]⟩ ⟨#[c]⟩ = true ↔ a ≤ c ∧ c ≤ b := by
  unfold signB
  have e1 : ((⟨#[c]⟩ : Str).cps.toList < (⟨#[a]⟩ : Str).cps.toList) ↔ c < a := sign_lt
  have e2 : ((⟨#[b]⟩ : Str).cps.toList < (⟨#[c]⟩ : Str).cps.toList) ↔ b < c := sign_lt
  rw [Bool.and_eq_true, Bool.not_eq_true', Bool.not_eq_true', decide_eq_false_iff_not, decide_eq_false_iff_not, e1, e2]
  omega
theorem allB_digits {y : Str} (h : allB "0" "9" y = true) : ∀ c ∈ y.cps.toList, 48 ≤ c ∧ c ≤ 57 := fun c hc => signB_iff.mp (List.all_eq_true.mp h c hc)
theorem fig_parts {y : Str} (h : figB y = true) : 1 ≤ y.length ∧ y.length ≤ 60 ∧ allB "0" "9" y = true ∧ (y = "0" ∨ y.cps.toList.head? ≠ some 48) := by
  unfold figB at h
  rw [Bool.and_eq_true, Bool.and_eq_true, Bool.and_eq_true, Bool.or_eq_true, decide_eq_true_eq, decide_eq_true_eq, decide_eq_true_eq, Bool.not_eq_true', decide_eq_false_iff_not] at h
  exact h
theorem fig_int {y : Str} (h : figB y = true) : PySem.intText? y = some (valB y) ∧ y.length ≤ 640 := by
  obtain ⟨h1, h2, h3, _⟩ := fig_parts h
  have hne : y.cps.toList ≠ [] := fun e => by
    have : y.length = y.cps.toList.length := by simp [Str.length]
    rw [e] at this
    have : y.length = 0 := this
    omega
  have q := PySem.intText_digits (x := y) (fun c hc => allB_digits h3 c hc) hne (by omega)
  refine ⟨?_, by omega⟩
  unfold valB
  rw [q]
  rfl
section
variable {P : Program} {w : World} {K : PySem.W.Frag} {mg : Str → Option Value} {base : Heap}
theorem at_step {K : PySem.W.Frag} {H : Hp} {sc dx wl : Addr} {ws : List Str} {i : Nat} {y : Str} (h : ScanAt K H sc dx wl ws i) (hy : ws[i]? = some y) : ScanAt K (upd H sc (scanO K dx wl (i + 1))) sc dx wl ws (i + 1) :=
  h.but (But.upd (But.refl H)) upd_same (List.getElem?_eq_some_iff.mp hy).1
theorem sc_take : FnScope ["self", "words", "item"] ["self", "words"] (defScope s_Scan_take) := ⟨rfl, rfl, rfl, by decide +kernel, rfl, by decide +kernel, by decide +kernel⟩
def sp_take (K : PySem.W.Frag) : Sp := fun vs H Q E => ∃ (sc dx wl lw : Addr) (ws cs : List Str) (i : Nat), vs = [.ref sc, .ref lw] ∧ ScanAt K H sc dx wl ws i ∧ H lw = some (.lst (cs.map V.str)) ∧
  (∀ y, ws[i]? = some y → y ∈ cs → ∀ H', But sc H H' → ScanAt K H' sc dx wl ws (i + 1) → Q (.str y) H') ∧ ((∀ y, ws[i]? = some y → y ∉ cs) → Refuses K H i E)
theorem ok_take (z : Z P w K mg base) : ∃ fd, FnOk P w K mg base (L2.CX P w) 5 (ma K (ga K "Scan") "take") fd ["self", "words"] (sp_take K) ∧ Binds K fd ["self", "words"] [] := by
  obtain ⟨f1, G1, b1⟩ := ok_next z
  obtain ⟨f2, G2, b2⟩ := ok_refuse z
  obtain ⟨fd, F⟩ := z.f_Scan_take
  refine ⟨fd, F.ok sc_take (fun vs H Q E h => ?_) (fun cdv A outer s H vs Q E hr h => ?_), F.bindsN fun _ _ _ _ _ _ us hl => match us, hl with | [_, _], _ => rfl⟩
  · obtain ⟨_, _, _, _, _, _, _, rfl, _⟩ := h
    rfl
  · obtain ⟨sc, dx, wl, lw, ws, cs, i, rfl, hS, hL, hQ, hE⟩ := h
    refine ⟨_, pss_cons (ps_set (i := 2) sc_take.nd rfl (Or.inl rfl) (pe_meth0 (pv 0) z.cl_Scan z.me_Scan_next G1 hr b1 .nil (passes_call (E := E) (takes_of rfl rfl rfl rfl) fun _ _ _ _ q => q)))
      (pss_cons (ps_if (pt_cmpR op_notIn_seq (pv 2) (pv 1) (by rfl)) (pss_one (ps_expr (pe_meth0 (pv 0) z.cl_Scan z.me_Scan_refuse G2 (hr.mono (by decide)) b2 .nil (passes_call (E := E) (takes_of rfl rfl rfl rfl) fun _ _ _ _ q => q)))) pss_nil)
      (pss_cons (ps_fldaug (pv 0) pe_int in_add) (pss_one (ps_ret (pv 2))))), ?_⟩
    refine ⟨_, rfl, sc, dx, _, rfl, hS.s, rfl, sc, dx, wl, ws, i, rfl, hS, fun y hy => ?_, fun hn => hE fun y hy => by rw [hn] at hy; cases hy⟩
    refine ⟨_, rfl, _, rfl, lw, _, rfl, .inl (SqL.of hL), rfl, flat_strs cs, _, rfl, ?_⟩
    rw [inV_str]
    by_cases h : y ∈ cs
    · rw [decide_eq_true h]
      refine iteF ⟨_, rfl, sc, _, dx, _, _, rfl, hS.s, z.cl_Scan, z.na_Scan_at, rfl, _, _, rfl, rfl, dx, _, hS.s, by show 2 < 1000; decide, _, rfl, ?_⟩
      exact hQ y hy h _ (But.upd (But.refl H)) (at_step hS hy)
    · rw [decide_eq_false h]
      refine iteT ⟨_, rfl, sc, dx, _, rfl, hS.s, rfl, sc, dx, wl, ws, i, rfl, hS, hE fun y' hy' => ?_⟩
      rw [hy] at hy'
      cases hy'
      exact h
theorem sc_take_name : FnScope ["self", "let", "item"] ["self", "let"] (defScope s_Scan_take_name) := ⟨rfl, rfl, rfl, by decide +kernel, rfl, by decide +kernel, by decide +kernel⟩
def sp_take_name (K : PySem.W.Frag) : Sp := fun vs H Q E => ∃ (sc dx wl : Addr) (ws : List Str) (i : Nat), vs = [.ref sc, .ref (ga K "is_any")] ∧ ScanAt K H sc dx wl ws i ∧
  (∀ y, ws[i]? = some y → nameB y = true → ∀ H', But sc H H' → ScanAt K H' sc dx wl ws (i + 1) → Q (.str y) H') ∧ ((∀ y, ws[i]? = some y → nameB y = false) → Refuses K H i E)
theorem Refuses.grow {K : PySem.W.Frag} {H H1 : Hp} {i : Nat} {E : XK} (r : Refuses K H i E) (g : Grow H H1) : Refuses K H1 i E := fun d H2 g2 e => r d H2 (g.trans g2) e
theorem mem_len {K : PySem.W.Frag} {H : Hp} {sc dx wl : Addr} {ws : List Str} {i j : Nat} {y : Str} (h : ScanAt K H sc dx wl ws i) (hy : ws[j]? = some y) : y.length ≤ sizeLine := by
  have e := h.z y (List.mem_of_getElem? hy)
  rw [sizeLine_eq]
  omega
theorem ok_take_name (z : Z P w K mg base) : ∃ fd, FnOk P w K mg base (L2.CX P w) 5 (ma K (ga K "Scan") "take_name") fd ["self", "let"] (sp_take_name K) ∧ Binds K fd ["self", "let"] [] := by
  obtain ⟨f1, G1, b1⟩ := ok_next z
  obtain ⟨f2, G2, b2⟩ := ok_refuse z
  obtain ⟨f3, F3⟩ := z.f_is_name
  have G3 := ok_is_name z F3
  have b3 : Binds K f3 ["value"] [] := F3.bindsN fun _ _ _ _ _ _ us hl => match us, hl with | [_], _ => rfl
  obtain ⟨f4, G4, b4⟩ := ok_is_any z
  obtain ⟨fd, F⟩ := z.f_Scan_take_name
  refine ⟨fd, F.ok sc_take_name (fun vs H Q E h => ?_) (fun cdv A outer s H vs Q E hr h => ?_), F.bindsN fun _ _ _ _ _ _ us hl => match us, hl with | [_, _], _ => rfl⟩
  · obtain ⟨_, _, _, _, _, rfl, _⟩ := h
    rfl
  · obtain ⟨sc, dx, wl, ws, i, rfl, hS, hQ, hE⟩ := h
    refine ⟨_, pss_cons (ps_set (i := 2) sc_take_name.nd rfl (Or.inl rfl) (pe_meth0 (pv 0) z.cl_Scan z.me_Scan_next G1 hr b1 .nil (passes_call (E := E) (takes_of rfl rfl rfl rfl) fun _ _ _ _ q => q)))
      (pss_cons (ps_if (PW.pt (pw_or (pt_not (pt_val (pe_call G3 (hr.mono (by decide)) rfl z.g_is_name z.k_is_name b3 .nil passF (pa_cons (pv 2) pa_nil)))) (pw_or1 (pt_not (pt_val (pe_callL (i := 1) G4 (hr.mono (by decide)) rfl (.inl rfl) z.k_is_any b4 .nil passF (pa_cons (pv 2) pa_nil))))))) (pss_one (ps_expr (pe_meth0 (pv 0) z.cl_Scan z.me_Scan_refuse G2 (hr.mono (by decide)) b2 .nil (passes_call (E := E) (takes_of rfl rfl rfl rfl) fun _ _ _ _ q => q)))) pss_nil)
      (pss_cons (ps_fldaug (pv 0) pe_int in_add) (pss_one (ps_ret (pv 2))))), ?_⟩
    refine ⟨_, rfl, sc, dx, _, rfl, hS.s, rfl, sc, dx, wl, ws, i, rfl, hS, fun y hy => ?_, fun hn => hE fun y hy => by rw [hn] at hy; cases hy⟩
    refine ⟨_, rfl, y, rfl, mem_len hS hy, fun H1 g1 => ⟨_, rfl, ?_⟩⟩
    have S1 := hS.grow g1
    cases h : nameB y with
    | true =>
      refine iteF ⟨rfl, _, rfl, y, rfl, mem_len hS hy, fun H2 g2 => ⟨_, rfl, ?_⟩⟩
      rw [h]
      have S2 := S1.grow g2
      refine iteF ⟨_, rfl, sc, _, dx, _, _, rfl, S2.s, z.cl_Scan, z.na_Scan_at, rfl, _, _, rfl, rfl, dx, _, S2.s, by show 2 < 1000; decide, _, rfl, ?_⟩
      exact hQ y hy h _ (But.upd (But.grow (g1.trans g2))) (at_step S2 hy)
    | false =>
      refine iteT (iteT ⟨_, rfl, sc, dx, _, rfl, S1.s, rfl, sc, dx, wl, ws, i, rfl, S1, (hE fun y' hy' => ?_).grow g1⟩)
      rw [hy] at hy'
      cases hy'
      exact h
theorem sc_take_number : FnScope ["self", "least", "most", "item"] ["self", "least", "most"] (defScope s_Scan_take_number) := ⟨rfl, rfl, rfl, by decide +kernel, rfl, by decide +kernel, by decide +kernel⟩
/-- the item is a number within bounds -/
def numB (lo hi : Int) (y : Str) : Bool := figB y && decide (lo ≤ valB y ∧ valB y ≤ hi)
def sp_take_number (K : PySem.W.Frag) : Sp := fun vs H Q E => ∃ (sc dx wl : Addr) (ws : List Str) (i : Nat) (lo hi : Int), vs = [.ref sc, .int lo, .int hi] ∧ ScanAt K H sc dx wl ws i ∧
  (∀ y, ws[i]? = some y → numB lo hi y = true → ∀ H', But sc H H' → ScanAt K H' sc dx wl ws (i + 1) → Q (.int (valB y)) H') ∧ ((∀ y, ws[i]? = some y → numB lo hi y = false) → Refuses K H i E)
theorem ok_take_number (z : Z P w K mg base) : ∃ fd, FnOk P w K mg base (L2.CX P w) 5 (ma K (ga K "Scan") "take_number") fd ["self", "least", "most"] (sp_take_number K) ∧ Binds K fd ["self", "least", "most"] [] := by
  obtain ⟨f1, G1, b1⟩ := ok_next z
  obtain ⟨f2, G2, b2⟩ := ok_refuse z
  obtain ⟨f3, G3, b3⟩ := ok_is_figures z
  obtain ⟨fd, F⟩ := z.f_Scan_take_number
  refine ⟨fd, F.ok sc_take_number (fun vs H Q E h => ?_) (fun cdv A outer s H vs Q E hr h => ?_), F.bindsN fun _ _ _ _ _ _ us hl => match us, hl with | [_, _, _], _ => rfl⟩
  · obtain ⟨_, _, _, _, _, _, _, rfl, _⟩ := h
    rfl
  · obtain ⟨sc, dx, wl, ws, i, lo, hi, rfl, hS, hQ, hE⟩ := h
    refine ⟨_, pss_cons (ps_set (i := 3) sc_take_number.nd rfl (Or.inl rfl) (pe_meth0 (pv 0) z.cl_Scan z.me_Scan_next G1 hr b1 .nil (passes_call (E := E) (takes_of rfl rfl rfl rfl) fun _ _ _ _ q => q)))
      (pss_cons (ps_if (PW.pt (pw_or (pt_not (pt_val (pe_call G3 (hr.mono (by decide)) rfl z.g_is_figures z.k_is_figures b3 .nil passF (pa_cons (pv 3) pa_nil)))) (pw_or1 (pt_not (pt_chain op_le op_le (pv 1) (pe_callTy call_int_str rfl z.b_int (by decide +kernel) (pa_cons (pv 3) pa_nil)) (pv 2)))))) (pss_one (ps_expr (pe_meth0 (pv 0) z.cl_Scan z.me_Scan_refuse G2 (hr.mono (by decide)) b2 .nil (passes_call (E := E) (takes_of rfl rfl rfl rfl) fun _ _ _ _ q => q)))) pss_nil)
      (pss_cons (ps_fldaug (pv 0) pe_int in_add) (pss_one (ps_ret (pe_callTy call_int_str rfl z.b_int (by decide +kernel) (pa_cons (pv 3) pa_nil)))))), ?_⟩
    refine ⟨_, rfl, sc, dx, _, rfl, hS.s, rfl, sc, dx, wl, ws, i, rfl, hS, fun y hy => ?_, fun hn => hE fun y hy => by rw [hn] at hy; cases hy⟩
    refine ⟨_, rfl, y, rfl, mem_len hS hy, fun H1 g1 => ⟨_, rfl, ?_⟩⟩
    have S1 := hS.grow g1
    have no : numB lo hi y = false → Refuses K H1 i E := fun hn => (hE fun y' hy' => by
      rw [hy] at hy'
      cases hy'
      exact hn).grow g1
    cases h : figB y with
    | false => exact iteT (iteT ⟨_, rfl, sc, dx, _, rfl, S1.s, rfl, sc, dx, wl, ws, i, rfl, S1, no (by unfold numB; rw [h]; rfl)⟩)
    | true =>
      obtain ⟨e1, e2⟩ := fig_int h
      refine iteF ⟨_, rfl, _, rfl, y, _, rfl, e1, e2, _, _, rfl, rfl, _, rfl, ?_⟩
      by_cases h1 : lo ≤ valB y
      · rw [decide_eq_true h1]
        refine iteT ⟨_, rfl, _, _, rfl, rfl, _, rfl, ?_⟩
        by_cases h2 : valB y ≤ hi
        · rw [decide_eq_true h2]
          refine iteF ⟨_, rfl, sc, _, dx, _, _, rfl, S1.s, z.cl_Scan, z.na_Scan_at, rfl, _, _, rfl, rfl, dx, _, S1.s, by show 2 < 1000; decide, _, rfl, y, _, rfl, e1, e2, ?_⟩
          exact hQ y hy (by unfold numB; rw [h, decide_eq_true (And.intro h1 h2)]; rfl) _ (But.upd (But.grow g1)) (at_step S1 hy)
        · rw [decide_eq_false h2]
          exact iteT ⟨_, rfl, sc, dx, _, rfl, S1.s, rfl, sc, dx, wl, ws, i, rfl, S1, no (by unfold numB; rw [h, decide_eq_false fun q => h2 q.2]; rfl)⟩
      · rw [decide_eq_false h1]
        exact iteF ⟨_, rfl, iteT ⟨_, rfl, sc, dx, _, rfl, S1.s, rfl, sc, dx, wl, ws, i, rfl, S1, no (by unfold numB; rw [h, decide_eq_false fun q => h1 q.1]; rfl)⟩⟩
theorem sc_finish : FnScope ["self"] ["self"] (defScope s_Scan_finish) := ⟨rfl, rfl, rfl, by decide +kernel, rfl, by decide +kernel, by decide +kernel⟩
def sp_finish (K : PySem.W.Frag) : Sp := fun vs H Q E => ∃ (sc dx wl : Addr) (ws : List Str) (i : Nat), vs = [.ref sc] ∧ ScanAt K H sc dx wl ws i ∧ (i = ws.length → Q .non H) ∧ (i ≠ ws.length → Refuses K H i E)
theorem ok_finish (z : Z P w K mg base) : ∃ fd, FnOk P w K mg base (L2.CX P w) 4 (ma K (ga K "Scan") "finish") fd ["self"] (sp_finish K) ∧ Binds K fd ["self"] [] := by
  obtain ⟨f1, G1, b1⟩ := ok_is_over z
  obtain ⟨f2, G2, b2⟩ := ok_refuse z
  obtain ⟨fd, F⟩ := z.f_Scan_finish
  refine ⟨fd, F.ok sc_finish (fun vs H Q E h => ?_) (fun cdv A outer s H vs Q E hr h => ?_), F.bindsN fun _ _ _ _ _ _ us hl => match us, hl with | [_], _ => rfl⟩
  · obtain ⟨_, _, _, _, _, rfl, _⟩ := h
    rfl
  · obtain ⟨sc, dx, wl, ws, i, rfl, hS, hQ, hE⟩ := h
    refine ⟨_, pss_one (ps_if (pt_not (pt_val (pe_meth0 (pv 0) z.cl_Scan z.me_Scan_is_over G1 (hr.mono (by decide)) b1 .nil passF))) (pss_one (ps_expr (pe_meth0 (pv 0) z.cl_Scan z.me_Scan_refuse G2 hr b2 .nil (passes_call (E := E) (takes_of rfl rfl rfl rfl) fun _ _ _ _ q => q)))) pss_nil), ?_⟩
    refine ⟨_, rfl, sc, dx, _, rfl, hS.s, rfl, sc, dx, wl, ws, i, rfl, hS, _, rfl, ?_⟩
    by_cases h : i = ws.length
    · rw [decide_eq_true h]
      exact iteF (hQ h)
    · rw [decide_eq_false h]
      exact iteT ⟨_, rfl, sc, dx, _, rfl, hS.s, rfl, sc, dx, wl, ws, i, rfl, hS, hE h⟩
end
end K80

set_option Elab.async false
set_option linter.all false
set_option maxRecDepth 100000
set_option maxHeartbeats 4000000
/-! the reader of needs, item by item, without the program -/
namespace SX
open PySem PySem.Spec PyProof.Rows L2
open K80 (nameB numB valB figB)
inductive Ph where
  | first | need | name | many | «open» | behind | over
  deriving DecidableEq
/-- rows: the innermost open bracket first: how many parts there must be, how many have begun -/
structure LS where
  ph : Ph
  many : Int
  rows : List (Int × Int)
  stand : Int
def owe : List (Int × Int) → Int
  | [] => 0
  | (m, b) :: r => max 0 (m - b) + owe r
theorem owe_nn : ∀ r : List (Int × Int), 0 ≤ owe r
  | [] => Int.le_refl _
  | (m, b) :: r => by
    have := owe_nn r
    show 0 ≤ max 0 (m - b) + owe r
    omega
def LS.room (s : LS) : Int := 30 - s.stand - owe s.rows
def closed (rows : List (Int × Int)) (stand : Int) : LS := ⟨if rows = [] then .over else .behind, 0, rows, stand⟩
def needStep (room : Int) (rows : List (Int × Int)) (stand : Int) (word : Str) : Option LS :=
  if word = "few" ∧ rows.length < 5 ∧ 1 < room then some ⟨.many, 0, rows, stand + 1⟩
  else if word = "has" then some ⟨.name, 0, rows, stand + 1⟩
  else if word = "every" ∨ word = "some" then some ⟨.open, 0, rows, stand + 1⟩ else none
def step (s : LS) (word : Str) : Option LS := match s.ph with
  | .first => if word = ")" then some (closed s.rows s.stand) else if s.rows.length = 5 ∨ s.room < 1 then none else needStep s.room ((0, 1) :: s.rows) s.stand word
  | .need => needStep s.room s.rows s.stand word
  | .name => if nameB word = true then some (closed s.rows s.stand) else none
  | .many => if numB 1 (min 8 s.room) word = true then some ⟨.open, valB word, s.rows, s.stand⟩ else none
  | .open => if word = "(" then (if 0 < s.many then some ⟨.need, 0, (s.many, 1) :: s.rows, s.stand⟩ else some ⟨.first, 0, s.rows, s.stand⟩) else none
  | .behind => match s.rows with
    | [] => none
    | (m, b) :: r => if word = ")" ∧ m ≤ b then some (closed r s.stand) else if word = "," ∧ b < 8 ∧ (b < m ∨ 0 < s.room) then some ⟨.need, 0, (m, b + 1) :: r, s.stand⟩ else none
  | .over => none
/-- from the state s at item i to s' at item j -/
inductive Run (ws : List Str) : LS → Nat → LS → Nat → Prop where
  | refl (s : LS) (i : Nat) : Run ws s i s i
  | go {s s1 s' : LS} {i j : Nat} {y : Str} (hy : ws[i]? = some y) (h : step s y = some s1) (t : Run ws s1 (i + 1) s' j) : Run ws s i s' j
theorem Run.trans {ws : List Str} {s s1 s2 : LS} {i j k : Nat} (a : Run ws s i s1 j) (b : Run ws s1 j s2 k) : Run ws s i s2 k := by
  induction a with
  | refl => exact b
  | go hy h _ ih => exact .go hy h (ih b)
theorem Run.one {ws : List Str} {s s1 : LS} {i : Nat} {y : Str} (hy : ws[i]? = some y) (h : step s y = some s1) : Run ws s i s1 (i + 1) := .go hy h (.refl _ _)
/-- the item k is the first one that cannot stand -/
def Stuck (ws : List Str) (s : LS) (i k : Nat) : Prop := ∃ s1, Run ws s i s1 k ∧ s1.ph ≠ .over ∧ ∀ y, ws[k]? = some y → step s1 y = none
theorem Stuck.after {ws : List Str} {s s1 : LS} {i j k : Nat} (a : Run ws s i s1 j) (b : Stuck ws s1 j k) : Stuck ws s i k := by
  obtain ⟨s2, r, n, h⟩ := b
  exact ⟨s2, a.trans r, n, h⟩
theorem Stuck.here {ws : List Str} {s : LS} {i : Nat} (n : s.ph ≠ .over) (h : ∀ y, ws[i]? = some y → step s y = none) : Stuck ws s i i := ⟨s, .refl _ _, n, h⟩
/-! ### the words of needs -/
def Kd.word : Kd → Str
  | .every => "every"
  | .some => "some"
  | .few => "few"
/-- one need behind another one: the words of the rest, a comma ahead of each -/
def numText (m : Int) : Str := Str.ofString (toString m)
def Kd.headw (k : Kd) (m : Int) : List Str := match k with
  | .few => ["few", numText (small m), "("]
  | .every => ["every", "("]
  | .some => ["some", "("]
def hasw (s : Str) : List Str := ["has", s]
mutual
/-- the words of the first need of a row, of the rest of it -/
def Fo.words : Fo → List Str
  | .nil => []
  | .has s r => hasw s ++ r.more
  | .node k m kids r => k.headw m ++ (kids.words ++ ((")" : Str) :: r.more))
def Fo.more : Fo → List Str
  | .nil => []
  | .has s r => ("," : Str) :: (hasw s ++ r.more)
  | .node k m kids r => ("," : Str) :: (k.headw m ++ (kids.words ++ ((")" : Str) :: r.more)))
end
theorem Fo.more_eq : ∀ F : Fo, F.more = if F.len = 0 then [] else ("," : Str) :: F.words
  | .nil => by simp [Fo.more, Fo.len]
  | .has s r => by
    have h : ¬ (Fo.has s r).len = 0 := by show ¬ 1 + r.len = 0; omega
    rw [if_neg h, Fo.more, Fo.words]
  | .node k m kids r => by
    have h : ¬ (Fo.node k m kids r).len = 0 := by show ¬ 1 + r.len = 0; omega
    rw [if_neg h, Fo.more, Fo.words]
/-- a row and one row more -/
theorem Fo.words_app : ∀ (F G : Fo), G.len ≠ 0 → (F.app G).words = F.words ++ (if F.len = 0 then G.words else ("," : Str) :: G.words) ∧ (F.app G).more = F.more ++ (("," : Str) :: G.words)
  | .nil, G, h => by
    refine ⟨by simp [Fo.app, Fo.words, Fo.len], ?_⟩
    show G.more = [] ++ (("," : Str) :: G.words)
    rw [Fo.more_eq, if_neg h]
    rfl
  | .has s r, G, h => by
    obtain ⟨h1, h2⟩ := Fo.words_app r G h
    have e : ¬ (Fo.has s r).len = 0 := by show ¬ 1 + r.len = 0; omega
    rw [if_neg e]
    refine ⟨?_, ?_⟩
    · show hasw s ++ (r.app G).more = (hasw s ++ r.more) ++ _
      rw [h2, List.append_assoc]
    · show ("," : Str) :: (hasw s ++ (r.app G).more) = (("," : Str) :: (hasw s ++ r.more)) ++ _
      rw [h2]
      simp [List.append_assoc]
  | .node k m kids r, G, h => by
    obtain ⟨h1, h2⟩ := Fo.words_app r G h
    have e : ¬ (Fo.node k m kids r).len = 0 := by show ¬ 1 + r.len = 0; omega
    rw [if_neg e]
    refine ⟨?_, ?_⟩
    · show k.headw m ++ (kids.words ++ ((")" : Str) :: (r.app G).more)) = (k.headw m ++ (kids.words ++ ((")" : Str) :: r.more))) ++ _
      rw [h2]
      simp [List.append_assoc]
    · show ("," : Str) :: (k.headw m ++ (kids.words ++ ((")" : Str) :: (r.app G).more))) = (("," : Str) :: (k.headw m ++ (kids.words ++ ((")" : Str) :: r.more)))) ++ _
      rw [h2]
      simp [List.append_assoc]
theorem Fo.app_len : ∀ F G : Fo, (F.app G).len = F.len + G.len
  | .nil, G => by show G.len = 0 + G.len; omega
  | .has _ r, G => by show 1 + (r.app G).len = 1 + r.len + G.len; rw [Fo.app_len r G]; omega
  | .node _ _ _ r, G => by show 1 + (r.app G).len = 1 + r.len + G.len; rw [Fo.app_len r G]; omega
theorem Fo.app_size : ∀ F G : Fo, (F.app G).size = F.size + G.size
  | .nil, G => by show G.size = 0 + G.size; omega
  | .has _ r, G => by show 1 + (r.app G).size = 1 + r.size + G.size; rw [Fo.app_size r G]; omega
  | .node _ _ kids r, G => by show 1 + kids.size + (r.app G).size = 1 + kids.size + r.size + G.size; rw [Fo.app_size r G]; omega
theorem Fo.app_deep : ∀ F G : Fo, (F.app G).deep = max F.deep G.deep
  | .nil, G => by show G.deep = max 0 G.deep; omega
  | .has _ r, G => by show max 1 (r.app G).deep = max (max 1 r.deep) G.deep; rw [Fo.app_deep r G]; omega
  | .node _ _ kids r, G => by show max (1 + kids.deep) (r.app G).deep = max (max (1 + kids.deep) r.deep) G.deep; rw [Fo.app_deep r G]; omega
end SX

set_option Elab.async false
set_option linter.all false
set_option maxRecDepth 100000
set_option maxHeartbeats 4000000
namespace K80
open PySem PySem.Spec PyProof.Rows L2 SX StX
open He (ga ma)
def roomO (K : PySem.W.Frag) (dx : Addr) (st ow : Int) : HO := .ins (ga K "Room") dx [("stand", .int st), ("owed", .int ow)]
/-- which signs can stand behind so many parts -/
def signs (parts many st ow : Int) : List Str := if parts < many then [","] else if parts < 8 ∧ st + ow + 1 ≤ 30 then [",", ")"] else [")"]
section
variable {P : Program} {w : World} {K : PySem.W.Frag} {mg : Str → Option Value} {base : Heap}
theorem sc_Scan : FnScope ["self", "text"] ["self", "text"] (defScope s_Scan___init__) := ⟨rfl, rfl, rfl, by decide +kernel, rfl, by decide +kernel, by decide +kernel⟩
def sp_Scan (K : PySem.W.Frag) : Sp := fun vs H Q _ => ∃ (sc dx : Addr) (t : Str), vs = [.ref sc, .str t] ∧ H sc = some (.ins (ga K "Scan") dx []) ∧ t.length + 2 ≤ sizeLine ∧
  ∀ wl H', But sc H H' → H wl = none → H' wl = some (.lst ((Txt.split t " ").map V.str)) → H' sc = some (scanO K dx wl 0) → Q .non H'
theorem ok_Scan (z : Z P w K mg base) : ∃ fd, FnOk P w K mg base (L2.CX P w) 1 (ma K (ga K "Scan") "__init__") fd ["self", "text"] (sp_Scan K) ∧ Binds K fd ["self", "text"] [] := by
  obtain ⟨fd, F⟩ := z.f_Scan___init__
  refine ⟨fd, F.ok sc_Scan (fun vs H Q E h => ?_) (fun cdv A outer s H vs Q E hr h => ?_), F.bindsN fun _ _ _ _ _ _ us hl => match us, hl with | [_, _], _ => rfl⟩
  · obtain ⟨_, _, _, rfl, _⟩ := h
    rfl
  · obtain ⟨sc, dx, t, rfl, hs, hl, hQ⟩ := h
    refine ⟨_, pss_cons (ps_if (pt_not (pt_val (pe_callB call_isi rfl z.b_isinstance (by decide +kernel) (pa_cons (pv 1) (pa_cons (pe_bltn rfl z.b_str (by decide +kernel) (show RelV (.ty "str") (.type "str") from rfl)) pa_nil))))) (pss_one ps_never) pss_nil)
      (pss_cons (ps_fld (pv 0) (pe_split (pv 1) pe_str) rfl) (pss_one (ps_fld (pv 0) pe_int rfl))), ?_⟩
    refine ⟨_, rfl, _, _, _, _, _, rfl, .ty "str", .base (.str _), kit_ty (r := true) (by decide +kernel), _, rfl, iteF ?_⟩
    refine ⟨_, rfl, ⟨_, rfl⟩, t, " ", rfl, rfl, by decide +kernel, hl, fun wl hw => ?_⟩
    have ns : sc ≠ wl := ne_of_none hs hw
    refine ⟨_, rfl, sc, _, dx, _, rfl, by rw [upd_ne ns]; exact hs, z.cl_Scan, z.na_Scan_words, by decide, ?_⟩
    refine ⟨_, rfl, sc, _, dx, _, rfl, upd_same, z.cl_Scan, z.na_Scan_at, by show 1 < 1000; decide, ?_⟩
    refine hQ wl _ (But.upd (But.upd (But.grow (Grow.new hw)))) hw ?_ upd_same
    rw [upd_ne ns.symm, upd_ne ns.symm, upd_same]
theorem sc_Room : FnScope ["self"] ["self"] (defScope s_Room___init__) := ⟨rfl, rfl, rfl, by decide +kernel, rfl, by decide +kernel, by decide +kernel⟩
def sp_Room (K : PySem.W.Frag) : Sp := fun vs H Q _ => ∃ (rm dx : Addr), vs = [.ref rm] ∧ H rm = some (.ins (ga K "Room") dx []) ∧ ∀ H', But rm H H' → H' rm = some (roomO K dx 0 1) → Q .non H'
theorem ok_Room (z : Z P w K mg base) : ∃ fd, FnOk P w K mg base (L2.CX P w) 1 (ma K (ga K "Room") "__init__") fd ["self"] (sp_Room K) ∧ Binds K fd ["self"] [] := by
  obtain ⟨fd, F⟩ := z.f_Room___init__
  refine ⟨fd, F.ok sc_Room (fun vs H Q E h => ?_) (fun cdv A outer s H vs Q E hr h => ?_), F.bindsN fun _ _ _ _ _ _ us hl => match us, hl with | [_], _ => rfl⟩
  · obtain ⟨_, _, rfl, _⟩ := h
    rfl
  · obtain ⟨rm, dx, rfl, hs, hQ⟩ := h
    refine ⟨_, pss_cons (ps_fld (pv 0) pe_int rfl) (pss_one (ps_fld (pv 0) pe_int rfl)), ?_⟩
    refine ⟨_, rfl, rm, _, dx, _, rfl, hs, z.cl_Room, z.na_Room_stand, by decide, ?_⟩
    refine ⟨_, rfl, rm, _, dx, _, rfl, upd_same, z.cl_Room, z.na_Room_owed, by show 1 < 1000; decide, ?_⟩
    exact hQ _ (But.upd (But.upd (But.refl H))) upd_same
theorem sc_has : FnScope ["self", "more"] ["self", "more"] (defScope s_Room_has) := ⟨rfl, rfl, rfl, by decide +kernel, rfl, by decide +kernel, by decide +kernel⟩
def sp_has (K : PySem.W.Frag) : Sp := fun vs H Q _ => ∃ (rm dx : Addr) (st ow m : Int), vs = [.ref rm, .int m] ∧ H rm = some (roomO K dx st ow) ∧ Q (.bl (decide (st + ow + m ≤ 30))) H
theorem ok_has (z : Z P w K mg base) : ∃ fd, FnOk P w K mg base (L2.CX P w) 1 (ma K (ga K "Room") "has") fd ["self", "more"] (sp_has K) ∧ Binds K fd ["self", "more"] [] := by
  obtain ⟨fd, F⟩ := z.f_Room_has
  obtain ⟨t1, i1⟩ := z.i_LARGEST
  refine ⟨fd, F.ok sc_has (fun vs H Q E h => ?_) (fun cdv A outer s H vs Q E hr h => ?_), F.bindsN fun _ _ _ _ _ _ us hl => match us, hl with | [_, _], _ => rfl⟩
  · obtain ⟨_, _, _, _, _, rfl, _⟩ := h
    rfl
  · obtain ⟨rm, dx, st, ow, m, rfl, hs, hQ⟩ := h
    refine ⟨_, pss_one (ps_ret (pe_cmpR op_le (pe_op op_add (pe_op op_add (pe_fld (pv 0) rfl) (pe_fld (pv 0) rfl)) (pv 1)) (pe_glob (v := .int 30) rfl i1 ⟨_, rfl⟩) (nomark _))), ?_⟩
    exact ⟨_, rfl, rm, _, dx, _, _, rfl, hs, z.cl_Room, z.na_Room_stand, rfl, _, rfl, rm, _, dx, _, _, rfl, hs, z.cl_Room, z.na_Room_owed, rfl, _, _, rfl, rfl, _, rfl, _, _, rfl, rfl, _, _, rfl, rfl, hQ⟩
theorem sc_signs_behind : FnScope ["room", "parts", "many"] ["room", "parts", "many"] (defScope s_signs_behind) := ⟨rfl, rfl, rfl, by decide +kernel, rfl, by decide +kernel, by decide +kernel⟩
def sp_signs (K : PySem.W.Frag) : Sp := fun vs H Q _ => ∃ (rm dx : Addr) (st ow parts many : Int), vs = [.ref rm, .int parts, .int many] ∧ H rm = some (roomO K dx st ow) ∧
  ∀ l, H l = none → Q (.ref l) (upd H l (.lst ((signs parts many st ow).map V.str)))
theorem ok_signs (z : Z P w K mg base) : ∃ fd, FnOk P w K mg base (L2.CX P w) 2 (ga K "signs_behind") fd ["room", "parts", "many"] (sp_signs K) ∧ Binds K fd ["room", "parts", "many"] [] := by
  obtain ⟨f1, G1, b1⟩ := ok_has z
  obtain ⟨fd, F⟩ := z.f_signs_behind
  obtain ⟨t1, i1⟩ := z.i_WIDEST
  refine ⟨fd, F.ok sc_signs_behind (fun vs H Q E h => ?_) (fun cdv A outer s H vs Q E hr h => ?_), F.bindsN fun _ _ _ _ _ _ us hl => match us, hl with | [_, _, _], _ => rfl⟩
  · obtain ⟨_, _, _, _, _, _, rfl, _⟩ := h
    rfl
  · obtain ⟨rm, dx, st, ow, parts, many, rfl, hs, hQ⟩ := h
    refine ⟨_, pss_cons (ps_if (pt_cmpR op_lt (pv 1) (pv 2) (nomark _)) (pss_one (ps_ret (pe_lst (pa_cons pe_str pa_nil)))) pss_nil)
      (pss_one (ps_ret (pe_ifExp (PW.pt (pw_and (pt_cmpR op_lt (pv 1) (pe_glob (v := .int 8) rfl i1 ⟨_, rfl⟩) (nomark _)) (pw_and1 (pt_val (pe_meth (pv 0) z.cl_Room z.me_Room_has G1 hr b1 .nil passF (pa_cons pe_int pa_nil)))))) (pe_lst (pa_cons pe_str (pa_cons pe_str pa_nil))) (pe_lst (pa_cons pe_str pa_nil))))), ?_⟩
    refine ⟨_, rfl, _, rfl, _, _, rfl, rfl, _, rfl, ?_⟩
    by_cases h : parts < many
    · rw [decide_eq_true h]
      have e : signs parts many st ow = ([","] : List Str) := by unfold signs; rw [if_pos h]
      rw [e] at hQ
      exact iteT ⟨by show 1 ≤ sizeLine; rw [sizeLine_eq]; decide, fun l hl => hQ l hl⟩
    · rw [decide_eq_false h]
      refine iteF ⟨_, rfl, _, _, rfl, rfl, _, rfl, ?_⟩
      by_cases h2 : parts < 8
      · rw [decide_eq_true h2]
        refine iteT ⟨_, rfl, rm, dx, _, rfl, hs, rfl, rm, dx, st, ow, 1, rfl, hs, _, rfl, ?_⟩
        by_cases h3 : st + ow + 1 ≤ 30
        · rw [decide_eq_true h3]
          have e : signs parts many st ow = ([",", ")"] : List Str) := by unfold signs; rw [if_neg h, if_pos ⟨h2, h3⟩]
          rw [e] at hQ
          exact iteT ⟨by show 2 ≤ sizeLine; rw [sizeLine_eq]; decide, fun l hl => hQ l hl⟩
        · rw [decide_eq_false h3]
          have e : signs parts many st ow = ([")"] : List Str) := by unfold signs; rw [if_neg h, if_neg fun q => h3 q.2]
          rw [e] at hQ
          exact iteF ⟨by show 1 ≤ sizeLine; rw [sizeLine_eq]; decide, fun l hl => hQ l hl⟩
      · rw [decide_eq_false h2]
        have e : signs parts many st ow = ([")"] : List Str) := by unfold signs; rw [if_neg h, if_neg fun q => h2 q.1]
        rw [e] at hQ
        exact iteF (iteF ⟨by show 1 ≤ sizeLine; rw [sizeLine_eq]; decide, fun l hl => hQ l hl⟩)
end
end K80

set_option Elab.async false
set_option linter.all false
set_option maxRecDepth 100000
set_option maxHeartbeats 4000000
namespace K80
open PySem PySem.Spec PyProof.Rows L2 SX StX
open He (ga ma)
def But2 (a b : Addr) (H H' : Hp) : Prop := ∀ p o, H p = some o → p ≠ a → p ≠ b → H' p = some o
theorem But2.refl {a b : Addr} (H : Hp) : But2 a b H H := fun _ _ h _ _ => h
theorem But2.trans {a b : Addr} {H H1 H2 : Hp} (x : But2 a b H H1) (y : But2 a b H1 H2) : But2 a b H H2 := fun p o h n m => y p o (x p o h n m) n m
theorem But2.grow {a b : Addr} {H H1 : Hp} (g : Grow H H1) : But2 a b H H1 := fun p o h _ _ => g p o h
theorem But2.left {a b : Addr} {H H1 : Hp} (g : But a H H1) : But2 a b H H1 := fun p o h n _ => g p o h n
theorem But2.upr {a b : Addr} {H H1 : Hp} {o : HO} (g : But2 a b H H1) : But2 a b H (upd H1 b o) := fun p q h n m => by
  rw [upd_ne m]
  exact g p q h n m
theorem But2.new {a b l : Addr} {H H1 : Hp} {o : HO} (g : But2 a b H H1) (h : H l = none) : But2 a b H (upd H1 l o) := fun p q e n m => by
  rw [upd_ne (ne_of_none e h)]
  exact g p q e n m
structure Pos (K : PySem.W.Frag) (H : Hp) (sc dx wl : Addr) (ws : List Str) (i : Nat) (rm dr : Addr) (st ow : Int) : Prop where
  S : ScanAt K H sc dx wl ws i
  r : H rm = some (roomO K dr st ow)
section
variable {K : PySem.W.Frag} {H H' : Hp} {sc dx wl rm dr : Addr} {ws : List Str} {i : Nat} {st ow : Int}
theorem Pos.ne (p : Pos K H sc dx wl ws i rm dr st ow) : rm ≠ sc := fun e => by
  have h := p.r
  rw [e, p.S.s] at h
  obtain ⟨_, _, h2⟩ := HO.ins.inj (Option.some.inj h)
  have h3 := (Prod.mk.inj (List.cons.inj h2).1).2
  cases h3
theorem Pos.wne (p : Pos K H sc dx wl ws i rm dr st ow) : wl ≠ rm := fun e => by
  have h := p.r
  rw [← e, p.S.w] at h
  cases h
/-- other instances stand apart from the scan, the room -/
theorem Pos.apart (p : Pos K H sc dx wl ws i rm dr st ow) {a C dx' : Addr} {fs : List (Str × V)} (h : H a = some (.ins C dx' fs)) (hf : (fs.lookup ("at" : Str)).isNone = true ∧ (fs.lookup ("stand" : Str)).isNone = true) : a ≠ sc ∧ a ≠ rm := by
  refine ⟨fun e => ?_, fun e => ?_⟩
  · rw [e, p.S.s] at h
    obtain ⟨rfl, rfl, rfl⟩ := HO.ins.inj (Option.some.inj h)
    cases hf.1
  · rw [e, p.r] at h
    obtain ⟨rfl, rfl, rfl⟩ := HO.ins.inj (Option.some.inj h)
    cases hf.2
theorem Pos.tup (p : Pos K H sc dx wl ws i rm dr st ow) {a : Addr} {xs : List V} (h : H a = some (.tup xs)) : a ≠ sc ∧ a ≠ rm := by
  refine ⟨fun e => ?_, fun e => ?_⟩
  · rw [e, p.S.s] at h
    cases h
  · rw [e, p.r] at h
    cases h
theorem Pos.lst (p : Pos K H sc dx wl ws i rm dr st ow) {a : Addr} {xs : List V} (h : H a = some (.lst xs)) : a ≠ sc ∧ a ≠ rm := by
  refine ⟨fun e => ?_, fun e => ?_⟩
  · rw [e, p.S.s] at h
    cases h
  · rw [e, p.r] at h
    cases h
theorem Pos.new (p : Pos K H sc dx wl ws i rm dr st ow) {a : Addr} (h : H a = none) : a ≠ sc ∧ a ≠ rm := ⟨(fun e => by rw [e, p.S.s] at h; cases h), (fun e => by rw [e, p.r] at h; cases h)⟩
theorem needs_but2 (p : Pos K H sc dx wl ws i rm dr st ow) (g : But2 sc rm H H') : ∀ {F : Fo} {vs : List V}, NeedsAt K H F vs → NeedsAt K H' F vs
  | .nil, _, h => h
  | .has s r, _, ⟨a, dx', vs', e, h, t⟩ => by
    obtain ⟨n1, n2⟩ := p.apart (C := ga K "Has") (dx' := dx') (fs := [("thing", .str s), ("word", .str "has")]) h ⟨rfl, rfl⟩
    exact ⟨a, dx', vs', e, g _ _ h n1 n2, needs_but2 p g t⟩
  | .node k m kids r, _, ⟨a, dx', q, kvs, vs', e, h, hp, tk, t⟩ => by
    have n : a ≠ sc ∧ a ≠ rm := by
      cases k with
      | every => exact p.apart (C := ga K "Every") (dx' := dx') (fs := [("parts", .ref q), ("word", .str "every")]) h ⟨rfl, rfl⟩
      | some => exact p.apart (C := ga K "Some") (dx' := dx') (fs := [("parts", .ref q), ("word", .str "some")]) h ⟨rfl, rfl⟩
      | few => exact p.apart (C := ga K "Few") (dx' := dx') (fs := [("parts", .ref q), ("many", .int (small m)), ("word", .str "few")]) h ⟨rfl, rfl⟩
    obtain ⟨n3, n4⟩ := p.tup hp
    exact ⟨a, dx', q, kvs, vs', e, g _ _ h n.1 n.2, g _ _ hp n3 n4, needs_but2 p g tk, needs_but2 p g t⟩
/-- the room changes -/
theorem Pos.room (p : Pos K H sc dx wl ws i rm dr st ow) {st' ow' : Int} : Pos K (upd H rm (roomO K dr st' ow')) sc dx wl ws i rm dr st' ow' :=
  ⟨⟨by rw [upd_ne p.ne.symm]; exact p.S.s, by rw [upd_ne p.wne]; exact p.S.w, p.S.l, p.S.i, p.S.z⟩, upd_same⟩
theorem Pos.grow (p : Pos K H sc dx wl ws i rm dr st ow) (g : Grow H H') : Pos K H' sc dx wl ws i rm dr st ow := ⟨p.S.grow g, g _ _ p.r⟩
theorem Pos.but (p : Pos K H sc dx wl ws i rm dr st ow) {j : Nat} (g : But sc H H') (S : ScanAt K H' sc dx wl ws j) : Pos K H' sc dx wl ws j rm dr st ow := ⟨S, g _ _ p.r p.ne⟩
/-- a list laid or changed beside them -/
theorem Pos.side (p : Pos K H sc dx wl ws i rm dr st ow) {l : Addr} {o : HO} (n1 : l ≠ sc) (n2 : l ≠ rm) (n3 : l ≠ wl) : Pos K (upd H l o) sc dx wl ws i rm dr st ow :=
  ⟨⟨by rw [upd_ne n1.symm]; exact p.S.s, by rw [upd_ne n3.symm]; exact p.S.w, p.S.l, p.S.i, p.S.z⟩, by rw [upd_ne n2.symm]; exact p.r⟩
end
end K80

set_option Elab.async false
set_option linter.all false
set_option maxRecDepth 100000
set_option maxHeartbeats 4000000
/-! the reader's steps where the program looks -/
namespace SX
open PySem PySem.Spec PyProof.Rows L2
open K80 (nameB numB valB figB)
theorem comma_ne : (("," : Str) = ")") = False := eq_false (by decide +kernel)
theorem par_ne : ((")" : Str) = ",") = False := eq_false (by decide +kernel)
section
variable {b many st ow : Int} {R : List (Int × Int)} {y : Str}
theorem step_behind {x m : Int} : step ⟨.behind, x, (m, b) :: R, st⟩ y = if y = ")" ∧ m ≤ b then some (closed R st) else if y = "," ∧ b < 8 ∧ (b < m ∨ 0 < 30 - st - (max 0 (m - b) + owe R)) then some ⟨.need, 0, (m, b + 1) :: R, st⟩ else none := rfl
theorem step_first {x : Int} : step ⟨.first, x, R, st⟩ y = if y = ")" then some (closed R st) else if R.length = 5 ∨ 30 - st - owe R < 1 then none else needStep (30 - st - owe R) ((0, 1) :: R) st y := rfl
theorem step_need {x : Int} : step ⟨.need, x, R, st⟩ y = needStep (30 - st - owe R) R st y := rfl
theorem step_open {m : Int} : step ⟨.open, m, R, st⟩ y = if y = "(" then (if 0 < m then some ⟨.need, 0, (m, 1) :: R, st⟩ else some ⟨.first, 0, R, st⟩) else none := rfl
theorem step_name {x : Int} : step ⟨.name, x, R, st⟩ y = if nameB y = true then some (closed R st) else none := rfl
theorem step_many {x : Int} : step ⟨.many, x, R, st⟩ y = if numB 1 (min 8 (30 - st - owe R)) y = true then some ⟨.open, valB y, R, st⟩ else none := rfl
theorem signs_in (hm : many ≤ 8) (ho : ow = owe R + max 0 (many - b)) (h : y ∈ K80.signs b many st ow) :
    (y = "," ∧ step ⟨.behind, 0, (many, b) :: R, st⟩ y = some ⟨.need, 0, (many, b + 1) :: R, st⟩ ∧ b < 8 ∧ (b < many ∨ st + ow + 1 ≤ 30)) ∨ (y = ")" ∧ many ≤ b ∧ step ⟨.behind, 0, (many, b) :: R, st⟩ y = some (closed R st)) := by
  have com : b < 8 → (b < many ∨ st + ow + 1 ≤ 30) → step ⟨.behind, 0, (many, b) :: R, st⟩ "," = some ⟨.need, 0, (many, b + 1) :: R, st⟩ := fun h1 h2 => by
    rw [step_behind, if_neg (fun q => by have := q.1; rw [comma_ne] at this; exact this), if_pos ⟨rfl, h1, by omega⟩]
  have par : many ≤ b → step ⟨.behind, 0, (many, b) :: R, st⟩ ")" = some (closed R st) := fun h1 => by
    rw [step_behind, if_pos ⟨rfl, h1⟩]
  unfold K80.signs at h
  by_cases h1 : b < many
  · rw [if_pos h1] at h
    have e : y = "," := by simpa using h
    subst e
    exact .inl ⟨rfl, com (by omega) (.inl h1), by omega, .inl h1⟩
  · rw [if_neg h1] at h
    by_cases h2 : b < 8 ∧ st + ow + 1 ≤ 30
    · rw [if_pos h2] at h
      rcases List.mem_cons.mp h with e | e
      · subst e
        exact .inl ⟨rfl, com h2.1 (.inr h2.2), h2.1, .inr h2.2⟩
      · have e : y = ")" := by simpa using e
        subst e
        exact .inr ⟨rfl, by omega, par (by omega)⟩
    · rw [if_neg h2] at h
      have e : y = ")" := by simpa using h
      subst e
      exact .inr ⟨rfl, by omega, par (by omega)⟩
theorem signs_out (hm : many ≤ 8) (ho : ow = owe R + max 0 (many - b)) (h : y ∉ K80.signs b many st ow) : step ⟨.behind, 0, (many, b) :: R, st⟩ y = none := by
  rw [step_behind]
  unfold K80.signs at h
  by_cases h1 : b < many
  · rw [if_pos h1] at h
    rw [if_neg fun q => by omega, if_neg fun q => h (by rw [q.1]; exact List.mem_cons_self)]
  · rw [if_neg h1] at h
    by_cases h2 : b < 8 ∧ st + ow + 1 ≤ 30
    · rw [if_pos h2] at h
      rw [if_neg fun q => h (by rw [q.1]; exact List.mem_cons_of_mem _ List.mem_cons_self), if_neg fun q => h (by rw [q.1]; exact List.mem_cons_self)]
    · rw [if_neg h2] at h
      rw [if_neg fun q => h (by rw [q.1]; exact List.mem_cons_self), if_neg fun q => h2 ⟨q.2.1, by omega⟩]
theorem first_par {x : Int} : step ⟨.first, x, R, st⟩ ")" = some (closed R st) := by
  rw [step_first, if_pos rfl]
theorem first_full {x : Int} (h : y ≠ ")") (hf : R.length = 5 ∨ 30 - st - owe R < 1) : step ⟨.first, x, R, st⟩ y = none := by
  rw [step_first, if_neg h, if_pos hf]
/-- a first part is read as any need is -/
theorem first_need {x : Int} (h : y ≠ ")") (h5 : R.length ≠ 5) (hr : 1 ≤ 30 - st - owe R) : step ⟨.first, x, R, st⟩ y = step ⟨.need, 0, (0, 1) :: R, st⟩ y := by
  rw [step_first, step_need, if_neg h, if_neg (fun q => q.elim h5 fun q => by omega)]
  have e : (30 - st - owe ((0, 1) :: R)) = 30 - st - owe R := by
    show 30 - st - (max 0 (0 - 1) + owe R) = _
    omega
  rw [e]
end
end SX

set_option Elab.async false
set_option linter.all false
set_option maxRecDepth 100000
set_option maxHeartbeats 8000000
namespace SX
open PySem PySem.Spec PyProof.Rows L2
theorem PSs.cut {X : Cx} {st : List Stmt} {t : TS} (T : TS) (h : PSs X st t) (imp : ∀ D σ H, T D σ H → t D σ H) : PSs X st T := ⟨fun pins s σ H D I q => h.run pins s σ H D I (imp D σ H q)⟩
theorem PS.cut {X : Cx} {st : Stmt} {t : TS} (T : TS) (h : PS X st t) (imp : ∀ D σ H, T D σ H → t D σ H) : PS X st T := ⟨fun pins s σ H D I q => h.run pins s σ H D I (imp D σ H q)⟩
theorem Run.swap {ws : List Str} {s s2 s' : LS} {i j : Nat} (h : ∀ y, ws[i]? = some y → step s y = step s2 y) (r : Run ws s2 i s' j) (n : s'.ph ≠ s2.ph) : Run ws s i s' j := by
  cases r with
  | refl => exact absurd rfl n
  | go hy e t => exact .go hy ((h _ hy).trans e) t
theorem Stuck.swap {ws : List Str} {s s2 : LS} {i k : Nat} (h : ∀ y, ws[i]? = some y → step s y = step s2 y) (n : s.ph ≠ .over) (r : Stuck ws s2 i k) : Stuck ws s i k := by
  obtain ⟨s1, r, n1, h1⟩ := r
  cases r with
  | refl => exact ⟨s, .refl _ _, n, fun y hy => (h y hy).trans (h1 y hy)⟩
  | go hy e t => exact ⟨s1, .go hy ((h _ hy).trans e) t, n1, h1⟩
theorem closed_ne {R : List (Int × Int)} {st : Int} : (closed R st).ph ≠ .need := by
  unfold closed
  split <;> intro h <;> cases h
theorem take_more {ws : List Str} {i : Nat} {y : Str} (h : ws[i]? = some y) : ws.take (i + 1) = ws.take i ++ [y] := by
  rw [List.take_add_one, h]
  rfl
end SX
namespace K80
open PySem PySem.Spec PyProof.Rows L2 SX StX
open He (ga ma)
def sp_part (K : PySem.W.Frag) (e : Nat) : Sp := fun vs H Q E => ∃ (sc dx wl : Addr) (ws : List Str) (i : Nat) (rm dr : Addr) (st ow : Int) (R : List (Int × Int)),
  vs = [.ref sc, .ref rm, .ref (ga K "is_any"), .int ((R.length : Int) + 1)] ∧ Pos K H sc dx wl ws i rm dr st ow ∧ R.length + e = 6 ∧ R.length ≤ 5 ∧ ow = owe R + 1 ∧ 0 ≤ st ∧ st + ow ≤ 30 ∧
  (∀ v F j st' H', But2 sc rm H H' → Pos K H' sc dx wl ws j rm dr st' (ow - 1) → NeedsAt K H' F [v] → F.len = 1 → F.deep ≤ e → st' = st + F.size → st' + (ow - 1) ≤ 30 → i < j → Run ws ⟨.need, 0, R, st⟩ i (closed R st') j → ws.take j = ws.take i ++ F.words → Q v H') ∧
  (∀ k d H1, But2 sc rm H H1 → H1 d = some (badO k) → Stuck ws ⟨.need, 0, R, st⟩ i k → E (.ref (ga K "BadText")) (some d) H1)
def sp_parts (K : PySem.W.Frag) (e : Nat) : Sp := fun vs H Q E => ∃ (sc dx wl : Addr) (ws : List Str) (i : Nat) (rm dr : Addr) (st ow many : Int) (b : Addr) (R : List (Int × Int)),
  vs = [.ref sc, .ref rm, .ref (ga K "is_any"), .ref b] ∧ Pos K H sc dx wl ws i rm dr st ow ∧ H b = some (.tup [.int ((R.length : Int) + 1), .int many]) ∧ R.length + e = 6 ∧ R.length ≤ 5 ∧ 0 ≤ many ∧ many ≤ 8 ∧ (0 < many → R.length ≤ 4) ∧ ow = owe R + many ∧ 0 ≤ st ∧ st + ow ≤ 30 ∧
  (∀ l kvs F j st' H', But2 sc rm H H' → Pos K H' sc dx wl ws j rm dr st' (ow - many) → H l = none → H' l = some (.lst kvs) → NeedsAt K H' F kvs → F.len ≤ 8 → many ≤ F.len → F.deep + 1 ≤ e → st' = st + F.size → st' + (ow - many) ≤ 30 → i < j → Run ws ⟨.open, many, R, st⟩ i (closed R st') j → ws.take j = ws.take i ++ (("(" : Str) :: (F.words ++ [(")" : Str)])) → Q (.ref l) H') ∧
  (∀ k d H1, But2 sc rm H H1 → H1 d = some (badO k) → Stuck ws ⟨.open, many, R, st⟩ i k → E (.ref (ga K "BadText")) (some d) H1)
section
variable {P : Program} {w : World} {K : PySem.W.Frag} {mg : Str → Option Value} {base : Heap}
theorem sc_take_parts : FnScope ["scan", "room", "let", "bounds", "deep", "many", "parts"] ["scan", "room", "let", "bounds"] (defScope s_take_parts) := ⟨rfl, rfl, rfl, by decide +kernel, rfl, by decide +kernel, by decide +kernel⟩
theorem dec_int (a b : Int) : decide (V.int a = V.int b) = decide (a = b) := by
  by_cases h : a = b
  · rw [decide_eq_true h, decide_eq_true (by rw [h])]
  · rw [decide_eq_false h, decide_eq_false fun q => h (V.int.inj q)]
theorem dec_str (a b : Str) : decide (V.str a = V.str b) = decide (a = b) := by
  by_cases h : a = b
  · rw [decide_eq_true h, decide_eq_true (by rw [h])]
  · rw [decide_eq_false h, decide_eq_false fun q => h (V.str.inj q)]
theorem needs_lst {H : Hp} {l : Addr} {xs : List V} {o : HO} (hl : H l = some (.lst xs)) : ∀ {F : Fo} {vs : List V}, NeedsAt K H F vs → NeedsAt K (upd H l o) F vs
  | .nil, _, h => h
  | .has s r, _, ⟨a, dx', vs', e, h, t⟩ => ⟨a, dx', vs', e, by rw [upd_ne fun q => by rw [q, hl] at h; cases h]; exact h, needs_lst hl t⟩
  | .node k m kids r, _, ⟨a, dx', q, kvs, vs', e, h, hp, tk, t⟩ => ⟨a, dx', q, kvs, vs', e, by
      rw [upd_ne fun q => by rw [q, hl] at h; cases k <;> cases h]
      exact h, by
      rw [upd_ne fun q => by rw [q, hl] at hp; cases hp]
      exact hp, needs_lst hl tk, needs_lst hl t⟩
theorem closed_cons {a : Int × Int} {R : List (Int × Int)} {st : Int} : closed (a :: R) st = ⟨.behind, 0, a :: R, st⟩ := by
  unfold closed
  rw [if_neg (fun q => nomatch q)]
/-- parts.append(take_part(scan, room, let, deep + 1)): what it asks -/
def tPart (K : PySem.W.Frag) (E : XK) (e : Nat) (sc dx wl : Addr) (ws : List Str) (rm dr b : Addr) (many : Int) (R : List (Int × Int)) : TS := fun D σ H5 => ∃ (l : Addr) (i' : Nat) (kvs : List V) (st' ow5 : Int) (R' : List (Int × Int)),
  σ = [some (.ref sc), some (.ref rm), some (.ref (ga K "is_any")), some (.ref b), some (.int ((R.length : Int) + 1)), some (.int many), some (.ref l)] ∧ H5 l = some (.lst kvs) ∧ kvs.length < 1000 ∧ Pos K H5 sc dx wl ws i' rm dr st' ow5 ∧ R'.length = R.length + 1 ∧ R.length ≤ 4 ∧ ow5 = owe R' + 1 ∧ 0 ≤ st' ∧ st' + ow5 ≤ 30 ∧
  (∀ v F j st'' H6, But2 sc rm H5 H6 → Pos K H6 sc dx wl ws j rm dr st'' (ow5 - 1) → H6 l = some (.lst kvs) → NeedsAt K H6 F [v] → F.len = 1 → F.deep ≤ e → st'' = st' + F.size → st'' + (ow5 - 1) ≤ 30 → i' < j → Run ws ⟨.need, 0, R', st'⟩ i' (closed R' st'') j → ws.take j = ws.take i' ++ F.words → D.nx σ (upd H6 l (.lst (kvs ++ [v])))) ∧
  (∀ k d H6, But2 sc rm H5 H6 → H6 d = some (badO k) → Stuck ws ⟨.need, 0, R', st'⟩ i' k → E (.ref (ga K "BadText")) (some d) H6)
theorem ok_take_parts (z : Z P w K mg base) {e k0 : Nat} {fp : FuncData} (hk0 : 5 ≤ k0) (Gp : FnOk P w K mg base (L2.CX P w) k0 (ga K "take_part") fp ["scan", "room", "let", "deep"] (sp_part K e)) (bp : Binds K fp ["scan", "room", "let", "deep"] []) :
    ∃ fd, FnOk P w K mg base (L2.CX P w) (k0 + 1) (ga K "take_parts") fd ["scan", "room", "let", "bounds"] (sp_parts K (e + 1)) ∧ Binds K fd ["scan", "room", "let", "bounds"] [] := by
  obtain ⟨ft, Gt, bt⟩ := ok_take z
  obtain ⟨fs, Gs, bs⟩ := ok_sees z
  obtain ⟨fh, Gh, bh⟩ := ok_has z
  obtain ⟨fr, Gr, br⟩ := ok_refuse z
  obtain ⟨fg, Gg, bg⟩ := ok_signs z
  obtain ⟨tD, iD⟩ := z.i_DEEPEST
  obtain ⟨fd, F⟩ := z.f_take_parts
  refine ⟨fd, F.ok sc_take_parts (fun vs H Q E h => ?_) (fun cdv A outer s H vs Q E hr h => ?_), F.bindsN fun _ _ _ _ _ _ us hl => match us, hl with | [_, _, _, _], _ => rfl⟩
  · obtain ⟨_, _, _, _, _, _, _, _, _, _, _, _, rfl, _⟩ := h
    rfl
  · obtain ⟨sc, dx, wl, ws, i, rm, dr, st, ow, many, b, R, rfl, p, hb, hRe, hR5, m0, m8, mR, how, st0, st30, hQ, hE⟩ := h
    have ref : ∀ {H1 : Hp} (k : Nat), But2 sc rm H H1 → Stuck ws ⟨.open, many, R, st⟩ i k → Refuses K H1 k E := fun k g sk d H2 g2 e2 => hE k d H2 (g.trans (But2.grow g2)) e2 sk
    refine ⟨_, pss_cons (ps_asg (pv 3) (pg_tup rfl (pgs_cons (pg_name (i := 4) sc_take_parts.nd rfl (Or.inl rfl)) (pgs_cons (pg_name (i := 5) sc_take_parts.nd rfl (Or.inl rfl)) pgs_nil))))
      (pss_cons (ps_expr (pe_meth (pv 0) z.cl_Scan z.me_Scan_take Gt (hr.mono hk0) bt .nil (passes_call (E := E) (takes_of rfl rfl rfl rfl) fun _ _ _ _ q => q) (pa_cons (pe_lst (pa_cons pe_str pa_nil)) pa_nil)))
      (pss_cons (ps_set (i := 6) sc_take_parts.nd rfl (Or.inl rfl) (pe_lst pa_nil))
      (pss_cons (ps_if (PW.pt (pw_and (pt_cmpR op_eq (pv 5) pe_int (nomark _)) (pw_and1 (pt_val (pe_meth (pv 0) z.cl_Scan z.me_Scan_sees Gs (hr.mono (Nat.le_trans (by decide) hk0)) bs .nil passF (pa_cons pe_str pa_nil)))))) (pss_cons (ps_fldaug (pv 0) pe_int in_add) (pss_one (ps_ret (pv 6)))) pss_nil)
      (pss_cons (ps_if (pt_cmpR op_eq (pv 5) pe_int (nomark _)) (pss_cons (ps_if (PW.pt (pw_or (pt_cmpR op_eq (pv 4) (pe_glob (v := .int 6) rfl iD ⟨_, rfl⟩) (nomark _)) (pw_or1 (pt_not (pt_val (pe_meth (pv 1) z.cl_Room z.me_Room_has Gh (hr.mono (Nat.le_trans (by decide) hk0)) bh .nil passF (pa_cons pe_int pa_nil))))))) (pss_one (ps_expr (pe_meth0 (pv 0) z.cl_Scan z.me_Scan_refuse Gr (hr.mono (Nat.le_trans (by decide) hk0)) br .nil (passes_call (E := E) (takes_of rfl rfl rfl rfl) fun _ _ _ _ q => q)))) pss_nil) (pss_one (ps_fldaug (pv 1) pe_int in_add))) pss_nil)
      (PSs.cut (fun D σ H3 => D.rt = Q ∧ ∃ (l : Addr) (ow3 : Int), σ = [some (.ref sc), some (.ref rm), some (.ref (ga K "is_any")), some (.ref b), some (.int ((R.length : Int) + 1)), some (.int many), some (.ref l)] ∧ H l = none ∧ H3 l = some (.lst []) ∧ But2 sc rm H H3 ∧ Pos K H3 sc dx wl ws (i + 1) rm dr st ow3 ∧ ow3 = owe ((many, 1) :: R) + 1 ∧ st + ow3 ≤ 30 ∧ R.length ≤ 4 ∧ ws.take (i + 1) = ws.take i ++ [("(" : Str)] ∧
          (∀ s' j, s'.ph ≠ .need → Run ws ⟨.need, 0, (many, 1) :: R, st⟩ (i + 1) s' j → Run ws ⟨.open, many, R, st⟩ i s' j) ∧ (∀ k, Stuck ws ⟨.need, 0, (many, 1) :: R, st⟩ (i + 1) k → Stuck ws ⟨.open, many, R, st⟩ i k))
        (pss_cons (PS.cut (tPart K E e sc dx wl ws rm dr b many R) (ps_expr (pe_bm PySem.F.plainAttrs_list PySem.F.slot_list_append PySem.F.type_list_append mt_append (pv 6) (pa_cons (pe_call Gp hr rfl z.g_take_part z.k_take_part bp .nil (passes_call (E := E) (takes_of rfl rfl rfl rfl) fun _ _ _ _ q => q) (pa_cons (pv 0) (pa_cons (pv 1) (pa_cons (pv 2) (pa_cons (pe_op op_add (pv 4) pe_int) pa_nil))))) pa_nil))) ?iA)
        (pss_cons (ps_while PassesOwn.leaving (pt_cmpR op_eq (pe_meth (pv 0) z.cl_Scan z.me_Scan_take Gt (hr.mono hk0) bt .nil (passes_call (E := E) (takes_of rfl rfl rfl rfl) fun _ _ _ _ q => q) (pa_cons (pe_call Gg (hr.mono (Nat.le_trans (by decide) hk0)) rfl z.g_signs_behind z.k_signs_behind bg .nil passF (pa_cons (pv 1) (pa_cons (pe_callB call_len rfl z.b_len (by decide +kernel) (pa_cons (pv 6) pa_nil)) (pa_cons (pv 5) pa_nil)))) pa_nil)) pe_str (nomark _))
          (pss_cons (ps_if (pt_cmpR op_ge (pe_callB call_len rfl z.b_len (by decide +kernel) (pa_cons (pv 6) pa_nil)) (pv 5) (nomark _)) (pss_one (ps_fldaug (pv 1) pe_int in_add)) pss_nil)
          (pss_one (PS.cut (tPart K E e sc dx wl ws rm dr b many R) (ps_expr (pe_bm PySem.F.plainAttrs_list PySem.F.slot_list_append PySem.F.type_list_append mt_append (pv 6) (pa_cons (pe_call Gp hr rfl z.g_take_part z.k_take_part bp .nil (passes_call (E := E) (takes_of rfl rfl rfl rfl) fun _ _ _ _ q => q) (pa_cons (pv 0) (pa_cons (pv 1) (pa_cons (pv 2) (pa_cons (pe_op op_add (pv 4) pe_int) pa_nil))))) pa_nil))) ?iB))))
        (pss_one (ps_ret (pv 6))))) ?imp))))), ?main⟩
    case main =>
      refine ⟨_, rfl, b, _, rfl, SqT.of hb, rfl, _, _, rfl, _, _, rfl, rfl, ?_⟩
      refine ⟨_, rfl, sc, dx, _, rfl, p.S.s, rfl, by show 1 ≤ sizeLine; rw [sizeLine_eq]; decide, fun lw hlw => ⟨sc, dx, wl, lw, ws, ["("], i, rfl, p.S.grow (Grow.new hlw), upd_same, fun y hy hm H1 g1 S1 => ?_, fun hn => ?_⟩⟩
      · have ey : y = "(" := by simpa using hm
        subst ey
        have gA : But2 sc rm H H1 := (But2.grow (Grow.new hlw)).trans (But2.left g1)
        have p1 : Pos K H1 sc dx wl ws (i + 1) rm dr st ow := (p.grow (Grow.new hlw)).but g1 S1
        have r1 : Run ws ⟨.open, many, R, st⟩ i (if 0 < many then ⟨.need, 0, (many, 1) :: R, st⟩ else ⟨.first, 0, R, st⟩) (i + 1) := Run.one hy (by rw [step_open, if_pos rfl]; split <;> rfl)
        have t1 := take_more hy
        refine ⟨by show 0 ≤ sizeLine; exact Nat.zero_le _, fun l hl1 => ?_⟩
        have hl : H l = none := by
          cases q : H l with
          | none => rfl
          | some o =>
            have n := p1.new hl1
            rw [gA _ _ q n.1 n.2] at hl1
            cases hl1
        have g2 : But2 sc rm H (upd H1 l (.lst [])) := gA.new hl
        have p2 : Pos K (upd H1 l (.lst [])) sc dx wl ws (i + 1) rm dr st ow := p1.grow (Grow.new hl1)
        refine ⟨_, rfl, rfl, _, rfl, ?_⟩
        rw [dec_int]
        by_cases hm0 : many = 0
        · subst hm0
          rw [decide_eq_true rfl]
          have hn0 : ¬ (0 : Int) < 0 := by decide
          rw [if_neg hn0] at r1
          refine iteT ⟨_, rfl, sc, dx, _, rfl, p2.S.s, rfl, sc, dx, wl, ws, i + 1, ")", rfl, p2.S, _, rfl, ?_⟩
          by_cases hp : ws[i + 1]? = some (")" : Str)
          · rw [decide_eq_true hp]
            refine iteT ⟨_, rfl, sc, _, dx, _, _, rfl, p2.S.s, z.cl_Scan, z.na_Scan_at, rfl, _, _, rfl, rfl, dx, _, p2.S.s, by show 2 < 1000; decide, _, rfl, ?_⟩
            have S3 := at_step p2.S hp
            have p3 : Pos K (upd (upd H1 l (.lst [])) sc (scanO K dx wl (i + 1 + 1))) sc dx wl ws (i + 1 + 1) rm dr st (ow - 0) := by
              rw [Int.sub_zero]
              exact p2.but (But.upd (But.refl _)) S3
            refine hQ l [] .nil (i + 2) st _ (g2.trans (But2.left (But.upd (But.refl _)))) p3 hl ?_ rfl (Nat.zero_le _) (Int.le_refl _) (by show 0 + 1 ≤ e + 1; omega) (by show st = st + ((0 : Nat) : Int); omega) (by omega) (by omega) (r1.trans (Run.one hp first_par)) ?_
            · rw [upd_ne (p1.new hl1).1, upd_same]
            · rw [take_more hp, t1, List.append_assoc]
              rfl
          · rw [decide_eq_false hp]
            refine iteF ⟨_, rfl, rfl, _, rfl, ?_⟩
            rw [dec_int, decide_eq_true rfl]
            have np : ∀ y, ws[i + 1]? = some y → y ≠ ")" := fun y hy e => hp (by rw [hy, e])
            have full : (R.length = 5 ∨ 30 - st - owe R < 1) → Stuck ws ⟨.open, 0, R, st⟩ i (i + 1) := fun hf => Stuck.after r1 (Stuck.here (by intro q; cases q) fun y hy => first_full (np y hy) hf)
            refine iteT ⟨_, rfl, rfl, _, rfl, ?_⟩
            rw [dec_int]
            by_cases h5 : (R.length : Int) + 1 = 6
            · rw [decide_eq_true h5]
              exact iteT (iteT ⟨_, rfl, sc, dx, _, rfl, p2.S.s, rfl, sc, dx, wl, ws, i + 1, rfl, p2.S, ref _ g2 (full (.inl (by omega)))⟩)
            · rw [decide_eq_false h5]
              refine iteF ⟨_, rfl, rm, dr, _, rfl, p2.r, rfl, rm, dr, st, ow, 1, rfl, p2.r, _, rfl, ?_⟩
              by_cases h1 : st + ow + 1 ≤ 30
              · rw [decide_eq_true h1]
                refine iteF ⟨_, rfl, rm, _, dr, _, _, rfl, p2.r, z.cl_Room, z.na_Room_owed, rfl, _, _, rfl, rfl, dr, _, p2.r, by show 2 < 1000; decide, ?_⟩
                refine ⟨rfl, l, ow + 1, rfl, hl, ?_, g2.upr, p2.room, ?_, by omega, by omega, t1, fun s' j n r => r1.trans (Run.swap (fun y hy => first_need (np y hy) (by omega) (by omega)) r n), fun k sk => Stuck.after r1 (Stuck.swap (fun y hy => first_need (np y hy) (by omega) (by omega)) (by intro q; cases q) sk)⟩
                · rw [upd_ne (p1.new hl1).2, upd_same]
                · show ow + 1 = max 0 (0 - 1) + owe R + 1
                  omega
              · rw [decide_eq_false h1]
                exact iteT ⟨_, rfl, sc, dx, _, rfl, p2.S.s, rfl, sc, dx, wl, ws, i + 1, rfl, p2.S, ref _ g2 (full (.inr (by omega)))⟩
        · have hpos : 0 < many := by omega
          rw [decide_eq_false hm0]
          rw [if_pos hpos] at r1
          refine iteF (iteF ⟨_, rfl, rfl, _, rfl, ?_⟩)
          rw [dec_int, decide_eq_false hm0]
          refine iteF ⟨rfl, l, ow, rfl, hl, upd_same, g2, p2, ?_, st30, mR hpos, t1, fun s' j n r => r1.trans r, fun k sk => Stuck.after r1 sk⟩
          show ow = max 0 (many - 1) + owe R + 1
          omega
      · exact (ref i (But2.refl H) (Stuck.here (by intro q; cases q) fun y hy => by
          rw [step_open, if_neg fun q => hn y hy (by rw [q]; exact List.mem_cons_self)])).grow (Grow.new hlw)
    case iA =>
      rintro D σ H5 ⟨l, i', kvs, st', ow5, R', rfl, hl5, hk5, p5, hR', hR4, how5, st0', h30', hok, herr⟩
      obtain ⟨nl1, nl2⟩ := p5.lst hl5
      refine ⟨_, rfl, .inl ⟨rfl, _, SqL.of hl5⟩, _, rfl, _, rfl, _, rfl, _, rfl, _, _, rfl, rfl, sc, dx, wl, ws, i', rm, dr, st', ow5, R', ?_, p5, by omega, by omega, how5, st0', h30', fun v F j st'' H6 g6 p6 hv h1 hd hst h30'' hij hrun htake => ?_, herr⟩
      · rw [hR']
        rfl
      · have hl6 := g6 _ _ hl5 nl1 nl2
        exact ⟨l, kvs, v, rfl, rfl, hl6, by rw [sizeLine_eq]; omega, hok v F j st'' H6 g6 p6 hl6 hv h1 hd hst h30'' hij hrun htake⟩
    case iB =>
      rintro D σ H5 ⟨l, i', kvs, st', ow5, R', rfl, hl5, hk5, p5, hR', hR4, how5, st0', h30', hok, herr⟩
      obtain ⟨nl1, nl2⟩ := p5.lst hl5
      refine ⟨_, rfl, .inl ⟨rfl, _, SqL.of hl5⟩, _, rfl, _, rfl, _, rfl, _, rfl, _, _, rfl, rfl, sc, dx, wl, ws, i', rm, dr, st', ow5, R', ?_, p5, by omega, by omega, how5, st0', h30', fun v F j st'' H6 g6 p6 hv h1 hd hst h30'' hij hrun htake => ?_, herr⟩
      · rw [hR']
        rfl
      · have hl6 := g6 _ _ hl5 nl1 nl2
        exact ⟨l, kvs, v, rfl, rfl, hl6, by rw [sizeLine_eq]; omega, hok v F j st'' H6 g6 p6 hl6 hv h1 hd hst h30'' hij hrun htake⟩
    case imp =>
      rintro D σ H3 ⟨hD, l, ow3, rfl, hl, hl3, g3, p3, how3, h30, h4, t1, toR, toS⟩
      refine ⟨l, i + 1, [], st, ow3, (many, 1) :: R, rfl, hl3, by show 0 < 1000; decide, p3, rfl, h4, how3, st0, h30, fun v F j st'' H6 g6 p6 hl6 hv h1 hd hst h30'' hij hrun htake => ?_, fun k d H6 g6 e6 sk => hE k d H6 (g3.trans g6) e6 (toS k sk)⟩
      obtain ⟨nl1, nl2⟩ := p6.lst hl6
      have nlw : l ≠ wl := fun q => by
        have h2 := p3.S.w
        rw [← q, hl3] at h2
        have h3 := HO.lst.inj (Option.some.inj h2)
        have h4 := p6.S.w
        rw [← q, hl6] at h4
        have h5 : ws = [] := by
          cases ws with
          | nil => rfl
          | cons _ _ => cases h3
        have h6 := p6.S.i
        rw [h5] at h6
        have h7 : j ≤ 0 := h6
        omega
      refine ⟨fun m σ' H' => ∃ (i' : Nat) (kvs : List V) (F : Fo) (st' ow' : Int), m = ws.length - i' ∧ σ' = [some (.ref sc), some (.ref rm), some (.ref (ga K "is_any")), some (.ref b), some (.int ((R.length : Int) + 1)), some (.int many), some (.ref l)] ∧ H' l = some (.lst kvs) ∧ But2 sc rm H H' ∧ Pos K H' sc dx wl ws i' rm dr st' ow' ∧ NeedsAt K H' F kvs ∧ F.len ≤ 8 ∧ 1 ≤ F.len ∧ F.deep ≤ e ∧ st' = st + F.size ∧ ow' = owe R + max 0 (many - F.len) ∧ st' + ow' ≤ 30 ∧ i < i' ∧ Run ws ⟨.open, many, R, st⟩ i ⟨.behind, 0, (many, (F.len : Int)) :: R, st'⟩ i' ∧ ws.take i' = ws.take i ++ (("(" : Str) :: F.words),
        ⟨_, j, [v], F, st'', ow3 - 1, rfl, rfl, upd_same, ?_, p6.side nl1 nl2 nlw, needs_lst hl6 hv, by omega, by omega, hd, hst, ?_, h30'', by omega, ?_, ?_⟩, ?_⟩
      · exact fun q o e2 n1 n2 => by
          rw [upd_ne (ne_of_none e2 hl)]
          exact g6 _ _ (g3 _ _ e2 n1 n2) n1 n2
      · rw [how3, h1]
        show max 0 (many - 1) + owe R + 1 - 1 = owe R + max 0 (many - ((1 : Nat) : Int))
        omega
      · have r := toR _ _ (by rw [closed_cons]; intro q; cases q) hrun
        rw [closed_cons] at r
        rw [h1]
        exact r
      · rw [htake, t1, List.append_assoc]
        rfl
      · rintro m σ' H' ⟨i', kvs, F', st1, ow1, rfl, rfl, hl1, g1, p1, hF1, l8, l1, d1, hst1, how1, h301, hi1, run1, tk1⟩
        have hn1 := hF1.len
        obtain ⟨ml1, ml2⟩ := p1.lst hl1
        refine ⟨_, rfl, sc, dx, _, rfl, p1.S.s, rfl, _, rfl, _, rfl, _, _, rfl, .inl ⟨kvs, SqL.of hl1, rfl⟩, _, rfl, rm, dr, st1, ow1, _, many, rfl, p1.r, fun lw hlw => ⟨sc, dx, wl, lw, ws, _, i', rfl, p1.S.grow (Grow.new hlw), upd_same, fun y hy hm H2 g2 S2 => ?_, fun hno => ?_⟩⟩
        · rw [hn1] at hm
          have gB : But2 sc rm H' H2 := (But2.grow (Grow.new hlw)).trans (But2.left g2)
          have p2 : Pos K H2 sc dx wl ws (i' + 1) rm dr st1 ow1 := (p1.grow (Grow.new hlw)).but g2 S2
          have hl2 : H2 l = some (.lst kvs) := gB _ _ hl1 ml1 ml2
          have hF2 := needs_but2 p1 gB hF1
          refine ⟨rfl, _, rfl, ?_⟩
          rw [dec_str]
          rcases signs_in m8 how1 hm with ⟨rfl, hstep, hb8, hmore⟩ | ⟨rfl, hmb, hstep⟩
          · rw [decide_eq_true rfl]
            refine iteT ⟨_, fun σ2 H3 q => q, ?_⟩
            have go : ∀ (H4 : Hp) (ow4 : Int), Pos K H4 sc dx wl ws (i' + 1) rm dr st1 ow4 → But2 sc rm H' H4 → H4 l = some (.lst kvs) → NeedsAt K H4 F' kvs → ow4 = owe ((many, (F'.len : Int) + 1) :: R) + 1 → st1 + ow4 ≤ 30 →
                tPart K E e sc dx wl ws rm dr b many R { nx := fun σ2 H3 => ∃ m', m' < ws.length - i' ∧ ∃ (i' : Nat) (kvs : List V) (F : Fo) (st' ow' : Int), m' = ws.length - i' ∧ σ2 = [some (.ref sc), some (.ref rm), some (.ref (ga K "is_any")), some (.ref b), some (.int ((R.length : Int) + 1)), some (.int many), some (.ref l)] ∧ H3 l = some (.lst kvs) ∧ But2 sc rm H H3 ∧ Pos K H3 sc dx wl ws i' rm dr st' ow' ∧ NeedsAt K H3 F kvs ∧ F.len ≤ 8 ∧ 1 ≤ F.len ∧ F.deep ≤ e ∧ st' = st + F.size ∧ ow' = owe R + max 0 (many - F.len) ∧ st' + ow' ≤ 30 ∧ i < i' ∧ Run ws ⟨.open, many, R, st⟩ i ⟨.behind, 0, (many, (F.len : Int)) :: R, st'⟩ i' ∧ ws.take i' = ws.take i ++ (("(" : Str) :: F.words), rt := D.rt, bk := D.nx, ct := fun σ2 H3 => ∃ m', m' < ws.length - i' ∧ ∃ (i' : Nat) (kvs : List V) (F : Fo) (st' ow' : Int), m' = ws.length - i' ∧ σ2 = [some (.ref sc), some (.ref rm), some (.ref (ga K "is_any")), some (.ref b), some (.int ((R.length : Int) + 1)), some (.int many), some (.ref l)] ∧ H3 l = some (.lst kvs) ∧ But2 sc rm H H3 ∧ Pos K H3 sc dx wl ws i' rm dr st' ow' ∧ NeedsAt K H3 F kvs ∧ F.len ≤ 8 ∧ 1 ≤ F.len ∧ F.deep ≤ e ∧ st' = st + F.size ∧ ow' = owe R + max 0 (many - F.len) ∧ st' + ow' ≤ 30 ∧ i < i' ∧ Run ws ⟨.open, many, R, st⟩ i ⟨.behind, 0, (many, (F.len : Int)) :: R, st'⟩ i' ∧ ws.take i' = ws.take i ++ (("(" : Str) :: F.words) }
                  [some (.ref sc), some (.ref rm), some (.ref (ga K "is_any")), some (.ref b), some (.int ((R.length : Int) + 1)), some (.int many), some (.ref l)] H4 := fun H4 ow4 p4 g4 hl4 hF4 how4 h304 => by
              refine ⟨l, i' + 1, kvs, st1, ow4, (many, (F'.len : Int) + 1) :: R, rfl, hl4, by omega, p4, rfl, h4, how4, by omega, h304, fun v G j2 st2 H6 g6 p6 hl6 hv hG1 hGd hst2 h302 hij2 hrun2 htake2 => ?_, fun k d H6 g6 e6 sk => hE k d H6 ((g1.trans g4).trans g6) e6 (Stuck.after run1 (Stuck.after (Run.one hy hstep) sk))⟩
              obtain ⟨n61, n62⟩ := p6.lst hl6
              have nlw2 : l ≠ wl := nlw
              have lj := p6.S.i
              have hFG := (needs_but2 p4 g6 hF4).app hv
              have hlen := F'.app_len G
              rw [hG1] at hlen
              refine ⟨ws.length - j2, by omega, j2, kvs ++ [v], F'.app G, st2, ow4 - 1, rfl, rfl, upd_same, ?_, p6.side n61 n62 nlw2, needs_lst hl6 hFG, by omega, by omega, ?_, ?_, ?_, h302, by omega, ?_, ?_⟩
              · exact fun q o e2 n1 n2 => by
                  rw [upd_ne (ne_of_none e2 hl)]
                  exact g6 _ _ (g4 _ _ (g1 _ _ e2 n1 n2) n1 n2) n1 n2
              · rw [F'.app_deep G]
                omega
              · rw [F'.app_size G]
                omega
              · rw [how4, hlen]
                show max 0 (many - ((F'.len : Int) + 1)) + owe R + 1 - 1 = owe R + max 0 (many - (((F'.len + 1 : Nat)) : Int))
                omega
              · rw [closed_cons] at hrun2
                rw [hlen]
                exact (run1.trans (Run.one hy hstep)).trans hrun2
              · rw [htake2, take_more hy, tk1, (F'.words_app G (by omega)).1, if_neg (by omega)]
                simp
            refine ⟨_, rfl, _, _, rfl, .inl ⟨kvs, SqL.of hl2, rfl⟩, _, rfl, _, _, rfl, rfl, _, rfl, ?_⟩
            by_cases hge : many ≤ (kvs.length : Int)
            · rw [decide_eq_true hge]
              refine iteT ⟨_, rfl, rm, _, dr, _, _, rfl, p2.r, z.cl_Room, z.na_Room_owed, rfl, _, _, rfl, rfl, dr, _, p2.r, by show 2 < 1000; decide, ?_⟩
              have p3 := p2.room (st' := st1) (ow' := ow1 + 1)
              have g3' : But2 sc rm H' (upd H2 rm (roomO K dr st1 (ow1 + 1))) := gB.upr
              refine go _ (ow1 + 1) p3 g3' ?_ (needs_but2 p1 g3' hF1) ?_ (by omega)
              · rw [upd_ne (p2.lst hl2).2]
                exact hl2
              · show ow1 + 1 = max 0 (many - ((F'.len : Int) + 1)) + owe R + 1
                omega
            · rw [decide_eq_false hge]
              refine iteF (go H2 ow1 p2 gB hl2 hF2 ?_ h301)
              show ow1 = max 0 (many - ((F'.len : Int) + 1)) + owe R + 1
              omega
          · rw [decide_eq_false (by rw [par_ne]; exact fun q => q)]
            refine iteF ⟨_, rfl, ?_⟩
            rw [hD]
            have hw : ow1 = ow - many := by omega
            rw [hw] at p2 h301
            refine hQ l kvs F' (i' + 1) st1 H2 (g1.trans gB) p2 hl hl2 hF2 l8 (by omega) (by omega) hst1 h301 (by omega) (run1.trans (Run.one hy hstep)) ?_
            rw [take_more hy, tk1]
            simp
        · rw [hn1] at hno
          exact (ref i' g1 (Stuck.after run1 (Stuck.here (by intro q; cases q) fun y hy => signs_out m8 how1 (hno y hy)))).grow (Grow.new hlw)
end
end K80

set_option Elab.async false
set_option linter.all false
set_option maxRecDepth 100000
set_option maxHeartbeats 4000000
namespace K80
open PySem PySem.Spec PyProof.Rows L2 SX StX
open He (ga ma)
theorem val_fig {y : Str} (h : figB y = true) : valB y = ((PySem.NumText.digitsVal y.cps.toList : Nat) : Int) := by
  obtain ⟨h1, h2, h3, _⟩ := fig_parts h
  have hne : y.cps.toList ≠ [] := fun e => by
    have : y.length = y.cps.toList.length := by simp [Str.length]
    rw [e] at this
    have : y.length = 0 := this
    omega
  have q := PySem.intText_digits (x := y) (fun c hc => allB_digits h3 c hc) hne (by omega)
  unfold valB
  rw [q]
  rfl
theorem fold_ge : ∀ (l : List Nat) (a : Nat), a ≤ l.foldl (fun acc c => acc * 10 + (c - 48)) a
  | [], a => Nat.le_refl _
  | c :: l, a => Nat.le_trans (by show a ≤ a * 10 + (c - 48); omega) (fold_ge l _)
theorem num_text {y : Str} (h : figB y = true) (h1 : 1 ≤ valB y) (h8 : valB y ≤ 8) : y = numText (valB y) := by
  have e := val_fig h
  obtain ⟨a1, a2, a3, a4⟩ := fig_parts h
  have hd : ∀ c ∈ y.cps.toList, 48 ≤ c ∧ c ≤ 57 := allB_digits a3
  obtain ⟨⟨cs⟩⟩ := y
  have hy0 : cs ≠ [48] := fun q => by
    subst q
    rw [e] at h1
    exact absurd h1 (by decide)
  have h48 : cs.head? ≠ some 48 := by
    rcases a4 with q | q
    · have q2 : cs = [48] := congrArg (fun z : Str => z.cps.toList) q
      exact absurd q2 hy0
    · exact q
  rw [e] at h1 h8 ⊢
  change 1 ≤ ((PySem.NumText.digitsVal cs : Nat) : Int) at h1
  change ((PySem.NumText.digitsVal cs : Nat) : Int) ≤ 8 at h8
  show (⟨⟨cs⟩⟩ : Str) = numText ((PySem.NumText.digitsVal cs : Nat) : Int)
  match cs, hd, h48, h1, h8 with
  | [], _, _, h1, _ => exact absurd h1 (by decide)
  | [c], hd, _, h1, h8 =>
    have hc := hd c List.mem_cons_self
    have ev : PySem.NumText.digitsVal [c] = c - 48 := by
      show 0 * 10 + (c - 48) = c - 48
      omega
    rw [ev] at h1 h8 ⊢
    have hb : c = 49 ∨ c = 50 ∨ c = 51 ∨ c = 52 ∨ c = 53 ∨ c = 54 ∨ c = 55 ∨ c = 56 := by omega
    rcases hb with rfl | rfl | rfl | rfl | rfl | rfl | rfl | rfl <;> decide +kernel
  | c :: d :: r, hd, h48, h1, h8 =>
    have hc := hd c List.mem_cons_self
    have nc : c ≠ 48 := fun q => h48 (by rw [q]; rfl)
    have ge := fold_ge r ((0 * 10 + (c - 48)) * 10 + (d - 48))
    have ev : PySem.NumText.digitsVal (c :: d :: r) = r.foldl (fun acc c => acc * 10 + (c - 48)) ((0 * 10 + (c - 48)) * 10 + (d - 48)) := rfl
    rw [← ev] at ge
    omega
/-! ### the words that may begin a need -/
def heads (R : List (Int × Int)) (st ow : Int) : List Str := if (R.length : Int) + 1 < 6 ∧ st + ow + 1 ≤ 30 then ["has", "every", "some", "few"] else ["has", "every", "some"]
section
variable {R : List (Int × Int)} {st ow : Int} {y : Str}
theorem few_has : (("few" : Str) = "has") = False := eq_false (by decide +kernel)
theorem few_every : (("few" : Str) = "every") = False := eq_false (by decide +kernel)
theorem few_some : (("few" : Str) = "some") = False := eq_false (by decide +kernel)
theorem has_few : (("has" : Str) = "few") = False := eq_false (by decide +kernel)
theorem every_few : (("every" : Str) = "few") = False := eq_false (by decide +kernel)
theorem some_few : (("some" : Str) = "few") = False := eq_false (by decide +kernel)
theorem every_has : (("every" : Str) = "has") = False := eq_false (by decide +kernel)
theorem some_has : (("some" : Str) = "has") = False := eq_false (by decide +kernel)
theorem some_every : (("some" : Str) = "every") = False := eq_false (by decide +kernel)
theorem need_has : step ⟨.need, 0, R, st⟩ "has" = some ⟨.name, 0, R, st + 1⟩ := by
  rw [step_need]
  unfold needStep
  rw [if_neg fun q => by have := q.1; rw [has_few] at this; exact this, if_pos rfl]
theorem need_every : step ⟨.need, 0, R, st⟩ "every" = some ⟨.open, 0, R, st + 1⟩ := by
  rw [step_need]
  unfold needStep
  rw [if_neg fun q => by have := q.1; rw [every_few] at this; exact this, if_neg fun q => by rw [every_has] at q; exact q, if_pos (.inl rfl)]
theorem need_some : step ⟨.need, 0, R, st⟩ "some" = some ⟨.open, 0, R, st + 1⟩ := by
  rw [step_need]
  unfold needStep
  rw [if_neg fun q => by have := q.1; rw [some_few] at this; exact this, if_neg fun q => by rw [some_has] at q; exact q, if_pos (.inr rfl)]
theorem need_few (ho : ow = owe R + 1) (h : (R.length : Int) + 1 < 6 ∧ st + ow + 1 ≤ 30) : step ⟨.need, 0, R, st⟩ "few" = some ⟨.many, 0, R, st + 1⟩ := by
  rw [step_need]
  unfold needStep
  rw [if_pos ⟨rfl, by omega, by omega⟩]
theorem heads_in (h : y ∈ heads R st ow) : y = "has" ∨ y = "every" ∨ y = "some" ∨ (y = "few" ∧ (R.length : Int) + 1 < 6 ∧ st + ow + 1 ≤ 30) := by
  unfold heads at h
  split at h
  · rename_i hc
    simp only [List.mem_cons, List.not_mem_nil, or_false] at h
    rcases h with h | h | h | h
    · exact .inl h
    · exact .inr (.inl h)
    · exact .inr (.inr (.inl h))
    · exact .inr (.inr (.inr ⟨h, hc⟩))
  · simp only [List.mem_cons, List.not_mem_nil, or_false] at h
    rcases h with h | h | h
    · exact .inl h
    · exact .inr (.inl h)
    · exact .inr (.inr (.inl h))
theorem heads_out (ho : ow = owe R + 1) (h : y ∉ heads R st ow) : step ⟨.need, 0, R, st⟩ y = none := by
  rw [step_need]
  unfold needStep
  unfold heads at h
  have h3 : y ≠ "has" ∧ y ≠ "every" ∧ y ≠ "some" := by
    split at h <;> refine ⟨fun q => h ?_, fun q => h ?_, fun q => h ?_⟩ <;> rw [q] <;> decide +kernel
  rw [if_neg (fun q => ?_), if_neg h3.1, if_neg fun q => q.elim h3.2.1 h3.2.2]
  rw [if_pos ⟨by omega, by omega⟩] at h
  exact h (by rw [q.1]; decide +kernel)
end
end K80

set_option Elab.async false
set_option linter.all false
set_option maxRecDepth 100000
set_option maxHeartbeats 8000000
namespace K80
open PySem PySem.Spec PyProof.Rows L2 SX StX
open He (ga ma)
section
variable {P : Program} {w : World} {K : PySem.W.Frag} {mg : Str → Option Value} {base : Heap}
theorem made_grow {H H' : Hp} {x dx : Addr} {o1 o2 : HO} (hx : H x = none) (hd : H dx = none) (g : But x (upd (upd H dx o1) x o2) H') : Grow H H' := fun p o h => by
  have n1 := ne_of_none h hx
  have n2 := ne_of_none h hd
  exact g p o (by rw [upd_ne n1, upd_ne n2]; exact h) n1
theorem made3 {H H' : Hp} {x dx p : Addr} {o1 o2 o3 : HO} (hx : H x = none) (hd : H dx = none) (hp : upd (upd H dx o1) x o2 p = none) (g : But x (upd (upd (upd H dx o1) x o2) p o3) H') : Grow H H' ∧ H' p = some o3 := by
  have hpx : p ≠ x := fun q => by
    rw [q, upd_same] at hp
    cases hp
  refine ⟨fun q o h => ?_, g _ _ upd_same hpx⟩
  have n1 := ne_of_none h hx
  have n2 := ne_of_none h hd
  have e : upd (upd H dx o1) x o2 q = some o := by rw [upd_ne n1, upd_ne n2]; exact h
  exact g q o (by rw [upd_ne (ne_of_none e hp)]; exact e) n1
theorem sc_take_part : FnScope ["scan", "room", "let", "deep", "words", "word", "many", "parts"] ["scan", "room", "let", "deep"] (defScope s_take_part) := ⟨rfl, rfl, rfl, by decide +kernel, rfl, by decide +kernel, by decide +kernel⟩
theorem ok_take_part0 (z : Z P w K mg base) {e k0 : Nat} {fq fd : FuncData} (hk0 : 10 ≤ k0) (F : FunD K "take_part" "take_part" (defArgs s_take_part) (defBody s_take_part) (defScope s_take_part) [] [] (ga K "take_part") fd) (Gq : FnOk P w K mg base (L2.CX P w) k0 (ga K "take_parts") fq ["scan", "room", "let", "bounds"] (sp_parts K (e + 1))) (bq : Binds K fq ["scan", "room", "let", "bounds"] []) :
    FnOk P w K mg base (L2.CX P w) (k0 + 1) (ga K "take_part") fd ["scan", "room", "let", "deep"] (sp_part K (e + 1)) := by
  obtain ⟨ft, Gt, bt⟩ := ok_take z
  obtain ⟨fn, Gn, bn⟩ := ok_take_name z
  obtain ⟨fm, Gm, bm⟩ := ok_take_number z
  obtain ⟨fh, Gh, bh⟩ := ok_has z
  obtain ⟨fH, GH, bH⟩ := ok_Has z
  have GE := ok_Every z
  have GS := ok_Some z
  have GF := ok_Few z
  obtain ⟨tD, iD⟩ := z.i_DEEPEST
  obtain ⟨tW, iW⟩ := z.i_WIDEST
  obtain ⟨tL, iL⟩ := z.i_LARGEST
  refine F.ok sc_take_part (fun vs H Q E h => ?_) (fun cdv A outer s H vs Q E hr h => ?_)
  · obtain ⟨_, _, _, _, _, _, _, _, _, _, rfl, _⟩ := h
    rfl
  · obtain ⟨sc, dx, wl, ws, i, rm, dr, st, ow, R, rfl, p, hRe, hR5, how, st0, st30, hQ, hE⟩ := h
    have ref : ∀ {H1 : Hp} (k : Nat), But2 sc rm H H1 → Stuck ws ⟨.need, 0, R, st⟩ i k → Refuses K H1 k E := fun k g sk d H2 g2 e2 => hE k d H2 (g.trans (But2.grow g2)) e2 sk
    refine ⟨_, pss_cons (ps_set (i := 4) sc_take_part.nd rfl (Or.inl rfl) (pe_lst (pa_cons pe_str (pa_cons pe_str (pa_cons pe_str pa_nil)))))
      (pss_cons (ps_if (PW.pt (pw_and (pt_cmpR op_lt (pv 3) (pe_glob (v := .int 6) rfl iD ⟨_, rfl⟩) (nomark _)) (pw_and1 (pt_val (pe_meth (pv 1) z.cl_Room z.me_Room_has Gh (hr.mono (Nat.le_trans (by decide) hk0)) bh .nil passF (pa_cons pe_int pa_nil)))))) (pss_one (ps_expr (pe_bm PySem.F.plainAttrs_list PySem.F.slot_list_append PySem.F.type_list_append mt_append (pv 4) (pa_cons pe_str pa_nil)))) pss_nil)
      (PSs.cut (fun D σ H1 => D.rt = Q ∧ ∃ lw, σ = [some (.ref sc), some (.ref rm), some (.ref (ga K "is_any")), some (.int ((R.length : Int) + 1)), some (.ref lw), none, none, none] ∧ H1 lw = some (.lst ((heads R st ow).map V.str)) ∧ Grow H H1)
      (pss_cons (ps_set (i := 5) sc_take_part.nd rfl (Or.inl rfl) (pe_meth (pv 0) z.cl_Scan z.me_Scan_take Gt (hr.mono (Nat.le_trans (by decide) hk0)) bt .nil (passes_call (E := E) (takes_of rfl rfl rfl rfl) fun _ _ _ _ q => q) (pa_cons (pv 4) pa_nil)))
      (pss_cons (ps_fldaug (pv 1) pe_int in_add)
      (pss_cons (ps_fldaug (pv 1) pe_int in_sub)
      (pss_cons (ps_if (pt_cmpR op_eq (pv 5) pe_str (nomark _)) (pss_one (ps_ret (pe_make z.mk_Has GH (hr.mono (Nat.le_trans (by decide) hk0)) rfl z.g_Has bH .nil passF (pa_cons (pe_meth (pv 0) z.cl_Scan z.me_Scan_take_name Gn (hr.mono (Nat.le_trans (by decide) hk0)) bn .nil (passes_call (E := E) (takes_of rfl rfl rfl rfl) fun _ _ _ _ q => q) (pa_cons (pv 2) pa_nil)) pa_nil)))) pss_nil)
      (pss_cons (ps_set (i := 6) sc_take_part.nd rfl (Or.inl rfl) pe_int)
      (pss_cons (ps_if (pt_cmpR op_eq (pv 5) pe_str (nomark _)) (pss_cons (ps_set (i := 6) sc_take_part.nd rfl (Or.inl rfl) (pe_meth (pv 0) z.cl_Scan z.me_Scan_take_number Gm (hr.mono (Nat.le_trans (by decide) hk0)) bm .nil (passes_call (E := E) (takes_of rfl rfl rfl rfl) fun _ _ _ _ q => q) (pa_cons pe_int (pa_cons (pe_callB (call_min2 rfl) rfl z.b_min (by decide +kernel) (pa_cons (pe_glob (v := .int 8) rfl iW ⟨_, rfl⟩) (pa_cons (pe_op op_sub (pe_op op_sub (pe_glob (v := .int 30) rfl iL ⟨_, rfl⟩) (pe_fld (pv 1) rfl)) (pe_fld (pv 1) rfl)) pa_nil))) pa_nil)))) (pss_one (ps_fldaug (pv 1) (pv 6) in_add))) pss_nil)
      (PSs.cut (fun D σ H3 => D.rt = Q ∧ ∃ (lw : Addr) (word : Str) (kd : Kd) (many : Int) (j : Nat), σ = [some (.ref sc), some (.ref rm), some (.ref (ga K "is_any")), some (.int ((R.length : Int) + 1)), some (.ref lw), some (.str word), some (.int many), none] ∧ word = kd.word ∧ But2 sc rm H H3 ∧ Pos K H3 sc dx wl ws j rm dr (st + 1) (ow - 1 + many) ∧ (kd = .few → 1 ≤ many) ∧ (kd ≠ .few → many = 0) ∧ many ≤ 8 ∧ (0 < many → R.length ≤ 4) ∧ st + 1 + (ow - 1 + many) ≤ 30 ∧ i < j ∧ Run ws ⟨.need, 0, R, st⟩ i ⟨.open, many, R, st + 1⟩ j ∧ (∀ tl, ws.take j ++ (("(" : Str) :: tl) = ws.take i ++ (kd.headw many ++ tl)))
      (pss_cons (ps_set (i := 7) sc_take_part.nd rfl (Or.inl rfl) (pe_call Gq hr rfl z.g_take_parts z.k_take_parts bq .nil (passes_call (E := E) (takes_of rfl rfl rfl rfl) fun _ _ _ _ q => q) (pa_cons (pv 0) (pa_cons (pv 1) (pa_cons (pv 2) (pa_cons (pe_tup (pa_cons (pv 3) (pa_cons (pv 6) pa_nil))) pa_nil))))))
      (pss_cons (ps_if (pt_cmpR op_eq (pv 5) pe_str (nomark _)) (pss_one (ps_ret (pe_makeS2 z.mk_Few GF (hr.mono hk0) rfl z.g_Few passF (pa_cons (pv 6) (pa_star (pv 7) pa_nil))))) pss_nil)
      (pss_one (ps_ret (pe_ifExp (pt_cmpR op_eq (pv 5) pe_str (nomark _)) (pe_makeS1 z.mk_Every GE (hr.mono hk0) rfl z.g_Every passF (pv 7)) (pe_makeS1 z.mk_Some GS (hr.mono hk0) rfl z.g_Some passF (pv 7))))))) ?node)))))) ) ?imp)), ?main⟩
    case main =>
      refine ⟨by show 3 ≤ sizeLine; rw [sizeLine_eq]; decide, fun lw hlw => ?_⟩
      have p0 := p.grow (Grow.new (o := .lst [.str "has", .str "every", .str "some"]) hlw)
      refine ⟨_, rfl, _, _, rfl, rfl, _, rfl, ?_⟩
      by_cases h1 : (R.length : Int) + 1 < 6
      · rw [decide_eq_true h1]
        refine iteT ⟨_, rfl, rm, dr, _, rfl, p0.r, rfl, rm, dr, st, ow, 1, rfl, p0.r, _, rfl, ?_⟩
        by_cases h2 : st + ow + 1 ≤ 30
        · rw [decide_eq_true h2]
          refine iteT ⟨_, rfl, .inl ⟨rfl, _, SqL.of upd_same⟩, lw, _, _, rfl, rfl, upd_same, by show 3 < sizeLine; rw [sizeLine_eq]; decide, ?_⟩
          refine ⟨rfl, lw, rfl, ?_, by rw [upd_upd]; exact Grow.new hlw⟩
          rw [upd_same]
          unfold heads
          rw [if_pos ⟨h1, h2⟩]
          rfl
        · rw [decide_eq_false h2]
          refine iteF ⟨rfl, lw, rfl, ?_, Grow.new hlw⟩
          rw [upd_same]
          unfold heads
          rw [if_neg fun q => h2 q.2]
          rfl
      · rw [decide_eq_false h1]
        refine iteF (iteF ⟨rfl, lw, rfl, ?_, Grow.new hlw⟩)
        rw [upd_same]
        unfold heads
        rw [if_neg fun q => h1 q.1]
        rfl
    case imp =>
      rintro D σ H1 ⟨hD, lw, rfl, hlw, g⟩
      have p1 := p.grow g
      refine ⟨_, rfl, sc, dx, _, rfl, p1.S.s, rfl, _, rfl, sc, dx, wl, lw, ws, _, i, rfl, p1.S, hlw, fun y hy hm H2 g2 S2 => ?_, fun hno => ref i (But2.grow g) (Stuck.here (by intro q; cases q) fun y hy => heads_out how (hno y hy))⟩
      have p2 : Pos K H2 sc dx wl ws (i + 1) rm dr st ow := p1.but g2 S2
      have gA : But2 sc rm H H2 := (But2.grow g).trans (But2.left g2)
      have p3 := (p2.room (st' := st + 1) (ow' := ow)).room (st' := st + 1) (ow' := ow - 1)
      have gB : But2 sc rm H (upd (upd H2 rm (roomO K dr (st + 1) ow)) rm (roomO K dr (st + 1) (ow - 1))) := gA.upr.upr
      refine ⟨_, rfl, rm, _, dr, _, _, rfl, p2.r, z.cl_Room, z.na_Room_stand, rfl, _, _, rfl, rfl, dr, _, p2.r, by show 2 < 1000; decide, ?_⟩
      refine ⟨_, rfl, rm, _, dr, _, _, rfl, upd_same, z.cl_Room, z.na_Room_owed, rfl, _, _, rfl, rfl, dr, _, upd_same, by show 2 < 1000; decide, ?_⟩
      refine ⟨_, rfl, rfl, _, rfl, ?_⟩
      rw [dec_str]
      have t1 := take_more hy
      rcases heads_in hm with rfl | rfl | rfl | ⟨rfl, hfew⟩
      · rw [decide_eq_true rfl]
        have r1 : Run ws ⟨.need, 0, R, st⟩ i ⟨.name, 0, R, st + 1⟩ (i + 1) := Run.one hy need_has
        refine iteT ⟨_, rfl, sc, dx, _, rfl, p3.S.s, rfl, _, rfl, sc, dx, wl, ws, i + 1, rfl, p3.S, fun y2 hy2 hn2 H4 g4 S4 x dx2 hx hd2 ne => ⟨x, dx2, y2, rfl, upd_same, mem_len p3.S hy2, hn2, fun H5 g5 e5 => ⟨rfl, ?_⟩⟩, fun hno => ref (i + 1) gB (Stuck.after r1 (Stuck.here (by intro q; cases q) fun y hy => by
          rw [step_name, if_neg (by rw [hno y hy]; exact fun q => nomatch q)]))⟩
        have p4 := p3.but g4 S4
        have g45 := made_grow hx hd2 g5
        rw [hD]
        refine hQ (.ref x) (.has y2 .nil) (i + 1 + 1) (st + 1) H5 ((gB.trans (But2.left g4)).trans (But2.grow g45)) (p4.grow g45) ⟨x, dx2, [], rfl, e5, rfl⟩ rfl (by show max 1 0 ≤ e + 1; omega) (by show st + 1 = st + ((1 + 0 : Nat) : Int); omega) (by omega) (by omega) (r1.trans (Run.one hy2 (by rw [step_name, if_pos hn2]))) ?_
        rw [take_more hy2, t1, List.append_assoc]
        rfl
      · rw [decide_eq_false (by rw [every_has]; exact fun q => q)]
        refine iteF ⟨_, rfl, rfl, _, rfl, ?_⟩
        rw [dec_str, decide_eq_false (by rw [every_few]; exact fun q => q)]
        refine iteF ⟨hD, lw, "every", .every, 0, i + 1, rfl, rfl, gB, (by rw [Int.add_zero]; exact p3), (fun q => nomatch q), (fun _ => rfl), by decide, fun q => absurd q (by decide), by omega, by omega, Run.one hy need_every, fun tl => ?_⟩
        rw [t1, List.append_assoc]
        rfl
      · rw [decide_eq_false (by rw [some_has]; exact fun q => q)]
        refine iteF ⟨_, rfl, rfl, _, rfl, ?_⟩
        rw [dec_str, decide_eq_false (by rw [some_few]; exact fun q => q)]
        refine iteF ⟨hD, lw, "some", .some, 0, i + 1, rfl, rfl, gB, (by rw [Int.add_zero]; exact p3), (fun q => nomatch q), (fun _ => rfl), by decide, fun q => absurd q (by decide), by omega, by omega, Run.one hy need_some, fun tl => ?_⟩
        rw [t1, List.append_assoc]
        rfl
      · rw [decide_eq_false (by rw [few_has]; exact fun q => q)]
        refine iteF ⟨_, rfl, rfl, _, rfl, ?_⟩
        rw [dec_str, decide_eq_true rfl]
        have r1 : Run ws ⟨.need, 0, R, st⟩ i ⟨.many, 0, R, st + 1⟩ (i + 1) := Run.one hy (need_few how hfew)
        have emin : (if 30 - (st + 1) - (ow - 1) < 8 then 30 - (st + 1) - (ow - 1) else 8) = min 8 (30 - (st + 1) - owe R) := by
          split <;> omega
        refine iteT ⟨_, rfl, sc, dx, _, rfl, p3.S.s, rfl, _, rfl, rm, _, dr, _, _, rfl, p3.r, z.cl_Room, z.na_Room_stand, rfl, _, _, rfl, rfl, _, rfl, rm, _, dr, _, _, rfl, p3.r, z.cl_Room, z.na_Room_owed, rfl, _, _, rfl, rfl, _, _, rfl, sc, dx, wl, ws, i + 1, 1, _, rfl, p3.S, fun y2 hy2 hn2 H4 g4 S4 => ?_, fun hno => ref (i + 1) gB (Stuck.after r1 (Stuck.here (by intro q; cases q) fun y hy => by
          have q := hno y hy
          rw [emin] at q
          rw [step_many, if_neg (by rw [q]; exact fun q => nomatch q)]))⟩
        rw [emin] at hn2
        have p4 := p3.but g4 S4
        have hnum := hn2
        unfold numB at hnum
        rw [Bool.and_eq_true, decide_eq_true_eq] at hnum
        obtain ⟨hfig, hlo, hhi⟩ := hnum
        refine ⟨_, rfl, rm, _, dr, _, _, rfl, p4.r, z.cl_Room, z.na_Room_owed, rfl, _, rfl, _, _, rfl, rfl, dr, _, p4.r, by show 2 < 1000; decide, ?_⟩
        refine ⟨hD, lw, "few", .few, valB y2, i + 1 + 1, rfl, rfl, (gB.trans (But2.left g4)).upr, p4.room, fun _ => hlo, fun q => absurd rfl q, by omega, fun _ => by omega, by omega, by omega, r1.trans (Run.one hy2 (by rw [step_many, if_pos hn2])), fun tl => ?_⟩
        rw [take_more hy2, t1, List.append_assoc, List.append_assoc]
        have et := num_text hfig hlo (by omega)
        show ws.take i ++ (("few" : Str) :: y2 :: ("(" : Str) :: tl) = ws.take i ++ (("few" : Str) :: numText (small (valB y2)) :: ("(" : Str) :: tl)
        rw [small_ok ⟨by omega, by omega⟩, ← et]
    case node =>
      rintro D σ H3 ⟨hD, lw, word, kd, many, j, rfl, rfl, g3, p3, hf, hnf, m8, mR, h30, hij, run, tk⟩
      have m0 : 0 ≤ many := by
        by_cases q : kd = .few
        · have := hf q
          omega
        · have := hnf q
          omega
      have hnn := owe_nn R
      refine ⟨_, rfl, _, rfl, _, rfl, _, rfl, _, rfl, by show 2 ≤ sizeLine; rw [sizeLine_eq]; decide, fun b hb => ⟨sc, dx, wl, ws, j, rm, dr, st + 1, ow - 1 + many, many, b, R, rfl, p3.grow (Grow.new hb), upd_same, hRe, hR5, m0, m8, mR, by omega, by omega, h30, fun l kvs F j2 st2 H4 g4 p4 hln hl4 hF4 l8 lm hd hst h302 hjj run2 tk2 => ?_, fun k d H5 g5 e5 sk => hE k d H5 ((g3.trans (But2.grow (Grow.new hb))).trans g5) e5 (Stuck.after run sk)⟩⟩
      have gC : But2 sc rm H H4 := (g3.trans (But2.grow (Grow.new hb))).trans g4
      have ew : ow - 1 + many - many = ow - 1 := by omega
      rw [ew] at p4 h302
      have fits : Fits F := ⟨l8, by omega, by omega⟩
      have hn4 := hF4.len
      have done : ∀ (x dx2 q : Addr) (H5 : Hp), Grow H4 H5 → H5 q = some (.tup kvs) → H5 x = some (nodeO K kd many dx2 q) → D.rt (.ref x) H5 := fun x dx2 q H5 g45 hq hx => by
        rw [hD]
        refine hQ (.ref x) (.node kd many F .nil) j2 st2 H5 (gC.trans (But2.grow g45)) (p4.grow g45) ⟨x, dx2, q, kvs, [], rfl, hx, hq, hF4.grow g45, rfl⟩ rfl (by show max (1 + F.deep) 0 ≤ e + 1; omega) (by show st2 = st + ((1 + F.size + 0 : Nat) : Int); omega) h302 (by omega) (run.trans run2) ?_
        rw [tk2, tk]
        rfl
      refine ⟨_, rfl, rfl, _, rfl, ?_⟩
      rw [dec_str]
      cases kd with
      | few =>
        rw [decide_eq_true (show Kd.few.word = "few" from rfl)]
        refine iteT ⟨_, rfl, _, rfl, l, kvs, rfl, .inr (SqL.of hl4), fun x dx2 hx hd2 ne => ⟨[.ref x, .int many], kvs ++ [], rfl, rfl, by rw [List.append_nil, hn4, sizeLine_eq]; omega, fun q hq => ?_⟩⟩
        rw [List.append_nil]
        have hxq : q ≠ x := fun e => by
          rw [e, upd_same] at hq
          cases hq
        refine ⟨x, dx2, q, many, kvs, F, rfl, by rw [upd_ne hxq.symm, upd_same], upd_same, ?_, fits, hf rfl, m8, lm, fun H5 g5 e5 => ⟨rfl, ?_⟩⟩
        · refine (hF4.grow (made_grow hx hd2 (But.refl _))).grow (Grow.new hq)
        · obtain ⟨g45, hq5⟩ := made3 hx hd2 hq g5
          exact done x dx2 q H5 g45 hq5 e5
      | every =>
        have em : many = 0 := hnf (by intro q; cases q)
        subst em
        rw [decide_eq_false (by show ¬ (("every" : Str) = "few"); rw [every_few]; exact fun q => q)]
        refine iteF ⟨_, rfl, rfl, _, rfl, ?_⟩
        rw [dec_str, decide_eq_true (show Kd.every.word = "every" from rfl)]
        refine iteT ⟨_, rfl, l, kvs, rfl, .inr (SqL.of hl4), fun x dx2 hx hd2 ne => ⟨[.ref x], kvs, rfl, rfl, by rw [hn4, sizeLine_eq]; omega, fun q hq => ?_⟩⟩
        have hxq : q ≠ x := fun e => by
          rw [e, upd_same] at hq
          cases hq
        refine ⟨x, dx2, q, kvs, F, rfl, by rw [upd_ne hxq.symm, upd_same], upd_same, ?_, fits, fun H5 g5 e5 => ⟨rfl, ?_⟩⟩
        · refine (hF4.grow (made_grow hx hd2 (But.refl _))).grow (Grow.new hq)
        · obtain ⟨g45, hq5⟩ := made3 hx hd2 hq g5
          exact done x dx2 q H5 g45 hq5 e5
      | some =>
        have em : many = 0 := hnf (by intro q; cases q)
        subst em
        rw [decide_eq_false (by show ¬ (("some" : Str) = "few"); rw [some_few]; exact fun q => q)]
        refine iteF ⟨_, rfl, rfl, _, rfl, ?_⟩
        rw [dec_str, decide_eq_false (by show ¬ (("some" : Str) = "every"); rw [some_every]; exact fun q => q)]
        refine iteF ⟨_, rfl, l, kvs, rfl, .inr (SqL.of hl4), fun x dx2 hx hd2 ne => ⟨[.ref x], kvs, rfl, rfl, by rw [hn4, sizeLine_eq]; omega, fun q hq => ?_⟩⟩
        have hxq : q ≠ x := fun e => by
          rw [e, upd_same] at hq
          cases hq
        refine ⟨x, dx2, q, kvs, F, rfl, by rw [upd_ne hxq.symm, upd_same], upd_same, ?_, fits, fun H5 g5 e5 => ⟨rfl, ?_⟩⟩
        · refine (hF4.grow (made_grow hx hd2 (But.refl _))).grow (Grow.new hq)
        · obtain ⟨g45, hq5⟩ := made3 hx hd2 hq g5
          exact done x dx2 q H5 g45 hq5 e5
end
end K80

set_option Elab.async false
set_option linter.all false
set_option maxRecDepth 100000
set_option maxHeartbeats 8000000
namespace K80
open PySem PySem.Spec PyProof.Rows L2 SX StX
open He (ga ma)
open LamX (CodeO TabS Tabs ExtN TabB LamS)
section
variable {P : Program} {w : World} {K : PySem.W.Frag} {mg : Str → Option Value} {base : Heap}
theorem ok_take_part (z : Z P w K mg base) : ∃ fd, (∀ e, FnOk P w K mg base (L2.CX P w) (10 + 2 * e) (ga K "take_part") fd ["scan", "room", "let", "deep"] (sp_part K e)) ∧ Binds K fd ["scan", "room", "let", "deep"] [] := by
  obtain ⟨fd, F⟩ := z.f_take_part
  have b : Binds K fd ["scan", "room", "let", "deep"] [] := F.bindsN fun _ _ _ _ _ _ us hl => match us, hl with | [_, _, _, _], _ => rfl
  refine ⟨fd, fun e => ?_, b⟩
  induction e with
  | zero =>
    refine F.ok sc_take_part (fun vs H Q E h => ?_) (fun cdv A outer s H vs Q E hr h => ?_)
    · obtain ⟨_, _, _, _, _, _, _, _, _, _, rfl, _⟩ := h
      rfl
    · obtain ⟨_, _, _, _, _, _, _, _, _, R, _, _, h1, h2, _⟩ := h
      omega
  | succ e G =>
    obtain ⟨fq, Gq, bq⟩ := ok_take_parts z (by omega) G b
    exact ok_take_part0 z (show 10 ≤ 10 + 2 * e + 1 by omega) F Gq bq
/-! ### take_need -/
def start0 : LS := ⟨.need, 0, [], 0⟩
theorem sc_take_need : FnScope ["scan", "let"] ["scan", "let"] (defScope s_take_need) := ⟨rfl, rfl, rfl, by decide +kernel, rfl, by decide +kernel, by decide +kernel⟩
def sp_take_need (K : PySem.W.Frag) : Sp := fun vs H Q E => ∃ (sc dx wl : Addr) (ws : List Str) (i : Nat), vs = [.ref sc, .ref (ga K "is_any")] ∧ ScanAt K H sc dx wl ws i ∧
  (∀ v F j st H', But sc H H' → ScanAt K H' sc dx wl ws j → NeedsAt K H' F [v] → F.len = 1 → F.deep ≤ 6 → F.size ≤ 30 → i < j → Run ws start0 i (closed [] st) j → ws.take j = ws.take i ++ F.words → Q v H') ∧
  (∀ k d H1, But sc H H1 → H1 d = some (badO k) → Stuck ws start0 i k → E (.ref (ga K "BadText")) (some d) H1)
theorem ok_take_need (z : Z P w K mg base) : ∃ fd, FnOk P w K mg base (L2.CX P w) 23 (ga K "take_need") fd ["scan", "let"] (sp_take_need K) ∧ Binds K fd ["scan", "let"] [] := by
  obtain ⟨f1, G1, b1⟩ := ok_take_part z
  obtain ⟨f2, G2, b2⟩ := ok_Room z
  obtain ⟨fd, F⟩ := z.f_take_need
  refine ⟨fd, F.ok sc_take_need (fun vs H Q E h => ?_) (fun cdv A outer s H vs Q E hr h => ?_), F.bindsN fun _ _ _ _ _ _ us hl => match us, hl with | [_, _], _ => rfl⟩
  · obtain ⟨_, _, _, _, _, rfl, _⟩ := h
    rfl
  · obtain ⟨sc, dx, wl, ws, i, rfl, hS, hQ, hE⟩ := h
    refine ⟨_, pss_one (ps_ret (pe_call (G1 6) hr rfl z.g_take_part z.k_take_part b1 .nil (passes_call (E := E) (takes_of rfl rfl rfl rfl) fun _ _ _ _ q => q) (pa_cons (pv 0) (pa_cons (pe_make0 z.mk_Room G2 (hr.mono (by decide)) rfl z.g_Room b2 .nil passF) (pa_cons (pv 1) (pa_cons pe_int pa_nil)))))), ?_⟩
    refine ⟨_, rfl, fun rm dr hr1 hd1 ne => ⟨rm, dr, rfl, upd_same, fun H1 g1 e1 => ⟨rfl, ?_⟩⟩⟩
    have g2 := made_grow hr1 hd1 g1
    refine ⟨_, rfl, sc, dx, wl, ws, i, rm, dr, 0, 1, [], rfl, ⟨hS.grow g2, e1⟩, rfl, by decide, rfl, by decide, by decide, fun v F j st' H' g3 p3 hv h1 hd hst h30 hij hrun htake => ?_, fun k d H3 g3 e3 sk => ?_⟩
    · have hb : But sc H H' := fun p o h n => g3 _ _ (g2 _ _ h) n (fun q => by rw [q, hr1] at h; cases h)
      exact hQ v F j st' H' hb p3.S hv h1 hd (by omega) hij hrun htake
    · have hb : But sc H H3 := fun p o h n => g3 _ _ (g2 _ _ h) n (fun q => by rw [q, hr1] at h; cases h)
      exact hE k d H3 hb e3 sk
end
end K80

set_option Elab.async false
set_option linter.all false
set_option maxRecDepth 100000
set_option maxHeartbeats 8000000
namespace K80
open PySem PySem.Spec PyProof.Rows L2 SX StX
open He (ga ma)
open LamX (CodeO TabS Tabs ExtN TabB LamS)
/-- the words are refused at item k: it cannot stand, or it is one too many -/
def Refused (ws : List Str) (k : Nat) : Prop := Stuck ws start0 0 k ∨ ∃ st, Run ws start0 0 (closed [] st) k ∧ k < ws.length
section
variable {P : Program} {w : World} {K : PySem.W.Frag} {mg : Str → Option Value} {base : Heap}
/-- what a reading of the text t comes to, from the heap H -/
def ReadsTo (K : PySem.W.Frag) (t : Str) (H : Hp) (Q : VK) (E : XK) : Prop := t.length + 2 ≤ sizeLine ∧ (Txt.split t " ").length ≤ 1000000 ∧ (∀ y ∈ Txt.split t " ", y.length ≤ 1000000) ∧
  (∀ v F st H', Grow H H' → NeedsAt K H' F [v] → F.len = 1 → F.deep ≤ 6 → F.size ≤ 30 → Run (Txt.split t " ") start0 0 (closed [] st) (Txt.split t " ").length → Txt.split t " " = F.words → Q v H') ∧
  (∀ k d H1, Grow H H1 → H1 d = some (badO k) → Refused (Txt.split t " ") k → E (.ref (ga K "BadText")) (some d) H1)
def spLam (K : PySem.W.Frag) : Sp := fun vs H Q E => ∃ sc : Addr, vs = [.ref sc] ∧ sp_take_need K [.ref sc, .ref (ga K "is_any")] H Q E
theorem sc_read_whole : FnScope ["text", "take", "scan", "found"] ["text", "take"] (defScope s_read_whole) := ⟨rfl, rfl, rfl, by decide +kernel, rfl, by decide +kernel, by decide +kernel⟩
theorem sc_read_need : FnScope ["text"] ["text"] (defScope s_read_need) := ⟨rfl, rfl, rfl, by decide +kernel, rfl, by decide +kernel, by decide +kernel⟩
/-- the tables of the defs that make lambdas -/
def qn (x : Str) : Str := x ++ ".<locals>." ++ "<lambda>"
def TT (K : PySem.W.Frag) : List (Addr × Str) := [((He.cT K ("read_need", none)).2, qn "read_need"), ((He.cT K ("_law_same", none)).2, qn "_law_same"), ((He.cT K ("law", none)).2, qn "law")]
def sp_read_need (K : PySem.W.Frag) : Sp := fun vs H Q E => ∃ t : Str, vs = [.str t] ∧ Tabs (TT K) H ∧ ∀ H1, ExtN H H1 → Tabs (TT K) H1 → ReadsTo K t H1 Q E
def lamE : Expr := match defBody s_read_need with
  | [.Return (some (.Call _ [_, l] _ _)) _] => l
  | _ => .Name "x" ⟨0, 0, 0, 0⟩
def lamP : Arguments := match lamE with
  | .Lambda p _ _ _ => p
  | _ => defArgs s_read_need
def lamB : Expr := match lamE with
  | .Lambda _ b _ _ => b
  | e => e
def lamS : Scope := match lamE with
  | .Lambda _ _ s _ => s
  | _ => defScope s_read_need
theorem ok_read_need (z : Z P w K mg base) (hne : (He.cT K ("_law_same", none)).2 ≠ (He.cT K ("read_need", none)).2 ∧ (He.cT K ("law", none)).2 ≠ (He.cT K ("read_need", none)).2) : ∃ fd, FnOk P w K mg base (L2.CX P w) 26 (ga K "read_need") fd ["text"] (sp_read_need K) ∧ Binds K fd ["text"] [] ∧ FunD K "read_need" "read_need" (defArgs s_read_need) (defBody s_read_need) (defScope s_read_need) [] [] (ga K "read_need") fd := by
  obtain ⟨f1, G1, b1⟩ := ok_take_need z
  obtain ⟨f2, G2, b2⟩ := ok_Scan z
  obtain ⟨f3, G3, b3⟩ := ok_finish z
  obtain ⟨fw, Fw⟩ := z.f_read_whole
  obtain ⟨oc, od, dV, kV, doc, pm, an, cdv, ct, osl, rfl, lkw, hcw, hDw, _⟩ := Fw.ex
  obtain rfl : dV = .none := by
    rcases hDw with ⟨_, e⟩ | ⟨e, _⟩
    · exact e
    · exact absurd rfl e
  have bw : Binds K (PySem.W.fnOf "read_whole" "read_whole" (defArgs s_read_whole) (defBody s_read_whole) (defScope s_read_whole) .none kV doc pm an cdv ct) ["text", "take"] [] := Fw.bindsN fun _ _ _ _ _ _ us hl => match us, hl with | [_, _], _ => rfl
  obtain ⟨fd, F⟩ := z.f_read_need
  have bd : Binds K fd ["text"] [] := F.bindsN fun _ _ _ _ _ _ us hl => match us, hl with | [_], _ => rfl
  obtain ⟨oc2, od2, dV2, kV2, doc2, pm2, an2, cdv2, ct2, osl2, rfl, lk2, hc2, _, _⟩ := F.ex
  obtain ⟨c2, rfl⟩ := He.codeIn_ref hc2
  have ec2 : He.codeOf K ("read_need", none) = c2 := He.codeOf_eq (p := ("read_need", none)) lk2 rfl
  have TB : TabB base mg c2 (He.cT K ("read_need", none)).2 := by
    have q := z.tb ("read_need", none) (by decide +kernel)
    have e : (He.cT K ("read_need", none)).1 = c2 := ec2
    rw [e] at q
    exact q
  refine ⟨_, fn_of lk2 hc2 sc_read_need (fun vs H Q E h => ?_) (fun A outer s H vs Q E hr h => ?_), bd, F⟩
  · obtain ⟨t, rfl, _⟩ := h
    rfl
  · obtain ⟨t, rfl, hT, hR⟩ := h
    refine ⟨_, pss_one (ps_ret (pe_lam1 (E := E) (T := TT K) (TT := fun f c' v0 H1 Q => v0 = .str t ∧ ReadsTo K t H1 Q E) rfl z.g_read_whole z.k_read_whole lkw hcw bw sc_read_whole TB rfl List.mem_cons_self (fun p hp e => ?hu) hr ?nf rfl rfl (passes_call (E := E) (takes_of rfl rfl rfl rfl) fun _ _ _ _ q => q) (pv 0) ?hG)), ?_⟩
    case hu =>
      simp only [TT, List.mem_cons, List.not_mem_nil, or_false] at hp
      rcases hp with rfl | rfl | rfl
      · rfl
      · exact absurd e hne.1
      · exact absurd e hne.2
    case nf => decide +kernel
    case hG =>
      rintro f c' pm3 ctv A' outer' s' H' v0 Q' hf hn hfr hco hr' ⟨rfl, hlen, hwl, hyl, hok, herr⟩
      have L : LamKeeps P w K mg base 23 (qn "read_need") lamP lamB lamS ["scan"] ["scan"] (spLam K) := ⟨⟨rfl, rfl, rfl, by decide +kernel, rfl, by decide +kernel, by decide +kernel⟩, fun vs H Q E h => by
        obtain ⟨_, rfl, _⟩ := h
        rfl, fun pm cv ctv us hl => match us, hl with | [_], _ => rfl, fun f c' A outer s H vs Q E h hr => by
        obtain ⟨sc, rfl, hq⟩ := h
        exact ⟨_, pe_call G1 hr rfl z.g_take_need z.k_take_need b1 .nil (passes_call (E := E) (takes_of rfl rfl rfl rfl) fun _ _ _ _ q => q) (pa_cons (pv 0) (pa_cons (pe_glob (v := .ref (ga K "is_any")) rfl z.g_is_any rfl) pa_nil)), _, rfl, hq⟩⟩
      refine ⟨_, pss_cons (ps_set (i := 2) sc_read_whole.nd rfl (Or.inl rfl) (pe_make z.mk_Scan G2 (hr'.mono (by decide)) rfl z.g_Scan b2 .nil passF (pa_cons (pv 0) pa_nil)))
        (pss_cons (ps_set (i := 3) sc_read_whole.nd rfl (Or.inl rfl) (pe_act1 (i := 1) L hf hn hfr (fun q => nomatch (show f ∈ ([] : List Addr) from q)) hr' rfl (.inl rfl) (passes_call (E := E) (takes_of rfl rfl rfl rfl) fun _ _ _ _ q => q) (pa_cons (pv 2) pa_nil)))
        (pss_cons (ps_expr (pe_meth0 (pv 2) z.cl_Scan z.me_Scan_finish G3 (hr'.mono (by decide)) b3 .nil (passes_call (E := E) (takes_of rfl rfl rfl rfl) fun _ _ _ _ q => q))) (pss_one (ps_ret (pv 3))))), ?_⟩
      refine ⟨_, rfl, fun sc dx hs hd ne => ⟨sc, dx, t, rfl, upd_same, hlen, fun wl H1 g1 hw e1 e2 => ⟨rfl, ?_⟩⟩⟩
      have g01 := made_grow hs hd g1
      have S1 : ScanAt K H1 sc dx wl (Txt.split t " ") 0 := ⟨e2, e1, hwl, Nat.zero_le _, hyl⟩
      have gS : ∀ {H2 : Hp}, But sc H1 H2 → Grow H' H2 := fun g p o h => g p o (g01 p o h) (ne_of_none h hs)
      refine ⟨rfl, _, rfl, g01 _ _ hco, sc, rfl, sc, dx, wl, _, 0, rfl, S1, fun v F j st H2 g2 S2 hv h1 hd2 hsz hij hrun htake => ?_, fun k d H2 g2 e3 sk => herr k d H2 (gS g2) e3 (.inl sk)⟩
      refine ⟨_, rfl, sc, dx, _, rfl, S2.s, rfl, sc, dx, wl, _, j, rfl, S2, fun hj => ⟨_, rfl, ?_⟩, fun hj d H3 g3 e3 => herr j d H3 ((gS g2).trans g3) e3 (.inr ⟨st, hrun, Nat.lt_of_le_of_ne S2.i hj⟩)⟩
      subst hj
      refine hok v F st H2 (gS g2) hv h1 hd2 hsz hrun ?_
      rw [List.take_length] at htake
      exact htake
    exact ⟨_, rfl, hT, fun f c' H1 e1 T1 hc1 => ⟨rfl, hR H1 e1 T1⟩⟩
end
end K80

set_option Elab.async false
set_option linter.all false
set_option maxRecDepth 100000
set_option maxHeartbeats 4000000
/-! for i, x in enumerate(t), t a tuple -/
namespace PySem
open Sem (wp)
open AutoSeq1 (wpAny_loadPart')
theorem sx_enum_newT (l : Addr) (items : Array Value) (n : Nat) (dct : Option Addr) (sl : Array (Option Value)) :
    Meets (Builtin.«enumerate.__new__» ⟨[.type "enumerate", .ref l], []⟩) (fun _ R s => s.heap.get? l = some { cls := .type "tuple", dict := dct, data := .seq items n, slots := sl } ∧
      R (.ok (.ret (.ref (s.heap.push { cls := .type "tuple_iterator", data := .fields #[.ref l, .int 0 0] }).objs.size)))
        { s with heap := (s.heap.push { cls := .type "tuple_iterator", data := .fields #[.ref l, .int 0 0] }).push { cls := .type "enumerate", data := .fields #[.none, .bool false, .ref s.heap.objs.size, rawInt 0, .none, .none] } }) :=
  .of_wp fun prog w A R s h => by
    obtain ⟨hp, g, d, tk, os⟩ := s
    obtain ⟨hl, h⟩ := h
    have hsub := sub_enumerate
    have hL : Heap.IsTuple (Shared.heap ⟨hp, g, d, tk, os⟩) l items := ⟨_, hl, rfl, n, rfl⟩
    wp_walk using wpAny_loadPart' hl
    refine wpAny_stack_any fun st => wpAny_pure ?_
    split
    · rename_i c _ _ _ _ _
      cases (c == Value.type "enumerate")
      · wp_walk using wpAny_loadPart' hl, wpAny_pyIter_tuple hL
        exact ⟨_, rfl, h⟩
      · wp_walk using wpAny_loadPart' hl, wpAny_pyIter_tuple hL
        exact ⟨_, rfl, h⟩
    · wp_walk using wpAny_loadPart' hl, wpAny_pyIter_tuple hL
      exact ⟨_, rfl, h⟩
section
variable {prog : Program} {w : World} {A : Around} {E : Value → Shared → Prop} {s : Shared}
theorem sx_call_enumT {l : Addr} {items : Array Value} {Q : Value → Shared → Prop} (hL : s.heap.IsTuple l items)
    (h : ∀ h', IsEnum h' (s.heap.objs.size + 1) s.heap.objs.size 0 .none → h'.IsTupleIter s.heap.objs.size l 0 → h'.objs.size = s.heap.objs.size + 2 →
      (∀ b o, s.heap.get? b = some o → h'.get? b = some o) → Q (.ref (s.heap.objs.size + 1)) { s with heap := h' }) :
    wpAny (model prog w) A (call (.type "enumerate") [.ref l]) Q E s := by
  obtain ⟨⟨c, dct, dt, sl⟩, hl, hc, n, hd⟩ := hL
  replace hc : c = .type "tuple" := hc
  replace hd : dt = .seq items n := hd
  subst hc hd
  refine callType_new F.called_enumerate (by decide) (F.typeCall_enumerate_1 _) (F.newCall_enumerate_1 _) (fun obj => F.args_object_init_2 obj _) F.entry_enumerate_new (sx_enum_newT l items n dct sl) ⟨hl, ?_⟩
  have hz : (s.heap.push { cls := .type "tuple_iterator", data := .fields #[.ref l, .int 0 0] }).objs.size = s.heap.objs.size + 1 := Heap.size_push ..
  show _ ∧ _
  rw [hz]
  have he : IsEnum ((s.heap.push { cls := .type "tuple_iterator", data := .fields #[.ref l, .int 0 0] }).push
      { cls := .type "enumerate", data := .fields #[.none, .bool false, .ref s.heap.objs.size, rawInt 0, .none, .none] }) (s.heap.objs.size + 1) s.heap.objs.size 0 .none := by
    have q := Heap.get?_push_size (s.heap.push { cls := .type "tuple_iterator", data := .fields #[.ref l, .int 0 0] })
      (o := { cls := .type "enumerate", data := .fields #[.none, .bool false, .ref s.heap.objs.size, rawInt 0, .none, .none] }) rfl
    rw [hz] at q
    exact q
  refine ⟨⟨_, he, rfl⟩, h _ he ⟨_, Heap.get?_push_of_some _ (Heap.get?_push_size _ rfl), rfl, rfl⟩ (by rw [Heap.size_push, hz]) fun b o x => Heap.get?_push_of_some _ (Heap.get?_push_of_some _ x)⟩
theorem sx_next_enumT_end {e it l : Addr} {i : Nat} {items : Array Value} {old : Value} {Q : Option Value → Shared → Prop} (hh : A.handled = none)
    (he : IsEnum s.heap e it i old) (hit : s.heap.IsTupleIter it l i) (hl : s.heap.IsTuple l items) (hx : items[i]? = none)
    (hQ : ∀ h', Heap.ExtBut it s.heap h' → Q none { s with heap := h' }) : wpAny (model prog w) A (pyNext (.ref e)) Q E s := by
  have hT : s.TypeIs (.ref e) "enumerate" := ⟨_, he, rfl⟩
  unfold pyNext
  refine wpAny_bind (wpAny_attempt (wpAny_callSpecial?_slot (name := Str.ofString "__next__") hT F.slot_enumerate_next
    (wpAny_call_entry F.slot_enumerate_next hT F.entry_enumerate_next ?_ (F.args_enumerate_next_1 _))))
  show wpAny _ _ (field (.ref e) 2 >>= _) _ _ _
  refine wpAny_bind (wpAny_field he rfl (x := .ref it) rfl ?_)
  refine wpAny_bind (wpAny_nextOf_tuple_end hh hit hl hx fun h' x he' hx' => ?_)
  obtain ⟨o, ho, hc⟩ := hx'
  refine wpAny_bind (wpAny_isInstance (T := "StopIteration") (b := true) ⟨o, ho, hc⟩ isSubtype_stop ?_)
  exact wpAny_pure (hQ _ he')
end
end PySem
namespace SX
open PySem PySem.Spec PyProof.Rows L2
/-- the tuple's items, each in a new pair -/
def IteT (K : PySem.W.Frag) (a : Addr) : It :=
  ⟨fun i H => ∃ (xs : List V) (x : V), SqT K H a xs ∧ xs[i]? = some x, fun i H v H' => ∃ T x, v = .ref T ∧ H T = none ∧ H' = upd H T (.tup [.int (i : Nat), x]) ∧ ∀ xs, SqT K H a xs → xs[i]? = some x, fun i H => ∃ xs : List V, SqT K H a xs ∧ xs.length ≤ i⟩
theorem tuple_inj {X : Cx} {pins : List (Addr × Obj)} {σ : L2.St} {H : Hp} {s : Shared} {a : Addr} {xs ys : List V} (I : Inv X pins σ H s) (h : SqT X.K H a xs) (h' : SqT X.K H a ys) : xs = ys := I.tuple_inj h h'
theorem turn_enumT {P : Program} {w : World} {K : PySem.W.Frag} {elts : List Expr} {kk : Nat} {tpos : Pos} (a e it : Addr) :
    Turn P w K (.Tuple elts kk tpos) (IteT K a) [e, it] e (fun i h => (∃ old, IsEnum h e it ((i : Nat) : Int) old) ∧ h.IsTupleIter it a i ∧ e ≠ it) where
  mem := by simp
  obj := fun i h st b hb => by
    obtain ⟨⟨old, he⟩, ⟨o, ho, hc, hd⟩, _⟩ := st
    have e' : b = e ∨ b = it := by simpa using hb
    rcases e' with z | z
    · rw [z]; exact ⟨_, he, fun v q => nomatch q⟩
    · rw [z]; exact ⟨o, ho, fun v q => by rw [hd] at q; cases q⟩
  keep := fun i h h' st k => let ⟨⟨old, he⟩, hi, hne⟩ := st; ⟨⟨old, k e (by simp) _ he⟩, hi.at fun o q => k it (by simp) o q, hne⟩
  item := by
    intro X hP hw hK hc i pins s σ H E I hf st hg
    subst hP hw hK
    obtain ⟨⟨old, he⟩, hit, hne⟩ := st
    obtain ⟨xs, x, hq, hx⟩ := hg
    obtain ⟨its, rv, p, hz⟩ := I.tuple hq
    obtain ⟨u, hu, ru⟩ := rv.get hx
    have hel : e < s.heap.objs.size := Heap.lt_size he
    have hil : it < s.heap.objs.size := by obtain ⟨_, q, _⟩ := hit; exact Heap.lt_size q
    have hai : a ≠ it := fun z => by
      obtain ⟨o1, q1, c1, _⟩ := hit
      obtain ⟨o2, q2, c2, _⟩ := (show s.heap.IsTuple a its.toArray from p)
      rw [z, q1] at q2
      cases q2
      rw [c1] at c2
      exact absurd c2 (by decide)
    have hlt : i < its.toArray.size := by
      rw [List.size_toArray]
      exact (List.getElem?_eq_some_iff.mp hu).1
    refine wpAny_pyNext_enum_itemD (Draws.tuple (A := X.A.in1) (I.ok.hd hc) it a hai its.toArray) he ⟨hit, p⟩ hlt hne (fun z => ?_) fun u' h' tk hPx ho hst' hT hsz hk => ?_
    · have e' : e = it ∨ e = a := by simpa using z
      rcases e' with q | q
      · exact hne q
      · obtain ⟨o2, q2, c2, _⟩ := (show s.heap.IsTuple a its.toArray from p)
        rw [← q, he] at q2
        cases q2
        exact absurd (show Value.type "enumerate" = Value.type "tuple" from c2) (by decide)
    have eu : u' = u := by
      have q : its.toArray[i]? = some u' := hPx
      rw [List.getElem?_toArray, hu] at q
      exact (Option.some.inj q).symm
    subst eu
    refine ⟨_, rfl, wpAny_letOwnedTupleGo_enum (s := { s with heap := h', toks := tk + 1 }) ho fun h'' he' sb => ?_⟩
    have hT2 : h''.get? s.heap.objs.size = some { cls := .type "tuple", data := .seq #[.int i tk, u'] } := (sb.2 _ (Nat.ne_of_gt hel)).trans hT
    have new : ObjOk X.prog X.w (upd H s.heap.objs.size (.tup [.int (i : Nat), x])) h'' s.heap.objs.size (.tup [.int (i : Nat), x]) :=
      ⟨by show 2 ≤ sizeLine; decide, [.int i tk, u'], .cons ⟨_, rfl⟩ (.cons ru .nil), ⟨_, hT2, rfl, _, rfl⟩⟩
    have I1 : Inv X pins σ (upd H s.heap.objs.size (.tup [.int (i : Nat), x])) { s with heap := h'', toks := tk + 1 } :=
      I.turnedNew (ch := [e, it]) (fun b ob hb q => (sb.2 b (fun z => hb (by simp [z]))).trans (hk b ob (fun z => hb (by simp [z])) (fun z => hb (by simp [z])) q)) hf (Nat.le_refl _) new
    refine ⟨.ref s.heap.objs.size, _, I1, rfl, ⟨_, x, rfl, I.hok.fresh (Nat.le_refl _), rfl, fun ys hy => by rw [tuple_inj I hy hq]; exact hx⟩, ⟨⟨u', ?_⟩, hst'.1.at fun o q => (sb.2 it (Ne.symm hne)).trans q, hne⟩, fun b hb => ?_⟩
    · have e1 : ((i + 1 : Nat) : Int) = (i : Int) + 1 := by omega
      rw [e1]; exact he'
    · have hb' : b < s.heap.objs.size := by
        have e' : b = e ∨ b = it := by simpa using hb
        rcases e' with z | z
        · rw [z]; exact hel
        · rw [z]; exact hil
      rw [upd_ne (Nat.ne_of_lt hb')]
      exact (hf b hb).1
  done := by
    intro X hP hw hK hc i pins s σ H E I hf st hg
    subst hP hw hK
    obtain ⟨⟨old, he⟩, hit, hne⟩ := st
    obtain ⟨xs, hq, hx⟩ := hg
    obtain ⟨its, rv, p, hz⟩ := I.tuple hq
    obtain ⟨f0, f1, f2, f3, f4, f5⟩ := hf it (by simp)
    have hl := rv.length
    exact sx_next_enumT_end (I.ok.hd hc) he hit p (by simp; omega) fun h' eb => ⟨rfl, I.turned (t' := s.toks) (fun b o hb q => eb b o hb q) f0 f1 f3 f4 f5⟩
  self := fun A i s Q E st h => let ⟨⟨_, he⟩, _⟩ := st; wpAny_pyIter_enum he h
def iEnumT (K : PySem.W.Frag) (ta : TA) : TI := fun σ H R => ta σ H fun vs H1 => ∃ a xs, vs = [.ref a] ∧ SqT K H1 a xs ∧ R (IteT K a) H1
theorem pi_enumT {X : Cx} {e : Expr} {ta : TA} {p pos tpos : Pos} {elts : List Expr} {kk : Nat} (hg : Gl X "enumerate") (hm : X.mg "enumerate" = none) (ha : PA X [e] ta) (hs : starEach [e] X.env = [(false, eval e X.env)] := by rfl) :
    PI X (.Tuple elts kk tpos) (.Call (.Name "enumerate" p) [e] [] pos) (iEnumT X.K ta) := by
  refine ⟨fun pins s σ H R I h => ?_⟩
  refine Call_ (ld_blt I hg hm boot_enumerate (PyProof.Rows.callWith_type1 (thn (ha.run pos pins s σ H _ I h) fun us s1 ⟨vs, H1, I1, r1, q1⟩ => ?_) hs rfl))
  obtain ⟨a, xs, ex, hq, q⟩ := q1
  subst ex
  cases r1 with
  | cons r rr =>
    cases rr
    cases r
    obtain ⟨its, rv, p', hz⟩ := I1.tuple hq
    refine sx_call_enumT p' fun h' he hit hsz hk => wpAny_pyIter_enum he ?_
    have I2 : Inv X pins σ H1 { s1 with heap := h' } := I1.kept (t' := s1.toks) hk
    refine ⟨s1.heap.objs.size + 1, [s1.heap.objs.size + 1, s1.heap.objs.size], _, _, H1, rfl, I2, turn_enumT a (s1.heap.objs.size + 1) s1.heap.objs.size, ⟨⟨.none, he⟩, hit, Nat.succ_ne_self _⟩, fun b hb => ?_, q⟩
    have e' : b = s1.heap.objs.size + 1 ∨ b = s1.heap.objs.size := by simpa using hb
    have hle : s1.heap.objs.size ≤ b := by
      rcases e' with z | z
      · rw [z]; exact Nat.le_add_right _ _
      · rw [z]; exact Nat.le_refl _
    exact I1.fpOk hle (I1.hok.fresh hle)
theorem walk_enumT {K : PySem.W.Frag} {a : Addr} {xs : List V} : Walk (IteT K a) xs.length (fun H => SqT K H a xs) (YPair (fun i => some (.int (i : Nat))) (fun i => xs[i]?)) := by
  refine ⟨fun i _ hi q => ⟨xs, xs[i], q, by simp [hi]⟩, fun _ q => ⟨xs, q, Nat.le_refl _⟩, fun i H v H' _ q y => ?_⟩
  obtain ⟨T, x, h1, h2, h3, h4⟩ := y
  exact ⟨T, .int (i : Nat), x, h1, h2, h3, rfl, h4 xs q⟩
end SX

set_option Elab.async false
set_option linter.all false
set_option maxRecDepth 100000
set_option maxHeartbeats 8000000
namespace K80
open PySem PySem.Spec PyProof.Rows L2 SX StX
open He (ga ma)
section
variable {P : Program} {w : World} {K : PySem.W.Frag} {mg : Str → Option Value} {base : Heap}
theorem sc_need_items : FnScope ["need", "found", "at", "part"] ["need"] (defScope s_need_items) := ⟨rfl, rfl, rfl, by decide +kernel, rfl, by decide +kernel, by decide +kernel⟩
/-- the first so many of a row -/
def Fo.pre : Fo → Nat → Fo
  | _, 0 => .nil
  | .nil, _ => .nil
  | .has s r, i + 1 => .has s (Fo.pre r i)
  | .node k m kids r, i + 1 => .node k m kids (Fo.pre r i)
theorem pre_len : ∀ (F : Fo) (i : Nat), i ≤ F.len → (Fo.pre F i).len = i
  | _, 0, _ => by simp [Fo.pre, Fo.len]
  | .nil, i + 1, h => absurd h (by show ¬ i + 1 ≤ 0; omega)
  | .has _ r, i + 1, h => by show 1 + (Fo.pre r i).len = i + 1; rw [pre_len r i (by have : i + 1 ≤ 1 + r.len := h; omega)]; omega
  | .node _ _ _ r, i + 1, h => by show 1 + (Fo.pre r i).len = i + 1; rw [pre_len r i (by have : i + 1 ≤ 1 + r.len := h; omega)]; omega
theorem pre_snoc : ∀ (F : Fo) (i : Nat), i < F.len → Fo.pre F (i + 1) = (Fo.pre F i).app (F.at i)
  | .nil, i, h => absurd h (Nat.not_lt_zero _)
  | .has s r, 0, h => by simp [Fo.pre, Fo.app, Fo.at]
  | .has s r, i + 1, h => by
    show Fo.has s (Fo.pre r (i + 1)) = Fo.has s ((Fo.pre r i).app (r.at i))
    rw [pre_snoc r i (by have : i + 1 < 1 + r.len := h; omega)]
  | .node k m kids r, 0, h => by simp [Fo.pre, Fo.app, Fo.at]
  | .node k m kids r, i + 1, h => by
    show Fo.node k m kids (Fo.pre r (i + 1)) = Fo.node k m kids ((Fo.pre r i).app (r.at i))
    rw [pre_snoc r i (by have : i + 1 < 1 + r.len := h; omega)]
theorem pre_all : ∀ F : Fo, Fo.pre F F.len = F
  | .nil => rfl
  | .has s r => by
    have e : (Fo.has s r).len = r.len + 1 := Nat.add_comm _ _
    rw [e]
    show Fo.has s (Fo.pre r r.len) = _
    rw [pre_all r]
  | .node k m kids r => by
    have e : (Fo.node k m kids r).len = r.len + 1 := Nat.add_comm _ _
    rw [e]
    show Fo.node k m kids (Fo.pre r r.len) = _
    rw [pre_all r]
/-- how many words -/
theorem words_len : ∀ F : Fo, F.words.length ≤ 5 * F.size ∧ F.more.length ≤ 5 * F.size
  | .nil => ⟨Nat.zero_le _, Nat.zero_le _⟩
  | .has s r => by
    obtain ⟨h1, h2⟩ := words_len r
    refine ⟨?_, ?_⟩
    · show (hasw s ++ r.more).length ≤ 5 * (1 + r.size)
      rw [List.length_append]
      show 2 + r.more.length ≤ _
      omega
    · show (("," : Str) :: (hasw s ++ r.more)).length ≤ 5 * (1 + r.size)
      rw [List.length_cons, List.length_append]
      show 2 + r.more.length + 1 ≤ _
      omega
  | .node k m kids r => by
    obtain ⟨h1, h2⟩ := words_len r
    obtain ⟨h3, h4⟩ := words_len kids
    have hh : (k.headw m).length ≤ 3 := by cases k <;> exact Nat.le_of_ble_eq_true rfl
    refine ⟨?_, ?_⟩
    · show (k.headw m ++ (kids.words ++ ((")" : Str) :: r.more))).length ≤ 5 * (1 + kids.size + r.size)
      rw [List.length_append, List.length_append, List.length_cons]
      omega
    · show (("," : Str) :: (k.headw m ++ (kids.words ++ ((")" : Str) :: r.more)))).length ≤ 5 * (1 + kids.size + r.size)
      rw [List.length_cons, List.length_append, List.length_append, List.length_cons]
      omega
theorem pre_size : ∀ (F : Fo) (i : Nat), (Fo.pre F i).size ≤ F.size
  | _, 0 => by simp [Fo.pre, Fo.size]
  | .nil, i + 1 => Nat.le_refl _
  | .has _ r, i + 1 => by have := pre_size r i; show 1 + (Fo.pre r i).size ≤ 1 + r.size; omega
  | .node _ _ kids r, i + 1 => by have := pre_size r i; show 1 + kids.size + (Fo.pre r i).size ≤ 1 + kids.size + r.size; omega
def sp_need_items (K : PySem.W.Frag) (d : Nat) : Sp := fun vs H Q _ => ∃ (v : V) (F : Fo), vs = [v] ∧ NeedsAt K H F [v] ∧ F.len = 1 ∧ F.size ≤ 1000 ∧ F.deep ≤ d ∧ ∀ l H', Grow H H' → H' l = some (.lst (F.words.map V.str)) → Q (.ref l) H'
theorem kit_few (z : Z P w K mg base) {c : Str} (h : c ∈ (["Has", "Every", "Some", "Few"] : List Str)) : PySem.W.kitOne K (.ref (ga K c)) (.ref (ga K "Few")) = some (decide (c = "Few")) :=
  z.kit (List.mem_append_left _ (List.mem_flatMap.mpr ⟨c, h, List.mem_map.mpr ⟨"Few", by decide +kernel, rfl⟩⟩))
theorem word_of (z : Z P w K mg base) (k : Kd) (m : Int) (dx p : Addr) : ∃ C fs, nodeO K k m dx p = .ins C dx fs ∧ Cls K C ∧ NoAttr K C "word" ∧ fs.lookup ("word" : Str) = some (V.str k.word) := by
  cases k with
  | every => exact ⟨_, _, rfl, z.cl_Every, z.na_Every_word, rfl⟩
  | some => exact ⟨_, _, rfl, z.cl_Some, z.na_Some_word, rfl⟩
  | few => exact ⟨_, _, rfl, z.cl_Few, z.na_Few_word, rfl⟩
theorem node_ty (z : Z P w K mg base) {H : Hp} {a dx p : Addr} {k : Kd} {m : Int} (h : H a = some (nodeO K k m dx p)) : ∃ c : Str, c ∈ (["Has", "Every", "Some", "Few"] : List Str) ∧ TyX K H (.ref a) (.ref (ga K c)) ∧ (c = "Few" ↔ k = .few) := by
  cases k with
  | every => exact ⟨"Every", by decide +kernel, ty_ins h z.cl_Every z.isx, by decide +kernel⟩
  | some => exact ⟨"Some", by decide +kernel, ty_ins h z.cl_Some z.isx, by decide +kernel⟩
  | few => exact ⟨"Few", by decide +kernel, ty_ins h z.cl_Few z.isx, by decide +kernel⟩
theorem pre_words (kids : Fo) (i : Nat) (hi : i < kids.len) (h1 : (kids.at i).len = 1) : (Fo.pre kids (i + 1)).words = ((Fo.pre kids i).words ++ (if ((i : Nat) : Int) = 0 then [] else [(",": Str)])) ++ (kids.at i).words := by
  rw [pre_snoc kids i hi]
  obtain ⟨e, _⟩ := Fo.words_app (Fo.pre kids i) (kids.at i) (by rw [h1]; decide)
  rw [e, pre_len kids i (by omega)]
  by_cases h : i = 0
  · subst h
    rw [if_pos rfl, if_pos (show (((0 : Nat) : Int)) = 0 from rfl), List.append_nil]
  · rw [if_neg h, if_neg (by omega), List.append_assoc]
    rfl
theorem sep_cat {σ : L2.St} {H : Hp} {Q : VK} {l : Addr} {i : Int} {ws : List Str} (h1 : σ[1]? = some (some (.ref l))) (h2 : σ[2]? = some (some (.int i))) (hl : H l = some (.lst (ws.map V.str))) (hz : ws.length ≤ 100000) (hi : 0 ≤ i)
    (h : ∀ q H', Grow H H' → H' q = some (.lst ((ws ++ (if i = 0 then [] else [(",": Str)])).map V.str)) → Q (.ref q) H') :
    tOp rCat (tVar 1) (tIf (tTest (tOp (rI0 fun i j => V.bl (decide (j < i))) (tVar 2) (tC (V.int 0)))) (tLst (tCons (tC (V.str (","))) tNil)) (tLst tNil)) σ H Q := by
  refine ⟨_, h1, _, h2, _, _, rfl, rfl, _, rfl, ?_⟩
  by_cases hc : i = 0
  · subst hc
    rw [if_pos rfl] at h
    refine iteF ⟨Nat.zero_le _, fun p hp => ⟨l, p, _, _, rfl, rfl, Grow.new hp _ _ hl, upd_same, by rw [List.length_map, sizeLine_eq]; show _ + 0 ≤ _; omega, fun q hq => h q _ ((Grow.new hp).trans (Grow.new hq)) (by rw [upd_same, List.append_nil, List.append_nil])⟩⟩
  · rw [if_neg hc] at h
    rw [decide_eq_true (by omega)]
    refine iteT ⟨by show 1 ≤ sizeLine; decide, fun p hp => ⟨l, p, _, _, rfl, rfl, Grow.new hp _ _ hl, upd_same, by rw [List.length_map, sizeLine_eq]; show _ + 1 ≤ _; omega, fun q hq => h q _ ((Grow.new hp).trans (Grow.new hq)) (by rw [upd_same, List.map_append]; rfl)⟩⟩
theorem head_asg (z : Z P w K mg base) {σ : L2.St} {H : Hp} {D : Ends} {a dx p : Addr} {k : Kd} {m : Int} (h0 : σ[0]? = some (some (.ref a))) (ha : H a = some (nodeO K k m dx p))
    (h : ∀ l H', Grow H H' → H' l = some (.lst ((k.headw m).map V.str)) → D.nx (σ.set 1 (some (.ref l))) H') :
    tAsg (tIf (tB (tCB (rIsi K) (tCons (tVar 0) (tCons (tC (V.ref (ga K "Few"))) tNil)))) (tLst (tCons (tFld K (tVar 0) "word") (tCons (tCB (fun xs H Q => ∃ i : Int, xs = [V.int i] ∧ i.natAbs.log2 < 1920 ∧ Q (V.str (Str.ofString (toString i))) H) (tCons (tFld K (tVar 0) "many") tNil)) (tCons (tC (V.str "(")) tNil)))) (tLst (tCons (tFld K (tVar 0) "word") (tCons (tC (V.str "(")) tNil)))) (gName 1) D σ H := by
  obtain ⟨c, hc, ty, hk⟩ := node_ty z ha
  refine ⟨_, h0, _, _, _, _, _, rfl, .own _, ty, kit_few z hc, _, rfl, ?_⟩
  obtain ⟨C, fs, eO, cl, na, lk⟩ := word_of z k m dx p
  by_cases e : k = .few
  · subst e
    rw [decide_eq_true (hk.mpr rfl)]
    obtain ⟨b1, b2⟩ := small_bd m
    refine iteT ⟨_, h0, a, _, dx, _, _, rfl, ha, z.cl_Few, z.na_Few_word, rfl, _, h0, a, _, dx, _, _, rfl, ha, z.cl_Few, z.na_Few_many, rfl, _, rfl, ?_, by show 3 ≤ sizeLine; decide, fun q hq => h q _ (Grow.new hq) upd_same⟩
    exact Nat.lt_of_le_of_lt (Nat.log2_le_self _) (by omega)
  · rw [decide_eq_false (fun x => e (hk.mp x))]
    rw [eO] at ha
    refine iteF ⟨_, h0, a, C, dx, fs, _, rfl, ha, cl, na, lk, by show 2 ≤ sizeLine; decide, fun q hq => h q _ (Grow.new hq) ?_⟩
    rw [upd_same]
    cases k with
    | every => rfl
    | some => rfl
    | few => exact absurd rfl e
theorem ok_need_items (z : Z P w K mg base) : ∃ fd, (∀ d, FnOk P w K mg base (L2.CX P w) (1 + d) (ga K "need_items") fd ["need"] (sp_need_items K d)) ∧ Binds K fd ["need"] [] := by
  obtain ⟨fd, F⟩ := z.f_need_items
  have b : Binds K fd ["need"] [] := F.bindsN fun _ _ _ _ _ _ us hl => match us, hl with | [_], _ => rfl
  refine ⟨fd, fun d => ?_, b⟩
  induction d with
  | zero =>
    refine F.ok sc_need_items (fun vs H Q E h => ?_) (fun cdv A outer s H vs Q E hr h => ?_)
    · obtain ⟨_, _, rfl, _⟩ := h
      rfl
    · obtain ⟨v, F, rfl, hF, h1, _, h2, _⟩ := h
      cases F with
      | nil => cases h1
      | has s r => exact absurd h2 (by show ¬ max 1 r.deep ≤ 0; omega)
      | node k m kids r => exact absurd h2 (by show ¬ max (1 + kids.deep) r.deep ≤ 0; omega)
  | succ d G =>
    refine F.ok sc_need_items (fun vs H Q E h => ?_) (fun cdv A outer s H vs Q E hr h => ?_)
    · obtain ⟨_, _, rfl, _⟩ := h
      rfl
    · obtain ⟨v, F, rfl, hF, h1, hs, h2, hQ⟩ := h
      refine ⟨_, pss_cons (ps_if (pt_val (pe_callB call_isi rfl z.b_isinstance (by decide +kernel) (pa_cons (pv 0) (pa_cons (pe_glob (v := .ref (ga K "Has")) rfl z.g_Has rfl) pa_nil)))) (pss_one (ps_ret (pe_lst (pa_cons pe_str (pa_cons (pe_fld (pv 0) rfl) pa_nil))))) pss_nil)
        (pss_cons (ps_set (i := 1) sc_need_items.nd rfl (Or.inl rfl) (pe_ifExp (pt_val (pe_callB call_isi rfl z.b_isinstance (by decide +kernel) (pa_cons (pv 0) (pa_cons (pe_glob (v := .ref (ga K "Few")) rfl z.g_Few rfl) pa_nil)))) (pe_lst (pa_cons (pe_fld (pv 0) rfl) (pa_cons (pe_callTy call_str_int rfl z.b_str (by decide +kernel) (pa_cons (pe_fld (pv 0) rfl) pa_nil)) (pa_cons pe_str pa_nil)))) (pe_lst (pa_cons (pe_fld (pv 0) rfl) (pa_cons pe_str pa_nil)))))
        (pss_cons (ps_for PassesOwn.leaving rfl (pi_enumT rfl z.b_enumerate (pa_cons (pe_fld (pv 0) rfl) pa_nil)) (pg_tup rfl (pgs_cons (pg_name (i := 2) sc_need_items.nd rfl (Or.inl rfl)) (pgs_cons (pg_name (i := 3) sc_need_items.nd rfl (Or.inl rfl)) pgs_nil)))
          (pss_one (ps_set (i := 1) sc_need_items.nd rfl (Or.inl rfl) (pe_op op_cat (pe_op op_cat (pv 1) (pe_ifExp (pt_cmpR op_gt (pv 2) pe_int (nomark _)) (pe_lst (pa_cons pe_str pa_nil)) (pe_lst pa_nil))) (pe_call G hr rfl z.g_need_items z.k_need_items b .nil passF (pa_cons (pv 3) pa_nil))))))
        (pss_one (ps_ret (pe_lst (pa_star (pv 1) (pa_cons pe_str pa_nil))))))), ?_⟩
      obtain ⟨c, hc, ty, hk⟩ := need_ty z hF h1
      refine ⟨v, rfl, _, _, _, _, _, rfl, .own _, ty, kit_has z hc, _, rfl, ?_⟩
      rcases hk with ⟨s, a, dx, rfl, rfl, rfl, ha⟩ | ⟨k, m, kids, a, dx, p, kvs, rfl, rfl, hne, ha, hp, tk⟩
      · exact iteT ⟨_, rfl, a, _, dx, _, _, rfl, ha, z.cl_Has, z.na_Has_thing, rfl, by show 2 ≤ sizeLine; decide, fun q hq => hQ q _ (Grow.new hq) upd_same⟩
      · rw [decide_eq_false hne]
        refine iteF (head_asg z rfl ha fun l1 H1 g1 e1 => ?_)
        obtain ⟨C, fs, eO, cl, na, lk⟩ := parts_of z k m dx p
        have ha1 := g1 _ _ ha
        rw [eO] at ha1
        have hn := tk.len
        have hd : kids.deep ≤ d := by
          have e : max (1 + kids.deep) 0 ≤ d + 1 := h2
          omega
        have hks : kids.size ≤ 1000 := by
          have e : 1 + kids.size + 0 ≤ 1000 := hs
          omega
        have hh : (k.headw m).length ≤ 3 := by cases k <;> exact Nat.le_of_ble_eq_true rfl
        have wl : ∀ i, (k.headw m ++ (Fo.pre kids i).words).length ≤ 10000 := fun i => by
          have u1 := (words_len (Fo.pre kids i)).1
          have u2 := pre_size kids i
          rw [List.length_append]
          omega
        refine ⟨_, rfl, a, C, dx, fs, _, rfl, ha1, cl, na, lk, p, kvs, rfl, SqT.of (g1 _ _ hp), ?_⟩
        refine for_it walk_enumT (fun i σ' H' => Grow H1 H' ∧ σ'[0]? = some (some (.ref a)) ∧ σ'.length = 4 ∧ ∃ l, σ'[1]? = some (some (.ref l)) ∧ H' l = some (.lst ((k.headw m ++ (Fo.pre kids i).words).map V.str))) ⟨Grow.refl _, rfl, rfl, l1, rfl, ?_⟩ (fun i σ' H' _ q => SqT.of (q.1 _ _ (g1 _ _ hp))) (fun i x σ' H2 H3 hi q y => ?_) fun σ' H2 q => ?_
        · rw [e1]
          simp [Fo.pre, Fo.words]
        · obtain ⟨g, q0, q1, l, q2, q3⟩ := q
          obtain ⟨T, i', x', rfl, hT, rfl, ei, hx⟩ := y
          cases ei
          obtain ⟨n1, n2, n3, n4⟩ := tk.get hx
          have gT : Grow H2 (upd H2 T (.tup [.int (i : Nat), x'])) := Grow.new hT
          refine ⟨T, _, rfl, SqT.of upd_same, rfl, _, _, rfl, _, _, rfl, rfl, ?_⟩
          have s1 : ((σ'.set 2 (some (V.int (i : Nat)))).set 3 (some x'))[1]? = some (some (.ref l)) := by
            rw [List.getElem?_set_ne (by decide), List.getElem?_set_ne (by decide)]
            exact q2
          have s2 : ((σ'.set 2 (some (V.int (i : Nat)))).set 3 (some x'))[2]? = some (some (.int (i : Nat))) := by
            rw [List.getElem?_set_ne (by decide), List.getElem?_set_self (by omega)]
          have s3 : ((σ'.set 2 (some (V.int (i : Nat)))).set 3 (some x'))[3]? = some (some x') := by
            rw [List.getElem?_set_self (by rw [List.length_set]; omega)]
          have wi := wl i
          have hi' : i < kids.len := by omega
          refine sep_cat s1 s2 (gT _ _ q3) (by omega) (by omega) fun t H4 g4 e4 => ?_
          refine ⟨_, s3, x', kids.at i, rfl, ((n1.grow g1).grow g).grow (gT.trans g4), n4, Nat.le_trans (at_size kids i) hks, Nat.le_trans n2 hd, fun l' H5 g5 e5 => ?_⟩
          refine ⟨t, l', _, _, rfl, rfl, g5 _ _ e4, e5, ?_, fun r hr => ?_⟩
          · have u1 := (words_len (kids.at i)).1
            have u2 := at_size kids i
            rw [List.length_map, List.length_map, List.length_append, sizeLine_eq]
            split
            · show _ + 0 + _ ≤ _
              omega
            · show _ + 1 + _ ≤ _
              omega
          · refine ⟨g.trans (gT.trans (g4.trans (g5.trans (Grow.new hr)))), ?_, ?_, r, ?_, ?_⟩
            · rw [List.getElem?_set_ne (by decide), List.getElem?_set_ne (by decide), List.getElem?_set_ne (by decide)]
              exact q0
            · rw [List.length_set, List.length_set, List.length_set]
              exact q1
            · rw [List.getElem?_set_self (by rw [List.length_set, List.length_set]; omega)]
            · rw [upd_same, ← List.map_append, pre_words kids i hi' n4, List.append_assoc, List.append_assoc, List.append_assoc]
        · obtain ⟨g, q0, q1, l, q2, q3⟩ := q
          rw [hn, pre_all] at q3
          have wi := wl kids.len
          rw [pre_all] at wi
          refine ⟨_, q2, l, _, rfl, .inr (SqL.of q3), ?_, fun r hr => ?_⟩
          · rw [List.length_append, List.length_map, sizeLine_eq]
            show _ + 1 ≤ _
            omega
          · refine hQ r _ (g1.trans (g.trans (Grow.new hr))) ?_
            rw [upd_same]
            show _ = some (HO.lst ((k.headw m ++ (kids.words ++ [(")" : Str)])).map V.str))
            rw [← List.append_assoc, List.map_append (l₁ := k.headw m ++ kids.words)]
            rfl
end
end K80

set_option Elab.async false
set_option linter.all false
set_option maxRecDepth 100000
set_option maxHeartbeats 8000000
/-! the law's draws, need_text -/
namespace K80
open PySem PySem.Spec PyProof.Rows L2 SX StX
open He (ga ma)
/-- the pen: at most n cells are gone -/
def PenAt (H : Hp) (pn cl : Addr) (n : Nat) : Prop := ∃ (ns : List Int) (at_ great : Int), H pn = some (.lst [.ref cl, .int at_, .int great]) ∧ H cl = some (.lst (ns.map V.int)) ∧ cl ≠ pn ∧ ns.length ≤ 63 ∧ 0 ≤ at_ ∧ at_ ≤ (n : Int) ∧ 0 ≤ great
theorem PenAt.mono {H : Hp} {pn cl : Addr} {n m : Nat} (h : PenAt H pn cl n) (l : n ≤ m) : PenAt H pn cl m := by
  obtain ⟨ns, a, g, h1, h2, h3, h4, h5, h6, h7⟩ := h
  exact ⟨ns, a, g, h1, h2, h3, h4, h5, by omega, h7⟩
theorem PenAt.grow {H H' : Hp} {pn cl : Addr} {n : Nat} (h : PenAt H pn cl n) (g : Grow H H') : PenAt H' pn cl n := by
  obtain ⟨ns, a, gr, h1, h2, h3, h4, h5, h6, h7⟩ := h
  exact ⟨ns, a, gr, g _ _ h1, g _ _ h2, h3, h4, h5, h6, h7⟩
section
variable {P : Program} {w : World} {K : PySem.W.Frag} {mg : Str → Option Value} {base : Heap}
theorem shaped_ints (ns : List Int) : SeqAt.shaped (.list (ns.map PyData.int)) = true := by
  have h1 : PyData.canLayAll0 (ns.map PyData.int) = true := by
    induction ns with
    | nil => rfl
    | cons n ns ih => simp only [List.map_cons, PyData.canLayAll0, PyData.canLay0, ih, Bool.and_self]
  have h2 : PyData.depthAll (ns.map PyData.int) = 0 := by
    clear h1
    induction ns with
    | nil => rfl
    | cons n ns ih => simp only [List.map_cons, PyData.depthAll, PyData.depth, ih, Nat.max_self]
  show (PyData.canLayAll0 (ns.map PyData.int) && decide (PyData.depthAll (ns.map PyData.int) + 1 ≤ 64)) = true
  rw [h1, h2]
  rfl
theorem dpAll_ints {H : Hp} : ∀ ns : List Int, DpAll K H (ns.map V.int) (ns.map PyData.int)
  | [] => .nil
  | n :: ns => .cons (.int n) (dpAll_ints ns)
theorem get_pen {σ : L2.St} {H : Hp} {Q : VK} {pn : Addr} {xs : List V} {i : Int} {v : V} (h0 : σ[0]? = some (some (.ref pn))) (hp : H pn = some (.lst xs)) (hi : atI xs i = some v) (q : Q v H) : tOp (rIx K) (tVar 0) (tC (.int i)) σ H Q := ⟨_, h0, .inl ⟨pn, xs, i, v, rfl, rfl, SqL.of hp, hi, q⟩⟩
theorem set_same {σ : L2.St} {i : Nat} {x : Option V} (h : σ[i]? = some x) : σ.set i x = σ := by
  obtain ⟨hi, e⟩ := List.getElem?_eq_some_iff.mp h
  rw [← e]
  exact List.set_getElem_self hi
theorem atI_int {ns : List Int} {i : Int} (h1 : 0 ≤ i) (h2 : i < (ns.length : Int)) : ∃ c, atI (ns.map V.int) i = some (.int c) := by
  have hl : i.toNat < ns.length := by omega
  refine ⟨ns[i.toNat], ?_⟩
  unfold atI ixN
  rw [if_pos h1, if_pos (by rw [List.length_map]; exact h2)]
  show (ns.map V.int)[i.toNat]? = _
  rw [List.getElem?_map, List.getElem?_eq_getElem hl]
  rfl
theorem pen_cell {R : TS} {D : Ends} {σ : L2.St} {H : Hp} {pn cl : Addr} {ns : List Int} {xs : List V} {a c0 : Int} (h0 : σ[0]? = some (some (.ref pn))) (h3 : σ[3]? = some (some (.int a))) (h4 : σ[4]? = some (some (.int c0)))
    (hp : H pn = some (.lst xs)) (hx : atI xs 0 = some (.ref cl)) (hc : H cl = some (.lst (ns.map V.int))) (h : ∀ (c : Int) (H' : Hp), Grow H H' → R D (σ.set 4 (some (.int c))) H') :
    tSeq (tIfS (tTest (tOp (rNeD K) (tOp (rIx K) (tVar 0) (tC (.int 0))) (tLst tNil))) (tAsg (tOp (rIx K) (tOp (rIx K) (tVar 0) (tC (.int 0))) (tOp (rI (fun _ j => 0 < j) fun i j => .int (i % j)) (tCB (fun xs H Q => (∃ i, xs = [.int i] ∧ Q (.int i) H) ∨ ∃ k, xs = [.bl k] ∧ Q (.int (if k = true then 1 else 0)) H) (tCons (tVar 3) tNil)) (tCB (fun xs H Q => ∃ (x : V) (n : Nat), xs = [x] ∧ LenV K x H n ∧ Q (.int (n : Nat)) H) (tCons (tOp (rIx K) (tVar 0) (tC (.int 0))) tNil)))) (gName 4)) tNext) R D σ H := by
  refine get_pen h0 hp hx ⟨Nat.zero_le _, fun p hpn => ?_⟩
  have g : Grow H (upd H p (.lst [])) := Grow.new hpn
  refine ⟨.list (ns.map PyData.int), .list [], .lst (SqL.of (g _ _ hc)) (dpAll_ints ns), .lst (SqL.of upd_same) .nil, shaped_ints ns, rfl, _, rfl, ?_⟩
  cases ns with
  | nil =>
    refine iteF ?_
    show R D σ _
    have q := h c0 _ g
    rw [set_same h4] at q
    exact q
  | cons n0 ns0 =>
    refine iteT (get_pen h0 (g _ _ hp) hx ⟨_, h3, .inl ⟨_, rfl, get_pen h0 (g _ _ hp) hx ⟨_, _, rfl, .inl ⟨_, SqL.of (g _ _ hc), rfl⟩, _, _, rfl, rfl, ?_, ?_⟩⟩⟩)
    · rw [List.length_map]
      show (0 : Int) < ((ns0.length + 1 : Nat) : Int)
      omega
    · have hpos : (0 : Int) < ((((n0 :: ns0).map V.int).length : Nat) : Int) := by
        rw [List.length_map]
        show (0 : Int) < ((ns0.length + 1 : Nat) : Int)
        omega
      have e1 := Int.emod_nonneg a (Int.ne_of_gt hpos)
      have e2 := Int.emod_lt_of_pos a hpos
      obtain ⟨c, hc'⟩ := atI_int (ns := n0 :: ns0) e1 (Int.lt_of_lt_of_le e2 (Int.le_of_eq (by rw [List.length_map])))
      exact .inl ⟨cl, _, _, _, rfl, rfl, SqL.of (g _ _ hc), hc', h c _ g⟩
theorem mix_tail {D : Ends} {σ : L2.St} {H : Hp} {m a c : Int} {n : Nat} (h1 : σ[1]? = some (some (.int m))) (h3 : σ[3]? = some (some (.int a))) (h4 : σ[4]? = some (some (.int c))) (hl : σ.length = 7) (ha : 0 ≤ a) (han : a ≤ (n : Int)) (hn : n ≤ 1000000) (m1 : 0 < m)
    (hQ : ∀ d : Int, 0 ≤ d → d < m → D.rt (.int d) H) :
    tSeq (tAsg (tOp (rI (fun _ j => 0 < j) fun i j => .int (i % j)) (tCB (fun xs H Q => (∃ i, xs = [.int i] ∧ Q (.int i) H) ∨ ∃ k, xs = [.bl k] ∧ Q (.int (if k = true then 1 else 0)) H) (tCons (tOp (rI CPow fun i j => .int (i ^ j.toNat)) (tOp (rI0 fun i j => .int (i + j)) (tOp (rI0 fun i j => .int (i + j)) (tOp (rI (fun _ j => 0 < j) fun i j => .int (i % j)) (tCB (fun xs H Q => (∃ i, xs = [.int i] ∧ Q (.int i) H) ∨ ∃ k, xs = [.bl k] ∧ Q (.int (if k = true then 1 else 0)) H) (tCons (tVar 4) tNil)) (tC (.int 2147483563))) (tOp (rI CMul fun i j => .int (i * j)) (tC (.int 6449)) (tVar 3))) (tC (.int 1217))) (tC (.int 5))) tNil)) (tC (.int 2147483579))) (gName 6)) (tSeq (tAsg (tOp (rI (fun _ j => 0 < j) fun i j => .int (i % j)) (tCB (fun xs H Q => (∃ i, xs = [.int i] ∧ Q (.int i) H) ∨ ∃ k, xs = [.bl k] ∧ Q (.int (if k = true then 1 else 0)) H) (tCons (tOp (rI CPow fun i j => .int (i ^ j.toNat)) (tOp (rI0 fun i j => .int (i + j)) (tOp (rI0 fun i j => .int (i + j)) (tOp (rI CMul fun i j => .int (i * j)) (tVar 6) (tOp (rI0 fun i j => .int (i + j)) (tOp (rI CMul fun i j => .int (i * j)) (tC (.int 2)) (tVar 3)) (tC (.int 463)))) (tOp (rI CMul fun i j => .int (i * j)) (tOp (rI CMul fun i j => .int (i * j)) (tC (.int 7919)) (tVar 3)) (tVar 3))) (tC (.int 131))) (tC (.int 3))) tNil)) (tC (.int 2147483497))) (gName 6)) (tRet (tOp (rI (fun _ j => 0 < j) fun i j => .int (i % j)) (tCB (fun xs H Q => (∃ i, xs = [.int i] ∧ Q (.int i) H) ∨ ∃ k, xs = [.bl k] ∧ Q (.int (if k = true then 1 else 0)) H) (tCons (tOp (rI CDiv fun i j => .int (i / j)) (tVar 6) (tC (.int 32))) tNil)) (tVar 1)))) D σ H := by
  have e64 : (2 : Int) ^ 64 = 18446744073709551616 := by decide
  have n64 : (2 : Nat) ^ 64 = 18446744073709551616 := by decide
  have c1 := Int.emod_nonneg c (show (2147483563 : Int) ≠ 0 by decide)
  have c2 := Int.emod_lt_of_pos c (show (0 : Int) < 2147483563 by decide)
  refine ⟨_, h4, .inl ⟨_, rfl, _, _, rfl, rfl, (by decide : (0 : Int) < 2147483563), _, h3, _, _, rfl, rfl, .inl (by decide), _, _, rfl, rfl, _, _, rfl, rfl, _, _, rfl, rfl, ⟨by decide, by decide, ?_⟩, .inl ⟨_, rfl, _, _, rfl, rfl, (by decide : (0 : Int) < 2147483579), ?_⟩⟩⟩
  · rw [n64]
    show (c % 2147483563 + 6449 * a + 1217).natAbs < _
    omega
  show tSeq _ _ D (σ.set 6 (some (.int ((c % 2147483563 + 6449 * a + 1217) ^ 5 % 2147483579)))) H
  have d1 := Int.emod_nonneg ((c % 2147483563 + 6449 * a + 1217) ^ 5) (show (2147483579 : Int) ≠ 0 by decide)
  have d2 := Int.emod_lt_of_pos ((c % 2147483563 + 6449 * a + 1217) ^ 5) (show (0 : Int) < 2147483579 by decide)
  generalize hx : (c % 2147483563 + 6449 * a + 1217) ^ 5 % 2147483579 = x at d1 d2 ⊢
  have k3 : (σ.set 6 (some (.int x)))[3]? = some (some (.int a)) := by rw [List.getElem?_set_ne (by decide)]; exact h3
  have k6 : ∀ y : Int, (σ.set 6 (some (.int y)))[6]? = some (some (.int y)) := fun y => by rw [List.getElem?_set_self (by omega)]
  have k1 : ∀ y : Int, (σ.set 6 (some (.int y)))[1]? = some (some (.int m)) := fun y => by rw [List.getElem?_set_ne (by decide)]; exact h1
  have u1 : x * (2 * a + 463) ≤ 2147483579 * 2000463 := Int.mul_le_mul (by omega) (by omega) (by omega) (by decide)
  have u2 : 7919 * a * a ≤ 7919 * 1000000 * 1000000 := Int.mul_le_mul (by omega) (by omega) (by omega) (by decide)
  have u3 : 0 ≤ x * (2 * a + 463) := Int.mul_nonneg d1 (by omega)
  have u4 : 0 ≤ 7919 * a * a := Int.mul_nonneg (by omega) ha
  refine ⟨_, k6 x, _, k3, _, _, rfl, rfl, .inl (by decide), _, _, rfl, rfl, _, _, rfl, rfl, .inr ⟨?_, ?_⟩, _, k3, _, _, rfl, rfl, .inl (by decide), _, k3, _, _, rfl, rfl, .inr ⟨?_, ?_⟩, _, _, rfl, rfl, _, _, rfl, rfl, _, _, rfl, rfl, ⟨by decide, by decide, ?_⟩, .inl ⟨_, rfl, _, _, rfl, rfl, (by decide : (0 : Int) < 2147483497), ?_⟩⟩
  · rw [e64]; show _ < 2 * a + 463; omega
  · rw [e64]; show 2 * a + 463 < _; omega
  · rw [e64]; omega
  · rw [e64]; omega
  · rw [n64]
    show (x * (2 * a + 463) + 7919 * a * a + 131).natAbs < _
    omega
  show tRet (tOp (rI (fun _ j => 0 < j) fun i j => .int (i % j)) (tCB (fun xs H Q => (∃ i, xs = [.int i] ∧ Q (.int i) H) ∨ ∃ k, xs = [.bl k] ∧ Q (.int (if k = true then 1 else 0)) H) (tCons (tOp (rI CDiv fun i j => .int (i / j)) (tVar 6) (tC (.int 32))) tNil)) (tVar 1)) D ((σ.set 6 (some (.int x))).set 6 (some (.int ((x * (2 * a + 463) + 7919 * a * a + 131) ^ 3 % 2147483497)))) H
  rw [List.set_set]
  exact ⟨_, k6 _, _, _, rfl, rfl, ⟨by decide, by decide⟩, .inl ⟨_, rfl, _, k1 _, _, _, rfl, rfl, m1, hQ _ (Int.emod_nonneg _ (by omega)) (Int.emod_lt_of_pos _ m1)⟩⟩
/-! ### need_text -/
theorem sc_need_text : FnScope ["need"] ["need"] (defScope s_need_text) := ⟨rfl, rfl, rfl, by decide +kernel, rfl, by decide +kernel, by decide +kernel⟩
def sp_need_text (K : PySem.W.Frag) : Sp := fun vs H Q _ => ∃ (v : V) (F : Fo), vs = [v] ∧ NeedsAt K H F [v] ∧ F.len = 1 ∧ F.size ≤ 1000 ∧ F.deep ≤ 10 ∧ (F.words.map (·.length)).sum + F.words.length ≤ 16777216 ∧ ∀ H', Grow H H' → Q (.str (Txt.join " " F.words)) H'
theorem ok_need_text (z : Z P w K mg base) : ∃ fd, FnOk P w K mg base (L2.CX P w) 13 (ga K "need_text") fd ["need"] (sp_need_text K) ∧ Binds K fd ["need"] [] ∧ FunD K "need_text" "need_text" (defArgs s_need_text) (defBody s_need_text) (defScope s_need_text) [] [] (ga K "need_text") fd := by
  obtain ⟨f1, G1, b1⟩ := ok_need_need z
  obtain ⟨f2, G2, b2⟩ := ok_need_items z
  obtain ⟨fd, F⟩ := z.f_need_text
  refine ⟨fd, F.ok sc_need_text (fun vs H Q E h => ?_) (fun cdv A outer s H vs Q E hr h => ?_), (F.bindsN fun _ _ _ _ _ _ us hl => match us, hl with | [_], _ => rfl), F⟩
  · obtain ⟨_, _, rfl, _⟩ := h
    rfl
  · obtain ⟨v, F, rfl, hF, h1, hs, hd, hz, hQ⟩ := h
    refine ⟨_, pss_one (ps_ret (pe_join pe_str (pe_call (G2 10) (hr.mono (by decide)) rfl z.g_need_items z.k_need_items b2 .nil passF (pa_cons (pe_call G1 (hr.mono (by decide)) rfl z.g_need_need z.k_need_need b1 .nil passF (pa_cons pe_str (pa_cons (pv 0) pa_nil))) pa_nil)))), ?_⟩
    refine ⟨⟨_, rfl⟩, v, rfl, "need", v, F, rfl, hF, h1, fun H1 g1 => ⟨v, F, rfl, hF.grow g1, h1, hs, hd, fun l H2 g2 e2 => ⟨" ", l, F.words, rfl, rfl, .inl (SqL.of e2), ?_, hQ H2 (g1.trans g2)⟩⟩⟩
    show _ + F.words.length * 1 ≤ _
    omega
theorem sc__law_pen : FnScope ["script"] ["script"] (defScope s__law_pen) := ⟨rfl, rfl, rfl, by decide +kernel, rfl, by decide +kernel, by decide +kernel⟩
def sp__law_pen (K : PySem.W.Frag) : Sp := fun vs H Q _ => ∃ (sc : Addr) (ns : List Int), vs = [.ref sc] ∧ SqL K H sc (ns.map V.int) ∧ ∀ pn cl H', Grow H H' → H pn = none → H cl = none → PenAt H' pn cl 0 → Q (.ref pn) H'
theorem ok__law_pen (z : Z P w K mg base) : ∃ fd, FnOk P w K mg base (L2.CX P w) 1 (ga K "_law_pen") fd ["script"] (sp__law_pen K) ∧ Binds K fd ["script"] [] := by
  obtain ⟨fd, F⟩ := z.f__law_pen
  refine ⟨fd, F.ok sc__law_pen (fun vs H Q E h => ?_) (fun cdv A outer s H vs Q E hr h => ?_), F.bindsN fun _ _ _ _ _ _ us hl => match us, hl with | [_], _ => rfl⟩
  · obtain ⟨_, _, rfl, _⟩ := h
    rfl
  · obtain ⟨sc, ns, rfl, hs, hQ⟩ := h
    refine ⟨_, pss_one (ps_ret (pe_lst (pa_cons (pe_callTy call_list_of rfl z.b_list (by decide +kernel) (pa_cons (pe_slice sl_list (pv 0) po_none (po_some pe_int)) pa_nil)) (pa_cons pe_int (pa_cons pe_int pa_nil))))), ?_⟩
    refine ⟨_, rfl, 63, rfl, sc, _, rfl, hs, fun p hp => ⟨p, _, rfl, .inl (SqL.of upd_same), fun l hl => ⟨by show 3 ≤ sizeLine; decide, fun q hq => ?_⟩⟩⟩
    have g1 : Grow H (upd H p (.lst (cutV (ns.map V.int) none (some 63)))) := Grow.new hp
    have g2 := g1.trans (Grow.new (o := .lst (cutV (ns.map V.int) none (some 63))) hl)
    have g3 := g2.trans (Grow.new (o := .lst [.ref l, .int 0, .int 0]) hq)
    have ne : l ≠ q := fun e => by
      rw [← e, upd_same] at hq
      cases hq
    have hq0 : H q = none := by
      cases e : H q with
      | none => rfl
      | some o => rw [g2 _ _ e] at hq; cases hq
    have hl0 : H l = none := by
      cases e : H l with
      | none => rfl
      | some o => rw [g1 _ _ e] at hl; cases hl
    have cut : ∃ ms : List Int, ms.length ≤ 63 ∧ cutV (ns.map V.int) none (some 63) = ms.map V.int := by
      have e1 : HT.sIx (ns.map V.int).length 0 none = 0 := rfl
      have e2 : HT.sIx (ns.map V.int).length (ns.map V.int).length (some 63) ≤ 63 := by
        unfold HT.sIx
        simp only
        rw [if_neg (by decide)]
        exact Nat.min_le_left _ _
      refine ⟨ns.take (HT.sIx (ns.map V.int).length (ns.map V.int).length (some 63)), by rw [List.length_take]; omega, ?_⟩
      unfold cutV
      rw [e1, List.drop_zero, Nat.sub_zero, List.map_take]
    obtain ⟨ms, m1, m2⟩ := cut
    refine hQ q l _ g3 hq0 hl0 ⟨ms, 0, 0, upd_same, ?_, ne, m1, Int.le_refl _, Int.le_refl _, Int.le_refl _⟩
    rw [upd_ne ne, upd_same, m2]
theorem sc__law_draw : FnScope ["pen", "many", "digit", "at", "cell", "great", "mixed"] ["pen", "many"] (defScope s__law_draw) := ⟨rfl, rfl, rfl, by decide +kernel, rfl, by decide +kernel, by decide +kernel⟩
def sp__law_draw : Sp := fun vs H Q _ => ∃ (pn cl : Addr) (m : Int) (n : Nat), vs = [.ref pn, .int m] ∧ 0 < m ∧ m < 1073741824 ∧ n ≤ 1000000 ∧ PenAt H pn cl n ∧ ∀ d H', But pn H H' → PenAt H' pn cl (n + 1) → 0 ≤ d → d < m → Q (.int d) H'
theorem ok__law_draw (z : Z P w K mg base) : ∃ fd, FnOk P w K mg base (L2.CX P w) 1 (ga K "_law_draw") fd ["pen", "many"] sp__law_draw ∧ Binds K fd ["pen", "many"] [] := by
  obtain ⟨fd, F⟩ := z.f__law_draw
  refine ⟨fd, F.ok sc__law_draw (fun vs H Q E h => ?_) (fun cdv A outer s H vs Q E hr h => ?_), F.bindsN fun _ _ _ _ _ _ us hl => match us, hl with | [_, _], _ => rfl⟩
  · obtain ⟨_, _, _, _, rfl, _⟩ := h
    rfl
  · obtain ⟨pn, cl, m, n, rfl, m1, m2, hn, hp, hQ⟩ := h
    refine ⟨_, pss_cons (ps_if (pt_cmpR op_gt (pe_ix ix_seq (pv 0) pe_int fun _ _ => rfl) pe_int (nomark _))
        (pss_cons (ps_set (i := 2) sc__law_draw.nd rfl (Or.inl rfl) (pe_op op_mod (pe_callTy call_int1 rfl z.b_int (by decide +kernel) (pa_cons (pe_ix ix_seq (pv 0) pe_int fun _ _ => rfl) pa_nil)) (pv 1)))
        (pss_cons (ps_asg (pe_op op_fdiv (pe_callTy call_int1 rfl z.b_int (by decide +kernel) (pa_cons (pe_ix ix_seq (pv 0) pe_int fun _ _ => rfl) pa_nil)) (pv 1)) (pg_sub (pv 0) pe_int set_list))
        (pss_one (ps_ret (pv 2))))) pss_nil)
      (pss_cons (ps_set (i := 3) sc__law_draw.nd rfl (Or.inl rfl) (pe_ix ix_seq (pv 0) pe_int fun _ _ => rfl))
      (pss_cons (ps_asg (pe_op op_add (pv 3) pe_int) (pg_sub (pv 0) pe_int set_list))
      (pss_cons (ps_set (i := 4) sc__law_draw.nd rfl (Or.inl rfl) (pe_op op_add (pe_op op_mul pe_int (pv 3)) pe_int))
      (pss_cons (ps_if (pt_cmpR (op_neD hr.units) (pe_ix ix_seq (pv 0) pe_int fun _ _ => rfl) (pe_lst pa_nil) (nomark _))
        (pss_one (ps_set (i := 4) sc__law_draw.nd rfl (Or.inl rfl) (pe_ix ix_seq (pe_ix ix_seq (pv 0) pe_int fun _ _ => rfl) (pe_op op_mod (pe_callTy call_int1 rfl z.b_int (by decide +kernel) (pa_cons (pv 3) pa_nil)) (pe_callB call_len rfl z.b_len (by decide +kernel) (pa_cons (pe_ix ix_seq (pv 0) pe_int fun _ _ => rfl) pa_nil))) fun _ _ => rfl))) pss_nil)
      (pss_cons (ps_if (PW.pt (pw_and (pt_cmpR op_lt (pv 3) (pe_callB call_len rfl z.b_len (by decide +kernel) (pa_cons (pe_ix ix_seq (pv 0) pe_int fun _ _ => rfl) pa_nil)) (nomark _)) (pw_and1 (pt_cmpR op_ge (pe_callB call_abs rfl z.b_abs (by decide +kernel) (pa_cons (pv 4) pa_nil)) (pe_op op_pow pe_int pe_int) (nomark _)))))
        (pss_cons (ps_set (i := 5) sc__law_draw.nd rfl (Or.inl rfl) (pe_op op_add (pe_op op_mul pe_int (pe_op op_sub (pe_callB call_abs rfl z.b_abs (by decide +kernel) (pa_cons (pv 4) pa_nil)) (pe_op op_pow pe_int pe_int))) (pe_callTy call_int1 rfl z.b_int (by decide +kernel) (pa_cons (pe_cmpR op_lt (pv 4) pe_int (nomark _)) pa_nil))))
        (pss_cons (ps_asg (pe_op op_fdiv (pe_callTy call_int1 rfl z.b_int (by decide +kernel) (pa_cons (pv 5) pa_nil)) (pv 1)) (pg_sub (pv 0) pe_int set_list))
        (pss_one (ps_ret (pe_op op_mod (pe_callTy call_int1 rfl z.b_int (by decide +kernel) (pa_cons (pv 5) pa_nil)) (pv 1)))))) pss_nil)
      (pss_cons (ps_set (i := 6) sc__law_draw.nd rfl (Or.inl rfl) (pe_op op_mod (pe_callTy call_int1 rfl z.b_int (by decide +kernel) (pa_cons (pe_op op_pow (pe_op op_add (pe_op op_add (pe_op op_mod (pe_callTy call_int1 rfl z.b_int (by decide +kernel) (pa_cons (pv 4) pa_nil)) pe_int) (pe_op op_mul pe_int (pv 3))) pe_int) pe_int) pa_nil)) pe_int))
      (pss_cons (ps_set (i := 6) sc__law_draw.nd rfl (Or.inl rfl) (pe_op op_mod (pe_callTy call_int1 rfl z.b_int (by decide +kernel) (pa_cons (pe_op op_pow (pe_op op_add (pe_op op_add (pe_op op_mul (pv 6) (pe_op op_add (pe_op op_mul pe_int (pv 3)) pe_int)) (pe_op op_mul (pe_op op_mul pe_int (pv 3)) (pv 3))) pe_int) pe_int) pa_nil)) pe_int))
      (pss_one (ps_ret (pe_op op_mod (pe_callTy call_int1 rfl z.b_int (by decide +kernel) (pa_cons (pe_op op_fdiv (pv 6) pe_int) pa_nil)) (pv 1))))))))))), ?_⟩
    obtain ⟨ns, a, g, h1, h2, h3, h4, h5, h6, h7⟩ := hp
    refine get_pen rfl h1 rfl ⟨_, _, rfl, rfl, _, rfl, ?_⟩
    by_cases hg : 0 < g
    · rw [decide_eq_true hg]
      refine iteT (get_pen rfl h1 rfl (.inl ⟨g, rfl, _, rfl, g, m, rfl, rfl, m1, get_pen rfl h1 rfl (.inl ⟨g, rfl, _, rfl, g, m, rfl, rfl, ⟨m1, m2⟩, _, rfl, pn, _, 2, 2, rfl, rfl, h1, rfl, _, rfl, ?_⟩)⟩))
      refine hQ _ _ (But.upd (But.refl H)) ⟨ns, a, g / m, upd_same, ?_, h3, h4, h5, by omega, Int.ediv_nonneg h7 (by omega)⟩ (Int.emod_nonneg _ (by omega)) (Int.emod_lt_of_pos _ m1)
      rw [upd_ne h3]
      exact h2
    · rw [decide_eq_false hg]
      refine iteF (get_pen rfl h1 rfl ⟨_, rfl, _, _, rfl, rfl, _, rfl, pn, _, 1, 1, rfl, rfl, h1, rfl, ?_⟩)
      have h2' : (upd H pn (.lst [.ref cl, .int (a + 1), .int g])) cl = some (.lst (ns.map V.int)) := by
        rw [upd_ne h3]
        exact h2
      refine ⟨_, rfl, _, _, rfl, rfl, .inl (by decide), _, _, rfl, rfl, ?_⟩
      refine pen_cell (ns := ns) (a := a) (c0 := 6449 * a + 1217) rfl rfl rfl upd_same rfl h2' fun c H1 g1 => ?_
      have b1 : But pn H H1 := fun p o h n => g1 _ _ (by rw [upd_ne n]; exact h)
      have p1 := g1 _ _ (upd_same (H := H) (a := pn) (o := .lst [.ref cl, .int (a + 1), .int g]))
      have c1 := g1 _ _ h2'
      have s0 : (((List.set (L2.start ["pen", "many", "digit", "at", "cell", "great", "mixed"] [V.ref pn, V.int m]) 3 (some (V.int a))).set 4 (some (V.int (6449 * a + 1217)))).set 4 (some (V.int c))) = [some (.ref pn), some (.int m), none, some (.int a), some (.int c), none, none] := rfl
      show tSeq _ _ _ (((List.set (L2.start ["pen", "many", "digit", "at", "cell", "great", "mixed"] [V.ref pn, V.int m]) 3 (some (V.int a))).set 4 (some (V.int (6449 * a + 1217)))).set 4 (some (V.int c))) H1
      rw [s0]
      have PA : ∀ (H2 : Hp), Grow H1 H2 → PenAt H2 pn cl (n + 1) := fun H2 g2 => ⟨ns, a + 1, g, g2 _ _ p1, g2 _ _ c1, h3, h4, by omega, by omega, h7⟩
      refine ⟨_, rfl, get_pen rfl p1 rfl ⟨_, _, rfl, .inl ⟨_, SqL.of c1, rfl⟩, _, _, rfl, rfl, _, rfl, ?_⟩⟩
      by_cases hlt : a < (((ns.map V.int).length : Nat) : Int)
      · rw [decide_eq_true hlt]
        refine iteT ⟨_, rfl, c, rfl, _, _, rfl, rfl, ⟨by decide, by decide, by decide⟩, _, _, rfl, rfl, _, rfl, ?_⟩
        by_cases hge : (10 : Int) ^ Int.toNat 18 ≤ (if c < 0 then -c else c)
        · rw [decide_eq_true hge]
          refine iteT ⟨_, rfl, c, rfl, _, _, rfl, rfl, ⟨by decide, by decide, by decide⟩, _, _, rfl, rfl, _, _, rfl, rfl, .inl (by decide), _, rfl, _, _, rfl, rfl, .inr ⟨_, rfl, _, _, rfl, rfl, ?_⟩⟩
          have gnn : 0 ≤ 2 * ((if c < 0 then -c else c) - 10 ^ Int.toNat 18) + (if decide (c < 0) = true then (1 : Int) else 0) := by
            have : 0 ≤ (if decide (c < 0) = true then (1 : Int) else 0) := by split <;> decide
            omega
          generalize hG : 2 * ((if c < 0 then -c else c) - 10 ^ Int.toNat 18) + (if decide (c < 0) = true then (1 : Int) else 0) = G at gnn
          refine ⟨_, congrArg (fun x => some (some (V.int x))) hG, .inl ⟨_, rfl, _, rfl, _, _, rfl, rfl, ⟨m1, m2⟩, _, rfl, pn, _, 2, 2, rfl, rfl, p1, rfl, _, congrArg (fun x => some (some (V.int x))) hG, .inl ⟨_, rfl, _, rfl, _, _, rfl, rfl, m1, ?_⟩⟩⟩
          refine hQ _ _ (But.upd b1) ⟨ns, a + 1, G / m, upd_same, ?_, h3, h4, by omega, by omega, Int.ediv_nonneg gnn (by omega)⟩ (Int.emod_nonneg _ (by omega)) (Int.emod_lt_of_pos _ m1)
          rw [upd_ne h3]
          exact c1
        · rw [decide_eq_false hge]
          exact iteF (mix_tail rfl rfl rfl rfl h5 h6 hn m1 fun d d0 d1 => hQ d H1 b1 (PA H1 (Grow.refl _)) d0 d1)
      · rw [decide_eq_false hlt]
        exact iteF (iteF (mix_tail rfl rfl rfl rfl h5 h6 hn m1 fun d d0 d1 => hQ d H1 b1 (PA H1 (Grow.refl _)) d0 d1))
theorem sc__law_pick : FnScope ["pen", "some"] ["pen", "some"] (defScope s__law_pick) := ⟨rfl, rfl, rfl, by decide +kernel, rfl, by decide +kernel, by decide +kernel⟩
def sp__law_pick : Sp := fun vs H Q _ => ∃ (pn cl so : Addr) (xs : List V) (n : Nat), vs = [.ref pn, .ref so] ∧ H so = some (.lst xs) ∧ so ≠ pn ∧ xs ≠ [] ∧ xs.length < 1073741824 ∧ n ≤ 1000000 ∧ PenAt H pn cl n ∧ ∀ v H', But pn H H' → PenAt H' pn cl (n + 1) → v ∈ xs → Q v H'
theorem ok__law_pick (z : Z P w K mg base) : ∃ fd, FnOk P w K mg base (L2.CX P w) 2 (ga K "_law_pick") fd ["pen", "some"] sp__law_pick ∧ Binds K fd ["pen", "some"] [] := by
  obtain ⟨f1, G1, b1⟩ := ok__law_draw z
  obtain ⟨fd, F⟩ := z.f__law_pick
  refine ⟨fd, F.ok sc__law_pick (fun vs H Q E h => ?_) (fun cdv A outer s H vs Q E hr h => ?_), F.bindsN fun _ _ _ _ _ _ us hl => match us, hl with | [_, _], _ => rfl⟩
  · obtain ⟨_, _, _, _, _, rfl, _⟩ := h
    rfl
  · obtain ⟨pn, cl, so, xs, n, rfl, hs, ne, hx, hz, hn, hp, hQ⟩ := h
    refine ⟨_, pss_one (ps_ret (pe_ix ix_seq (pv 1) (pe_call G1 hr rfl z.g__law_draw z.k__law_draw b1 .nil passF (pa_cons (pv 0) (pa_cons (pe_callB call_len rfl z.b_len (by decide +kernel) (pa_cons (pv 1) pa_nil)) pa_nil))) fun _ _ => rfl)), ?_⟩
    have hl : 0 < xs.length := List.length_pos_iff.mpr hx
    refine ⟨_, rfl, _, rfl, _, rfl, _, _, rfl, .inl ⟨_, SqL.of hs, rfl⟩, pn, cl, _, n, rfl, by omega, by omega, hn, hp, fun d H1 b1 p1 d0 d1 => ?_⟩
    have hd : d.toNat < xs.length := by omega
    refine .inl ⟨so, xs, d, xs[d.toNat], rfl, rfl, SqL.of (b1 _ _ hs ne), ?_, hQ _ H1 b1 p1 (List.getElem_mem hd)⟩
    unfold atI ixN
    rw [if_pos d0, if_pos d1]
    exact List.getElem?_eq_getElem hd
end
end K80

set_option Elab.async false
set_option linter.all false
set_option maxRecDepth 100000
set_option maxHeartbeats 8000000
/-! the law's own reader of items -/
namespace K80
open PySem PySem.Spec PyProof.Rows L2 SX StX
open He (ga ma)
section
variable {P : Program} {w : World} {K : PySem.W.Frag} {mg : Str → Option Value} {base : Heap}
def Sane (y : Str) : Prop := ∀ c ∈ y.cps.toList, c < 1114112
theorem strOk_one {c : Nat} (h : c < 1114112) : PyData.strOk ⟨#[c]⟩ = true := by
  show (#[c] : Array Nat).all (fun x => decide (x < 0x110000)) = true
  simp
  exact h
def badL (alpha y : Str) : List Nat := y.cps.toList.filter fun c => !decide (c ∈ alpha.cps.toList)
theorem shaped_signs (cs : List Nat) (hs : ∀ c ∈ cs, c < 1114112) : SeqAt.shaped (.list (cs.map fun c => PyData.str ⟨#[c]⟩)) = true := by
  have h1 : PyData.canLayAll0 (cs.map fun c => PyData.str ⟨#[c]⟩) = true := by
    induction cs with
    | nil => rfl
    | cons n ns ih => simp only [List.map_cons, PyData.canLayAll0, PyData.canLay0, ih fun c h => hs c (List.mem_cons_of_mem _ h), strOk_one (hs n List.mem_cons_self), Bool.and_self]
  have h2 : PyData.depthAll (cs.map fun c => PyData.str ⟨#[c]⟩) = 0 := by
    clear h1 hs
    induction cs with
    | nil => rfl
    | cons n ns ih => simp only [List.map_cons, PyData.depthAll, PyData.depth, ih, Nat.max_self]
  show (PyData.canLayAll0 (cs.map fun c => PyData.str ⟨#[c]⟩) && decide (PyData.depthAll (cs.map fun c => PyData.str ⟨#[c]⟩) + 1 ≤ 64)) = true
  rw [h1, h2]
  rfl
theorem dpAll_signs {H : Hp} : ∀ cs : List Nat, DpAll K H (cs.map fun c => V.str ⟨#[c]⟩) (cs.map fun c => PyData.str ⟨#[c]⟩)
  | [] => .nil
  | n :: ns => .cons (.str _) (dpAll_signs ns)
/-- [sign for sign in item if sign not in alpha] != [] -/
theorem bad_read {alpha y : Str} {i j : Nat} {σ : L2.St} {H : Hp} {Q : Bool → Hp → Prop} (hj : σ[j]? = some (some (.str y))) (hlen : y.cps.size ≤ sizeLine) (hsn : Sane y) (hi : i < σ.length) (hQ : ∀ H', Grow H H' → Q (!decide (badL alpha y = [])) H') :
    tTest (tOp (rNeD K) (tLc (iStr (tVar j)) (gName i) (tTest (tOp (fun x y H Q => ∃ (c : Nat) (z : Str), x = .str ⟨#[c]⟩ ∧ y = .str z ∧ Q (.bl (!decide (c ∈ z.cps.toList))) H) (tVar i) (tC (.str alpha)))) (tVar i) [i]) (tLst tNil)) σ H Q := by
  refine ⟨_, hj, y, rfl, fun D hD => ?_⟩
  refine lc_it walk_str (fun k H' => H' = upd H D (.lst (((y.cps.toList.take k).filter fun c => !decide (c ∈ alpha.cps.toList)).map fun c => V.str ⟨#[c]⟩))) rfl (fun _ _ _ _ => True.intro) ?_ ?_
  · rintro k x H1 H2 hk rfl ⟨rfl, c, hc, rfl⟩
    show wipe ((wipe σ [i]).set i (some (.str ⟨#[c]⟩))) [i] = wipe σ [i] ∧ _
    refine ⟨?_, ?_⟩
    · show ((σ.set i none).set i (some (.str ⟨#[c]⟩))).set i none = σ.set i none
      rw [List.set_set, List.set_set]
    · have hv : ((σ.set i none).set i (some (V.str ⟨#[c]⟩)))[i]? = some (some (.str ⟨#[c]⟩)) := by
        rw [List.getElem?_set_self (by simpa using hi)]
      have e : y.cps.toList[k]? = some c := by simpa using hc
      have e2 : y.cps.toList.take (k + 1) = y.cps.toList.take k ++ [c] := by rw [List.take_add_one, e]; rfl
      refine ⟨_, hv, c, alpha, rfl, rfl, _, rfl, ?_⟩
      rw [e2, List.filter_append]
      by_cases h : c ∈ alpha.cps.toList
      · rw [decide_eq_true h]
        refine iteF ?_
        have e3 : [c].filter (fun c => !decide (c ∈ alpha.cps.toList)) = [] := by rw [List.filter_cons, decide_eq_true h]; rfl
        rw [e3, List.append_nil]
      · rw [decide_eq_false h]
        refine iteT ⟨_, hv, _, upd_same, ?_, ?_⟩
        · have e4 := List.length_filter_le (fun c => !decide (c ∈ alpha.cps.toList)) (y.cps.toList.take k)
          rw [List.length_map]
          rw [List.length_take] at e4
          have : k < y.cps.size := hk
          omega
        · have e3 : [c].filter (fun c => !decide (c ∈ alpha.cps.toList)) = [c] := by rw [List.filter_cons, decide_eq_false h]; rfl
          rw [upd_upd, e3, List.map_append]
          rfl
  · rintro H' rfl
    have e : y.cps.toList.take y.cps.size = y.cps.toList := List.take_of_length_le (by simp)
    rw [e]
    refine ⟨Nat.zero_le _, fun p hp => ⟨.list ((badL alpha y).map fun c => PyData.str ⟨#[c]⟩), .list [], .lst (SqL.of (Grow.new hp _ _ upd_same)) (dpAll_signs _), .lst (SqL.of upd_same) .nil, shaped_signs _ (fun c h => hsn c (List.mem_filter.mp h).1), rfl, _, rfl, ?_⟩⟩
    have q := hQ _ ((Grow.new (o := .lst ((badL alpha y).map fun c => V.str ⟨#[c]⟩)) hD).trans (Grow.new (o := .lst []) hp))
    have e2 : PyData.eqv (.list ((badL alpha y).map fun c => PyData.str ⟨#[c]⟩)) (.list []) = decide (badL alpha y = []) := by
      cases badL alpha y with
      | nil => rfl
      | cons a l => rfl
    rw [e2]
    exact q
theorem abc_sign (c : Nat) : c ∈ ("abcdefghijklmnopqrstuvwxyz" : Str).cps.toList ↔ signB "a" "z" ⟨#[c]⟩ = true := by
  have e : signB "a" "z" ⟨#[c]⟩ = (!decide (c < 97) && !decide (122 < c)) := by
    unfold signB
    show (!decide (([c] : List Nat) < [97]) && !decide (([122] : List Nat) < [c])) = _
    rw [decide_eq_decide.mpr sign_lt, decide_eq_decide.mpr sign_lt]
  rw [e]
  have el : ("abcdefghijklmnopqrstuvwxyz" : Str).cps.toList = [97, 98, 99, 100, 101, 102, 103, 104, 105, 106, 107, 108, 109, 110, 111, 112, 113, 114, 115, 116, 117, 118, 119, 120, 121, 122] := by decide +kernel
  rw [el]
  constructor
  · intro h
    simp only [List.mem_cons, List.not_mem_nil, or_false] at h
    have h1 : 97 ≤ c ∧ c ≤ 122 := by omega
    simp
    omega
  · intro h
    simp at h
    simp only [List.mem_cons, List.not_mem_nil, or_false]
    omega
theorem dig_sign (c : Nat) : c ∈ ("0123456789" : Str).cps.toList ↔ signB "0" "9" ⟨#[c]⟩ = true := by
  have e : signB "0" "9" ⟨#[c]⟩ = (!decide (c < 48) && !decide (57 < c)) := by
    unfold signB
    show (!decide (([c] : List Nat) < [48]) && !decide (([57] : List Nat) < [c])) = _
    rw [decide_eq_decide.mpr sign_lt, decide_eq_decide.mpr sign_lt]
  rw [e]
  have el : ("0123456789" : Str).cps.toList = [48, 49, 50, 51, 52, 53, 54, 55, 56, 57] := by decide +kernel
  rw [el]
  constructor
  · intro h
    simp only [List.mem_cons, List.not_mem_nil, or_false] at h
    simp
    omega
  · intro h
    simp at h
    simp only [List.mem_cons, List.not_mem_nil, or_false]
    omega
theorem bad_all {alpha lo hi y : Str} (h : ∀ c : Nat, c ∈ alpha.cps.toList ↔ signB lo hi ⟨#[c]⟩ = true) : decide (badL alpha y = []) = allB lo hi y := by
  unfold badL allB
  induction y.cps.toList with
  | nil => rfl
  | cons c cs ih =>
    rw [List.all_cons, ← ih, List.filter_cons]
    by_cases hc : c ∈ alpha.cps.toList
    · rw [(h c).mp hc, decide_eq_true hc]
      rfl
    · have e : signB lo hi ⟨#[c]⟩ = false := by
        cases q : signB lo hi ⟨#[c]⟩ with
        | false => rfl
        | true => exact absurd ((h c).mpr q) hc
      rw [e, decide_eq_false hc]
      rfl
/-! ### _law_is_name, _law_is_figures, _law_item -/
theorem sc__law_is_name : FnScope ["item", "names", "sign"] ["item", "names"] (defScope s__law_is_name) := ⟨rfl, rfl, rfl, by decide +kernel, rfl, by decide +kernel, by decide +kernel⟩
def sp__law_is_name : Sp := fun vs H Q _ => ∃ y : Str, vs = [.str y, .non] ∧ y.length ≤ sizeLine ∧ Sane y ∧ ∀ H', Grow H H' → Q (.bl (nameB y)) H'
theorem ok__law_is_name (z : Z P w K mg base) : ∃ fd, FnOk P w K mg base (L2.CX P w) 1 (ga K "_law_is_name") fd ["item", "names"] sp__law_is_name ∧ Binds K fd ["item", "names"] [] := by
  obtain ⟨fd, F⟩ := z.f__law_is_name
  refine ⟨fd, F.ok sc__law_is_name (fun vs H Q E h => ?_) (fun cdv A outer s H vs Q E hr h => ?_), F.bindsN fun _ _ _ _ _ _ us hl => match us, hl with | [_, _], _ => rfl⟩
  · obtain ⟨y, rfl, _⟩ := h
    rfl
  · obtain ⟨y, rfl, hy, hsn, hQ⟩ := h
    refine ⟨_, pss_cons (ps_if (PW.pt (pw_or (pt_not (pt_chain op_le op_le pe_int (pe_callB call_len_str rfl z.b_len (by decide +kernel) (pa_cons (pv 0) pa_nil)) pe_int)) (pw_or1 (pt_cmpR (op_neD hr.units) (pe_lc (own := [("sign", 2)]) (g := gName 2) rfl sc__law_is_name.nd (pi_str (pv 0)) (blkOk_by (N := ["item", "names", "sign"]) (sc := defScope s__law_is_name) (by decide +kernel)) (fun _ _ _ _ _ => pg_name (i := 2) sc__law_is_name.nd rfl (Or.inl rfl)) (fun _ _ _ _ _ => pts_one (pt_cmpR op_notIn_sign (pv 2) pe_str rfl)) (fun _ _ _ _ _ => pv 2)) (pe_lst pa_nil) (nomark _))))) (pss_one (ps_ret pe_bl)) pss_nil)
      (pss_one (ps_ret (pe_or (pe_cmp (pc_isN (pv 1)) rfl) (pe_one (pe_cmpR op_in_seq (pv 0) (pv 1) rfl))))), ?_⟩
    refine ⟨_, rfl, _, rfl, hy, _, _, rfl, rfl, _, rfl, ?_⟩
    by_cases h1 : (1 : Int) ≤ (y.length : Int)
    · rw [decide_eq_true h1]
      refine iteT ⟨_, _, rfl, rfl, _, rfl, ?_⟩
      by_cases h2 : (y.length : Int) ≤ 12
      · rw [decide_eq_true h2]
        refine iteF (bad_read rfl hy hsn (by show 2 < 3; decide) fun H1 g1 => ?_)
        have hn : nameB y = allB "a" "z" y := by
          unfold nameB
          rw [decide_eq_true (show 1 ≤ y.length by omega), decide_eq_true (show y.length ≤ 12 by omega)]
          rfl
        rw [bad_all abc_sign]
        rw [hn] at hQ
        cases q : allB "a" "z" y with
        | true =>
          rw [q] at hQ
          exact iteF ⟨_, rfl, _, rfl, iteT (hQ H1 g1)⟩
        | false =>
          rw [q] at hQ
          exact iteT (hQ H1 g1)
      · rw [decide_eq_false h2]
        have hn : nameB y = false := by
          unfold nameB
          rw [decide_eq_false (show ¬ y.length ≤ 12 by omega)]
          simp
        rw [hn] at hQ
        exact iteT (iteT (hQ _ (Grow.refl H)))
    · rw [decide_eq_false h1]
      have hn : nameB y = false := by
        unfold nameB
        rw [decide_eq_false (show ¬ 1 ≤ y.length by omega)]
        rfl
      rw [hn] at hQ
      exact iteF ⟨_, rfl, iteT (iteT (hQ _ (Grow.refl H)))⟩
theorem chain_fig {σ : L2.St} {H : Hp} {Q : VK} {y : Str} {lo hi : Int} (h0 : σ[0]? = some (some (.str y))) (h1 : σ[1]? = some (some (.int lo))) (h2 : σ[2]? = some (some (.int hi))) (hf : figB y = true) (hQ : Q (.bl (numB lo hi y)) H) :
    tChain (rI0 fun i j => .bl (decide (i ≤ j))) (rI0 fun i j => .bl (decide (i ≤ j))) (tVar 1) (tCB (fun xs H Q => ∃ (a : Str) (n : Int), xs = [V.str a] ∧ PySem.intText? a = some n ∧ a.length ≤ 640 ∧ Q (V.int n) H) (tCons (tVar 0) tNil)) (tVar 2) σ H Q := by
  obtain ⟨e1, e2⟩ := fig_int hf
  have hn : numB lo hi y = decide (lo ≤ valB y ∧ valB y ≤ hi) := by
    unfold numB
    rw [hf]
    rfl
  rw [hn] at hQ
  refine ⟨_, h1, _, h0, y, valB y, rfl, e1, e2, _, _, rfl, rfl, _, rfl, ?_⟩
  by_cases c1 : lo ≤ valB y
  · rw [decide_eq_true c1]
    refine iteT ⟨_, h2, _, _, rfl, rfl, ?_⟩
    have e : decide (lo ≤ valB y ∧ valB y ≤ hi) = decide (valB y ≤ hi) := by
      by_cases c2 : valB y ≤ hi
      · rw [decide_eq_true c2, decide_eq_true ⟨c1, c2⟩]
      · rw [decide_eq_false c2, decide_eq_false fun q => c2 q.2]
    rw [e] at hQ
    exact hQ
  · rw [decide_eq_false c1]
    rw [decide_eq_false fun q => c1 q.1] at hQ
    exact iteF hQ
theorem sc__law_is_figures : FnScope ["item", "least", "most", "sign"] ["item", "least", "most"] (defScope s__law_is_figures) := ⟨rfl, rfl, rfl, by decide +kernel, rfl, by decide +kernel, by decide +kernel⟩
def sp__law_is_figures : Sp := fun vs H Q _ => ∃ (y : Str) (lo hi : Int), vs = [.str y, .int lo, .int hi] ∧ y.length ≤ sizeLine ∧ Sane y ∧ ∀ H', Grow H H' → Q (.bl (numB lo hi y)) H'
theorem ok__law_is_figures (z : Z P w K mg base) : ∃ fd, FnOk P w K mg base (L2.CX P w) 1 (ga K "_law_is_figures") fd ["item", "least", "most"] sp__law_is_figures ∧ Binds K fd ["item", "least", "most"] [] := by
  obtain ⟨fd, F⟩ := z.f__law_is_figures
  refine ⟨fd, F.ok sc__law_is_figures (fun vs H Q E h => ?_) (fun cdv A outer s H vs Q E hr h => ?_), F.bindsN fun _ _ _ _ _ _ us hl => match us, hl with | [_, _, _], _ => rfl⟩
  · obtain ⟨y, _, _, rfl, _⟩ := h
    rfl
  · obtain ⟨y, lo, hi, rfl, hy, hsn, hQ⟩ := h
    refine ⟨_, pss_cons (ps_if (PW.pt (pw_or (pt_not (pt_chain op_le op_le pe_int (pe_callB call_len_str rfl z.b_len (by decide +kernel) (pa_cons (pv 0) pa_nil)) pe_int)) (pw_or (pt_cmpR (op_neD hr.units) (pe_lc (own := [("sign", 3)]) (g := gName 3) rfl sc__law_is_figures.nd (pi_str (pv 0)) (blkOk_by (N := ["item", "least", "most", "sign"]) (sc := defScope s__law_is_figures) (by decide +kernel)) (fun _ _ _ _ _ => pg_name (i := 3) sc__law_is_figures.nd rfl (Or.inl rfl)) (fun _ _ _ _ _ => pts_one (pt_cmpR op_notIn_sign (pv 3) pe_str rfl)) (fun _ _ _ _ _ => pv 3)) (pe_lst pa_nil) (nomark _)) (pw_or1 (PW.pt (pw_and (pt_cmpR op_eq (pe_ix ix_str (pv 0) pe_int (fun _ _ => rfl)) pe_str (nomark _)) (pw_and1 (pt_cmpR op_ne (pv 0) pe_str (nomark _))))))))) (pss_one (ps_ret pe_bl)) pss_nil)
      (pss_one (ps_ret (pe_chain op_le op_le (pv 1) (pe_callTy call_int_str rfl z.b_int (by decide +kernel) (pa_cons (pv 0) pa_nil)) (pv 2)))), ?_⟩
    refine ⟨_, rfl, _, rfl, hy, _, _, rfl, rfl, _, rfl, ?_⟩
    by_cases h1 : (1 : Int) ≤ (y.length : Int)
    · rw [decide_eq_true h1]
      refine iteT ⟨_, _, rfl, rfl, _, rfl, ?_⟩
      by_cases h2 : (y.length : Int) ≤ 60
      · rw [decide_eq_true h2]
        refine iteF (bad_read rfl hy hsn (by show 3 < 4; decide) fun H1 g1 => ?_)
        have hn : figB y = (allB "0" "9" y && (decide (y = "0") || !decide (y.cps.toList.head? = some 48))) := by
          unfold figB
          rw [decide_eq_true (show 1 ≤ y.length by omega), decide_eq_true (show y.length ≤ 60 by omega)]
          rfl
        have hno : figB y = false → Q (.bl false) H1 := fun e => by
          have q := hQ H1 g1
          have e2 : numB lo hi y = false := by
            unfold numB
            rw [e]
            rfl
          rw [e2] at q
          exact q
        rw [bad_all dig_sign]
        cases q : allB "0" "9" y with
        | false =>
          rw [q] at hn
          exact iteT (hno (by rw [hn]; rfl))
        | true =>
          rw [q, Bool.true_and] at hn
          obtain ⟨c, cs, ec⟩ : ∃ c cs, y.cps.toList = c :: cs := by
            cases q : y.cps.toList with
            | nil =>
              have : y.cps.toList.length = 0 := by rw [q]; rfl
              have h5 : y.length = y.cps.toList.length := by simp [Str.length]
              omega
            | cons c cs => exact ⟨c, cs, rfl⟩
          refine iteF ⟨_, rfl, y, 0, c, rfl, rfl, hy, atI_nat (j := 0) (by rw [ec]; rfl), rfl, _, rfl, ?_⟩
          have e5 : decide (V.str ⟨#[c]⟩ = V.str "0") = decide (y.cps.toList.head? = some 48) := by
            rw [ec]
            by_cases h : c = 48
            · subst h
              rfl
            · rw [decide_eq_false (show ¬ ((c :: cs).head? = some 48) from fun q => h (Option.some.inj q))]
              rw [decide_eq_false fun q => h ?_]
              have q2 := congrArg (fun z : Str => z.cps.toList) (V.str.inj q)
              have q3 : [c] = [48] := q2
              exact (List.cons.inj q3).1
          rw [e5]
          cases q6 : decide (y.cps.toList.head? = some 48) with
          | false =>
            rw [q6] at hn
            exact iteF (iteF (chain_fig rfl rfl rfl (by rw [hn]; cases decide (y = "0") <;> rfl) (hQ H1 g1)))
          | true =>
            rw [q6] at hn
            refine iteT ⟨_, rfl, rfl, _, rfl, ?_⟩
            have e3 : decide (V.str y = V.str "0") = decide (y = "0") := by
              by_cases h : y = "0"
              · rw [decide_eq_true h, decide_eq_true (by rw [h])]
              · rw [decide_eq_false h, decide_eq_false fun q => h (V.str.inj q)]
            rw [e3]
            cases q7 : decide (y = "0") with
            | true =>
              rw [q7] at hn
              exact iteF (chain_fig rfl rfl rfl (by rw [hn]; rfl) (hQ H1 g1))
            | false =>
              rw [q7] at hn
              exact iteT (hno (by rw [hn]; rfl))
      · rw [decide_eq_false h2]
        have hn : numB lo hi y = false := by
          unfold numB figB
          rw [decide_eq_false (show ¬ y.length ≤ 60 by omega)]
          simp
        rw [hn] at hQ
        exact iteT (iteT (hQ _ (Grow.refl H)))
    · rw [decide_eq_false h1]
      have hn : numB lo hi y = false := by
        unfold numB figB
        rw [decide_eq_false (show ¬ 1 ≤ y.length by omega)]
        rfl
      rw [hn] at hQ
      exact iteF ⟨_, rfl, iteT (iteT (hQ _ (Grow.refl H)))⟩
theorem sc__law_item : FnScope ["items", "at"] ["items", "at"] (defScope s__law_item) := ⟨rfl, rfl, rfl, by decide +kernel, rfl, by decide +kernel, by decide +kernel⟩
def itemAt (ws : List Str) (i : Nat) : Str := ws.getD i "?"
def sp__law_item : Sp := fun vs H Q _ => ∃ (l : Addr) (ws : List Str) (i : Nat), vs = [.ref l, .int (i : Nat)] ∧ H l = some (.lst (ws.map V.str)) ∧ Q (.str (itemAt ws i)) H
theorem ok__law_item (z : Z P w K mg base) : ∃ fd, FnOk P w K mg base (L2.CX P w) 1 (ga K "_law_item") fd ["items", "at"] sp__law_item ∧ Binds K fd ["items", "at"] [] := by
  obtain ⟨fd, F⟩ := z.f__law_item
  refine ⟨fd, F.ok sc__law_item (fun vs H Q E h => ?_) (fun cdv A outer s H vs Q E hr h => ?_), F.bindsN fun _ _ _ _ _ _ us hl => match us, hl with | [_, _], _ => rfl⟩
  · obtain ⟨_, _, _, rfl, _⟩ := h
    rfl
  · obtain ⟨l, ws, i, rfl, hl, hQ⟩ := h
    refine ⟨_, pss_one (ps_ret (pe_ifExp (pt_cmpR op_lt (pv 1) (pe_callB call_len rfl z.b_len (by decide +kernel) (pa_cons (pv 0) pa_nil)) (nomark _)) (pe_ix ix_seq (pv 0) (pv 1) fun _ _ => rfl) pe_str)), ?_⟩
    refine ⟨_, rfl, _, rfl, _, _, rfl, .inl ⟨_, SqL.of hl, rfl⟩, _, _, rfl, rfl, _, rfl, ?_⟩
    by_cases h : ((i : Nat) : Int) < (((ws.map V.str).length : Nat) : Int)
    · rw [decide_eq_true h]
      have hi : i < ws.length := by rw [List.length_map] at h; omega
      refine iteT ⟨_, rfl, _, rfl, .inl ⟨l, _, _, .str ws[i], rfl, rfl, SqL.of hl, ?_, ?_⟩⟩
      · refine atI_nat ?_
        rw [List.getElem?_map, List.getElem?_eq_getElem hi]
        rfl
      · have e : itemAt ws i = ws[i] := by
          unfold itemAt
          rw [List.getD_eq_getElem?_getD, List.getElem?_eq_getElem hi]
          rfl
        rw [← e]
        exact hQ
    · rw [decide_eq_false h]
      have hi : ¬ i < ws.length := by rw [List.length_map] at h; omega
      have e : itemAt ws i = "?" := by
        unfold itemAt
        rw [List.getD_eq_getElem?_getD, List.getElem?_eq_none (by omega)]
        rfl
      rw [e] at hQ
      exact iteF hQ
end
end K80

set_option Elab.async false
set_option linter.all false
set_option maxRecDepth 100000
set_option maxHeartbeats 8000000
/-! the law's step -/
namespace K80
open PySem PySem.Spec PyProof.Rows L2 SX StX
open He (ga ma)
section
variable {P : Program} {w : World} {K : PySem.W.Frag} {mg : Str → Option Value} {base : Heap}
def Ph.str : Ph → Str
  | .first => "first"
  | .need => "need"
  | .name => "name"
  | .many => "many"
  | .open => "open"
  | .behind => "behind"
  | .over => "over"
/-- the pairs of the open brackets -/
def PairsAt (H : Hp) : List (Int × Int) → List V → Prop
  | [], vs => vs = []
  | r :: rs, vs => ∃ q vs', vs = V.ref q :: vs' ∧ H q = some (.tup [.int r.1, .int r.2]) ∧ PairsAt H rs vs'
theorem PairsAt.len {H : Hp} : ∀ {rs : List (Int × Int)} {vs : List V}, PairsAt H rs vs → vs.length = rs.length
  | [], _, h => by rw [show _ = [] from h]; rfl
  | r :: rs, _, ⟨q, vs', e, _, t⟩ => by rw [e, List.length_cons, List.length_cons, t.len]
theorem PairsAt.grow {H H' : Hp} (g : Grow H H') : ∀ {rs : List (Int × Int)} {vs : List V}, PairsAt H rs vs → PairsAt H' rs vs
  | [], _, h => h
  | r :: rs, _, ⟨q, vs', e, h, t⟩ => ⟨q, vs', e, g _ _ h, t.grow g⟩
theorem PairsAt.get {H : Hp} : ∀ {rs : List (Int × Int)} {vs : List V} {i : Nat} {v : V}, PairsAt H rs vs → vs[i]? = some v → ∃ r q, rs[i]? = some r ∧ v = .ref q ∧ H q = some (.tup [.int r.1, .int r.2])
  | [], _, i, v, h, e => by
    rw [show _ = [] from h] at e
    cases e
  | r :: rs, _, 0, v, ⟨q, vs', e, h, t⟩, q0 => by
    subst e
    cases q0
    exact ⟨r, q, rfl, rfl, h⟩
  | r :: rs, _, i + 1, v, ⟨q, vs', e, h, t⟩, q0 => by
    subst e
    exact t.get (i := i) q0
theorem PairsAt.app {H : Hp} : ∀ {rs ss : List (Int × Int)} {vs ws : List V}, PairsAt H rs vs → PairsAt H ss ws → PairsAt H (rs ++ ss) (vs ++ ws)
  | [], _, _, _, h, t => by rw [show _ = [] from h]; exact t
  | r :: rs, _, _, _, ⟨q, vs', e, h, t⟩, u => ⟨q, vs' ++ _, by rw [e]; rfl, h, t.app u⟩
theorem PairsAt.snoc {H : Hp} {rs : List (Int × Int)} {vs : List V} {r : Int × Int} {q : Addr} (h : PairsAt H rs.reverse vs) (hq : H q = some (.tup [.int r.1, .int r.2])) : PairsAt H (r :: rs).reverse (vs ++ [.ref q]) := by
  rw [List.reverse_cons]
  exact h.app ⟨q, [], rfl, hq, rfl⟩
theorem PairsAt.unsnoc {H : Hp} : ∀ {rs : List (Int × Int)} {r : Int × Int} {vs : List V}, PairsAt H (rs ++ [r]) vs → ∃ q vs', vs = vs' ++ [.ref q] ∧ H q = some (.tup [.int r.1, .int r.2]) ∧ PairsAt H rs vs'
  | [], r, _, ⟨q, vs', e, h, t⟩ => by
    rw [show vs' = [] from t] at e
    exact ⟨q, [], e, h, rfl⟩
  | s :: rs, r, _, ⟨q, vs', e, h, t⟩ => by
    obtain ⟨q2, vs2, e2, h2, t2⟩ := PairsAt.unsnoc t
    exact ⟨q2, .ref q :: vs2, by rw [e, e2]; rfl, h2, q, vs2, rfl, h, t2⟩
def StAt (H : Hp) (p : Addr) (s : LS) : Prop := ∃ (r : Addr) (vs : List V), H p = some (.tup [.str (Ph.str s.ph), .int s.many, .ref r, .int s.stand]) ∧ H r = some (.tup vs) ∧ PairsAt H s.rows.reverse vs
theorem StAt.grow {H H' : Hp} {p : Addr} {s : LS} (g : Grow H H') (h : StAt H p s) : StAt H' p s := by
  obtain ⟨r, vs, h1, h2, h3⟩ := h
  exact ⟨r, vs, g _ _ h1, g _ _ h2, h3.grow g⟩
theorem isum_snoc (l : List Int) (a : Int) : (l ++ [a]).sum = l.sum + a := by
  induction l with
  | nil => show a + 0 = 0 + a; omega
  | cons b l ih =>
    show b + (l ++ [a]).sum = b + l.sum + a
    rw [ih]
    omega
def gapI (r : Int × Int) : Int := if r.1 - r.2 > 0 then r.1 - r.2 else 0
theorem owe_sum : ∀ rs : List (Int × Int), (rs.reverse.map gapI).sum = owe rs
  | [] => rfl
  | (m, b) :: rs => by
    rw [List.reverse_cons, List.map_append]
    show ((rs.reverse.map gapI) ++ [gapI (m, b)]).sum = max 0 (m - b) + owe rs
    rw [isum_snoc, owe_sum rs]
    unfold gapI
    show owe rs + (if m - b > 0 then m - b else 0) = _
    split <;> omega
theorem room_read {σ : L2.St} {H : Hp} {Q : VK} {r : Addr} {vs : List V} {rs : List (Int × Int)} {stand : Int} (h5 : σ[5]? = some (some (.ref r))) (h6 : σ[6]? = some (some (.int stand))) (hl : σ.length = 11) (hr : H r = some (.tup vs)) (hp : PairsAt H rs.reverse vs) (hz : rs.length ≤ 1000)
    (hQ : ∀ H', Grow H H' → Q (.int (30 - stand - owe rs)) H') :
    tOp (rI0 fun i j => .int (i - j)) (tOp (rI0 fun i j => .int (i - j)) (tC (.int 30)) (tVar 6)) (tCB (rSum K) (tCons (tLc (iTup K (tVar 5)) (gTup K 2 (gCons (gName 9) (gCons (gName 10) gNil))) tYes (tCB (fun xs H Q => ∃ i j : Int, xs = [.int i, .int j] ∧ Q (.int (if j > i then j else i)) H) (tCons (tC (.int 0)) (tCons (tOp (rI0 fun i j => .int (i - j)) (tVar 9) (tVar 10)) tNil))) [9, 10]) tNil)) σ H Q := by
  refine ⟨_, h6, _, _, rfl, rfl, _, h5, r, rfl, ⟨_, SqT.of hr⟩, fun D hD => ?_⟩
  have hlen := hp.len
  rw [List.length_reverse] at hlen
  refine lc_it walk_tup (fun k H' => Grow H H' ∧ H' D = some (.lst ((rs.reverse.map fun x => V.int (gapI x)).take k))) ⟨Grow.new hD, upd_same⟩ (fun k H' _ q => SqT.of (q.1 _ _ hr)) ?_ ?_
  · rintro k x H1 H2 hk ⟨g, e⟩ ⟨rfl, hx⟩
    obtain ⟨pr, q, hpr, rfl, hq⟩ := hp.get hx
    refine ⟨q, _, rfl, SqT.of (g _ _ hq), rfl, _, _, rfl, _, _, rfl, rfl, ?_, ?_⟩
    · show ((((((σ.set 10 none).set 9 none).set 9 (some (.int pr.1))).set 10 (some (.int pr.2))).set 10 none).set 9 none) = (σ.set 10 none).set 9 none
      apply List.ext_getElem?
      intro j
      simp only [List.getElem?_set, List.length_set]
      by_cases j9 : 9 = j
      · by_cases j10 : 10 = j
        · omega
        · simp [j9, j10]
      · by_cases j10 : 10 = j
        · simp [j9, j10]
        · simp [j9, j10]
    · have s9 : ((((σ.set 10 none).set 9 none).set 9 (some (V.int pr.1))).set 10 (some (V.int pr.2)))[9]? = some (some (.int pr.1)) := by
        rw [List.getElem?_set_ne (by decide), List.getElem?_set_self (by rw [List.length_set, List.length_set]; omega)]
      have s10 : ((((σ.set 10 none).set 9 none).set 9 (some (V.int pr.1))).set 10 (some (V.int pr.2)))[10]? = some (some (.int pr.2)) := by
        rw [List.getElem?_set_self (by rw [List.length_set, List.length_set, List.length_set]; omega)]
      refine ⟨_, s9, _, s10, _, _, rfl, rfl, 0, pr.1 - pr.2, rfl, ?_⟩
      have hy : (rs.reverse.map fun x => V.int (gapI x))[k]? = some (.int (gapI pr)) := by rw [List.getElem?_map, hpr]; rfl
      refine ⟨_, e, ?_, fun p o h => ?_, ?_⟩
      · rw [List.length_take, List.length_map, List.length_reverse, sizeLine_eq]
        omega
      · rw [upd_ne (ne_of_none h hD)]
        exact g _ _ h
      · rw [upd_same]
        have e2 : (rs.reverse.map fun x => V.int (gapI x)).take (k + 1) = (rs.reverse.map fun x => V.int (gapI x)).take k ++ [V.int (gapI pr)] := by rw [List.take_add_one, hy]; rfl
        rw [e2]
        rfl
  · rintro H' ⟨g, e⟩
    have e1 : (rs.reverse.map fun x => V.int (gapI x)) = (rs.reverse.map gapI).map V.int := by rw [List.map_map]; rfl
    rw [List.take_of_length_le (by rw [List.length_map, List.length_reverse]; omega), e1] at e
    refine ⟨D, _, rfl, SqL.of e, _, _, rfl, rfl, ?_⟩
    rw [owe_sum]
    exact hQ H' g
end
end K80

set_option Elab.async false
set_option linter.all false
set_option maxRecDepth 100000
set_option maxHeartbeats 8000000
namespace K80
open PySem PySem.Spec PyProof.Rows L2 SX StX
open He (ga ma)
section
variable {P : Program} {w : World} {K : PySem.W.Frag} {mg : Str → Option Value} {base : Heap}
theorem str_dec (a b : Str) : decide (V.str a = V.str b) = decide (a = b) := by
  by_cases h : a = b
  · rw [decide_eq_true h, decide_eq_true (by rw [h])]
  · rw [decide_eq_false h, decide_eq_false fun q => h (V.str.inj q)]
def pairD (r : Int × Int) : PyData := .tuple [.int r.1, .int r.2]
theorem shaped_pairs (rs : List (Int × Int)) : SeqAt.shaped (.tuple (rs.map pairD)) = true := by
  have h1 : PyData.canLayAll0 (rs.map pairD) = true := by
    induction rs with
    | nil => rfl
    | cons n ns ih => simp only [List.map_cons, PyData.canLayAll0, PyData.canLay0, pairD, ih, Bool.and_self]
  have h2 : PyData.depthAll (rs.map pairD) ≤ 1 := by
    clear h1
    induction rs with
    | nil => exact Nat.zero_le _
    | cons n ns ih =>
      show max (PyData.depth (pairD n)) (PyData.depthAll (ns.map pairD)) ≤ 1
      exact Nat.max_le.mpr ⟨Nat.le_refl 1, ih⟩
  show (PyData.canLayAll0 (rs.map pairD) && decide (PyData.depthAll (rs.map pairD) + 1 ≤ 64)) = true
  rw [h1, decide_eq_true (by omega)]
  rfl
theorem dpAll_pairs {H : Hp} : ∀ {rs : List (Int × Int)} {vs : List V}, PairsAt H rs vs → DpAll K H vs (rs.map pairD)
  | [], _, h => by rw [show _ = [] from h]; exact .nil
  | r :: rs, _, ⟨q, vs', e, h, t⟩ => by
    rw [e]
    exact .cons (.tup (SqT.of h) (.cons (.int _) (.cons (.int _) .nil))) (dpAll_pairs t)
theorem closed_read {σ : L2.St} {H : Hp} {Q : VK} {r : Addr} {vs : List V} {rs : List (Int × Int)} {stand : Int} (h5 : σ[5]? = some (some (.ref r))) (h6 : σ[6]? = some (some (.int stand))) (hr : H r = some (.tup vs)) (hp : PairsAt H rs.reverse vs)
    (hQ : ∀ p H', Grow H H' → H' p = some (.tup [.str (Ph.str (closed rs stand).ph), .int 0, .ref r, .int stand]) → Q (.ref p) H') :
    tTup (tCons (tIf (tTest (tOp (rNeD K) (tVar 5) (tTup tNil))) (tC (.str "behind")) (tC (.str "over"))) (tCons (tC (.int 0)) (tCons (tVar 5) (tCons (tVar 6) tNil)))) σ H Q := by
  refine ⟨_, h5, Nat.zero_le _, fun p hp0 => ?_⟩
  have g : Grow H (upd H p (.tup [])) := Grow.new hp0
  refine ⟨.tuple (rs.reverse.map pairD), .tuple [], .tup (SqT.of (g _ _ hr)) (dpAll_pairs (hp.grow g)), .tup (SqT.of upd_same) .nil, shaped_pairs _, rfl, _, rfl, ?_⟩
  have e2 : PyData.eqv (.tuple (rs.reverse.map pairD)) (.tuple []) = decide (rs = []) := by
    cases rs with
    | nil => rfl
    | cons a l =>
      rw [List.reverse_cons]
      cases l.reverse with
      | nil => rfl
      | cons b m => rfl
  rw [e2]
  by_cases h : rs = []
  · rw [decide_eq_true h]
    refine iteF ⟨_, h5, _, h6, by show 4 ≤ sizeLine; decide, fun q hq => hQ q _ (g.trans (Grow.new hq)) ?_⟩
    have e3 : (closed rs stand).ph = .over := by unfold closed; rw [if_pos h]
    rw [e3]
    exact upd_same
  · rw [decide_eq_false h]
    refine iteT ⟨_, h5, _, h6, by show 4 ≤ sizeLine; decide, fun q hq => hQ q _ (g.trans (Grow.new hq)) ?_⟩
    have e3 : (closed rs stand).ph = .behind := by unfold closed; rw [if_neg h]
    rw [e3]
    exact upd_same
def kws : List (Key × V) := [(.inr "has", .str "name"), (.inr "every", .str "open"), (.inr "some", .str "open")]
theorem disp_read {σ : L2.St} {H : Hp} {Q : VK} {r : Addr} {stand : Int} {y ph : Str} (h1 : σ[1]? = some (some (.str y))) (h5 : σ[5]? = some (some (.ref r))) (h6 : σ[6]? = some (some (.int stand))) (hv : valV (mergeK [] kws) (.inr y) = some (.str ph))
    (hQ : ∀ p H', Grow H H' → H' p = some (.tup [.str ph, .int 0, .ref r, .int (stand + 1)]) → Q (.ref p) H') : (tTup (tCons (tDGet (tDisp [(tC (.str "has"), tC (.str "name")), (tC (.str "every"), tC (.str "open")), (tC (.str "some"), tC (.str "open"))]) (tVar 1)) (tCons (tC (.int 0)) (tCons (tVar 5) (tCons (tOp (rI0 fun i j => .int (i + j)) (tVar 6) (tC (.int 1))) tNil))))) σ H Q := by
  refine fun p hp => ⟨upd_same, kws, rfl, by decide, _, h1, p, .str ph, rfl, ?_, _, h5, _, h6, _, _, rfl, rfl, by show 4 ≤ sizeLine; decide, fun q hq => hQ q _ (Grow.trans (fun a o h => ?_) (Grow.new hq)) upd_same⟩
  · rw [← hv]
    exact DGet.k (k := .inr y) upd_same
  · have ne := ne_of_none h hp
    rw [upd_ne ne, upd_ne ne]
    exact h
theorem need_block {R : TS} {D : Ends} {σ : L2.St} {H : Hp} {r : Addr} {vs : List V} {rs : List (Int × Int)} {stand room : Int} {y : Str} (h1 : σ[1]? = some (some (.str y))) (h3 : σ[3]? = some (some (.str "need"))) (h5 : σ[5]? = some (some (.ref r))) (h6 : σ[6]? = some (some (.int stand))) (h7 : σ[7]? = some (some (.int room)))
    (hr : H r = some (.tup vs)) (hp : PairsAt H rs.reverse vs) (hno : needStep room rs stand y = none → ∀ H', Grow H H' → D.rt .non H') (hyes : ∀ s', needStep room rs stand y = some s' → ∀ p' H', Grow H H' → StAt H' p' s' → D.rt (.ref p') H') :
    tSeq (tIfS (tTest (tOp rEq (tVar 3) (tC (.str "need")))) (tSeq (tIfS (tAnd (tTest (tOp rEq (tVar 1) (tC (.str "few")))) (tAnd (tTest (tOp (rI0 fun i j => .bl (decide (i < j))) (tCB (fun xs H Q => ∃ (x : V) (n : Nat), xs = [x] ∧ LenV K x H n ∧ Q (.int (n : Nat)) H) (tCons (tVar 5) tNil)) (tC (.int 5)))) (tTest (tOp (rI0 fun i j => .bl (decide (j < i))) (tVar 7) (tC (.int 1)))))) (tRet (tTup (tCons (tC (.str "many")) (tCons (tC (.int 0)) (tCons (tVar 5) (tCons (tOp (rI0 fun i j => .int (i + j)) (tVar 6) (tC (.int 1))) tNil)))))) tNext) (tRet (tIf (tTest (tOp (rIn K false) (tVar 1) (tTup (tCons (tC (.str "has")) (tCons (tC (.str "every")) (tCons (tC (.str "some")) tNil)))))) (tTup (tCons (tDGet (tDisp [(tC (.str "has"), tC (.str "name")), (tC (.str "every"), tC (.str "open")), (tC (.str "some"), tC (.str "open"))]) (tVar 1)) (tCons (tC (.int 0)) (tCons (tVar 5) (tCons (tOp (rI0 fun i j => .int (i + j)) (tVar 6) (tC (.int 1))) tNil))))) (tC .non)))) tNext) R D σ H := by
  refine ⟨_, h3, rfl, _, rfl, ?_⟩
  rw [decide_eq_true rfl]
  refine iteT ⟨_, h1, rfl, _, rfl, ?_⟩
  have hlen := hp.len
  rw [List.length_reverse] at hlen
  have fin : ∀ (H1 : Hp), Grow H H1 → ¬ (y = "few" ∧ rs.length < 5 ∧ 1 < room) → (tRet (tIf (tTest (tOp (rIn K false) (tVar 1) (tTup (tCons (tC (.str "has")) (tCons (tC (.str "every")) (tCons (tC (.str "some")) tNil)))))) (tTup (tCons (tDGet (tDisp [(tC (.str "has"), tC (.str "name")), (tC (.str "every"), tC (.str "open")), (tC (.str "some"), tC (.str "open"))]) (tVar 1)) (tCons (tC (.int 0)) (tCons (tVar 5) (tCons (tOp (rI0 fun i j => .int (i + j)) (tVar 6) (tC (.int 1))) tNil))))) (tC .non))) D σ H1 := fun H1 g1 hnf => by
    refine ⟨_, h1, by show 3 ≤ sizeLine; decide, fun q hq => ⟨q, _, rfl, .inr (SqT.of upd_same), rfl, rfl, _, rfl, ?_⟩⟩
    have gq := g1.trans (Grow.new (o := .tup [.str "has", .str "every", .str "some"]) hq)
    have mk : ∀ (ph : Str) (s' : LS), needStep room rs stand y = some s' → Ph.str s'.ph = ph → s'.many = 0 → s'.rows = rs → s'.stand = stand + 1 → ∀ p' H', Grow H H' → H' p' = some (.tup [.str ph, .int 0, .ref r, .int (stand + 1)]) → D.rt (.ref p') H' := fun ph s' e ep em er es p' H' g e2 =>
      hyes s' e p' H' g ⟨r, vs, by rw [ep, em, es]; exact e2, g _ _ hr, by rw [er]; exact hp.grow g⟩
    by_cases hh : y = "has"
    · subst hh
      refine iteT (disp_read h1 h5 h6 (by rfl) fun p' H' g e => mk "name" ⟨.name, 0, rs, stand + 1⟩ ?_ rfl rfl rfl rfl p' H' (gq.trans g) e)
      unfold needStep
      rw [if_neg hnf, if_pos rfl]
    · by_cases he : y = "every"
      · subst he
        refine iteT (disp_read h1 h5 h6 (by rfl) fun p' H' g e => mk "open" ⟨.open, 0, rs, stand + 1⟩ ?_ rfl rfl rfl rfl p' H' (gq.trans g) e)
        unfold needStep
        rw [if_neg hnf, if_neg hh, if_pos (.inl rfl)]
      · by_cases hs : y = "some"
        · subst hs
          refine iteT (disp_read h1 h5 h6 (by rfl) fun p' H' g e => mk "open" ⟨.open, 0, rs, stand + 1⟩ ?_ rfl rfl rfl rfl p' H' (gq.trans g) e)
          unfold needStep
          rw [if_neg hnf, if_neg hh, if_pos (.inr rfl)]
        · have e : inV (V.str y) [V.str "has", V.str "every", V.str "some"] = false := by
            show (("has" : Str) == y || (("every" : Str) == y || (("some" : Str) == y || false))) = false
            rw [beq_false_of_ne (fun q => hh q.symm), beq_false_of_ne (fun q => he q.symm), beq_false_of_ne (fun q => hs q.symm)]
            rfl
          rw [e]
          refine iteF (hno ?_ _ gq)
          unfold needStep
          rw [if_neg hnf, if_neg hh, if_neg (fun q => q.elim he hs)]
  rw [str_dec]
  by_cases hf : y = "few"
  · rw [decide_eq_true hf]
    refine iteT ⟨_, h5, _, _, rfl, .inr ⟨_, SqT.of hr, rfl⟩, _, _, rfl, rfl, _, rfl, ?_⟩
    rw [hlen]
    by_cases h5' : ((rs.length : Nat) : Int) < 5
    · rw [decide_eq_true h5']
      refine iteT ⟨_, h7, _, _, rfl, rfl, _, rfl, ?_⟩
      by_cases hrm : 1 < room
      · rw [decide_eq_true hrm]
        refine iteT ⟨_, h5, _, h6, _, _, rfl, rfl, by show 4 ≤ sizeLine; decide, fun q hq => hyes ⟨.many, 0, rs, stand + 1⟩ ?_ q _ (Grow.new hq) ⟨r, vs, upd_same, Grow.new hq _ _ hr, hp.grow (Grow.new hq)⟩⟩
        unfold needStep
        rw [if_pos ⟨hf, by omega, hrm⟩]
      · rw [decide_eq_false hrm]
        exact iteF (fin H (Grow.refl H) fun q => hrm q.2.2)
    · rw [decide_eq_false h5']
      exact iteF (iteF (fin H (Grow.refl H) fun q => h5' (by omega)))
  · rw [decide_eq_false hf]
    exact iteF (iteF (fin H (Grow.refl H) fun q => hf q.1))
end
end K80

set_option Elab.async false
set_option linter.all false
set_option maxRecDepth 100000
set_option maxHeartbeats 8000000
set_option pp.maxSteps 600
namespace K80
open PySem PySem.Spec PyProof.Rows L2 SX StX
open He (ga ma)
section
variable {P : Program} {w : World} {K : PySem.W.Frag} {mg : Str → Option Value} {base : Heap}
theorem int_dec (a b : Int) : decide (V.int a = V.int b) = decide (a = b) := by
  by_cases h : a = b
  · rw [decide_eq_true h, decide_eq_true (by rw [h])]
  · rw [decide_eq_false h, decide_eq_false fun q => h (V.int.inj q)]
theorem at_last (vs : List V) (x : V) : atI (vs ++ [x]) (-1) = some x := by
  unfold atI ixN
  rw [if_neg (by decide), if_pos (by rw [List.length_append]; show -(((vs.length + 1 : Nat) : Int)) ≤ -1; omega)]
  show (vs ++ [x])[(-1 + (((vs ++ [x]).length : Nat) : Int)).toNat]? = _
  have e : (-1 + (((vs ++ [x]).length : Nat) : Int)).toNat = vs.length := by
    rw [List.length_append]
    show (-1 + ((vs.length + 1 : Nat) : Int)).toNat = _
    omega
  rw [e]
  simp
theorem slice_last {H : Hp} {Q : VK} {r : Addr} {vs : List V} {x : V} (hr : H r = some (.tup (vs ++ [x]))) (h : ∀ t H', Grow H H' → H' t = some (.tup vs) → Q (.ref t) H') : rSlA K (.ref r) none (some (-1)) H Q := by
  have hl : (vs ++ [x]).length = vs.length + 1 := by rw [List.length_append]; rfl
  have e1 : HT.sIx (vs ++ [x]).length (vs ++ [x]).length (some (-1)) = vs.length := by
    unfold HT.sIx
    simp only
    rw [if_pos (by decide), hl]
    omega
  refine ⟨r, _, rfl, SqT.of hr, fun q => ?_, fun _ t ht => h t _ (Grow.new ht) ?_⟩
  · have q2 := q.2
    rw [e1, hl] at q2
    omega
  · have e2 : cutV (vs ++ [x]) none (some (-1)) = vs := by
      unfold cutV
      rw [e1]
      show ((vs ++ [x]).drop 0).take (vs.length - 0) = vs
      simp
    rw [e2]
    exact upd_same
theorem seq_asg {te : TE} {g : TG} {R : TS} {D : Ends} {σ : L2.St} {H : Hp} (h : te σ H fun x H1 => g x σ H1 fun σ2 H2 => R D σ2 H2) : tSeq (tAsg te g) R D σ H := h
theorem skip_ph {a b : Str} {B R : TS} {D : Ends} {σ : L2.St} {H : Hp} (h3 : σ[3]? = some (some (.str a))) (hne : a ≠ b) (h : R D σ H) : tSeq (tIfS (tTest (tOp rEq (tVar 3) (tC (.str b)))) B tNext) R D σ H := by
  refine ⟨_, h3, rfl, _, rfl, ?_⟩
  rw [str_dec, decide_eq_false hne]
  exact iteF h
theorem take_ph {b : Str} {B R : TS} {D : Ends} {σ : L2.St} {H : Hp} (h3 : σ[3]? = some (some (.str b))) (h : B { D with nx := R D } σ H) : tSeq (tIfS (tTest (tOp rEq (tVar 3) (tC (.str b)))) B tNext) R D σ H := by
  refine ⟨_, h3, rfl, _, rfl, ?_⟩
  rw [str_dec, decide_eq_true rfl]
  exact iteT h
theorem catA {H : Hp} {Q : VK} {r q q2 : Addr} {vs : List V} {rs : List (Int × Int)} {a : Int × Int} (hr : H r = some (.tup vs)) (hp : PairsAt H rs.reverse vs) (hq : H q = some (.tup [.int a.1, .int a.2])) (hq2 : H q2 = some (.tup [.ref q])) (hz : rs.length ≤ 1000)
    (h : ∀ t H' ws, Grow H H' → H' t = some (.tup ws) → PairsAt H' (a :: rs).reverse ws → Q (.ref t) H') : rCatA K (.ref r) (.ref q2) H Q := by
  have hlen := hp.len
  rw [List.length_reverse] at hlen
  refine ⟨r, q2, vs, [.ref q], rfl, rfl, SqT.of hr, SqT.of hq2, ?_, fun e => ?_, fun _ e => (nomatch e), fun _ _ t ht => h t _ _ (Grow.new ht) upd_same ((hp.grow (Grow.new ht)).snoc (Grow.new ht _ _ hq))⟩
  · rw [sizeLine_eq]
    show vs.length + 1 ≤ _
    omega
  · have e0 := hp.snoc hq
    rw [e] at e0
    exact h q2 H [.ref q] (Grow.refl H) hq2 e0
def sp__law_need_step : Sp := fun vs H Q _ => ∃ (p : Addr) (s : LS) (y : Str), vs = [.ref p, .str y, .non] ∧ StAt H p s ∧ s.ph ≠ .over ∧ (s.ph = .behind → s.rows ≠ []) ∧ s.rows.length ≤ 1000 ∧ y.length ≤ sizeLine ∧ Sane y ∧
  (step s y = none → ∀ H', Grow H H' → Q .non H') ∧ (∀ s', step s y = some s' → ∀ p' H', Grow H H' → StAt H' p' s' → Q (.ref p') H')
theorem sc__law_need_step : FnScope ["state", "word", "names", "phase", "many", "rows", "stand", "room", "closed", "must", "begun"] ["state", "word", "names"] (defScope s__law_need_step) := ⟨rfl, rfl, rfl, by decide +kernel, rfl, by decide +kernel, by decide +kernel⟩
theorem ok__law_need_step (z : Z P w K mg base) : ∃ fd, FnOk P w K mg base (L2.CX P w) 2 (ga K "_law_need_step") fd ["state", "word", "names"] sp__law_need_step ∧ Binds K fd ["state", "word", "names"] [] := by
  obtain ⟨f1, G1, b1⟩ := ok__law_is_name z
  obtain ⟨f2, G2, b2⟩ := ok__law_is_figures z
  obtain ⟨fd, F⟩ := z.f__law_need_step
  refine ⟨fd, F.ok sc__law_need_step (fun vs H Q E h => ?_) (fun cdv A outer s0 H vs Q E hr h => ?_), F.bindsN fun _ _ _ _ _ _ us hl => match us, hl with | [_, _, _], _ => rfl⟩
  · obtain ⟨_, _, _, rfl, _⟩ := h
    rfl
  · obtain ⟨p, s, y, rfl, hs, hov, hbe, hrl, hy, hsn, hno, hyes⟩ := h
    have nd := sc__law_need_step.nd
    refine ⟨_, pss_cons (ps_asg (pv 0) (pg_tup rfl (pgs_cons (pg_name (i := 3) nd rfl (Or.inl rfl)) (pgs_cons (pg_name (i := 4) nd rfl (Or.inl rfl)) (pgs_cons (pg_name (i := 5) nd rfl (Or.inl rfl)) (pgs_cons (pg_name (i := 6) nd rfl (Or.inl rfl)) pgs_nil))))))
      (pss_cons (ps_set (i := 7) nd rfl (Or.inl rfl) (pe_op op_sub (pe_op op_sub pe_int (pv 6)) (pe_callB (cr_sum rfl) rfl z.b_sum (by decide +kernel) (pa_cons (pe_lc (own := [("must", 9), ("begun", 10)]) (g := gTup K 2 (gCons (gName 9) (gCons (gName 10) gNil))) (tt := tYes) rfl nd (pi_tup (pv 5)) (blkOk_by (N := ["state", "word", "names", "phase", "many", "rows", "stand", "room", "closed", "must", "begun"]) (sc := defScope s__law_need_step) (by decide +kernel)) (fun _ _ _ _ _ => pg_tup rfl (pgs_cons (pg_name (i := 9) nd rfl (Or.inl rfl)) (pgs_cons (pg_name (i := 10) nd rfl (Or.inl rfl)) pgs_nil))) (fun _ _ _ _ _ => pts_nil) (fun _ _ _ _ _ => pe_callB (call_max2 rfl) rfl z.b_max (by decide +kernel) (pa_cons pe_int (pa_cons (pe_op op_sub (pv 9) (pv 10)) pa_nil)))) pa_nil))))
      (pss_cons (ps_set (i := 8) nd rfl (Or.inl rfl) (pe_tup (pa_cons (pe_ifExp (pt_cmpR (op_neD hr.units) (pv 5) (pe_tup pa_nil) (nomark _)) pe_str pe_str) (pa_cons pe_int (pa_cons (pv 5) (pa_cons (pv 6) pa_nil))))))
      (pss_cons (ps_if (pt_cmpR op_eq (pv 3) pe_str (nomark _))
        (pss_cons (ps_if (pt_cmpR op_eq (pv 1) pe_str (nomark _)) (pss_one (ps_ret (pv 8))) pss_nil)
        (pss_cons (ps_if (PW.pt (pw_or (pt_cmpR op_eq (pe_callB call_len rfl z.b_len (by decide +kernel) (pa_cons (pv 5) pa_nil)) pe_int (nomark _)) (pw_or1 (pt_cmpR op_lt (pv 7) pe_int (nomark _))))) (pss_one (ps_ret pe_non)) pss_nil)
        (pss_one (ps_par (i := 3) (j := 5) rfl nd rfl rfl (by decide) rfl rfl (pa_cons pe_str (pa_cons (pe_op op_catA (pv 5) (pe_tup (pa_cons (pe_tup (pa_cons pe_int (pa_cons pe_int pa_nil))) pa_nil))) pa_nil)) rfl)))) pss_nil)
      (pss_cons (ps_if (pt_cmpR op_eq (pv 3) pe_str (nomark _))
        (pss_cons (ps_if (PW.pt (pw_and (pt_cmpR op_eq (pv 1) pe_str (nomark _)) (pw_and (pt_cmpR op_lt (pe_callB call_len rfl z.b_len (by decide +kernel) (pa_cons (pv 5) pa_nil)) pe_int (nomark _)) (pw_and1 (pt_cmpR op_gt (pv 7) pe_int (nomark _)))))) (pss_one (ps_ret (pe_tup (pa_cons pe_str (pa_cons pe_int (pa_cons (pv 5) (pa_cons (pe_op op_add (pv 6) pe_int) pa_nil))))))) pss_nil)
        (pss_one (ps_ret (pe_ifExp (pt_cmpR op_in_seq (pv 1) (pe_tup (pa_cons pe_str (pa_cons pe_str (pa_cons pe_str pa_nil)))) rfl) (pe_tup (pa_cons (pe_dget (hu_of hr) (pe_disp (pps_cons pe_str pe_str (pps_cons pe_str pe_str (pps_cons pe_str pe_str pps_nil))) rfl rfl (fun z => by cases z) (by decide)) (pv 1) (fun _ _ => rfl)) (pa_cons pe_int (pa_cons (pv 5) (pa_cons (pe_op op_add (pv 6) pe_int) pa_nil))))) pe_non)))) pss_nil)
      (pss_cons (ps_if (pt_cmpR op_eq (pv 3) pe_str (nomark _))
        (pss_one (ps_ret (pe_ifExp (pt_val (pe_call G1 (hr.mono (by decide)) rfl z.g__law_is_name z.k__law_is_name b1 .nil passF (pa_cons (pv 1) (pa_cons (pv 2) pa_nil)))) (pv 8) pe_non))) pss_nil)
      (pss_cons (ps_if (pt_cmpR op_eq (pv 3) pe_str (nomark _))
        (pss_one (ps_ret (pe_ifExp (pt_val (pe_call G2 (hr.mono (by decide)) rfl z.g__law_is_figures z.k__law_is_figures b2 .nil passF (pa_cons (pv 1) (pa_cons pe_int (pa_cons (pe_callB (call_min2 rfl) rfl z.b_min (by decide +kernel) (pa_cons pe_int (pa_cons (pv 7) pa_nil))) pa_nil))))) (pe_tup (pa_cons pe_str (pa_cons (pe_callTy call_int_str rfl z.b_int (by decide +kernel) (pa_cons (pv 1) pa_nil)) (pa_cons (pv 5) (pa_cons (pv 6) pa_nil))))) pe_non))) pss_nil)
      (pss_cons (ps_if (pt_cmpR op_eq (pv 3) pe_str (nomark _))
        (pss_one (ps_ret (pe_ifExp (pt_cmpR op_ne (pv 1) pe_str (nomark _)) pe_non (pe_ifExp (pt_cmpR op_gt (pv 4) pe_int (nomark _)) (pe_tup (pa_cons pe_str (pa_cons pe_int (pa_cons (pe_op op_catA (pv 5) (pe_tup (pa_cons (pe_tup (pa_cons (pv 4) (pa_cons pe_int pa_nil))) pa_nil))) (pa_cons (pv 6) pa_nil))))) (pe_tup (pa_cons pe_str (pa_cons pe_int (pa_cons (pv 5) (pa_cons (pv 6) pa_nil))))))))) pss_nil)
      (pss_cons (ps_asg (pe_ix ix_seq (pv 5) (pe_un un_neg pe_int) fun _ _ => rfl) (pg_tup rfl (pgs_cons (pg_name (i := 9) nd rfl (Or.inl rfl)) (pgs_cons (pg_name (i := 10) nd rfl (Or.inl rfl)) pgs_nil))))
      (pss_cons (ps_if (PW.pt (pw_and (pt_cmpR op_eq (pv 1) pe_str (nomark _)) (pw_and1 (pt_cmpR op_ge (pv 10) (pv 9) (nomark _))))) (pss_one (ps_ret (pe_tup (pa_cons (pe_ifExp (pt_cmpR op_gt (pe_callB call_len rfl z.b_len (by decide +kernel) (pa_cons (pv 5) pa_nil)) pe_int (nomark _)) pe_str pe_str) (pa_cons pe_int (pa_cons (pe_slice sl_tupA (pv 5) po_none (po_some (pe_un un_neg pe_int))) (pa_cons (pv 6) pa_nil))))))) pss_nil)
      (pss_cons (ps_if (PW.pt (pw_and (pt_cmpR op_eq (pv 1) pe_str (nomark _)) (pw_and (pt_cmpR op_lt (pv 10) pe_int (nomark _)) (pw_and1 (PW.pt (pw_or (pt_cmpR op_lt (pv 10) (pv 9) (nomark _)) (pw_or1 (pt_cmpR op_gt (pv 7) pe_int (nomark _))))))))) (pss_one (ps_ret (pe_tup (pa_cons pe_str (pa_cons pe_int (pa_cons (pe_op op_catA (pe_slice sl_tupA (pv 5) po_none (po_some (pe_un un_neg pe_int))) (pe_tup (pa_cons (pe_tup (pa_cons (pv 9) (pa_cons (pe_op op_add (pv 10) pe_int) pa_nil))) pa_nil))) (pa_cons (pv 6) pa_nil))))))) pss_nil)
      (pss_one (ps_ret pe_non)))))))))))), ?_⟩
    obtain ⟨ph, many, rows, stand⟩ := s
    obtain ⟨r, vs, hsP, hr, hp⟩ := hs
    refine ⟨_, rfl, p, _, rfl, SqT.of hsP, rfl, _, _, rfl, _, _, rfl, _, _, rfl, _, _, rfl, rfl, ?_⟩
    refine room_read rfl rfl rfl hr hp hrl fun H1 g1 => ?_
    dsimp only [gName]
    refine seq_asg ?_
    refine closed_read (rs := rows) (stand := stand) ?a5 ?a6 (g1 _ _ hr) (hp.grow g1) fun pc H2 g2 ec => ?main
    case a5 => rfl
    case a6 => rfl
    dsimp only [gName]
    have g12 := g1.trans g2
    have hr2 := g12 _ _ hr
    have hp2 := hp.grow g12
    have hlen : vs.length = rows.length := by
      have q := hp.len
      rw [List.length_reverse] at q
      exact q
    cases ph with
    | over => exact absurd rfl hov
    | first =>
      refine take_ph rfl ⟨_, rfl, rfl, _, rfl, ?_⟩
      rw [str_dec]
      by_cases hy1 : y = ")"
      · rw [decide_eq_true hy1]
        refine iteT ⟨_, rfl, hyes (closed rows stand) ?_ pc H2 g12 ⟨r, vs, ec, hr2, hp2⟩⟩
        show (if y = ")" then _ else _) = _
        rw [if_pos hy1]
      · rw [decide_eq_false hy1]
        refine iteF ⟨_, rfl, _, _, rfl, .inr ⟨_, SqT.of hr2, rfl⟩, rfl, _, rfl, ?_⟩
        rw [int_dec, hlen]
        have e0 : SX.step ⟨.first, many, rows, stand⟩ y = if y = ")" then some (closed rows stand) else if rows.length = 5 ∨ 30 - stand - owe rows < 1 then none else needStep (30 - stand - owe rows) ((0, 1) :: rows) stand y := rfl
        rw [if_neg hy1] at e0
        by_cases h5 : rows.length = 5
        · rw [if_pos (.inl h5)] at e0
          rw [decide_eq_true (show ((rows.length : Nat) : Int) = 5 by omega)]
          exact iteT (iteT (hno e0 H2 g12))
        · rw [decide_eq_false (show ¬ ((rows.length : Nat) : Int) = 5 by omega)]
          refine iteF ⟨_, rfl, _, _, rfl, rfl, _, rfl, ?_⟩
          by_cases hrm : 30 - stand - owe rows < 1
          · rw [if_pos (.inr hrm)] at e0
            rw [decide_eq_true hrm]
            exact iteT (hno e0 H2 g12)
          · rw [if_neg (fun q => q.elim h5 hrm)] at e0
            rw [decide_eq_false hrm]
            refine iteF ⟨_, rfl, by show 2 ≤ sizeLine; decide, fun q hq => ⟨by show 1 ≤ sizeLine; decide, fun q2 hq2 => ?_⟩⟩
            have gq := (Grow.new (o := .tup [.int 0, .int 1]) hq)
            have gq2 := gq.trans (Grow.new (o := .tup [.ref q]) hq2)
            refine catA (a := (0, 1)) (gq2 _ _ hr2) (hp2.grow gq2) (Grow.new hq2 _ _ upd_same) upd_same hrl fun t H' ws g e ep => ?_
            refine ⟨_, _, rfl, ?_⟩
            dsimp only
            exact need_block (rs := (0, 1) :: rows) rfl rfl rfl rfl rfl e ep (fun e2 H3 g3 => hno (e0.trans e2) H3 (g12.trans (gq2.trans (g.trans g3)))) fun s' e2 p' H3 g3 st => hyes s' (e0.trans e2) p' H3 (g12.trans (gq2.trans (g.trans g3))) st
    | need => exact skip_ph rfl (by decide) (need_block rfl rfl rfl rfl rfl hr2 hp2 (fun e H' g => hno e H' (g12.trans g)) fun s' e p' H' g q => hyes s' e p' H' (g12.trans g) q)
    | name =>
      refine skip_ph rfl (by decide) (skip_ph rfl (by decide) (take_ph rfl ?_))
      refine ⟨_, rfl, _, rfl, y, rfl, hy, hsn, fun H3 g3 => ⟨_, rfl, ?_⟩⟩
      have e0 : SX.step ⟨.name, many, rows, stand⟩ y = if nameB y = true then some (closed rows stand) else none := rfl
      cases hb : nameB y with
      | true =>
        rw [hb, if_pos rfl] at e0
        exact iteT ⟨_, rfl, hyes _ e0 pc H3 (g12.trans g3) ⟨r, vs, g3 _ _ ec, g3 _ _ hr2, hp2.grow g3⟩⟩
      | false =>
        rw [hb, if_neg (by decide)] at e0
        exact iteF (hno e0 H3 (g12.trans g3))
    | many =>
      refine skip_ph rfl (by decide) (skip_ph rfl (by decide) (skip_ph rfl (by decide) (take_ph rfl ?_)))
      have em : (if 30 - stand - owe rows < 8 then 30 - stand - owe rows else 8) = min 8 (30 - stand - owe rows) := by split <;> omega
      refine ⟨_, rfl, _, rfl, 8, 30 - stand - owe rows, rfl, y, 1, _, rfl, hy, hsn, fun H3 g3 => ⟨_, rfl, ?_⟩⟩
      rw [em]
      have e0 : SX.step ⟨.many, many, rows, stand⟩ y = if numB 1 (min 8 (30 - stand - owe rows)) y = true then some ⟨.open, valB y, rows, stand⟩ else none := rfl
      cases hb : numB 1 (min 8 (30 - stand - owe rows)) y with
      | true =>
        rw [hb, if_pos rfl] at e0
        have hf : figB y = true := by
          unfold numB at hb
          exact (Bool.and_eq_true_iff.mp hb).1
        obtain ⟨f1, f2⟩ := fig_int hf
        refine iteT ⟨_, rfl, y, valB y, rfl, f1, f2, _, rfl, _, rfl, by show 4 ≤ sizeLine; decide, fun q hq => hyes _ e0 q _ (g12.trans (g3.trans (Grow.new hq))) ⟨r, vs, upd_same, Grow.new hq _ _ (g3 _ _ hr2), hp2.grow (g3.trans (Grow.new hq))⟩⟩
      | false =>
        rw [hb, if_neg (by decide)] at e0
        exact iteF (hno e0 H3 (g12.trans g3))
    | «open» =>
      refine skip_ph rfl (by decide) (skip_ph rfl (by decide) (skip_ph rfl (by decide) (skip_ph rfl (by decide) (take_ph rfl ⟨_, rfl, rfl, _, rfl, ?_⟩))))
      have e0 : SX.step ⟨.open, many, rows, stand⟩ y = if y = "(" then (if 0 < many then some ⟨.need, 0, (many, 1) :: rows, stand⟩ else some ⟨.first, 0, rows, stand⟩) else none := rfl
      rw [str_dec]
      by_cases hy1 : y = "("
      · rw [decide_eq_true hy1]
        rw [if_pos hy1] at e0
        refine iteF ⟨_, rfl, _, _, rfl, rfl, _, rfl, ?_⟩
        by_cases hm : 0 < many
        · rw [decide_eq_true hm]
          rw [if_pos hm] at e0
          refine iteT ⟨_, rfl, _, rfl, by show 2 ≤ sizeLine; decide, fun q hq => ⟨by show 1 ≤ sizeLine; decide, fun q2 hq2 => ?_⟩⟩
          have gq := (Grow.new (o := .tup [.int many, .int 1]) hq)
          have gq2 := gq.trans (Grow.new (o := .tup [.ref q]) hq2)
          refine catA (a := (many, 1)) (gq2 _ _ hr2) (hp2.grow gq2) (Grow.new hq2 _ _ upd_same) upd_same hrl fun t H' ws g e ep => ?_
          exact ⟨_, rfl, by show 4 ≤ sizeLine; decide, fun u hu => hyes _ e0 u _ (g12.trans (gq2.trans (g.trans (Grow.new hu)))) ⟨t, ws, upd_same, Grow.new hu _ _ e, ep.grow (Grow.new hu)⟩⟩
        · rw [decide_eq_false hm]
          rw [if_neg hm] at e0
          exact iteF ⟨_, rfl, _, rfl, by show 4 ≤ sizeLine; decide, fun u hu => hyes _ e0 u _ (g12.trans (Grow.new hu)) ⟨r, vs, upd_same, Grow.new hu _ _ hr2, hp2.grow (Grow.new hu)⟩⟩
      · rw [decide_eq_false hy1]
        rw [if_neg hy1] at e0
        exact iteT (hno e0 H2 g12)
    | behind =>
      refine skip_ph rfl (by decide) (skip_ph rfl (by decide) (skip_ph rfl (by decide) (skip_ph rfl (by decide) (skip_ph rfl (by decide) ?_))))
      cases rows with
      | nil => exact absurd rfl (hbe rfl)
      | cons mb rr =>
        obtain ⟨m, b⟩ := mb
        rw [List.reverse_cons] at hp2
        obtain ⟨q, vs', ev, hq, hp'⟩ := hp2.unsnoc
        have e0 : SX.step ⟨.behind, many, (m, b) :: rr, stand⟩ y = if y = ")" ∧ m ≤ b then some (closed rr stand) else if y = "," ∧ b < 8 ∧ (b < m ∨ 0 < 30 - stand - owe ((m, b) :: rr)) then some ⟨.need, 0, (m, b + 1) :: rr, stand⟩ else none := rfl
        subst ev
        refine seq_asg ⟨_, rfl, 1, rfl, .inr (.inl ⟨r, vs' ++ [.ref q], -1, .ref q, rfl, rfl, SqT.of hr2, at_last _ _, q, _, rfl, SqT.of hq, rfl, _, _, rfl, _, _, rfl, rfl, ?_⟩)⟩
        dsimp only
        have hl : (vs' ++ [V.ref q]).length = rr.length + 1 := hlen
        refine ⟨_, rfl, rfl, _, rfl, ?_⟩
        rw [str_dec]
        by_cases hy1 : y = ")"
        · rw [decide_eq_true hy1]
          refine iteT ⟨_, rfl, _, rfl, _, _, rfl, rfl, _, rfl, ?_⟩
          by_cases hmb : m ≤ b
          · rw [decide_eq_true hmb]
            rw [if_pos ⟨hy1, hmb⟩] at e0
            refine iteT ⟨_, rfl, _, _, rfl, .inr ⟨_, SqT.of hr2, rfl⟩, _, _, rfl, rfl, _, rfl, ?_⟩
            rw [hl]
            by_cases hrr : rr = []
            · have ep : (closed rr stand).ph = .over := by unfold closed; rw [if_pos hrr]
              rw [decide_eq_false (by rw [hrr]; decide)]
              refine iteF ⟨_, rfl, 1, rfl, -1, rfl, slice_last hr2 fun t H' g e => ⟨_, rfl, by show 4 ≤ sizeLine; decide, fun u hu => hyes _ e0 u _ (g12.trans (g.trans (Grow.new hu))) ⟨t, vs', ?_, Grow.new hu _ _ e, (hp'.grow g).grow (Grow.new hu)⟩⟩⟩
              rw [ep]
              exact upd_same
            · have ep : (closed rr stand).ph = .behind := by unfold closed; rw [if_neg hrr]
              have hpos : 0 < rr.length := List.length_pos_iff.mpr hrr
              rw [decide_eq_true (show (1 : Int) < ((rr.length + 1 : Nat) : Int) by omega)]
              refine iteT ⟨_, rfl, 1, rfl, -1, rfl, slice_last hr2 fun t H' g e => ⟨_, rfl, by show 4 ≤ sizeLine; decide, fun u hu => hyes _ e0 u _ (g12.trans (g.trans (Grow.new hu))) ⟨t, vs', ?_, Grow.new hu _ _ e, (hp'.grow g).grow (Grow.new hu)⟩⟩⟩
              rw [ep]
              exact upd_same
          · rw [decide_eq_false hmb]
            rw [if_neg (fun q => hmb q.2), if_neg (fun q => by rw [hy1] at q; exact absurd q.1 (by decide))] at e0
            refine iteF ⟨_, rfl, rfl, _, rfl, ?_⟩
            rw [str_dec, decide_eq_false (by rw [hy1]; decide)]
            exact iteF (iteF (hno e0 H2 g12))
        · rw [decide_eq_false hy1]
          rw [if_neg (fun q => hy1 q.1)] at e0
          refine iteF (iteF ⟨_, rfl, rfl, _, rfl, ?_⟩)
          rw [str_dec]
          by_cases hy2 : y = ","
          · rw [decide_eq_true hy2]
            refine iteT ⟨_, rfl, _, _, rfl, rfl, _, rfl, ?_⟩
            by_cases hb8 : b < 8
            · rw [decide_eq_true hb8]
              refine iteT ⟨_, rfl, _, rfl, _, _, rfl, rfl, _, rfl, ?_⟩
              by_cases hbm : b < m
              · rw [decide_eq_true hbm]
                rw [if_pos ⟨hy2, hb8, .inl hbm⟩] at e0
                refine iteT ?_
                refine iteT ⟨_, rfl, 1, rfl, -1, rfl, slice_last hr2 fun t H' g e => ⟨_, rfl, _, rfl, _, _, rfl, rfl, by show 2 ≤ sizeLine; decide, fun q3 hq3 => ⟨by show 1 ≤ sizeLine; decide, fun q2 hq2 => ?_⟩⟩⟩
                have gq := (Grow.new (o := .tup [.int m, .int (b + 1)]) hq3)
                have gq2 := gq.trans (Grow.new (o := .tup [.ref q3]) hq2)
                refine catA (a := (m, b + 1)) (gq2 _ _ e) ((hp'.grow g).grow gq2) (Grow.new hq2 _ _ upd_same) upd_same (by have : rr.length + 1 ≤ 1000 := hrl; omega) fun t2 H3 ws g3 e3 ep => ?_
                exact ⟨_, rfl, by show 4 ≤ sizeLine; decide, fun u hu => hyes _ e0 u _ (g12.trans (g.trans (gq2.trans (g3.trans (Grow.new hu))))) ⟨t2, ws, upd_same, Grow.new hu _ _ e3, ep.grow (Grow.new hu)⟩⟩
              · rw [decide_eq_false hbm]
                refine iteF ⟨_, rfl, _, _, rfl, rfl, _, rfl, ?_⟩
                by_cases hrm : 0 < 30 - stand - owe ((m, b) :: rr)
                · rw [decide_eq_true hrm]
                  rw [if_pos ⟨hy2, hb8, .inr hrm⟩] at e0
                  refine iteT ⟨_, rfl, 1, rfl, -1, rfl, slice_last hr2 fun t H' g e => ⟨_, rfl, _, rfl, _, _, rfl, rfl, by show 2 ≤ sizeLine; decide, fun q3 hq3 => ⟨by show 1 ≤ sizeLine; decide, fun q2 hq2 => ?_⟩⟩⟩
                  have gq := (Grow.new (o := .tup [.int m, .int (b + 1)]) hq3)
                  have gq2 := gq.trans (Grow.new (o := .tup [.ref q3]) hq2)
                  refine catA (a := (m, b + 1)) (gq2 _ _ e) ((hp'.grow g).grow gq2) (Grow.new hq2 _ _ upd_same) upd_same (by have : rr.length + 1 ≤ 1000 := hrl; omega) fun t2 H3 ws g3 e3 ep => ?_
                  exact ⟨_, rfl, by show 4 ≤ sizeLine; decide, fun u hu => hyes _ e0 u _ (g12.trans (g.trans (gq2.trans (g3.trans (Grow.new hu))))) ⟨t2, ws, upd_same, Grow.new hu _ _ e3, ep.grow (Grow.new hu)⟩⟩
                · rw [decide_eq_false hrm]
                  rw [if_neg (fun q => q.2.2.elim hbm hrm)] at e0
                  exact iteF (hno e0 H2 g12)
            · rw [decide_eq_false hb8]
              rw [if_neg (fun q => hb8 q.2.1)] at e0
              exact iteF (iteF (hno e0 H2 g12))
          · rw [decide_eq_false hy2]
            rw [if_neg (fun q => hy2 q.1)] at e0
            exact iteF (iteF (hno e0 H2 g12))
end
end K80

set_option Elab.async false
set_option linter.all false
set_option maxRecDepth 100000
set_option maxHeartbeats 8000000
set_option pp.maxSteps 600
namespace K80
open PySem PySem.Spec PyProof.Rows L2 SX StX
open He (ga ma)
/-- what stays of a state -/
def Good (s : LS) : Prop := s.rows.length ≤ 5 ∧ (s.ph = .behind → s.rows ≠ []) ∧ (s.ph = .many → s.rows.length < 5) ∧ (s.ph = .open → 0 < s.many → s.rows.length < 5)
theorem good_start : Good ⟨.need, 0, [], 0⟩ := ⟨Nat.zero_le _, (nomatch ·), (nomatch ·), (nomatch ·)⟩
theorem good_closed {rows : List (Int × Int)} {stand : Int} (h : rows.length ≤ 5) : Good (closed rows stand) := by
  unfold closed
  by_cases e : rows = []
  · rw [if_pos e]
    exact ⟨h, (nomatch ·), (nomatch ·), (nomatch ·)⟩
  · rw [if_neg e]
    exact ⟨h, fun _ => e, (nomatch ·), (nomatch ·)⟩
theorem good_need {room stand : Int} {rows : List (Int × Int)} {y : Str} {s' : LS} (h : rows.length ≤ 5) (e : needStep room rows stand y = some s') : Good s' := by
  unfold needStep at e
  split at e
  · rename_i q
    cases e
    exact ⟨h, (nomatch ·), fun _ => q.2.1, (nomatch ·)⟩
  · split at e
    · cases e
      exact ⟨h, (nomatch ·), (nomatch ·), (nomatch ·)⟩
    · split at e
      · cases e
        exact ⟨h, (nomatch ·), (nomatch ·), fun _ q => absurd (show (0 : Int) < 0 from q) (by decide)⟩
      · cases e
theorem good_step {s s' : LS} {y : Str} (h : Good s) (e : SX.step s y = some s') : Good s' := by
  obtain ⟨ph, many, rows, stand⟩ := s
  obtain ⟨h1, h2, h3, h4⟩ := h
  cases ph with
  | first =>
    have e2 : (if y = ")" then some (closed rows stand) else if rows.length = 5 ∨ (30 - stand - owe rows) < 1 then none else needStep (30 - stand - owe rows) ((0, 1) :: rows) stand y) = some s' := e
    split at e2
    · cases e2
      exact good_closed h1
    · split at e2
      · cases e2
      · rename_i q
        refine good_need ?_ e2
        have h1' : rows.length ≤ 5 := h1
        show rows.length + 1 ≤ 5
        have : ¬ rows.length = 5 := fun z => q (.inl z)
        omega
  | need => exact good_need h1 e
  | name =>
    have e2 : (if nameB y = true then some (closed rows stand) else none) = some s' := e
    split at e2
    · cases e2
      exact good_closed h1
    · cases e2
  | many =>
    have e2 : (if numB 1 (min 8 (30 - stand - owe rows)) y = true then some (⟨.open, valB y, rows, stand⟩ : LS) else none) = some s' := e
    split at e2
    · cases e2
      exact ⟨h1, (nomatch ·), (nomatch ·), fun _ _ => h3 rfl⟩
    · cases e2
  | «open» =>
    have e2 : (if y = "(" then (if 0 < many then some (⟨.need, 0, (many, 1) :: rows, stand⟩ : LS) else some ⟨.first, 0, rows, stand⟩) else none) = some s' := e
    split at e2
    · split at e2
      · rename_i q
        cases e2
        have : rows.length < 5 := h4 rfl q
        exact ⟨this, (nomatch ·), (nomatch ·), (nomatch ·)⟩
      · cases e2
        exact ⟨h1, (nomatch ·), (nomatch ·), (nomatch ·)⟩
    · cases e2
  | behind =>
    cases rows with
    | nil => exact absurd rfl (h2 rfl)
    | cons mb rr =>
      obtain ⟨m, b⟩ := mb
      have h1' : rr.length + 1 ≤ 5 := h1
      have e2 : (if y = ")" ∧ m ≤ b then some (closed rr stand) else if y = "," ∧ b < 8 ∧ (b < m ∨ 0 < 30 - stand - owe ((m, b) :: rr)) then some (⟨.need, 0, (m, b + 1) :: rr, stand⟩ : LS) else none) = some s' := e
      split at e2
      · cases e2
        exact good_closed (by omega)
      · split at e2
        · cases e2
          exact ⟨h1', (nomatch ·), (nomatch ·), (nomatch ·)⟩
        · cases e2
  | over => cases e
section
variable {P : Program} {w : World} {K : PySem.W.Frag} {mg : Str → Option Value} {base : Heap}
theorem sc__law_need_read : FnScope ["items", "at", "names", "state"] ["items", "at", "names"] (defScope s__law_need_read) := ⟨rfl, rfl, rfl, by decide +kernel, rfl, by decide +kernel, by decide +kernel⟩
def sp__law_need_read : Sp := fun vs H Q _ => ∃ (l : Addr) (ws : List Str) (s : LS) (j : Nat), vs = [.ref l, .int 0, .non] ∧ H l = some (.lst (ws.map V.str)) ∧ (∀ y ∈ ws, y.length ≤ sizeLine ∧ Sane y) ∧ Run ws ⟨.need, 0, [], 0⟩ 0 s j ∧ s.ph = .over ∧
  ∀ t H', Grow H H' → H' t = some (.tup [.bl true, .int (j : Nat)]) → Q (.ref t) H'
theorem ok__law_need_read (z : Z P w K mg base) : ∃ fd, FnOk P w K mg base (L2.CX P w) 3 (ga K "_law_need_read") fd ["items", "at", "names"] sp__law_need_read ∧ Binds K fd ["items", "at", "names"] [] := by
  obtain ⟨f1, G1, b1⟩ := ok__law_need_step z
  obtain ⟨f2, G2, b2⟩ := ok__law_item z
  obtain ⟨fd, F⟩ := z.f__law_need_read
  refine ⟨fd, F.ok sc__law_need_read (fun vs H Q E h => ?_) (fun cdv A outer s0 H vs Q E hr h => ?_), F.bindsN fun _ _ _ _ _ _ us hl => match us, hl with | [_, _, _], _ => rfl⟩
  · obtain ⟨_, _, _, _, rfl, _⟩ := h
    rfl
  · obtain ⟨l, ws, s, j, rfl, hl, hws, hrun, hov, hQ⟩ := h
    have nd := sc__law_need_read.nd
    refine ⟨_, pss_cons (ps_set (i := 3) nd rfl (Or.inl rfl) (pe_tup (pa_cons pe_str (pa_cons pe_int (pa_cons (pe_tup pa_nil) (pa_cons pe_int pa_nil))))))
      (pss_cons (ps_while PassesOwn.leaving (pt_cmpR op_ne (pe_ix ix_seq (pv 3) pe_int fun _ _ => rfl) pe_str (nomark _))
        (pss_cons (ps_set (i := 3) nd rfl (Or.inl rfl) (pe_call G1 (hr.mono (by decide)) rfl z.g__law_need_step z.k__law_need_step b1 .nil passF (pa_cons (pv 3) (pa_cons (pe_call G2 (hr.mono (by decide)) rfl z.g__law_item z.k__law_item b2 .nil passF (pa_cons (pv 0) (pa_cons (pv 1) pa_nil))) (pa_cons (pv 2) pa_nil)))))
        (pss_cons (ps_if (pt_cmpR op_isN (pv 3) pe_non (nomark _)) (pss_one (ps_ret (pe_tup (pa_cons pe_bl (pa_cons (pv 1) pa_nil))))) pss_nil)
        (pss_one (ps_set (i := 1) nd rfl (Or.inl rfl) (pe_op op_add (pv 1) pe_int))))))
      (pss_one (ps_ret (pe_tup (pa_cons pe_bl (pa_cons (pv 1) pa_nil)))))), ?_⟩
    refine seq_asg ⟨Nat.zero_le _, fun r0 hr0 => ⟨by show 4 ≤ sizeLine; decide, fun p0 hp0 => ?_⟩⟩
    have g0 : Grow H (upd (upd H r0 (.tup [])) p0 (.tup [.str "need", .int 0, .ref r0, .int 0])) := (Grow.new hr0).trans (Grow.new hp0)
    have hi : ∀ {st : LS} {i : Nat} {s2 : LS} {j2 : Nat}, Run ws st i s2 j2 → i ≤ j2 := fun h => by
      induction h with
      | refl => exact Nat.le_refl _
      | go _ _ _ ih => omega
    refine while_by (fun σ' H' => Grow H H' ∧ ∃ (i : Nat) (st : LS) (p : Addr), σ' = [some (.ref l), some (.int (i : Nat)), some .non, some (.ref p)] ∧ StAt H' p st ∧ Good st ∧ Run ws st i s j) (fun σ' _ => match σ'[1]? with
      | some (some (V.int i)) => j - i.toNat
      | _ => 0) ⟨g0, 0, ⟨.need, 0, [], 0⟩, p0, rfl, ⟨r0, [], upd_same, Grow.new hp0 _ _ upd_same, rfl⟩, good_start, hrun⟩ (fun σ' H' q => ?_) ?_
    · obtain ⟨g, i, st, p, rfl, hst, hgd, hr2⟩ := q
      obtain ⟨r, vs, e1, e2, e3⟩ := id hst
      refine ⟨_, rfl, .inr (.inl ⟨p, _, 0, _, rfl, rfl, SqT.of e1, rfl, rfl, _, rfl, ?_⟩)⟩
      cases hr2 with
      | refl =>
        rw [hov]
        refine iteF ?_
        exact ⟨_, rfl, by show 2 ≤ sizeLine; decide, fun t ht => hQ t _ (g.trans (Grow.new ht)) upd_same⟩
      | go hy hstp htail =>
        rename_i s1 y
        have hne : st.ph ≠ .over := fun e => by
          obtain ⟨ph, many, rows, stand⟩ := st
          cases (show ph = .over from e)
          cases hstp
        have hb : (!decide (V.str (Ph.str st.ph) = V.str "over")) = true := by
          cases e : st.ph <;> first | rfl | exact absurd e hne
        have ey : itemAt ws i = y := by
          unfold itemAt
          rw [List.getD_eq_getElem?_getD, hy]
          rfl
        obtain ⟨y1, y2⟩ := hws y (List.mem_of_getElem? hy)
        rw [hb]
        refine iteT (seq_asg ⟨_, rfl, _, rfl, _, rfl, l, ws, i, rfl, g _ _ hl, _, rfl, p, st, itemAt ws i, rfl, hst, hne, hgd.2.1, Nat.le_trans hgd.1 (by decide), by rw [ey]; exact y1, by rw [ey]; exact y2, fun e => ?_, fun s' e p' H2 g2 st2 => ?_⟩)
        · rw [ey, hstp] at e
          cases e
        · rw [ey, hstp] at e
          cases e
          have hle := hi htail
          refine ⟨_, rfl, rfl, _, rfl, iteF ⟨_, rfl, _, _, rfl, rfl, ⟨g.trans g2, i + 1, s1, p', rfl, st2, good_step hgd hstp, htail⟩, ?_⟩⟩
          show j - ((i : Int) + 1).toNat < j - ((i : Nat) : Int).toNat
          omega
    · intro σ' H' Q1 Q2 hm h
      obtain ⟨v, hv, h⟩ := h
      refine ⟨v, hv, ?_⟩
      rcases h with ⟨p, xs, i, x, e1, e2, e3, e4, es, b, eb, hq⟩ | ⟨p, xs, i, x, e1, e2, e3, e4, es, b, eb, hq⟩ | ⟨zz, i, c, e1, e2, e3, e4, es, b, eb, hq⟩
      · exact .inl ⟨p, xs, i, x, e1, e2, e3, e4, es, b, eb, hm _ _ hq⟩
      · exact .inr (.inl ⟨p, xs, i, x, e1, e2, e3, e4, es, b, eb, hm _ _ hq⟩)
      · exact .inr (.inr ⟨zz, i, c, e1, e2, e3, e4, es, b, eb, hm _ _ hq⟩)
end
end K80

set_option Elab.async false
set_option linter.all false
set_option maxRecDepth 100000
set_option maxHeartbeats 4000000
set_option pp.maxSteps 600
/-! plain: a row of items can always go on -/
namespace K80
open PySem PySem.Spec PyProof.Rows L2 SX
structure Good2 (s : LS) : Prop where
  g : Good s
  rows : ∀ r ∈ s.rows, r.1 ≤ 8
  many : s.many ≤ 8
  room : s.ph = .many → 1 ≤ s.room
theorem Run.det {ws : List Str} {s a b : LS} {i j k : Nat} (h : Run ws s i a j) (h' : Run ws s i b k) (l : j ≤ k) : Run ws a j b k := by
  induction h with
  | refl => exact h'
  | go hy hs t ih =>
    rename_i s s1 s2 i j y
    cases h' with
    | refl =>
      have : ∀ {st : LS} {i : Nat} {s2 : LS} {j2 : Nat}, Run ws st i s2 j2 → i ≤ j2 := fun h => by
        induction h with
        | refl => exact Nat.le_refl _
        | go _ _ _ ih => omega
      have := this t
      omega
    | go hy2 hs2 t2 =>
      rw [hy] at hy2
      cases hy2
      rw [hs] at hs2
      cases hs2
      exact ih t2 l
theorem goes {s : LS} (h : Good2 s) (hov : s.ph ≠ .over) : ∃ y ∈ (["few", "every", "(", "8", "5", "2", "1", ",", "has", ")"] : List Str), SX.step s y ≠ none := by
  obtain ⟨ph, many, rows, stand⟩ := s
  obtain ⟨hg, h1, h2, h3⟩ := h
  cases ph with
  | over => exact absurd rfl hov
  | first => exact ⟨")", by decide +kernel, by
    have e : SX.step ⟨.first, many, rows, stand⟩ ")" = some (closed rows stand) := by
      unfold SX.step
      exact if_pos rfl
    rw [e]
    exact (nomatch ·)⟩
  | need =>
    refine ⟨"every", by decide +kernel, ?_⟩
    show needStep _ rows stand "every" ≠ none
    unfold needStep
    rw [if_neg (fun q => absurd q.1 (by decide)), if_neg (by decide), if_pos (.inl rfl)]
    exact (nomatch ·)
  | name =>
    refine ⟨"few", by decide +kernel, ?_⟩
    show (if nameB "few" = true then some (closed rows stand) else none) ≠ none
    rw [if_pos (by decide +kernel)]
    exact (nomatch ·)
  | many =>
    refine ⟨"1", by decide +kernel, ?_⟩
    show (if numB 1 (min 8 (LS.room ⟨.many, many, rows, stand⟩)) "1" = true then some (⟨.open, valB "1", rows, stand⟩ : LS) else none) ≠ none
    have hr := h3 rfl
    have e1 : figB "1" = true := by decide +kernel
    have e2 : valB "1" = 1 := by decide +kernel
    rw [if_pos (by unfold numB; rw [e1, e2, decide_eq_true ⟨Int.le_refl _, by omega⟩]; rfl)]
    exact (nomatch ·)
  | «open» =>
    refine ⟨"(", by decide +kernel, ?_⟩
    show (if ("(" : Str) = "(" then (if 0 < many then some (⟨.need, 0, (many, 1) :: rows, stand⟩ : LS) else some ⟨.first, 0, rows, stand⟩) else none) ≠ none
    rw [if_pos rfl]
    split <;> exact (nomatch ·)
  | behind =>
    cases rows with
    | nil => exact absurd rfl (hg.2.1 rfl)
    | cons mb rr =>
      obtain ⟨m, b⟩ := mb
      have hm : m ≤ 8 := h1 _ List.mem_cons_self
      by_cases hmb : m ≤ b
      · refine ⟨")", by decide +kernel, ?_⟩
        have e : SX.step ⟨.behind, many, (m, b) :: rr, stand⟩ ")" = some (closed rr stand) := by
          unfold SX.step
          exact if_pos ⟨rfl, hmb⟩
        rw [e]
        exact (nomatch ·)
      · refine ⟨",", by decide +kernel, ?_⟩
        show (if ("," : Str) = ")" ∧ m ≤ b then some (closed rr stand) else if ("," : Str) = "," ∧ b < 8 ∧ (b < m ∨ 0 < LS.room ⟨.behind, many, (m, b) :: rr, stand⟩) then some (⟨.need, 0, (m, b + 1) :: rr, stand⟩ : LS) else none) ≠ none
        rw [if_neg (fun q => hmb q.2), if_pos ⟨rfl, by omega, .inl (by omega)⟩]
        exact (nomatch ·)
theorem good2_start : Good2 ⟨.need, 0, [], 0⟩ := ⟨good_start, (fun _ h => nomatch h), by decide, (nomatch ·)⟩
theorem good2_closed {rows : List (Int × Int)} {stand : Int} (h : rows.length ≤ 5) (h1 : ∀ r ∈ rows, r.1 ≤ 8) : Good2 (closed rows stand) := by
  refine ⟨good_closed h, h1, by show (0 : Int) ≤ 8; decide, fun e => ?_⟩
  unfold closed at e
  by_cases q : rows = []
  · rw [if_pos q] at e
    cases e
  · rw [if_neg q] at e
    cases e
theorem good2_need {stand : Int} {rows : List (Int × Int)} {y : Str} {s' : LS} (h : rows.length ≤ 5) (h1 : ∀ r ∈ rows, r.1 ≤ 8) (e : needStep (30 - stand - owe rows) rows stand y = some s') : Good2 s' := by
  have hg := good_need h e
  unfold needStep at e
  split at e
  · rename_i q
    cases e
    refine ⟨hg, h1, by show (0 : Int) ≤ 8; decide, fun _ => ?_⟩
    show 1 ≤ 30 - (stand + 1) - owe rows
    have := q.2.2
    omega
  · split at e
    · cases e
      exact ⟨hg, h1, by show (0 : Int) ≤ 8; decide, (nomatch ·)⟩
    · split at e
      · cases e
        exact ⟨hg, h1, by show (0 : Int) ≤ 8; decide, (nomatch ·)⟩
      · cases e
theorem num_le {lo hi : Int} {y : Str} (h : numB lo hi y = true) : valB y ≤ hi := by
  unfold numB at h
  exact (of_decide_eq_true (Bool.and_eq_true_iff.mp h).2).2
theorem good2_step {s s' : LS} {y : Str} (h : Good2 s) (e : SX.step s y = some s') : Good2 s' := by
  have hg' := good_step h.g e
  obtain ⟨ph, many, rows, stand⟩ := s
  obtain ⟨⟨g1, g2, g3, g4⟩, h1, h2, h3⟩ := h
  cases ph with
  | first =>
    have e2 : (if y = ")" then some (closed rows stand) else if rows.length = 5 ∨ (30 - stand - owe rows) < 1 then none else needStep (30 - stand - owe rows) ((0, 1) :: rows) stand y) = some s' := e
    split at e2
    · cases e2
      exact good2_closed g1 h1
    · split at e2
      · cases e2
      · rename_i q
        have g1' : rows.length ≤ 5 := g1
        have n5 : ¬ rows.length = 5 := fun z => q (.inl z)
        have eo : owe rows = owe ((0, 1) :: rows) := by
          show owe rows = max 0 (0 - 1) + owe rows
          omega
        rw [eo] at e2
        exact good2_need (by show rows.length + 1 ≤ 5; omega) (fun r hr => by
          rcases List.mem_cons.mp hr with z | z
          · rw [z]; decide
          · exact h1 r z) e2
  | need => exact good2_need g1 h1 e
  | name =>
    have e2 : (if nameB y = true then some (closed rows stand) else none) = some s' := e
    split at e2
    · cases e2
      exact good2_closed g1 h1
    · cases e2
  | many =>
    have e2 : (if numB 1 (min 8 (30 - stand - owe rows)) y = true then some (⟨.open, valB y, rows, stand⟩ : LS) else none) = some s' := e
    split at e2
    · rename_i q
      cases e2
      have := num_le q
      exact ⟨hg', h1, by show valB y ≤ 8; omega, (nomatch ·)⟩
    · cases e2
  | «open» =>
    have e2 : (if y = "(" then (if 0 < many then some (⟨.need, 0, (many, 1) :: rows, stand⟩ : LS) else some ⟨.first, 0, rows, stand⟩) else none) = some s' := e
    split at e2
    · split at e2
      · cases e2
        exact ⟨hg', fun r hr => by
          rcases List.mem_cons.mp hr with z | z
          · rw [z]; exact h2
          · exact h1 r z, by show (0 : Int) ≤ 8; decide, (nomatch ·)⟩
      · cases e2
        exact ⟨hg', h1, by show (0 : Int) ≤ 8; decide, (nomatch ·)⟩
    · cases e2
  | behind =>
    cases rows with
    | nil => exact absurd rfl (g2 rfl)
    | cons mb rr =>
      obtain ⟨m, b⟩ := mb
      have g1' : rr.length + 1 ≤ 5 := g1
      have e2 : (if y = ")" ∧ m ≤ b then some (closed rr stand) else if y = "," ∧ b < 8 ∧ (b < m ∨ 0 < 30 - stand - owe ((m, b) :: rr)) then some (⟨.need, 0, (m, b + 1) :: rr, stand⟩ : LS) else none) = some s' := e
      split at e2
      · cases e2
        exact good2_closed (by omega) fun r hr => h1 r (List.mem_cons_of_mem _ hr)
      · split at e2
        · cases e2
          exact ⟨hg', fun r hr => by
            rcases List.mem_cons.mp hr with z | z
            · rw [z]; exact h1 (m, b) List.mem_cons_self
            · exact h1 r (List.mem_cons_of_mem _ z), by show (0 : Int) ≤ 8; decide, (nomatch ·)⟩
        · cases e2
  | over => cases e
end K80

set_option Elab.async false
set_option linter.all false
set_option maxRecDepth 100000
set_option maxHeartbeats 4000000
set_option pp.maxSteps 600
/-! plain: a row of items comes to an end -/
namespace K80
open PySem PySem.Spec PyProof.Rows L2 SX
/-- there is room -/
def RoomOk (s : LS) : Prop := 0 ≤ s.room ∧ (s.ph = .need → 1 ≤ s.room) ∧ (s.ph = .many → 1 ≤ s.room) ∧ (s.ph = .open → s.many ≤ s.room)
theorem roomOk_start : RoomOk ⟨.need, 0, [], 0⟩ := by
  refine ⟨by decide, fun _ => by decide, (nomatch ·), (nomatch ·)⟩
def cPh : Ph → Nat
  | .over => 0
  | .need => 0
  | .behind => 1
  | .first => 2
  | .name => 2
  | .open => 5
  | .many => 6
def mLS (s : LS) : Nat := 20 * (30 - s.stand).toNat + 3 * s.rows.length + cPh s.ph
theorem need_m {stand : Int} {rows : List (Int × Int)} {y : Str} {s' : LS} (h : 1 ≤ 30 - stand - owe rows) (e : needStep (30 - stand - owe rows) rows stand y = some s') : RoomOk s' ∧ s'.stand = stand + 1 ∧ s'.rows = rows ∧ cPh s'.ph ≤ 6 := by
  unfold needStep at e
  split at e
  · rename_i q
    cases e
    have := q.2.2
    refine ⟨⟨?_, (nomatch ·), fun _ => ?_, (nomatch ·)⟩, rfl, rfl, Nat.le_of_ble_eq_true rfl⟩
    · show 0 ≤ 30 - (stand + 1) - owe rows
      omega
    · show 1 ≤ 30 - (stand + 1) - owe rows
      omega
  · split at e
    · cases e
      refine ⟨⟨?_, (nomatch ·), (nomatch ·), (nomatch ·)⟩, rfl, rfl, Nat.le_of_ble_eq_true rfl⟩
      show 0 ≤ 30 - (stand + 1) - owe rows
      omega
    · split at e
      · cases e
        refine ⟨⟨?_, (nomatch ·), (nomatch ·), fun _ => ?_⟩, rfl, rfl, Nat.le_of_ble_eq_true rfl⟩
        · show 0 ≤ 30 - (stand + 1) - owe rows
          omega
        · show 0 ≤ 30 - (stand + 1) - owe rows
          omega
      · cases e
theorem closed_m {rows : List (Int × Int)} {stand : Int} (h : 0 ≤ 30 - stand - owe rows) : RoomOk (closed rows stand) ∧ (closed rows stand).stand = stand ∧ (closed rows stand).rows = rows ∧ cPh (closed rows stand).ph ≤ 1 := by
  by_cases e : rows = []
  · have q : (closed rows stand).ph = .over := by unfold closed; rw [if_pos e]
    exact ⟨⟨h, fun z => by (rw [q] at z; cases z), fun z => by (rw [q] at z; cases z), fun z => by (rw [q] at z; cases z)⟩, rfl, rfl, by rw [q]; decide⟩
  · have q : (closed rows stand).ph = .behind := by unfold closed; rw [if_neg e]
    exact ⟨⟨h, fun z => by (rw [q] at z; cases z), fun z => by (rw [q] at z; cases z), fun z => by (rw [q] at z; cases z)⟩, rfl, rfl, by rw [q]; decide⟩
theorem m_need {stand : Int} {rows rows0 : List (Int × Int)} {y : Str} {s' : LS} {n : Nat} (h : 1 ≤ 30 - stand - owe rows) (hr : rows.length ≤ rows0.length + 1) (e : needStep (30 - stand - owe rows) rows stand y = some s') : RoomOk s' ∧ mLS s' < 20 * (30 - stand).toNat + 3 * rows0.length + n := by
  obtain ⟨h1, h2, h3, h4⟩ := need_m h e
  refine ⟨h1, ?_⟩
  unfold mLS
  rw [h2, h3]
  have := owe_nn rows
  omega
theorem m_closed {rows rows0 : List (Int × Int)} {stand : Int} {n : Nat} (h : 0 ≤ 30 - stand - owe rows) (hr : 3 * rows.length + 2 ≤ 3 * rows0.length + n) : RoomOk (closed rows stand) ∧ mLS (closed rows stand) < 20 * (30 - stand).toNat + 3 * rows0.length + n := by
  obtain ⟨h1, h2, h3, h4⟩ := closed_m h
  refine ⟨h1, ?_⟩
  unfold mLS
  rw [h2, h3]
  omega
/-- the measure falls -/
theorem m_step {s s' : LS} {y : Str} (g : Good2 s) (r : RoomOk s) (e : SX.step s y = some s') : RoomOk s' ∧ mLS s' < mLS s := by
  obtain ⟨ph, many, rows, stand⟩ := s
  obtain ⟨r0, r1, r2, r3⟩ := r
  obtain ⟨⟨g1, g2, g3, g4⟩, g5, g6, g7⟩ := g
  have r0 : 0 ≤ 30 - stand - owe rows := r0
  cases ph with
  | first =>
    have e2 : (if y = ")" then some (closed rows stand) else if rows.length = 5 ∨ (30 - stand - owe rows) < 1 then none else needStep (30 - stand - owe rows) ((0, 1) :: rows) stand y) = some s' := e
    split at e2
    · cases e2
      exact m_closed (rows0 := rows) (n := 2) r0 (Nat.le_refl _)
    · split at e2
      · cases e2
      · rename_i q
        have q2 : ¬ (30 - stand - owe rows) < 1 := fun z => q (.inr z)
        have eo : owe rows = owe ((0, 1) :: rows) := by
          show owe rows = max 0 (0 - 1) + owe rows
          omega
        have h1 : 1 ≤ 30 - stand - owe ((0, 1) :: rows) := by
          rw [← eo]
          omega
        rw [eo] at e2
        exact m_need (rows0 := rows) (n := 2) h1 (Nat.le_refl _) e2
  | need => exact m_need (rows0 := rows) (n := 0) (r1 rfl) (Nat.le_succ _) e
  | name =>
    have e2 : (if nameB y = true then some (closed rows stand) else none) = some s' := e
    split at e2
    · cases e2
      exact m_closed (rows0 := rows) (n := 2) r0 (Nat.le_refl _)
    · cases e2
  | many =>
    have e2 : (if numB 1 (min 8 (30 - stand - owe rows)) y = true then some (⟨.open, valB y, rows, stand⟩ : LS) else none) = some s' := e
    split at e2
    · rename_i q
      cases e2
      have := num_le q
      refine ⟨⟨r0, (nomatch ·), (nomatch ·), fun _ => ?_⟩, ?_⟩
      · show valB y ≤ 30 - stand - owe rows
        omega
      · show 20 * (30 - stand).toNat + 3 * rows.length + 5 < 20 * (30 - stand).toNat + 3 * rows.length + 6
        omega
    · cases e2
  | «open» =>
    have r3 : many ≤ 30 - stand - owe rows := r3 rfl
    have e2 : (if y = "(" then (if 0 < many then some (⟨.need, 0, (many, 1) :: rows, stand⟩ : LS) else some ⟨.first, 0, rows, stand⟩) else none) = some s' := e
    split at e2
    · split at e2
      · cases e2
        have e3 : owe ((many, 1) :: rows) = max 0 (many - 1) + owe rows := rfl
        refine ⟨⟨?_, fun _ => ?_, (nomatch ·), (nomatch ·)⟩, ?_⟩
        · show 0 ≤ 30 - stand - owe ((many, 1) :: rows)
          omega
        · show 1 ≤ 30 - stand - owe ((many, 1) :: rows)
          omega
        · show 20 * (30 - stand).toNat + 3 * (rows.length + 1) + 0 < 20 * (30 - stand).toNat + 3 * rows.length + 5
          omega
      · cases e2
        refine ⟨⟨r0, (nomatch ·), (nomatch ·), (nomatch ·)⟩, ?_⟩
        show 20 * (30 - stand).toNat + 3 * rows.length + 2 < 20 * (30 - stand).toNat + 3 * rows.length + 5
        omega
    · cases e2
  | behind =>
    cases rows with
    | nil => exact absurd rfl (g2 rfl)
    | cons mb rr =>
      obtain ⟨m, b⟩ := mb
      have e3 : owe ((m, b) :: rr) = max 0 (m - b) + owe rr := rfl
      have e2 : (if y = ")" ∧ m ≤ b then some (closed rr stand) else if y = "," ∧ b < 8 ∧ (b < m ∨ 0 < 30 - stand - owe ((m, b) :: rr)) then some (⟨.need, 0, (m, b + 1) :: rr, stand⟩ : LS) else none) = some s' := e
      split at e2
      · cases e2
        exact m_closed (rows0 := (m, b) :: rr) (n := 1) (by omega) (by show 3 * rr.length + 2 ≤ 3 * (rr.length + 1) + 1; omega)
      · split at e2
        · rename_i q
          cases e2
          have e4 : owe ((m, b + 1) :: rr) = max 0 (m - (b + 1)) + owe rr := rfl
          have q3 := q.2.2
          refine ⟨⟨?_, fun _ => ?_, (nomatch ·), (nomatch ·)⟩, ?_⟩
          · show 0 ≤ 30 - stand - owe ((m, b + 1) :: rr)
            omega
          · show 1 ≤ 30 - stand - owe ((m, b + 1) :: rr)
            omega
          · show 20 * (30 - stand).toNat + 3 * (rr.length + 1) + 0 < 20 * (30 - stand).toNat + 3 * (rr.length + 1) + 1
            omega
        · cases e2
  | over => cases e
end K80

set_option Elab.async false
set_option linter.all false
set_option maxRecDepth 100000
set_option maxHeartbeats 8000000
set_option pp.maxSteps 600
/-! _law_caught: what it makes of a lambda that tells something, raises BadText or BadNeed -/
namespace SX
open PySem PySem.Spec PyProof.Rows L2
/-- isinstance(caught, c): the caught one's class told in the reading -/
def rIsxA (K : PySem.W.Frag) : List V → Hp → VK → Prop := fun xs H Q => ∃ (a : Addr) (c : V) (d : Addr) (fs : List (Str × V)) (u : Value) (b : Bool) (C : Addr), xs = [.ref a, c] ∧ (XfC K C ∧ IsxC K C) ∧ ClsV c u ∧ H a = some (exH (.ref C) (some d) a) ∧ H d = some (.xd fs) ∧ PySem.W.kitOne K (.ref C) u = some b ∧ Q (.bl b) H
theorem call_isxA {X : Cx} {K : PySem.W.Frag} (hK : X.K = K) : CallR X (.builtin "isinstance") (rIsxA K) := by
  subst hK
  intro pins s σ H xs us Q I r h
  obtain ⟨a, c, d, fs, u, b, C, e1, ⟨T, S⟩, h⟩ := h
  exact call_isx T S pins s σ H xs us Q I r ⟨a, c, d, fs, u, b, e1, h⟩
/-- isinstance(caught, (c1, c2)) -/
def rIsxT (K : PySem.W.Frag) : List V → Hp → VK → Prop := fun xs H Q => ∃ (a tp : Addr) (cs : List V) (d : Addr) (fs : List (Str × V)) (us : List Value) (b : Bool) (C : Addr), xs = [.ref a, .ref tp] ∧ H tp = some (.tup cs) ∧ Paired ClsV cs us ∧ (XfC K C ∧ IsxC K C) ∧ H a = some (exH (.ref C) (some d) a) ∧ H d = some (.xd fs) ∧
  PySem.W.kitAny K (.ref C) us = some b ∧ Q (.bl b) H
theorem call_isxT {X : Cx} {K : PySem.W.Frag} (hK : X.K = K) : CallR X (.builtin "isinstance") (rIsxT K) := by
  subst hK
  intro pins s σ H xs us Q I r h
  obtain ⟨a, tp, cs, d, fs, ws, b, C, rfl, hT, k, ⟨T, S⟩, ha, hd, e, q⟩ := h
  obtain ⟨u1, u2, rfl, r1, r2⟩ := vals2 r
  cases (show u1 = Value.ref a from r1)
  cases (show u2 = Value.ref tp from r2)
  obtain ⟨oe, od, J⟩ := inst_held I ha hd
  obtain ⟨_, its, rv, o, h1, h2, n, h3⟩ := (show ObjOk X.prog X.w H s.heap tp (.tup cs) from I.hok tp _ hT)
  have e3 := ClsV.all k rv
  subst e3
  obtain ⟨oc, od2, dt, sl⟩ := o
  simp only at h2 h3
  subst h2 h3
  exact PySem.W.kia_tup (PySem.W.kitx_exc S.cl T.ga T.gg T.exC S.ca S.sp S.tk S.mr) I.kIn J h1 e (fun z => nomatch z) fun tk => ⟨.bl b, H, I.tok tk, rfl, q⟩
/-- caught.f -/
def tHxA (K : PySem.W.Frag) (f : Str) (te : TE) : TE := fun σ H Q => te σ H fun x H1 => ∃ (a d C : Addr) (fs : List (Str × V)) (v : V), x = .ref a ∧ (XfC K C ∧ PySem.W.findIn K (.ref C) f = some none) ∧ H1 a = some (exH (.ref C) (some d) a) ∧ H1 d = some (.xd fs) ∧ fs.lookup f = some v ∧ Q v H1
theorem pe_hxA {X : Cx} {e : Expr} {te : TE} {pos : Pos} {n : Str} (he : PE X e te) (hb : attributeBase e n X.env (eval e X.env) = eval e X.env := by rfl) :
    PE X (.Attribute e n pos) (tHxA X.K n te) := by
  refine ⟨fun pins s σ H Q I h => ?_⟩
  refine attr_of hb (thn (he.run pins s σ H _ I h) fun u s1 hh => ?_)
  obtain ⟨x, H1, I1, rx, a, d, C, fs, v, ex, ⟨T, hno⟩, ea, ed, l, q⟩ := hh
  subst ex
  obtain rfl : u = Value.ref a := rx
  obtain ⟨oe, od, J⟩ := inst_held I1 ea ed
  obtain ⟨mA, hns, hr⟩ := (show ObjOk X.prog X.w H1 s1.heap d (.xd fs) from I1.hok d _ ed)
  obtain ⟨⟨oe2, vs, e1, z, q1⟩, _, _⟩ := (show ObjOk X.prog X.w H1 s1.heap a (exH (.ref C) (some d) a) from I1.hok a _ ea)
  obtain ⟨od2, ho, hl⟩ := lookIn_ns hns
  obtain ⟨u, hu, ru⟩ := RelO.some_of (v := v) (o := mA n) (by rw [← l]; exact hr n)
  have J : PySem.W.InstAt s1.heap a oe2 C (some od2) := ⟨e1, z.1, by unfold PySem.W.notCls; rw [q1] <;> rfl, by rw [z.2]; exact ho⟩
  exact HandSPX.exc_get I1.kIn J T.ga T.gg T.exC (PySem.W.findObj_own T.hdC hno rfl (by rw [hl, hu])) (handed_of ru) ⟨v, H1, I1.tok _, ru, q⟩
end SX
namespace K80
open PySem PySem.Spec PyProof.Rows L2 SX StX
open He (ga ma)
open LamX (CodeO TabS Tabs ExtN TabB LamS GivesTo)
theorem sc__law_caught : FnScope ["ask", "caught", "error"] ["ask"] (defScope s__law_caught) := ⟨rfl, rfl, rfl, by decide +kernel, rfl, by decide +kernel, by decide +kernel⟩
/-- a BadNeed's own dict -/
def needO (part : Str) : HO := .xd [("part", .str part)]
/-- a reading that tells something, or raises -/
def TCaught (K : PySem.W.Frag) : (XK → Hp → VK → Prop) → Hp → VK → Prop := fun tl H Q =>
  tl (fun cls d H' => ∃ dd, d = some dd ∧ ((∃ k, cls = .ref (ga K "BadText") ∧ H' dd = some (badO k) ∧ ∀ t H2, Grow H' H2 → H2 t = some (.tup [.str "text", .int (k : Nat)]) → Q (.ref t) H2) ∨
      (∃ p, cls = .ref (ga K "BadNeed") ∧ H' dd = some (needO p) ∧ ∀ t H2, Grow H' H2 → H2 t = some (.tup [.str "need", .str p]) → Q (.ref t) H2))) H
    (fun v H' => 2 ≤ sizeLine ∧ ∀ p, H' p = none → Q (.ref p) (upd H' p (.tup [.str "told", v])))
theorem pss_any {X : Cx} {st : List Stmt} : PSs X st (fun _ _ _ => False) := ⟨fun _ _ _ _ _ _ h => h.elim⟩
theorem caught_gives {X : Cx} (z : Z X.prog X.w X.K X.mg X.base) {q : Str} {cdg : Value} : GivesTo X ["ask", "caught", "error"] "_law_caught" (defScope s__law_caught) (ga X.K "_law_caught") cdg (defBody s__law_caught) "ask" q (TCaught X.K) := by
  intro f c' s H Q tl act hc h
  have nd := sc__law_caught.nd
  refine ⟨_, pss_cons (ps_set (i := 1) nd rfl (Or.inl rfl) pe_non)
    (pss_cons (ps_try_holdN (i := 2) (X := (cxOf C8.CX0 X.prog X.w X.K X.mg X.base ["ask", "caught", "error"] "_law_caught" (defScope s__law_caught) (ga X.K "_law_caught") cdg X.A X.stack s H C8.E0).nox) (c := .ref (ga X.K "WatchError"))
        (tb := fun W D σ H => ∃ Ech : XK, (∀ cls d σ' H', Ech cls d H' → W cls d σ' H') ∧ σ[0]? = some (some (.ref f)) ∧ H c' = some (CodeO c' q) ∧ tl Ech H (fun v H' => 2 ≤ sizeLine ∧ ∀ p, H' p = none → D.rt (.ref p) (upd H' p (.tup [.str "told", v]))))
        rfl rfl nd rfl rfl ⟨rfl, rfl, .inl z.g_WatchError⟩ rfl LamX.takes0 (fun W pn xe tk _ => ?hb) (fun a oe cls d pn _ _ => pss_one (ps_set (i := 1) nd rfl (Or.inl rfl) (pv 2))))
    (pss_cons (ps_if (pt_val (pe_callB (call_isxA rfl) rfl z.b_isinstance (by decide +kernel) (pa_cons (pv 1) (pa_cons (pe_glob (v := .ref (ga X.K "BadText")) rfl z.g_BadText rfl) pa_nil))))
        (pss_one (ps_ret (pe_tup (pa_cons pe_str (pa_cons (pe_hxA (pv 1)) pa_nil))))) pss_nil)
    (pss_cons (ps_if (pt_val (pe_callB (call_isxA rfl) rfl z.b_isinstance (by decide +kernel) (pa_cons (pv 1) (pa_cons (pe_glob (v := .ref (ga X.K "BadCommand")) rfl z.g_BadCommand rfl) pa_nil)))) pss_any pss_nil)
    (pss_cons (ps_if (pt_val (pe_callB (call_isxA rfl) rfl z.b_isinstance (by decide +kernel) (pa_cons (pv 1) (pa_cons (pe_glob (v := .ref (ga X.K "TooMany")) rfl z.g_TooMany rfl) pa_nil)))) pss_any pss_nil)
    (pss_cons (ps_if (pt_val (pe_callB (call_isxT rfl) rfl z.b_isinstance (by decide +kernel) (pa_cons (pv 1) (pa_cons (pe_tup (pa_cons (pe_glob (v := .ref (ga X.K "BadValue")) rfl z.g_BadValue rfl) (pa_cons (pe_glob (v := .ref (ga X.K "BadNeed")) rfl z.g_BadNeed rfl) pa_nil))) pa_nil))))
        (pss_one (ps_ret (pe_tup (pa_cons (pe_ifExp (pt_val (pe_callB (call_isxA rfl) rfl z.b_isinstance (by decide +kernel) (pa_cons (pv 1) (pa_cons (pe_glob (v := .ref (ga X.K "BadValue")) rfl z.g_BadValue rfl) pa_nil)))) pe_str pe_str) (pa_cons (pe_hxA (pv 1)) pa_nil))))) pss_nil)
    pss_any))))), ?_⟩
  · refine ⟨fun pins s' σ H' D I h' => ?_⟩
    obtain ⟨Ech, hW, h1, h2, h3⟩ := h'
    exact PSs.run (t := tRet (tTup (tCons (tC (.str "told")) (tCons (fun σZ HZ Q => σZ[0]? = some (some (.ref f)) ∧ HZ c' = some (CodeO c' q) ∧ tl Ech HZ Q) tNil)))) (pss_one (ps_ret (pe_tup (pa_cons pe_str (pa_cons (act W pn xe Ech _ _ tk hW) pa_nil))))) pins s' σ H' D I ⟨h1, h2, h3⟩
  · refine ⟨_, fun cls d σ' H' he => ?_, rfl, hc, h⟩
    obtain ⟨dd, rfl, he⟩ := he
    have slots : σ'.length = 3 → ∃ v0 v1 v2, σ' = [v0, v1, v2] := fun hl => by
      match σ', hl with
      | [v0, v1, v2], _ => exact ⟨v0, v1, v2, rfl⟩
    rcases he with ⟨k, rfl, hd, hQ⟩ | ⟨p, rfl, hd, hQ⟩
    · refine ⟨true, z.xm_BadText, fun _ hl a ha => ?_, fun e => nomatch e⟩
      obtain ⟨v0, v1, v2, rfl⟩ := slots hl
      have hda : dd ≠ a := fun e => by
        rw [e, ha] at hd
        cases hd
      have hd' : upd H' a (exH (.ref (ga X.K "BadText")) (some dd) a) dd = some (badO k) := by
        rw [upd_ne hda]
        exact hd
      refine ⟨_, rfl, fun _ => ⟨_, rfl, a, _, dd, _, _, true, _, rfl, ⟨z.xfX, z.isx⟩, .own _, upd_same, hd', z.kit, _, rfl, iteT ?_⟩⟩
      exact ⟨_, rfl, a, dd, _, _, _, rfl, ⟨z.xfX, z.na_BadText_item⟩, upd_same, hd', rfl, by show 2 ≤ sizeLine; decide, fun t ht => hQ t _ ((Grow.new ha).trans (Grow.new ht)) upd_same⟩
    · refine ⟨true, z.xm_BadNeed, fun _ hl a ha => ?_, fun e => nomatch e⟩
      obtain ⟨v0, v1, v2, rfl⟩ := slots hl
      have hda : dd ≠ a := fun e => by
        rw [e, ha] at hd
        cases hd
      have hd' : upd H' a (exH (.ref (ga X.K "BadNeed")) (some dd) a) dd = some (needO p) := by
        rw [upd_ne hda]
        exact hd
      refine ⟨_, rfl, fun _ => ⟨_, rfl, a, _, dd, _, _, false, _, rfl, ⟨z.xfX, z.isx⟩, .own _, upd_same, hd', z.kit, _, rfl, iteF ?_⟩⟩
      refine ⟨_, rfl, a, _, dd, _, _, false, _, rfl, ⟨z.xfX, z.isx⟩, .own _, upd_same, hd', z.kit, _, rfl, iteF ?_⟩
      refine ⟨_, rfl, a, _, dd, _, _, false, _, rfl, ⟨z.xfX, z.isx⟩, .own _, upd_same, hd', z.kit, _, rfl, iteF ?_⟩
      refine ⟨_, rfl, by show 2 ≤ sizeLine; decide, fun tp htp => ⟨a, tp, _, dd, _, [.ref (ga X.K "BadValue"), .ref (ga X.K "BadNeed")], true, _, rfl, upd_same, .cons (.own _) (.cons (.own _) .nil), ⟨z.xfX, z.isx⟩, Grow.new htp _ _ upd_same, Grow.new htp _ _ hd', ?_, _, rfl, iteT ?_⟩⟩
      · exact kitAny_cons (b := false) z.kit (fun _ => kitAny_cons (b := true) z.kit (fun e => nomatch e) fun _ => rfl) fun e => nomatch e
      · refine ⟨_, rfl, a, _, dd, _, _, false, _, rfl, ⟨z.xfX, z.isx⟩, .own _, Grow.new htp _ _ upd_same, Grow.new htp _ _ hd', z.kit, _, rfl, iteF ?_⟩
        exact ⟨_, rfl, a, dd, _, _, _, rfl, ⟨z.xfX, z.na_BadNeed_part⟩, Grow.new htp _ _ upd_same, Grow.new htp _ _ hd', rfl, by show 2 ≤ sizeLine; decide, fun t ht => hQ t _ ((Grow.new ha).trans ((Grow.new htp).trans (Grow.new ht))) upd_same⟩
end K80

set_option Elab.async false
set_option linter.all false
set_option maxRecDepth 100000
set_option maxHeartbeats 4000000
/-! plain: where a row of words is refused -/
namespace K80
open PySem PySem.Spec PyProof.Rows L2 SX TL
theorem Run.le {ws : List Str} {s s' : LS} {i j : Nat} (h : Run ws s i s' j) : i ≤ j := by
  induction h with
  | refl => exact Nat.le_refl _
  | go _ _ _ ih => omega
/-- nothing can follow -/
def Fin (ws : List Str) (s : LS) (k : Nat) : Prop := s.ph = .over ∨ ∀ y, ws[k]? = some y → SX.step s y = none
theorem over_none {s : LS} {y : Str} (h : s.ph = .over) : SX.step s y = none := by
  obtain ⟨ph, many, rows, stand⟩ := s
  cases (show ph = .over from h)
  rfl
theorem Fin.stop {ws : List Str} {s s' : LS} {k j : Nat} (h : Fin ws s k) (r : Run ws s k s' j) : j = k ∧ s' = s := by
  cases r with
  | refl => exact ⟨rfl, rfl⟩
  | go hy hs _ =>
    rcases h with h | h
    · rw [over_none h] at hs
      cases hs
    · rw [h _ hy] at hs
      cases hs
theorem fin_det {ws : List Str} {s a b : LS} {i j k : Nat} (h : Run ws s i a j) (h' : Run ws s i b k) (fa : Fin ws a j) (fb : Fin ws b k) : j = k ∧ a = b := by
  rcases Nat.le_total j k with l | l
  · obtain ⟨e1, e2⟩ := fa.stop (Run.det h h' l)
    exact ⟨e1.symm, e2.symm⟩
  · obtain ⟨e1, e2⟩ := fb.stop (Run.det h' h l)
    exact ⟨e1, e2⟩
def scanL : LS → List Str → Nat → Nat × Bool
  | s, [], i => (i, decide (s.ph = .over))
  | s, y :: r, i => if s.ph = .over then (i, true) else match SX.step s y with
    | none => (i, false)
    | some s1 => scanL s1 r (i + 1)
theorem scan_ok {ws : List Str} : ∀ (r : List Str) (s : LS) (i : Nat), ws.drop i = r → ∃ s', Run ws s i s' (scanL s r i).1 ∧ Fin ws s' (scanL s r i).1 ∧ ((scanL s r i).2 = true ↔ s'.ph = .over)
  | [], s, i, h => ⟨s, .refl _ _, .inr fun y hy => by
      have hi : i < ws.length := (List.getElem?_eq_some_iff.mp hy).1
      have q := congrArg List.length h
      rw [List.length_drop] at q
      have q2 : ws.length - i = 0 := q
      omega, by show decide (s.ph = .over) = true ↔ _; exact decide_eq_true_iff⟩
  | y :: r, s, i, h => by
    have hy : ws[i]? = some y := by
      have q := congrArg (fun l : List Str => l[0]?) h
      simpa using q
    have hr : ws.drop (i + 1) = r := by
      have q := congrArg (List.drop 1) h
      rw [List.drop_drop] at q
      exact q
    by_cases hov : s.ph = .over
    · have e : scanL s (y :: r) i = (i, true) := if_pos hov
      rw [e]
      exact ⟨s, .refl _ _, .inl hov, fun _ => hov, fun _ => rfl⟩
    · have e : scanL s (y :: r) i = match SX.step s y with
        | none => (i, false)
        | some s1 => scanL s1 r (i + 1) := if_neg hov
      cases hs : SX.step s y with
      | none =>
        rw [hs] at e
        rw [e]
        refine ⟨s, .refl _ _, .inr fun y' hy' => ?_, fun q => (nomatch q), fun q => absurd q hov⟩
        rw [hy] at hy'
        cases hy'
        exact hs
      | some s1 =>
        rw [hs] at e
        rw [e]
        obtain ⟨s', h1, h2, h3⟩ := scan_ok r s1 (i + 1) hr
        exact ⟨s', .go hy hs h1, h2, h3⟩
/-- the item that is refused, none if all of it is a need's text -/
def dueOf (ws : List Str) : Option Nat := match scanL start0 ws 0 with
  | (k, true) => if k = ws.length then none else some k
  | (k, false) => some k
theorem refused_fin {ws : List Str} {k : Nat} (h : Refused ws k) : ∃ s, Run ws start0 0 s k ∧ Fin ws s k ∧ (s.ph = .over → k < ws.length) := by
  rcases h with ⟨s, h1, h2, h3⟩ | ⟨st, h1, h2⟩
  · exact ⟨s, h1, .inr h3, fun q => absurd q h2⟩
  · exact ⟨_, h1, .inl rfl, fun _ => h2⟩
theorem due_none {ws : List Str} (h : dueOf ws = none) (k : Nat) : ¬ Refused ws k := fun q => by
  obtain ⟨s, h1, h2, h3⟩ := refused_fin q
  obtain ⟨s', g1, g2, g3⟩ := scan_ok (ws := ws) ws start0 0 rfl
  obtain ⟨e1, e2⟩ := fin_det h1 g1 h2 g2
  unfold dueOf at h
  split at h
  · rename_i k' e
    split at h
    · rename_i hk
      have := h3 (by rw [e2]; exact g3.mp (by rw [e]))
      rw [e] at e1
      have e1 : k = k' := e1
      omega
    · cases h
  · cases h
theorem due_some {ws : List Str} {d : Nat} (h : dueOf ws = some d) : (∀ k, Refused ws k → k = d) ∧ ∀ st, ¬ Run ws start0 0 (closed [] st) ws.length := by
  obtain ⟨s', g1, g2, g3⟩ := scan_ok (ws := ws) ws start0 0 rfl
  unfold dueOf at h
  split at h
  · rename_i k' e
    split at h
    · cases h
    · rename_i hk
      cases h
      rw [e] at g1 g2 g3
      refine ⟨fun k q => ?_, fun st q => ?_⟩
      · obtain ⟨s, h1, h2, h3⟩ := refused_fin q
        exact (fin_det h1 g1 h2 g2).1
      · exact hk (fin_det g1 q g2 (.inl rfl)).1
  · rename_i k' e
    cases h
    rw [e] at g1 g2 g3
    refine ⟨fun k q => ?_, fun st q => ?_⟩
    · obtain ⟨s, h1, h2, h3⟩ := refused_fin q
      exact (fin_det h1 g1 h2 g2).1
    · obtain ⟨_, e2⟩ := fin_det g1 q g2 (.inl rfl)
      have := g3.mpr (by rw [e2]; rfl)
      cases this
/-! ### the texts of words -/
/-- short words without a blank -/
def Plain (ws : List Str) : Prop := ws ≠ [] ∧ ws.length ≤ 100000 ∧ ∀ y ∈ ws, y.length ≤ 100 ∧ 32 ∉ tl y
theorem sum_le {ws : List Str} (h : ∀ y ∈ ws, y.length ≤ 100) : (ws.map (·.length)).sum ≤ 100 * ws.length := by
  induction ws with
  | nil => exact Nat.zero_le _
  | cons y r ih =>
    have h1 := h y List.mem_cons_self
    have h2 := ih fun z hz => h z (List.mem_cons_of_mem _ hz)
    show y.length + (r.map (·.length)).sum ≤ 100 * (r.length + 1)
    omega
theorem Plain.sum {ws : List Str} (h : Plain ws) : (ws.map (·.length)).sum + ws.length ≤ 16777216 := by
  have := sum_le fun y hy => (h.2.2 y hy).1
  have := h.2.1
  omega
theorem Plain.split {ws : List Str} (h : Plain ws) : Txt.split (Txt.join " " ws) " " = ws :=
  split_join (s := 32) (S := []) (by rfl) (by decide +kernel) h.1 fun y hy => (h.2.2 y hy).2
theorem Plain.len {ws : List Str} (h : Plain ws) : (Txt.join " " ws).length + 2 ≤ sizeLine := by
  rw [join_eq]
  have q := PySem.StrLaws.join_length_le " " ws
  have e : (" " : Str).length = 1 := by rfl
  rw [e] at q
  have := sum_le fun y hy => (h.2.2 y hy).1
  have := h.2.1
  rw [sizeLine_eq]
  omega
/-- what a reading of such a text comes to -/
theorem reads {K : PySem.W.Frag} {ws : List Str} {H : Hp} {Q : VK} {E : XK} (h : Plain ws) (hok : dueOf ws = none → ∀ v F H', Grow H H' → NeedsAt K H' F [v] → F.len = 1 → F.deep ≤ 6 → F.size ≤ 30 → ws = F.words → Q v H')
    (herr : ∀ k d H1, dueOf ws = some k → Grow H H1 → H1 d = some (badO k) → E (.ref (He.ga K "BadText")) (some d) H1) : ReadsTo K (Txt.join " " ws) H Q E := by
  unfold ReadsTo
  rw [h.split]
  refine ⟨h.len, by have := h.2.1; omega, fun y hy => by have := (h.2.2 y hy).1; omega, fun v F st H' g hv h1 h2 h3 hr e => ?_, fun k d H1 g e hk => ?_⟩
  · cases hd : dueOf ws with
    | none => exact hok hd v F H' g hv h1 h2 h3 e
    | some d => exact absurd hr ((due_some hd).2 st)
  · cases hd : dueOf ws with
    | none => exact absurd hk (due_none hd k)
    | some d' =>
      have e' := (due_some hd).1 k hk
      subst e'
      exact herr k d H1 hd g e
end K80

set_option Elab.async false
set_option linter.all false
set_option maxRecDepth 100000
set_option maxHeartbeats 8000000
set_option pp.maxSteps 600
/-! the law's reader on any row of items -/
namespace K80
open PySem PySem.Spec PyProof.Rows L2 SX StX
open He (ga ma)
/-- no item reads "?" -/
theorem q_none {s : LS} (h : s.ph ≠ .over) : SX.step s "?" = none := by
  obtain ⟨ph, many, rows, stand⟩ := s
  cases ph with
  | first =>
    show (if ("?" : Str) = ")" then some (closed rows stand) else if rows.length = 5 ∨ (30 - stand - owe rows) < 1 then none else needStep (30 - stand - owe rows) ((0, 1) :: rows) stand "?") = none
    rw [if_neg (by decide)]
    split
    · rfl
    · unfold needStep
      rw [if_neg (fun q => absurd q.1 (by decide)), if_neg (by decide), if_neg (by decide)]
  | need =>
    show needStep _ rows stand "?" = none
    unfold needStep
    rw [if_neg (fun q => absurd q.1 (by decide)), if_neg (by decide), if_neg (by decide)]
  | name =>
    show (if nameB "?" = true then some (closed rows stand) else none) = none
    rw [if_neg (by decide +kernel)]
  | many =>
    show (if numB 1 (min 8 (LS.room ⟨.many, many, rows, stand⟩)) "?" = true then some (⟨.open, valB "?", rows, stand⟩ : LS) else none) = none
    have e : figB "?" = false := by decide +kernel
    rw [if_neg (by unfold numB; rw [e, Bool.false_and]; exact Bool.false_ne_true)]
  | «open» =>
    show (if ("?" : Str) = "(" then (if 0 < many then some (⟨.need, 0, (many, 1) :: rows, stand⟩ : LS) else some ⟨.first, 0, rows, stand⟩) else none) = none
    rw [if_neg (by decide)]
  | behind =>
    cases rows with
    | nil => rfl
    | cons mb rr =>
      obtain ⟨m, b⟩ := mb
      show (if ("?" : Str) = ")" ∧ m ≤ b then some (closed rr stand) else if ("?" : Str) = "," ∧ b < 8 ∧ (b < m ∨ 0 < LS.room ⟨.behind, many, (m, b) :: rr, stand⟩) then some (⟨.need, 0, (m, b + 1) :: rr, stand⟩ : LS) else none) = none
      rw [if_neg (fun q => absurd q.1 (by decide)), if_neg (fun q => absurd q.1 (by decide))]
  | over => exact absurd rfl h
section
variable {P : Program} {w : World} {K : PySem.W.Frag} {mg : Str → Option Value} {base : Heap}
def sp_nread : Sp := fun vs H Q _ => ∃ (l : Addr) (ws : List Str) (i : Nat), vs = [.ref l, .int (i : Nat), .non] ∧ H l = some (.lst (ws.map V.str)) ∧ i ≤ ws.length ∧ (∀ y ∈ ws, y.length ≤ sizeLine ∧ Sane y) ∧
  ∀ t H', Grow H H' → H' t = some (.tup [.bl (scanL start0 (ws.drop i) i).2, .int ((scanL start0 (ws.drop i) i).1 : Nat)]) → Q (.ref t) H'
theorem ok_nread (z : Z P w K mg base) : ∃ fd, FnOk P w K mg base (L2.CX P w) 3 (ga K "_law_need_read") fd ["items", "at", "names"] sp_nread ∧ Binds K fd ["items", "at", "names"] [] := by
  obtain ⟨f1, G1, b1⟩ := ok__law_need_step z
  obtain ⟨f2, G2, b2⟩ := ok__law_item z
  obtain ⟨fd, F⟩ := z.f__law_need_read
  refine ⟨fd, F.ok sc__law_need_read (fun vs H Q E h => ?_) (fun cdv A outer s0 H vs Q E hr h => ?_), F.bindsN fun _ _ _ _ _ _ us hl => match us, hl with | [_, _, _], _ => rfl⟩
  · obtain ⟨_, _, _, rfl, _⟩ := h
    rfl
  · obtain ⟨l, ws, i0, rfl, hl, hi0, hws, hQ⟩ := h
    have nd := sc__law_need_read.nd
    refine ⟨_, pss_cons (ps_set (i := 3) nd rfl (Or.inl rfl) (pe_tup (pa_cons pe_str (pa_cons pe_int (pa_cons (pe_tup pa_nil) (pa_cons pe_int pa_nil))))))
      (pss_cons (ps_while PassesOwn.leaving (pt_cmpR op_ne (pe_ix ix_seq (pv 3) pe_int fun _ _ => rfl) pe_str (nomark _))
        (pss_cons (ps_set (i := 3) nd rfl (Or.inl rfl) (pe_call G1 (hr.mono (by decide)) rfl z.g__law_need_step z.k__law_need_step b1 .nil passF (pa_cons (pv 3) (pa_cons (pe_call G2 (hr.mono (by decide)) rfl z.g__law_item z.k__law_item b2 .nil passF (pa_cons (pv 0) (pa_cons (pv 1) pa_nil))) (pa_cons (pv 2) pa_nil)))))
        (pss_cons (ps_if (pt_cmpR op_isN (pv 3) pe_non (nomark _)) (pss_one (ps_ret (pe_tup (pa_cons pe_bl (pa_cons (pv 1) pa_nil))))) pss_nil)
        (pss_one (ps_set (i := 1) nd rfl (Or.inl rfl) (pe_op op_add (pv 1) pe_int))))))
      (pss_one (ps_ret (pe_tup (pa_cons pe_bl (pa_cons (pv 1) pa_nil)))))), ?_⟩
    refine seq_asg ⟨Nat.zero_le _, fun r0 hr0 => ⟨by show 4 ≤ sizeLine; decide, fun p0 hp0 => ?_⟩⟩
    have g0 : Grow H (upd (upd H r0 (.tup [])) p0 (.tup [.str "need", .int 0, .ref r0, .int 0])) := (Grow.new hr0).trans (Grow.new hp0)
    refine while_by (fun σ' H' => Grow H H' ∧ ∃ (i : Nat) (st : LS) (p : Addr), σ' = [some (.ref l), some (.int (i : Nat)), some .non, some (.ref p)] ∧ i ≤ ws.length ∧ StAt H' p st ∧ Good st ∧ scanL start0 (ws.drop i0) i0 = scanL st (ws.drop i) i) (fun σ' _ => match σ'[1]? with
      | some (some (V.int i)) => ws.length + 1 - i.toNat
      | _ => 0) ⟨g0, i0, ⟨.need, 0, [], 0⟩, p0, rfl, hi0, ⟨r0, [], upd_same, Grow.new hp0 _ _ upd_same, rfl⟩, good_start, rfl⟩ (fun σ' H' q => ?_) ?_
    · obtain ⟨g, i, st, p, rfl, hi, hst, hgd, hsc⟩ := q
      obtain ⟨r, vs, e1, e2, e3⟩ := id hst
      refine ⟨_, rfl, .inr (.inl ⟨p, _, 0, _, rfl, rfl, SqT.of e1, rfl, rfl, _, rfl, ?_⟩)⟩
      by_cases hov : st.ph = .over
      · rw [hov]
        have e : scanL st (ws.drop i) i = (i, true) := by
          cases ws.drop i with
          | nil =>
            show (i, decide (st.ph = .over)) = _
            rw [decide_eq_true hov]
          | cons y r => exact if_pos hov
        rw [e] at hsc
        refine iteF ?_
        refine ⟨_, rfl, by show 2 ≤ sizeLine; decide, fun t ht => hQ t _ (g.trans (Grow.new ht)) ?_⟩
        rw [hsc]
        exact upd_same
      · have hb : (!decide (V.str (Ph.str st.ph) = V.str "over")) = true := by
          cases e : st.ph <;> first | rfl | exact absurd e hov
        rw [hb]
        refine iteT (seq_asg ⟨_, rfl, _, rfl, _, rfl, l, ws, i, rfl, g _ _ hl, _, rfl, p, st, itemAt ws i, rfl, hst, hov, hgd.2.1, Nat.le_trans hgd.1 (by decide), ?_, ?_, fun e H2 g2 => ?_, fun s' e p' H2 g2 st2 => ?_⟩)
        · unfold itemAt
          rw [List.getD_eq_getElem?_getD]
          cases q : ws[i]? with
          | none => decide
          | some y => exact (hws y (List.mem_of_getElem? q)).1
        · unfold itemAt
          rw [List.getD_eq_getElem?_getD]
          cases q : ws[i]? with
          | none => exact fun c hc => of_decide_eq_true (List.all_eq_true.mp (show (("?" : Str).cps.toList.all fun c => decide (c < 1114112)) = true by decide +kernel) c hc)
          | some y => exact (hws y (List.mem_of_getElem? q)).2
        · have e2 : scanL st (ws.drop i) i = (i, false) := by
            cases q : ws.drop i with
            | nil =>
              show (i, decide (st.ph = .over)) = _
              rw [decide_eq_false hov]
            | cons y r =>
              have hy : itemAt ws i = y := by
                unfold itemAt
                have q2 := congrArg (fun l : List Str => l[0]?) q
                have q3 : ws[i]? = some y := by simpa using q2
                rw [List.getD_eq_getElem?_getD, q3]
                rfl
              have e3 : scanL st (y :: r) i = match SX.step st y with
                | none => (i, false)
                | some s1 => scanL s1 r (i + 1) := if_neg hov
              rw [hy] at e
              rw [e3, e]
          rw [e2] at hsc
          refine ⟨_, rfl, rfl, _, rfl, iteT ⟨_, rfl, by show 2 ≤ sizeLine; decide, fun t ht => hQ t _ (g.trans (g2.trans (Grow.new ht))) ?_⟩⟩
          rw [hsc]
          exact upd_same
        · have hlt : i < ws.length := by
            refine Nat.lt_of_not_le fun hle => ?_
            have e4 : itemAt ws i = "?" := by
              unfold itemAt
              rw [List.getD_eq_getElem?_getD, List.getElem?_eq_none hle]
              rfl
            rw [e4, q_none hov] at e
            cases e
          have hd : ws.drop i = ws[i] :: ws.drop (i + 1) := List.drop_eq_getElem_cons hlt
          have hy : itemAt ws i = ws[i] := by
            unfold itemAt
            rw [List.getD_eq_getElem?_getD, List.getElem?_eq_getElem hlt]
            rfl
          have e3 : scanL st (ws[i] :: ws.drop (i + 1)) i = match SX.step st ws[i] with
            | none => (i, false)
            | some s1 => scanL s1 (ws.drop (i + 1)) (i + 1) := if_neg hov
          rw [hy] at e
          rw [hd, e3, e] at hsc
          refine ⟨_, rfl, rfl, _, rfl, iteF ⟨_, rfl, _, _, rfl, rfl, ⟨g.trans g2, i + 1, s', p', rfl, hlt, st2, good_step hgd e, hsc⟩, ?_⟩⟩
          show ws.length + 1 - ((i : Int) + 1).toNat < ws.length + 1 - ((i : Nat) : Int).toNat
          omega
    · intro σ' H' Q1 Q2 hm h
      obtain ⟨v, hv, h⟩ := h
      refine ⟨v, hv, ?_⟩
      rcases h with ⟨p, xs, i, x, e1, e2, e3, e4, es, b, eb, hq⟩ | ⟨p, xs, i, x, e1, e2, e3, e4, es, b, eb, hq⟩ | ⟨zz, i, c, e1, e2, e3, e4, es, b, eb, hq⟩
      · exact .inl ⟨p, xs, i, x, e1, e2, e3, e4, es, b, eb, hm _ _ hq⟩
      · exact .inr (.inl ⟨p, xs, i, x, e1, e2, e3, e4, es, b, eb, hm _ _ hq⟩)
      · exact .inr (.inr ⟨zz, i, c, e1, e2, e3, e4, es, b, eb, hm _ _ hq⟩)
end
end K80

set_option Elab.async false
set_option linter.all false
set_option maxRecDepth 100000
set_option maxHeartbeats 4000000
/-! plain: the texts of needs are read, and by one need alone -/
namespace K80
open PySem PySem.Spec PyProof.Rows L2 SX TL
/-- a forest whose names and numbers can stand -/
def okF : Fo → Prop
  | .nil => True
  | .has s r => nameB s = true ∧ okF r
  | .node k m kids r => (k = .few → 1 ≤ m ∧ m ≤ (kids.len : Int)) ∧ kids.len ≤ 8 ∧ okF kids ∧ okF r
theorem scan_cons {s s1 : LS} {y : Str} {r : List Str} {i : Nat} (h : SX.step s y = some s1) : scanL s (y :: r) i = scanL s1 r (i + 1) := by
  have ho : s.ph ≠ .over := fun e => by rw [over_none e] at h; cases h
  have e : scanL s (y :: r) i = match SX.step s y with
    | none => (i, false)
    | some s1 => scanL s1 r (i + 1) := if_neg ho
  rw [e, h]
theorem deep_pos : ∀ F : Fo, 1 ≤ F.len → 1 ≤ F.deep
  | .nil, h => absurd h (by decide)
  | .has _ r, _ => by show 1 ≤ max 1 r.deep; omega
  | .node _ _ kids r, _ => by show 1 ≤ max (1 + kids.deep) r.deep; omega
/-- S takes each sign but a closing one as a need's begin over the rows R -/
def Begins (S : LS) (R : List (Int × Int)) (st : Int) : Prop := ∀ y : Str, y ≠ ")" → SX.step S y = SX.step ⟨.need, 0, R, st⟩ y
theorem begins_need {R : List (Int × Int)} {st x : Int} : Begins ⟨.need, x, R, st⟩ R st := fun _ _ => rfl
theorem begins_first {R : List (Int × Int)} {st x : Int} (h5 : R.length ≠ 5) (hr : 1 ≤ 30 - st - owe R) : Begins ⟨.first, x, R, st⟩ ((0, 1) :: R) st := fun y hy => first_need hy h5 hr
theorem fig_text {m : Int} (h : 1 ≤ m ∧ m ≤ 8) : figB (numText m) = true ∧ valB (numText m) = m := by
  have : m = 1 ∨ m = 2 ∨ m = 3 ∨ m = 4 ∨ m = 5 ∨ m = 6 ∨ m = 7 ∨ m = 8 := by omega
  rcases this with e | e | e | e | e | e | e | e <;> subst e <;> decide +kernel
theorem behind_of {m b st : Int} {R : List (Int × Int)} : closed ((m, b) :: R) st = ⟨.behind, 0, (m, b) :: R, st⟩ := by
  unfold closed
  rw [if_neg (by simp)]
/-- the first need of a row; the rest of it -/
def hd1 : Fo → Fo
  | .nil => .nil
  | .has s _ => .has s .nil
  | .node k m kids _ => .node k m kids .nil
def tl1 : Fo → Fo
  | .nil => .nil
  | .has _ r => r
  | .node _ _ _ r => r
theorem words_hd : ∀ F : Fo, F.words = (hd1 F).words ++ (tl1 F).more
  | .nil => rfl
  | .has s r => by simp [hd1, tl1, Fo.words, Fo.more]
  | .node k m kids r => by simp [hd1, tl1, Fo.words, Fo.more]
theorem size_hd : ∀ F : Fo, F.size = (hd1 F).size + (tl1 F).size
  | .nil => rfl
  | .has s r => by show 1 + r.size = 1 + 0 + r.size; omega
  | .node k m kids r => by show 1 + kids.size + r.size = 1 + kids.size + 0 + r.size; omega
def RowLaw (F : Fo) : Prop := ∀ (S : LS) (m b : Int) (R : List (Int × Int)) (st : Int) (rest : List Str) (i : Nat), okF F → 1 ≤ F.len → Begins S ((m, b) :: R) st → b - 1 + F.len ≤ 8 → m ≤ b - 1 + F.len → R.length + 1 + F.deep ≤ 6 → (F.size : Int) + st + owe R ≤ 30 →
    scanL S (F.words ++ ((")" : Str) :: rest)) i = scanL (closed R (st + F.size)) rest (i + F.words.length + 1)
def OneLaw (F : Fo) : Prop := ∀ (S : LS) (R : List (Int × Int)) (st : Int) (rest : List Str) (i : Nat), okF F → 1 ≤ F.len → Begins S R st → R.length + (hd1 F).deep ≤ 6 → ((hd1 F).size : Int) + st + owe R ≤ 30 →
    scanL S ((hd1 F).words ++ rest) i = scanL (closed R (st + (hd1 F).size)) rest (i + (hd1 F).words.length)
/-- the first need of a row -/
theorem run_one : ∀ F : Fo, (∀ k m kids r, F = .node k m kids r → RowLaw kids) → OneLaw F
  | .nil, _ => fun _ _ _ _ _ _ h => absurd h (by decide)
  | .has s r, _ => fun S R st rest i ok _ hb hd hz => by
    have e1 : SX.step S "has" = some ⟨.name, 0, R, st + 1⟩ := by
      rw [hb _ (by decide)]
      show needStep _ R st "has" = _
      unfold needStep
      rw [if_neg (fun q => absurd q.1 (by decide)), if_pos rfl]
    have e2 : SX.step ⟨.name, 0, R, st + 1⟩ s = some (closed R (st + 1)) := by
      show (if nameB s = true then some (closed R (st + 1)) else none) = _
      rw [if_pos ok.1]
    show scanL S ("has" :: s :: ([] ++ rest)) i = _
    rw [scan_cons e1, scan_cons e2]
    rfl
  | .node k m kids r, ih => fun S R st rest i ok _ hb hd hz => by
    obtain ⟨o1, o2, o3, _⟩ := ok
    have hd : R.length + max (1 + kids.deep) 0 ≤ 6 := hd
    have hz : ((1 + kids.size + 0 : Nat) : Int) + st + owe R ≤ 30 := hz
    have fin : ∀ (S2 : LS) (m2 : Int) (j : Nat), Begins S2 ((m2, 1) :: R) (st + 1) → 1 ≤ kids.len → m2 ≤ (kids.len : Int) → scanL S2 (kids.words ++ ((")" : Str) :: rest)) j = scanL (closed R (st + (1 + kids.size + 0 : Nat))) rest (j + kids.words.length + 1) := fun S2 m2 j hb2 hk hm2 => by
      have q := ih k m kids r rfl S2 m2 1 R (st + 1) rest j o3 hk hb2 (by omega) (by omega) (by have := deep_pos kids hk; omega) (by omega)
      rw [q]
      have e : st + 1 + (kids.size : Int) = st + ((1 + kids.size + 0 : Nat) : Int) := by omega
      rw [e]
    have emp : ∀ (j : Nat), kids.len = 0 → scanL ⟨.first, 0, R, st + 1⟩ (kids.words ++ ((")" : Str) :: rest)) j = scanL (closed R (st + (1 + kids.size + 0 : Nat))) rest (j + kids.words.length + 1) := fun j hk => by
      cases kids with
      | nil =>
        show scanL ⟨.first, 0, R, st + 1⟩ ((")" : Str) :: rest) j = _
        rw [scan_cons first_par]
        rfl
      | has s r2 => exact absurd hk (by show ¬ 1 + r2.len = 0; omega)
      | node k2 m2 kids2 r2 => exact absurd hk (by show ¬ 1 + r2.len = 0; omega)
    have esw : ∀ (word : Str), (word = "every" ∨ word = "some") → scanL S (word :: ("(" : Str) :: (kids.words ++ ((")" : Str) :: rest))) i = scanL (closed R (st + (1 + kids.size + 0 : Nat))) rest (i + 2 + kids.words.length + 1) := fun word hw => by
      have hwp : word ≠ ")" := by rcases hw with e | e <;> rw [e] <;> decide
      have e1 : SX.step S word = some ⟨.open, 0, R, st + 1⟩ := by
        rw [hb _ hwp]
        show needStep _ R st word = _
        unfold needStep
        rw [if_neg (fun q => by rcases hw with e | e <;> rw [e] at q <;> exact absurd q.1 (by decide)), if_neg (by rcases hw with e | e <;> rw [e] <;> decide), if_pos hw]
      have e2 : SX.step ⟨.open, 0, R, st + 1⟩ "(" = some ⟨.first, 0, R, st + 1⟩ := by
        rw [step_open, if_pos rfl, if_neg (by decide)]
      rw [scan_cons e1, scan_cons e2]
      by_cases hk : kids.len = 0
      · exact emp (i + 1 + 1) hk
      · have hk1 : 1 ≤ kids.len := by omega
        have := deep_pos kids hk1
        have := len_size kids
        exact fin ⟨.first, 0, R, st + 1⟩ 0 (i + 1 + 1) (begins_first (by omega) (by omega)) hk1 (by omega)
    cases k with
    | every =>
      have q := esw "every" (.inl rfl)
      show scanL S ((([("every" : Str), "("] : List Str) ++ (kids.words ++ ((")" : Str) :: []))) ++ rest) i = scanL _ rest (i + (([("every" : Str), "("] : List Str) ++ (kids.words ++ ((")" : Str) :: []))).length)
      have e1 : (([("every" : Str), "("] : List Str) ++ (kids.words ++ ((")" : Str) :: []))) ++ rest = ("every" : Str) :: ("(" : Str) :: (kids.words ++ ((")" : Str) :: rest)) := by simp
      have e2 : i + (([("every" : Str), "("] : List Str) ++ (kids.words ++ ((")" : Str) :: []))).length = i + 2 + kids.words.length + 1 := by simp; omega
      rw [e1, e2]
      exact q
    | some =>
      have q := esw "some" (.inr rfl)
      show scanL S ((([("some" : Str), "("] : List Str) ++ (kids.words ++ ((")" : Str) :: []))) ++ rest) i = scanL _ rest (i + (([("some" : Str), "("] : List Str) ++ (kids.words ++ ((")" : Str) :: []))).length)
      have e1 : (([("some" : Str), "("] : List Str) ++ (kids.words ++ ((")" : Str) :: []))) ++ rest = ("some" : Str) :: ("(" : Str) :: (kids.words ++ ((")" : Str) :: rest)) := by simp
      have e2 : i + (([("some" : Str), "("] : List Str) ++ (kids.words ++ ((")" : Str) :: []))).length = i + 2 + kids.words.length + 1 := by simp; omega
      rw [e1, e2]
      exact q
    | few =>
      obtain ⟨m1, m2⟩ := o1 rfl
      have hk1 : 1 ≤ kids.len := by omega
      have := deep_pos kids hk1
      have := len_size kids
      have hsm : small m = m := small_ok (by omega)
      obtain ⟨f1, f2⟩ := fig_text (m := m) (by omega)
      have e1 : SX.step S "few" = some ⟨.many, 0, R, st + 1⟩ := by
        rw [hb _ (by decide)]
        show needStep (30 - st - owe R) R st "few" = _
        unfold needStep
        rw [if_pos ⟨rfl, by omega, by omega⟩]
      have e2 : SX.step ⟨.many, 0, R, st + 1⟩ (numText m) = some ⟨.open, m, R, st + 1⟩ := by
        rw [step_many, if_pos ?_, f2]
        unfold numB
        rw [f1, f2, decide_eq_true ⟨by omega, by omega⟩]
        rfl
      have e3 : SX.step ⟨.open, m, R, st + 1⟩ "(" = some ⟨.need, 0, (m, 1) :: R, st + 1⟩ := by
        rw [step_open, if_pos rfl, if_pos (by omega)]
      show scanL S ((([("few" : Str), numText (small m), "("] : List Str) ++ (kids.words ++ ((")" : Str) :: []))) ++ rest) i = scanL _ rest (i + (([("few" : Str), numText (small m), "("] : List Str) ++ (kids.words ++ ((")" : Str) :: []))).length)
      rw [hsm]
      have e4 : (([("few" : Str), numText m, "("] : List Str) ++ (kids.words ++ ((")" : Str) :: []))) ++ rest = ("few" : Str) :: numText m :: ("(" : Str) :: (kids.words ++ ((")" : Str) :: rest)) := by simp
      have e5 : i + (([("few" : Str), numText m, "("] : List Str) ++ (kids.words ++ ((")" : Str) :: []))).length = i + 3 + kids.words.length + 1 := by simp; omega
      rw [e4, e5, scan_cons e1, scan_cons e2, scan_cons e3]
      exact fin _ m (i + 1 + 1 + 1) begins_need hk1 m2
theorem tl1_len : ∀ F : Fo, 1 ≤ F.len → F.len = 1 + (tl1 F).len
  | .nil, h => absurd h (by decide)
  | .has _ _, _ => rfl
  | .node _ _ _ _, _ => rfl
theorem tl1_deep : ∀ F : Fo, (hd1 F).deep ≤ F.deep ∧ (tl1 F).deep ≤ F.deep
  | .nil => ⟨Nat.le_refl _, Nat.le_refl _⟩
  | .has _ r => ⟨by show max 1 0 ≤ max 1 r.deep; omega, by show r.deep ≤ max 1 r.deep; omega⟩
  | .node _ _ kids r => ⟨by show max (1 + kids.deep) 0 ≤ max (1 + kids.deep) r.deep; omega, by show r.deep ≤ max (1 + kids.deep) r.deep; omega⟩
theorem tl1_ok : ∀ F : Fo, okF F → okF (tl1 F)
  | .nil, h => h
  | .has _ _, h => h.2
  | .node _ _ _ _, h => h.2.2.2
/-- a row behind its opening bracket, to its closing one -/
theorem row_step {F : Fo} (h1 : OneLaw F) (hr : RowLaw (tl1 F)) : RowLaw F := fun S m b R st rest i ok hl hb h8 hm hd hz => by
  have e1 := tl1_len F hl
  obtain ⟨d1, d2⟩ := tl1_deep F
  have es := size_hd F
  have hs1 := len_size (tl1 F)
  have ho : owe ((m, b) :: R) = max 0 (m - b) + owe R := rfl
  rw [words_hd F, List.append_assoc, h1 S ((m, b) :: R) st _ i ok hl hb (by show R.length + 1 + _ ≤ 6; omega) (by rw [ho]; omega), behind_of]
  by_cases ht : (tl1 F).len = 0
  · have et : (tl1 F).more = [] ∧ (tl1 F).size = 0 := by
      cases q : tl1 F with
      | nil => exact ⟨rfl, rfl⟩
      | has s r => rw [q] at ht; exact absurd ht (by show ¬ 1 + r.len = 0; omega)
      | node k m kids r => rw [q] at ht; exact absurd ht (by show ¬ 1 + r.len = 0; omega)
    rw [et.1, List.append_nil]
    have e3 : SX.step ⟨.behind, 0, (m, b) :: R, st + ((hd1 F).size : Int)⟩ ")" = some (closed R (st + ((hd1 F).size : Int))) := by
      rw [step_behind, if_pos ⟨rfl, by omega⟩]
    show scanL _ ((")" : Str) :: rest) _ = _
    rw [scan_cons e3]
    have e4 : F.size = (hd1 F).size := by omega
    rw [e4]
  · have ht1 : 1 ≤ (tl1 F).len := by omega
    have em : (tl1 F).more = ("," : Str) :: (tl1 F).words := by rw [Fo.more_eq, if_neg ht]
    have e3 : SX.step ⟨.behind, 0, (m, b) :: R, st + ((hd1 F).size : Int)⟩ "," = some ⟨.need, 0, (m, b + 1) :: R, st + ((hd1 F).size : Int)⟩ := by
      rw [step_behind, if_neg (fun q => by have := q.1; rw [comma_ne] at this; exact this), if_pos ⟨rfl, by omega, by omega⟩]
    rw [em]
    show scanL _ (("," : Str) :: ((tl1 F).words ++ ((")" : Str) :: rest))) _ = _
    rw [scan_cons e3, hr ⟨.need, 0, (m, b + 1) :: R, st + ((hd1 F).size : Int)⟩ m (b + 1) R (st + ((hd1 F).size : Int)) rest _ (tl1_ok F ok) ht1 begins_need (by omega) (by omega) (by omega) (by omega)]
    have e4 : st + ((hd1 F).size : Int) + ((tl1 F).size : Int) = st + (F.size : Int) := by omega
    have e5 : i + (hd1 F).words.length + 1 + (tl1 F).words.length + 1 = i + ((hd1 F).words ++ (("," : Str) :: (tl1 F).words)).length + 1 := by
      rw [List.length_append, List.length_cons]
      omega
    rw [e4, e5]
theorem row_law : ∀ F : Fo, RowLaw F
  | .nil => fun _ _ _ _ _ _ _ _ h => absurd h (by decide)
  | .has s r => row_step (run_one (.has s r) fun _ _ _ _ e => nomatch e) (row_law r)
  | .node k m kids r => row_step (run_one (.node k m kids r) fun _ _ _ _ e => by cases e; exact row_law kids) (row_law r)
theorem one_law (F : Fo) : OneLaw F := run_one F fun _ _ kids _ _ => row_law kids
/-- THE TEXT OF A NEED IS READ -/
theorem words_read {F : Fo} (ok : okF F) (h1 : F.len = 1) (hd : F.deep ≤ 6) (hs : F.size ≤ 30) : dueOf F.words = none := by
  have ht : tl1 F = .nil := by
    cases F with
    | nil => cases h1
    | has s r =>
      cases r with
      | nil => rfl
      | has s2 r2 => exact absurd h1 (by show ¬ 1 + (1 + r2.len) = 1; omega)
      | node k m kids r2 => exact absurd h1 (by show ¬ 1 + (1 + r2.len) = 1; omega)
    | node k m kids r =>
      cases r with
      | nil => rfl
      | has s2 r2 => exact absurd h1 (by show ¬ 1 + (1 + r2.len) = 1; omega)
      | node k2 m2 kids2 r2 => exact absurd h1 (by show ¬ 1 + (1 + r2.len) = 1; omega)
  have ew : F.words = (hd1 F).words := by rw [words_hd F, ht]; simp [Fo.more]
  obtain ⟨d1, _⟩ := tl1_deep F
  have es := size_hd F
  have q := one_law F start0 [] 0 [] 0 ok (by omega) begins_need (by show 0 + _ ≤ 6; omega) (by show ((hd1 F).size : Int) + 0 + 0 ≤ 30; omega)
  rw [List.append_nil, ← ew] at q
  unfold dueOf
  rw [q]
  show (match ((0 + F.words.length, decide ((closed [] (0 + ((hd1 F).size : Int))).ph = .over)) : Nat × Bool) with
    | (k, true) => if k = F.words.length then none else some k
    | (k, false) => some k) = none
  have e : decide ((closed [] (0 + ((hd1 F).size : Int))).ph = .over) = true := decide_eq_true (by unfold closed; rw [if_pos rfl])
  rw [e]
  exact if_pos (by omega)
end K80

set_option Elab.async false
set_option linter.all false
set_option maxRecDepth 100000
set_option maxHeartbeats 4000000
/-! plain: a text is that of one need alone -/
namespace K80
open PySem PySem.Spec PyProof.Rows L2 SX TL
/-- numbers where they are told alone -/
def nrm : Fo → Fo
  | .nil => .nil
  | .has s r => .has s (nrm r)
  | .node .few m kids r => .node .few (small m) (nrm kids) (nrm r)
  | .node k _ kids r => .node k 0 (nrm kids) (nrm r)
theorem small_small (m : Int) : small (small m) = small m := small_ok (small_bd m)
theorem needs_nrm {K : PySem.W.Frag} {H : Hp} : ∀ {F : Fo} {vs : List V}, NeedsAt K H F vs → NeedsAt K H (nrm F) vs
  | .nil, _, h => h
  | .has s r, _, ⟨a, dx, vs', e, h, t⟩ => ⟨a, dx, vs', e, h, needs_nrm t⟩
  | .node .every m kids r, _, ⟨a, dx, p, kvs, vs', e, h, hp, tk, t⟩ => ⟨a, dx, p, kvs, vs', e, h, hp, needs_nrm tk, needs_nrm t⟩
  | .node .some m kids r, _, ⟨a, dx, p, kvs, vs', e, h, hp, tk, t⟩ => ⟨a, dx, p, kvs, vs', e, h, hp, needs_nrm tk, needs_nrm t⟩
  | .node .few m kids r, _, ⟨a, dx, p, kvs, vs', e, h, hp, tk, t⟩ => ⟨a, dx, p, kvs, vs', e, by
      have q : nodeO K .few (small m) dx p = nodeO K .few m dx p := by
        unfold nodeO
        rw [small_small]
      rw [q]
      exact h, hp, needs_nrm tk, needs_nrm t⟩
theorem nrm_len : ∀ F : Fo, (nrm F).len = F.len
  | .nil => rfl
  | .has s r => by show 1 + (nrm r).len = 1 + r.len; rw [nrm_len r]
  | .node .every m kids r => by show 1 + (nrm r).len = 1 + r.len; rw [nrm_len r]
  | .node .some m kids r => by show 1 + (nrm r).len = 1 + r.len; rw [nrm_len r]
  | .node .few m kids r => by show 1 + (nrm r).len = 1 + r.len; rw [nrm_len r]
theorem nrm_size : ∀ F : Fo, (nrm F).size = F.size
  | .nil => rfl
  | .has s r => by show 1 + (nrm r).size = 1 + r.size; rw [nrm_size r]
  | .node .every m kids r => by show 1 + (nrm kids).size + (nrm r).size = 1 + kids.size + r.size; rw [nrm_size r, nrm_size kids]
  | .node .some m kids r => by show 1 + (nrm kids).size + (nrm r).size = 1 + kids.size + r.size; rw [nrm_size r, nrm_size kids]
  | .node .few m kids r => by show 1 + (nrm kids).size + (nrm r).size = 1 + kids.size + r.size; rw [nrm_size r, nrm_size kids]
theorem nrm_deep : ∀ F : Fo, (nrm F).deep = F.deep
  | .nil => rfl
  | .has s r => by show max 1 (nrm r).deep = max 1 r.deep; rw [nrm_deep r]
  | .node .every m kids r => by show max (1 + (nrm kids).deep) (nrm r).deep = max (1 + kids.deep) r.deep; rw [nrm_deep r, nrm_deep kids]
  | .node .some m kids r => by show max (1 + (nrm kids).deep) (nrm r).deep = max (1 + kids.deep) r.deep; rw [nrm_deep r, nrm_deep kids]
  | .node .few m kids r => by show max (1 + (nrm kids).deep) (nrm r).deep = max (1 + kids.deep) r.deep; rw [nrm_deep r, nrm_deep kids]
/-- an end, or a closing sign -/
def Endy (x : List Str) : Prop := ∀ y z, x = y :: z → y = ")"
theorem endy_nil : Endy [] := fun _ _ h => nomatch h
theorem endy_par {z : List Str} : Endy ((")" : Str) :: z) := fun _ _ h => by cases h; rfl
theorem num_inj {m n : Int} (h : numText (small m) = numText (small n)) : small m = small n := by
  have q := congrArg PySem.intText? h
  unfold numText at q
  obtain ⟨a1, a2⟩ := small_bd m
  obtain ⟨b1, b2⟩ := small_bd n
  rw [PySem.W.KIN.num_reads a1 (by omega), PySem.W.KIN.num_reads b1 (by omega)] at q
  exact Option.some.inj q
/-- the first word of a row -/
theorem words_first : ∀ F : Fo, 1 ≤ F.len → ∃ y z, F.words = y :: z ∧ y ≠ ")" ∧ y ≠ ","
  | .nil, h => absurd h (by decide)
  | .has s r, _ => ⟨"has", s :: r.more, rfl, by decide, by decide⟩
  | .node .every m kids r, _ => ⟨"every", _, rfl, by decide, by decide⟩
  | .node .some m kids r, _ => ⟨"some", _, rfl, by decide, by decide⟩
  | .node .few m kids r, _ => ⟨"few", _, rfl, by decide, by decide⟩
theorem len_cases (F : Fo) : F = .nil ∨ 1 ≤ F.len := by
  cases F with
  | nil => exact .inl rfl
  | has s r => exact .inr (by show 1 ≤ 1 + r.len; omega)
  | node k m kids r => exact .inr (by show 1 ≤ 1 + r.len; omega)
def InjW (F : Fo) : Prop := ∀ (G : Fo) (x y : List Str), 1 ≤ F.len → 1 ≤ G.len → Endy x → Endy y → F.words ++ x = G.words ++ y → nrm F = nrm G ∧ x = y
def InjM (F : Fo) : Prop := ∀ (G : Fo) (x y : List Str), Endy x → Endy y → F.more ++ x = G.more ++ y → nrm F = nrm G ∧ x = y
theorem injM {F : Fo} (h : InjW F) : InjM F := fun G x y ex ey e => by
  rcases len_cases F with rfl | hF
  · rcases len_cases G with rfl | hG
    · exact ⟨rfl, e⟩
    · rw [show G.more = ("," : Str) :: G.words by rw [Fo.more_eq, if_neg (by omega)]] at e
      have q := ex "," _ e
      exact absurd q (by decide)
  · have e1 : F.more = ("," : Str) :: F.words := by rw [Fo.more_eq, if_neg (by omega)]
    rcases len_cases G with rfl | hG
    · rw [e1] at e
      have q := ey "," _ e.symm
      exact absurd q (by decide)
    · rw [e1, show G.more = ("," : Str) :: G.words by rw [Fo.more_eq, if_neg (by omega)]] at e
      injection e with _ e
      exact h G x y hF hG ex ey e
/-- a bracket's inside, and what follows it -/
theorem inj_in {kids kids2 r r2 : Fo} {x y : List Str} (hk : InjW kids) (hr : InjM r) (ex : Endy x) (ey : Endy y) (e : kids.words ++ ((")" : Str) :: (r.more ++ x)) = kids2.words ++ ((")" : Str) :: (r2.more ++ y))) : nrm kids = nrm kids2 ∧ nrm r = nrm r2 ∧ x = y := by
  have fin : ((")" : Str) :: (r.more ++ x)) = ((")" : Str) :: (r2.more ++ y)) → nrm r = nrm r2 ∧ x = y := fun q => by
    injection q with _ q
    exact hr r2 x y ex ey q
  rcases len_cases kids with rfl | h1
  · rcases len_cases kids2 with rfl | h2
    · exact ⟨rfl, fin e⟩
    · obtain ⟨y1, z1, q1, q2, _⟩ := words_first kids2 h2
      rw [q1] at e
      injection e with e _
      exact absurd e.symm q2
  · rcases len_cases kids2 with rfl | h2
    · obtain ⟨y1, z1, q1, q2, _⟩ := words_first kids h1
      rw [q1] at e
      injection e with e _
      exact absurd e q2
    · obtain ⟨a, b⟩ := hk kids2 _ _ h1 h2 endy_par endy_par e
      exact ⟨a, fin b⟩
theorem inj_word : ∀ F : Fo, InjW F
  | .nil => fun _ _ _ h => absurd h (by decide)
  | .has s r => fun G x y _ hg ex ey e => by
    have hr := injM (inj_word r)
    cases G with
    | nil => exact absurd hg (by decide)
    | has s2 r2 =>
      have e2 : ("has" : Str) :: s :: (r.more ++ x) = ("has" : Str) :: s2 :: (r2.more ++ y) := by simpa [Fo.words, hasw] using e
      injection e2 with _ e2
      injection e2 with e3 e4
      obtain ⟨h1, h2⟩ := hr r2 x y ex ey e4
      exact ⟨by simp only [nrm]; rw [e3, h1], h2⟩
    | node k m kids r2 =>
      cases k <;> (simp only [Fo.words, hasw, Kd.headw, List.cons_append] at e; injection e with e _; exact absurd e (by decide))
  | .node k m kids r => fun G x y _ hg ex ey e => by
    have hk := inj_word kids
    have hr := injM (inj_word r)
    cases G with
    | nil => exact absurd hg (by decide)
    | has s2 r2 =>
      cases k <;> (simp only [Fo.words, hasw, Kd.headw, List.cons_append] at e; injection e with e _; exact absurd e (by decide))
    | node k2 m2 kids2 r2 =>
      have same : k = k2 := by
        cases k <;> cases k2 <;> first | rfl | (simp only [Fo.words, Kd.headw, List.cons_append] at e; injection e with e _; exact absurd e (by decide))
      subst same
      cases k with
      | few =>
        have e2 : ("few" : Str) :: numText (small m) :: ("(" : Str) :: (kids.words ++ ((")" : Str) :: (r.more ++ x))) = ("few" : Str) :: numText (small m2) :: ("(" : Str) :: (kids2.words ++ ((")" : Str) :: (r2.more ++ y))) := by simpa [Fo.words, Kd.headw] using e
        injection e2 with _ e2
        injection e2 with e3 e2
        injection e2 with _ e2
        obtain ⟨h1, h2, h3⟩ := inj_in hk hr ex ey e2
        exact ⟨by simp only [nrm]; rw [num_inj e3, h1, h2], h3⟩
      | every =>
        have e2 : ("every" : Str) :: ("(" : Str) :: (kids.words ++ ((")" : Str) :: (r.more ++ x))) = ("every" : Str) :: ("(" : Str) :: (kids2.words ++ ((")" : Str) :: (r2.more ++ y))) := by simpa [Fo.words, Kd.headw] using e
        injection e2 with _ e2
        injection e2 with _ e2
        obtain ⟨h1, h2, h3⟩ := inj_in hk hr ex ey e2
        exact ⟨by simp only [nrm]; rw [h1, h2], h3⟩
      | some =>
        have e2 : ("some" : Str) :: ("(" : Str) :: (kids.words ++ ((")" : Str) :: (r.more ++ x))) = ("some" : Str) :: ("(" : Str) :: (kids2.words ++ ((")" : Str) :: (r2.more ++ y))) := by simpa [Fo.words, Kd.headw] using e
        injection e2 with _ e2
        injection e2 with _ e2
        obtain ⟨h1, h2, h3⟩ := inj_in hk hr ex ey e2
        exact ⟨by simp only [nrm]; rw [h1, h2], h3⟩
/-- A TEXT IS THAT OF ONE NEED -/
theorem words_one {F G : Fo} (h1 : 1 ≤ F.len) (h2 : 1 ≤ G.len) (e : F.words = G.words) : nrm F = nrm G :=
  (inj_word F G [] [] h1 h2 endy_nil endy_nil (by rw [e])).1
end K80

set_option Elab.async false
set_option linter.all false
set_option maxRecDepth 100000
set_option maxHeartbeats 4000000
/-! the law's plain needs: nested tuples -/
namespace K80
open PySem PySem.Spec PyProof.Rows L2 SX
open He (ga ma)
def _root_.SX.Kd.phead (k : Kd) (m : Int) : List V := match k with
  | .few => [.str "few", .int (small m)]
  | .every => [.str "every"]
  | .some => [.str "some"]
/-- the values vs are the plain needs of a row -/
def PlainsAt (H : Hp) : Fo → List V → Prop
  | .nil, vs => vs = []
  | .has s r, vs => ∃ a vs', vs = .ref a :: vs' ∧ H a = some (.tup [.str "has", .str s]) ∧ PlainsAt H r vs'
  | .node k m kids r, vs => ∃ a kvs vs', vs = .ref a :: vs' ∧ H a = some (.tup (k.phead m ++ kvs)) ∧ PlainsAt H kids kvs ∧ PlainsAt H r vs'
section
variable {H H' : Hp}
theorem PlainsAt.len : ∀ {F : Fo} {vs : List V}, PlainsAt H F vs → vs.length = F.len
  | .nil, _, h => by rw [show _ = [] from h]; rfl
  | .has s r, _, ⟨_, _, e, _, t⟩ => by
    rw [e, List.length_cons, t.len]
    exact Nat.add_comm _ _
  | .node k m kids r, _, ⟨_, _, _, e, _, _, t⟩ => by
    rw [e, List.length_cons, t.len]
    exact Nat.add_comm _ _
theorem PlainsAt.grow (g : ∀ p o, H p = some o → H' p = some o) : ∀ {F : Fo} {vs : List V}, PlainsAt H F vs → PlainsAt H' F vs
  | .nil, _, h => h
  | .has s r, _, ⟨a, vs', e, h, t⟩ => ⟨a, vs', e, g _ _ h, t.grow g⟩
  | .node k m kids r, _, ⟨a, kvs, vs', e, h, tk, t⟩ => ⟨a, kvs, vs', e, g _ _ h, tk.grow g, t.grow g⟩
theorem PlainsAt.app : ∀ {F G : Fo} {vs ws : List V}, PlainsAt H F vs → PlainsAt H G ws → PlainsAt H (F.app G) (vs ++ ws)
  | .nil, _, _, _, h, t => by rw [show _ = [] from h]; exact t
  | .has s r, _, _, _, ⟨a, vs', e, h, t⟩, u => ⟨a, vs' ++ _, by rw [e]; rfl, h, t.app u⟩
  | .node k m kids r, _, _, _, ⟨a, kvs, vs', e, h, tk, t⟩, u => ⟨a, kvs, vs' ++ _, by rw [e]; rfl, h, tk, t.app u⟩
theorem PlainsAt.get : ∀ {F : Fo} {vs : List V} {i : Nat} {v : V}, PlainsAt H F vs → vs[i]? = some v → PlainsAt H (F.at i) [v] ∧ (F.at i).deep ≤ F.deep ∧ 1 ≤ (F.at i).deep ∧ (F.at i).len = 1
  | .nil, _, _, _, h, e => by
    rw [show _ = [] from h] at e
    cases e
  | .has s r, _, 0, v, ⟨a, vs', e, h, t⟩, q => by
    subst e
    cases q
    exact ⟨⟨a, [], rfl, h, rfl⟩, by show max 1 0 ≤ max 1 _; omega, Nat.le_refl _, rfl⟩
  | .has s r, _, i + 1, v, ⟨a, vs', e, h, t⟩, q => by
    subst e
    obtain ⟨h1, h2, h3, h4⟩ := t.get (i := i) q
    exact ⟨h1, Nat.le_trans h2 (Nat.le_max_right _ _), h3, h4⟩
  | .node k m kids r, _, 0, v, ⟨a, kvs, vs', e, h, tk, t⟩, q => by
    subst e
    cases q
    exact ⟨⟨a, kvs, [], rfl, h, tk, rfl⟩, by show max (1 + kids.deep) 0 ≤ max (1 + kids.deep) _; omega, by show 1 ≤ max (1 + kids.deep) 0; omega, rfl⟩
  | .node k m kids r, _, i + 1, v, ⟨a, kvs, vs', e, h, tk, t⟩, q => by
    subst e
    obtain ⟨h1, h2, h3, h4⟩ := t.get (i := i) q
    exact ⟨h1, Nat.le_trans h2 (Nat.le_max_right _ _), h3, h4⟩
end
section
variable {P : Program} {w : World} {K : PySem.W.Frag} {mg : Str → Option Value} {base : Heap}
theorem sc__law_need_items : FnScope ["need", "found", "parts", "at", "part"] ["need"] (defScope s__law_need_items) := ⟨rfl, rfl, rfl, by decide +kernel, rfl, by decide +kernel, by decide +kernel⟩
def sp_pitems (d : Nat) : Sp := fun vs H Q _ => ∃ (v : V) (F : Fo), vs = [v] ∧ PlainsAt H F [v] ∧ F.len = 1 ∧ F.size ≤ 1000 ∧ F.deep ≤ d ∧ ∀ l H', Grow H H' → H' l = some (.lst (F.words.map V.str)) → Q (.ref l) H'
theorem at0 {x : V} {r : List V} : atI (x :: r) 0 = some x := by
  unfold atI ixN
  rw [if_pos (by decide)]
  rw [List.length_cons, if_pos (by omega)]
  rfl
theorem at1 {x y : V} {r : List V} : atI (x :: y :: r) 1 = some y := by
  unfold atI ixN
  rw [if_pos (by decide)]
  rw [List.length_cons, List.length_cons, if_pos (by omega)]
  rfl
theorem sqT_grow {K : PySem.W.Frag} {H H' : Hp} {a : Addr} {xs : List V} (h : SqT K H a xs) (g : Grow H H') : SqT K H' a xs := by
  rcases h with h | h
  · rcases h with h | ⟨o, h⟩
    · exact .inl (.inl (g _ _ h))
    · exact .inl (.inr ⟨o, g _ _ h⟩)
  · exact .inr h
theorem phead_asg {σ : L2.St} {H : Hp} {D : Ends} {a : Addr} {k : Kd} {m : Int} {kvs : List V} (h0 : σ[0]? = some (some (.ref a))) (ha : H a = some (.tup (k.phead m ++ kvs))) (hk : kvs.length ≤ 1000)
    (h : ∀ l t H', Grow H H' → H' l = some (.lst ((k.headw m).map V.str)) → SqT K H' t kvs → D.nx ((σ.set 1 (some (.ref l))).set 2 (some (.ref t))) H') :
    tAsg (tIf (tTest (tOp rEq (tOp (rIx K) (tVar 0) (tC (V.int 0))) (tC (V.str "few"))))
      (tTup (tCons (tLst (tCons (tOp (rIx K) (tVar 0) (tC (V.int 0))) (tCons (tCB (fun xs H Q => ∃ i : Int, xs = [V.int i] ∧ i.natAbs.log2 < 1920 ∧ Q (V.str (Str.ofString (toString i))) H) (tCons (tOp (rIx K) (tVar 0) (tC (V.int 1))) tNil)) (tCons (tC (V.str "(")) tNil)))) (tCons (tSl (rSlA K) (tVar 0) (L2.tPart (tC (V.int 2))) L2.tNoPart) tNil)))
      (tTup (tCons (tLst (tCons (tOp (rIx K) (tVar 0) (tC (V.int 0))) (tCons (tC (V.str "(")) tNil))) (tCons (tSl (rSlA K) (tVar 0) (L2.tPart (tC (V.int 1))) L2.tNoPart) tNil)))) (gTup K 2 (gCons (gName 1) (gCons (gName 2) gNil))) D σ H := by
  have p0 : atI (k.phead m ++ kvs) 0 = some (.str k.word) := by cases k <;> exact at0
  refine ⟨_, h0, .inr (.inl ⟨a, _, 0, _, rfl, rfl, SqT.of ha, p0, rfl, _, rfl, ?_⟩)⟩
  rw [str_dec]
  have fin : ∀ (l : Addr) (H1 : Hp) (t : Addr) (H2 : Hp), Grow H H1 → H1 l = some (.lst ((k.headw m).map V.str)) → Grow H1 H2 → SqT K H2 t kvs → ∀ u, H2 u = none → gTup K 2 (gCons (gName 1) (gCons (gName 2) gNil)) (.ref u) σ (upd H2 u (.tup [.ref l, .ref t])) D.nx := fun l H1 t H2 g1 el g2 et u hu =>
    ⟨u, _, rfl, SqT.of upd_same, rfl, _, _, rfl, _, _, rfl, rfl, h l t _ (g1.trans (g2.trans (Grow.new hu))) (Grow.new hu _ _ (g2 _ _ el)) (sqT_grow et (Grow.new hu))⟩
  have cut : ∀ n, n = (k.phead m).length → ∀ (l : Addr) (H1 : Hp), Grow H H1 → H1 l = some (.lst ((k.headw m).map V.str)) → rSlA K (.ref a) (some ((n : Nat) : Int)) none H1 fun y H2 => 2 ≤ sizeLine ∧ ∀ u, H2 u = none → gTup K 2 (gCons (gName 1) (gCons (gName 2) gNil)) (.ref u) σ (upd H2 u (.tup [.ref l, y])) D.nx := fun n hn l H1 g1 el => by
    have ha1 := g1 _ _ ha
    have hp : 1 ≤ (k.phead m).length := by cases k <;> exact Nat.le_of_ble_eq_true rfl
    have q : HT.sIx (k.phead m ++ kvs).length 0 (some ((n : Nat) : Int)) = n := by
      rw [HT.sIx_nat, List.length_append]
      omega
    refine ⟨a, _, rfl, SqT.of ha1, fun hw => ?_, fun hw u hu => ⟨by decide, fun u2 hu2 => fin l H1 u _ g1 el (Grow.new hu) (SqT.of ?_) u2 hu2⟩⟩
    · rw [q] at hw
      exact absurd hw.1 (by omega)
    · rw [upd_same]
      unfold cutV
      rw [q, HT.sIx_none, hn, List.drop_left, List.length_append, Nat.add_sub_cancel_left, List.take_length]
  by_cases e : k = .few
  · subst e
    obtain ⟨b1, b2⟩ := small_bd m
    refine iteT ⟨_, h0, .inr (.inl ⟨a, _, 0, _, rfl, rfl, SqT.of ha, at0, _, h0, .inr (.inl ⟨a, _, 1, _, rfl, rfl, SqT.of ha, at1, _, rfl, ?_, by show 3 ≤ sizeLine; decide, fun l hl => ⟨_, h0, 2, rfl, cut 2 rfl l _ (Grow.new hl) upd_same⟩⟩)⟩)⟩
    exact Nat.lt_of_le_of_lt (Nat.log2_le_self _) (by omega)
  · rw [decide_eq_false (by cases k <;> first | decide | exact absurd rfl e)]
    refine iteF ⟨_, h0, .inr (.inl ⟨a, _, 0, _, rfl, rfl, SqT.of ha, p0, by show 2 ≤ sizeLine; decide, fun l hl => ⟨_, h0, 1, rfl, cut 1 (by cases k <;> first | rfl | exact absurd rfl e) l _ (Grow.new hl) ?_⟩⟩)⟩
    rw [upd_same]
    cases k with
    | every => rfl
    | some => rfl
    | few => exact absurd rfl e
theorem sep_cat3 {σ : L2.St} {H : Hp} {Q : VK} {l : Addr} {i : Int} {ws : List Str} (h1 : σ[1]? = some (some (.ref l))) (h2 : σ[3]? = some (some (.int i))) (hl : H l = some (.lst (ws.map V.str))) (hz : ws.length ≤ 100000) (hi : 0 ≤ i)
    (h : ∀ q H', Grow H H' → H' q = some (.lst ((ws ++ (if i = 0 then [] else [(",": Str)])).map V.str)) → Q (.ref q) H') :
    tOp rCat (tVar 1) (tIf (tTest (tOp (rI0 fun i j => V.bl (decide (j < i))) (tVar 3) (tC (V.int 0)))) (tLst (tCons (tC (V.str (","))) tNil)) (tLst tNil)) σ H Q := by
  refine ⟨_, h1, _, h2, _, _, rfl, rfl, _, rfl, ?_⟩
  by_cases hc : i = 0
  · subst hc
    rw [if_pos rfl] at h
    refine iteF ⟨Nat.zero_le _, fun p hp => ⟨l, p, _, _, rfl, rfl, Grow.new hp _ _ hl, upd_same, by rw [List.length_map, sizeLine_eq]; show _ + 0 ≤ _; omega, fun q hq => h q _ ((Grow.new hp).trans (Grow.new hq)) (by rw [upd_same, List.append_nil, List.append_nil])⟩⟩
  · rw [if_neg hc] at h
    rw [decide_eq_true (by omega)]
    refine iteT ⟨by show 1 ≤ sizeLine; decide, fun p hp => ⟨l, p, _, _, rfl, rfl, Grow.new hp _ _ hl, upd_same, by rw [List.length_map, sizeLine_eq]; show _ + 1 ≤ _; omega, fun q hq => h q _ ((Grow.new hp).trans (Grow.new hq)) (by rw [upd_same, List.map_append]; rfl)⟩⟩
theorem ok_pitems (z : Z P w K mg base) : ∃ fd, (∀ d, FnOk P w K mg base (L2.CX P w) (1 + d) (ga K "_law_need_items") fd ["need"] (sp_pitems d)) ∧ Binds K fd ["need"] [] := by
  obtain ⟨fd, F⟩ := z.f__law_need_items
  have b : Binds K fd ["need"] [] := F.bindsN fun _ _ _ _ _ _ us hl => match us, hl with | [_], _ => rfl
  refine ⟨fd, fun d => ?_, b⟩
  have nd := sc__law_need_items.nd
  induction d with
  | zero =>
    refine F.ok sc__law_need_items (fun vs H Q E h => ?_) (fun cdv A outer s H vs Q E hr h => ?_)
    · obtain ⟨_, _, rfl, _⟩ := h
      rfl
    · obtain ⟨v, F, rfl, hF, h1, _, h2, _⟩ := h
      cases F with
      | nil => cases h1
      | has s r => exact absurd h2 (by show ¬ max 1 r.deep ≤ 0; omega)
      | node k m kids r => exact absurd h2 (by show ¬ max (1 + kids.deep) r.deep ≤ 0; omega)
  | succ d G =>
    refine F.ok sc__law_need_items (fun vs H Q E h => ?_) (fun cdv A outer s H vs Q E hr h => ?_)
    · obtain ⟨_, _, rfl, _⟩ := h
      rfl
    · obtain ⟨v, F, rfl, hF, h1, hs, h2, hQ⟩ := h
      refine ⟨_, pss_cons (ps_if (pt_cmpR op_eq (pe_ix ix_seq (pv 0) pe_int fun _ _ => rfl) pe_str (nomark _)) (pss_one (ps_ret (pe_lst (pa_cons pe_str (pa_cons (pe_ix ix_seq (pv 0) pe_int fun _ _ => rfl) pa_nil))))) pss_nil)
        (pss_cons (ps_asg (pe_ifExp (pt_cmpR op_eq (pe_ix ix_seq (pv 0) pe_int fun _ _ => rfl) pe_str (nomark _)) (pe_tup (pa_cons (pe_lst (pa_cons (pe_ix ix_seq (pv 0) pe_int fun _ _ => rfl) (pa_cons (pe_callTy call_str_int rfl z.b_str (by decide +kernel) (pa_cons (pe_ix ix_seq (pv 0) pe_int fun _ _ => rfl) pa_nil)) (pa_cons pe_str pa_nil)))) (pa_cons (pe_slice sl_tupA (pv 0) (po_some pe_int) po_none) pa_nil))) (pe_tup (pa_cons (pe_lst (pa_cons (pe_ix ix_seq (pv 0) pe_int fun _ _ => rfl) (pa_cons pe_str pa_nil))) (pa_cons (pe_slice sl_tupA (pv 0) (po_some pe_int) po_none) pa_nil)))) (pg_tup rfl (pgs_cons (pg_name (i := 1) nd rfl (Or.inl rfl)) (pgs_cons (pg_name (i := 2) nd rfl (Or.inl rfl)) pgs_nil))))
        (pss_cons (ps_for PassesOwn.leaving rfl (pi_enumT rfl z.b_enumerate (pa_cons (pv 2) pa_nil)) (pg_tup rfl (pgs_cons (pg_name (i := 3) nd rfl (Or.inl rfl)) (pgs_cons (pg_name (i := 4) nd rfl (Or.inl rfl)) pgs_nil))) (pss_one (ps_set (i := 1) nd rfl (Or.inl rfl) (pe_op op_cat (pe_op op_cat (pv 1) (pe_ifExp (pt_cmpR op_gt (pv 3) pe_int (nomark _)) (pe_lst (pa_cons pe_str pa_nil)) (pe_lst pa_nil))) (pe_call G hr rfl z.g__law_need_items z.k__law_need_items b .nil passF (pa_cons (pv 4) pa_nil))))))
        (pss_one (ps_ret (pe_op op_cat (pv 1) (pe_lst (pa_cons pe_str pa_nil))))))), ?_⟩
      cases F with
      | nil => cases h1
      | has s r =>
        obtain ⟨a, vs', e, ha, t⟩ := hF
        have h1 : 1 + r.len = 1 := h1
        have hr0 := len_zero (F := r) (by omega)
        subst hr0
        cases e
        refine ⟨_, rfl, .inr (.inl ⟨a, _, 0, _, rfl, rfl, SqT.of ha, at0, rfl, _, rfl, ?_⟩)⟩
        exact iteT ⟨_, rfl, .inr (.inl ⟨a, _, 1, _, rfl, rfl, SqT.of ha, at1, by show 2 ≤ sizeLine; decide, fun q hq => hQ q _ (Grow.new hq) upd_same⟩)⟩
      | node k m kids r =>
        obtain ⟨a, kvs, vs', e, ha, tk, t⟩ := hF
        have h1 : 1 + r.len = 1 := h1
        have hr0 := len_zero (F := r) (by omega)
        subst hr0
        cases e
        have p0 : atI (k.phead m ++ kvs) 0 = some (.str k.word) := by cases k <;> exact at0
        refine ⟨_, rfl, .inr (.inl ⟨a, _, 0, _, rfl, rfl, SqT.of ha, p0, rfl, _, rfl, ?_⟩)⟩
        rw [str_dec, decide_eq_false (by cases k <;> decide)]
        have hn := tk.len
        have hd : kids.deep ≤ d := by
          have e : max (1 + kids.deep) 0 ≤ d + 1 := h2
          omega
        have hks : kids.size ≤ 1000 := by
          have e : 1 + kids.size + 0 ≤ 1000 := hs
          omega
        have hh : (k.headw m).length ≤ 3 := by cases k <;> exact Nat.le_of_ble_eq_true rfl
        have wl : ∀ i, (k.headw m ++ (Fo.pre kids i).words).length ≤ 10000 := fun i => by
          have u1 := (words_len (Fo.pre kids i)).1
          have u2 := pre_size kids i
          rw [List.length_append]
          omega
        refine iteF (phead_asg rfl ha (by have := len_size kids; omega) fun l1 t1 H1 g1 e1 et => ?_)
        refine ⟨_, rfl, t1, kvs, rfl, et, ?_⟩
        refine for_it walk_enumT (fun i σ' H' => Grow H1 H' ∧ σ'.length = 5 ∧ ∃ l, σ'[1]? = some (some (.ref l)) ∧ H' l = some (.lst ((k.headw m ++ (Fo.pre kids i).words).map V.str))) ⟨Grow.refl _, rfl, l1, rfl, ?_⟩ (fun i σ' H' _ q => sqT_grow et q.1) (fun i x σ' H2 H3 hi q y => ?_) fun σ' H2 q => ?_
        · rw [e1]
          simp [Fo.pre, Fo.words]
        · obtain ⟨g, q1, l, q2, q3⟩ := q
          obtain ⟨T, i', x', rfl, hT, rfl, ei, hx⟩ := y
          cases ei
          obtain ⟨n1, n2, n3, n4⟩ := tk.get hx
          have gT : Grow H2 (upd H2 T (.tup [.int (i : Nat), x'])) := Grow.new hT
          refine ⟨T, _, rfl, SqT.of upd_same, rfl, _, _, rfl, _, _, rfl, rfl, ?_⟩
          have s1 : ((σ'.set 3 (some (V.int (i : Nat)))).set 4 (some x'))[1]? = some (some (.ref l)) := by
            rw [List.getElem?_set_ne (by decide), List.getElem?_set_ne (by decide)]
            exact q2
          have s2 : ((σ'.set 3 (some (V.int (i : Nat)))).set 4 (some x'))[3]? = some (some (.int (i : Nat))) := by
            rw [List.getElem?_set_ne (by decide), List.getElem?_set_self (by omega)]
          have s3 : ((σ'.set 3 (some (V.int (i : Nat)))).set 4 (some x'))[4]? = some (some x') := by
            rw [List.getElem?_set_self (by rw [List.length_set]; omega)]
          have wi := wl i
          have hi' : i < kids.len := by omega
          refine sep_cat3 s1 s2 (gT _ _ q3) (by omega) (by omega) fun t H4 g4 e4 => ?_
          refine ⟨_, s3, x', kids.at i, rfl, ((n1.grow g1).grow g).grow (gT.trans g4), n4, Nat.le_trans (at_size kids i) hks, Nat.le_trans n2 hd, fun l' H5 g5 e5 => ?_⟩
          refine ⟨t, l', _, _, rfl, rfl, g5 _ _ e4, e5, ?_, fun r hr => ?_⟩
          · have u1 := (words_len (kids.at i)).1
            have u2 := at_size kids i
            rw [List.length_map, List.length_map, List.length_append, sizeLine_eq]
            split
            · show _ + 0 + _ ≤ _
              omega
            · show _ + 1 + _ ≤ _
              omega
          · refine ⟨g.trans (gT.trans (g4.trans (g5.trans (Grow.new hr)))), ?_, r, ?_, ?_⟩
            · rw [List.length_set, List.length_set, List.length_set]
              exact q1
            · rw [List.getElem?_set_self (by rw [List.length_set, List.length_set]; omega)]
            · rw [upd_same, ← List.map_append, pre_words kids i hi' n4, List.append_assoc, List.append_assoc, List.append_assoc]
        · obtain ⟨g, q1, l, q2, q3⟩ := q
          rw [hn, pre_all] at q3
          have wi := wl kids.len
          rw [pre_all] at wi
          refine ⟨_, q2, by show 1 ≤ sizeLine; decide, fun p hp => ⟨l, p, _, _, rfl, rfl, Grow.new hp _ _ q3, upd_same, ?_, fun r hr => ?_⟩⟩
          · rw [List.length_map, sizeLine_eq]
            show _ + 1 ≤ _
            omega
          · refine hQ r _ (g1.trans (g.trans ((Grow.new hp).trans (Grow.new hr)))) ?_
            rw [upd_same]
            show _ = some (HO.lst ((k.headw m ++ (kids.words ++ [(")" : Str)])).map V.str))
            rw [← List.append_assoc, List.map_append (l₁ := k.headw m ++ kids.words)]
            rfl
end
end K80

set_option Elab.async false
set_option linter.all false
set_option maxRecDepth 100000
set_option maxHeartbeats 4000000
/-! the law's plain form of a need: nested tuples -/
namespace K80
open PySem PySem.Spec PyProof.Rows L2 SX
open He (ga ma)
theorem PlainsAt.growT {H H' : Hp} (g : ∀ p xs, H p = some (.tup xs) → H' p = some (.tup xs)) : ∀ {F : Fo} {vs : List V}, PlainsAt H F vs → PlainsAt H' F vs
  | .nil, _, h => h
  | .has s r, _, ⟨a, vs', e, h, t⟩ => ⟨a, vs', e, g _ _ h, t.growT g⟩
  | .node k m kids r, _, ⟨a, kvs, vs', e, h, tk, t⟩ => ⟨a, kvs, vs', e, g _ _ h, tk.growT g, t.growT g⟩
theorem lc_plain {K : PySem.W.Frag} {a : Addr} {xs : List V} {kids : Fo} {te : TE} {i : Nat} {σ : L2.St} {H : Hp} {D : Addr} {Qd : Hp → Prop} (hD : H D = none) (hT : H a = some (.tup xs)) (hl : xs.length = kids.len) (hz : xs.length ≤ sizeLine) (hi : i < σ.length)
    (hF : ∀ (k : Nat) (x : V) (σ2 : L2.St) (H2 : Hp) (R : VK), xs[k]? = some x → σ2[i]? = some (some x) → Grow H H2 → (∀ y H3, Grow H2 H3 → PlainsAt H3 (kids.at k) [y] → R y H3) → te σ2 H2 R)
    (hQ : ∀ H' acc, Grow H H' → H' D = some (.lst acc) → PlainsAt H' kids acc → Qd H') :
    ∃ W : Nat → Nat → Hp → Prop, (∃ m, W 0 m (upd H D (.lst []))) ∧ ∀ k m H, W k m H →
      ((Itt K a).stop k H ∧ Qd H) ∨ ((Itt K a).go k H ∧ ∃ Nx : Hp → Prop, (∀ H', Nx H' → ∃ m', m' < m ∧ W (k + 1) m' H') ∧ ∀ x H', (Itt K a).yld k H x H' → gName i x (wipe σ [i]) H' fun σ2 H2 => wipe σ2 [i] = wipe σ [i] ∧ tYes σ2 H2 fun b H3 =>
        if b = true then te σ2 H3 fun y H4 => ∃ acc, H4 D = some (.lst acc) ∧ acc.length < sizeLine ∧ Nx (upd H4 D (.lst (acc ++ [y]))) else Nx H3) := by
  have gu : ∀ {H1 : Hp} {o : HO}, Grow H H1 → Grow H (upd H1 D o) := fun {H1 o} g p q e => by
    rw [upd_ne (ne_of_none e hD)]
    exact g p q e
  refine lc_it walk_tup (fun k H' => Grow H H' ∧ ∃ acc, H' D = some (.lst acc) ∧ PlainsAt H' (Fo.pre kids k) acc) ⟨Grow.new hD, [], upd_same, by simp [Fo.pre, PlainsAt]⟩ (fun k H' _ q => .inl (.inl (q.1 _ _ hT))) ?_ ?_
  · rintro k x H1 H2 hk ⟨g, acc, e, pa⟩ ⟨rfl, hx⟩
    show wipe ((wipe σ [i]).set i (some x)) [i] = wipe σ [i] ∧ _
    refine ⟨?_, ?_⟩
    · show ((σ.set i none).set i (some x)).set i none = σ.set i none
      rw [List.set_set, List.set_set]
    · show te _ _ _
      refine hF k x _ _ _ hx ?_ g fun y H3 g3 py => ?_
      · show ((σ.set i none).set i (some x))[i]? = _
        rw [List.getElem?_set_self (by simpa using hi)]
      · have hal := pa.len
        have hpl := pre_len kids k (by omega)
        refine ⟨acc, g3 _ _ e, ?_, gu (g.trans g3), acc ++ [y], upd_same, ?_⟩
        · omega
        · rw [pre_snoc kids k (by omega)]
          have gt : ∀ p zs, H3 p = some (.tup zs) → (upd H3 D (.lst (acc ++ [y]))) p = some (.tup zs) := fun p zs q => by
            have hne : p ≠ D := fun z => by
              rw [z, g3 _ _ e] at q
              cases q
            rw [upd_ne hne]
            exact q
          exact ((pa.grow g3).app py).growT gt
  · rintro H' ⟨g, acc, e, pa⟩
    rw [hl, pre_all] at pa
    exact hQ H' acc g e pa
section
variable {P : Program} {w : World} {K : PySem.W.Frag} {mg : Str → Option Value} {base : Heap}
theorem kit_every (z : Z P w K mg base) {c : Str} (h : c ∈ (["Has", "Every", "Some", "Few"] : List Str)) : PySem.W.kitOne K (.ref (ga K c)) (.ref (ga K "Every")) = some (decide (c = "Every")) :=
  z.kit (List.mem_append_left _ (List.mem_flatMap.mpr ⟨c, h, List.mem_map.mpr ⟨"Every", by decide +kernel, rfl⟩⟩))
theorem node_ty2 (z : Z P w K mg base) {H : Hp} {a dx p : Addr} {k : Kd} {m : Int} (h : H a = some (nodeO K k m dx p)) : ∃ c : Str, c ∈ (["Has", "Every", "Some", "Few"] : List Str) ∧ TyX K H (.ref a) (.ref (ga K c)) ∧ (c = "Few" ↔ k = .few) ∧ (c = "Every" ↔ k = .every) := by
  cases k with
  | every => exact ⟨"Every", by decide +kernel, ty_ins h z.cl_Every z.isx, by decide +kernel, by decide +kernel⟩
  | some => exact ⟨"Some", by decide +kernel, ty_ins h z.cl_Some z.isx, by decide +kernel, by decide +kernel⟩
  | few => exact ⟨"Few", by decide +kernel, ty_ins h z.cl_Few z.isx, by decide +kernel, by decide +kernel⟩
theorem sc__law_plain_need : FnScope ["need", "parts", "part"] ["need"] (defScope s__law_plain_need) := ⟨rfl, rfl, rfl, by decide +kernel, rfl, by decide +kernel, by decide +kernel⟩
def sp_plain (K : PySem.W.Frag) (d : Nat) : Sp := fun vs H Q _ => ∃ (v : V) (F : Fo), vs = [v] ∧ NeedsAt K H F [v] ∧ F.len = 1 ∧ F.size ≤ 1000 ∧ F.deep ≤ d ∧ ∀ a H', Grow H H' → PlainsAt H' F [.ref a] → Q (.ref a) H'
theorem ok_plain (z : Z P w K mg base) : ∃ fd, (∀ d, FnOk P w K mg base (L2.CX P w) (1 + d) (ga K "_law_plain_need") fd ["need"] (sp_plain K d)) ∧ Binds K fd ["need"] [] := by
  obtain ⟨fd, F⟩ := z.f__law_plain_need
  have b : Binds K fd ["need"] [] := F.bindsN fun _ _ _ _ _ _ us hl => match us, hl with | [_], _ => rfl
  refine ⟨fd, fun d => ?_, b⟩
  have nd := sc__law_plain_need.nd
  induction d with
  | zero =>
    refine F.ok sc__law_plain_need (fun vs H Q E h => ?_) (fun cdv A outer s H vs Q E hr h => ?_)
    · obtain ⟨_, _, rfl, _⟩ := h
      rfl
    · obtain ⟨v, F, rfl, hF, h1, _, h2, _⟩ := h
      cases F with
      | nil => cases h1
      | has s r => exact absurd h2 (by show ¬ max 1 r.deep ≤ 0; omega)
      | node k m kids r => exact absurd h2 (by show ¬ max (1 + kids.deep) r.deep ≤ 0; omega)
  | succ d G =>
    refine F.ok sc__law_plain_need (fun vs H Q E h => ?_) (fun cdv A outer s H vs Q E hr h => ?_)
    · obtain ⟨_, _, rfl, _⟩ := h
      rfl
    · obtain ⟨v, F, rfl, hF, h1, hs, h2, hQ⟩ := h
      refine ⟨_, pss_cons (ps_if (pt_val (pe_callB call_isi rfl z.b_isinstance (by decide +kernel) (pa_cons (pv 0) (pa_cons (pe_glob (v := .ref (ga K "Has")) rfl z.g_Has rfl) pa_nil)))) (pss_one (ps_ret (pe_tup (pa_cons pe_str (pa_cons (pe_fld (pv 0) rfl) pa_nil))))) pss_nil)
        (pss_cons (ps_set (i := 1) nd rfl (Or.inl rfl) (pe_callTy call_tuple_of rfl z.b_tuple (by decide +kernel) (pa_cons (pe_lc (own := [("part", 2)]) (g := gName 2) (tt := tYes) rfl nd (pi_tup (pe_fld (pv 0) rfl)) (blkOk_by (N := ["need", "parts", "part"]) (sc := defScope s__law_plain_need) (by decide +kernel)) (fun _ _ _ _ _ => pg_name (i := 2) nd rfl (Or.inl rfl)) (fun _ _ _ _ _ => pts_nil) (fun _ _ _ _ _ => (pe_call G hr rfl z.g__law_plain_need z.k__law_plain_need b .nil passF (pa_cons (pv 2) pa_nil)))) pa_nil)))
        (pss_cons (ps_if (pt_val (pe_callB call_isi rfl z.b_isinstance (by decide +kernel) (pa_cons (pv 0) (pa_cons (pe_glob (v := .ref (ga K "Few")) rfl z.g_Few rfl) pa_nil)))) (pss_one (ps_ret (pe_op op_catA (pe_tup (pa_cons pe_str (pa_cons (pe_fld (pv 0) rfl) pa_nil))) (pv 1)))) pss_nil)
        (pss_one (ps_ret (pe_op op_catA (pe_tup (pa_cons (pe_ifExp (pt_val (pe_callB call_isi rfl z.b_isinstance (by decide +kernel) (pa_cons (pv 0) (pa_cons (pe_glob (v := .ref (ga K "Every")) rfl z.g_Every rfl) pa_nil)))) pe_str pe_str) pa_nil)) (pv 1)))))), ?_⟩
      obtain ⟨c, hc, ty, hk⟩ := need_ty z hF h1
      refine ⟨v, rfl, _, _, _, _, _, rfl, .own _, ty, kit_has z hc, _, rfl, ?_⟩
      rcases hk with ⟨s, a, dx, rfl, rfl, rfl, ha⟩ | ⟨k, m, kids, a, dx, p, kvs, rfl, rfl, hne, ha, hp, tk⟩
      · exact iteT ⟨_, rfl, a, _, dx, _, _, rfl, ha, z.cl_Has, z.na_Has_thing, rfl, by show 2 ≤ sizeLine; decide, fun q hq => hQ q _ (Grow.new hq) ⟨q, [], rfl, upd_same, rfl⟩⟩
      · rw [decide_eq_false hne]
        obtain ⟨C, fs, eO, cl, na, lk⟩ := parts_of z k m dx p
        have ha1 := ha
        rw [eO] at ha1
        have hn := tk.len
        have hd : kids.deep ≤ d := by
          have e : max (1 + kids.deep) 0 ≤ d + 1 := h2
          omega
        have hks : kids.size ≤ 1000 := by
          have e : 1 + kids.size + 0 ≤ 1000 := hs
          omega
        have hkl := len_size kids
        refine iteF ⟨_, rfl, a, C, dx, fs, _, rfl, ha1, cl, na, lk, p, rfl, ⟨_, SqT.of hp⟩, fun D hD => ?_⟩
        refine lc_plain (kids := kids) hD hp hn (by rw [hn, sizeLine_eq]; omega) (by show 2 < 3; decide) (fun j x σ2 H2 R hx hv g2 hR => ?_) (fun H3 acc g3 e3 pa => ?_)
        · obtain ⟨q1, q2, q3, q4⟩ := tk.get hx
          exact ⟨_, hv, x, kids.at j, rfl, q1.grow g2, q4, Nat.le_trans (at_size kids j) hks, Nat.le_trans q2 hd, fun a' H4 g4 p4 => hR _ H4 g4 p4⟩
        · have hal := pa.len
          refine ⟨D, acc, rfl, .inl ⟨SqL.of e3, fun l hl => ?_⟩⟩
          have g4 : Grow H3 (upd H3 l (.tup acc)) := Grow.new hl
          have ha4 := g4 _ _ (g3 _ _ ha)
          obtain ⟨c2, hc2, ty2, hfew, hev⟩ := node_ty2 z ha4
          refine ⟨_, rfl, _, _, _, _, _, rfl, .own _, ty2, kit_few z hc2, _, rfl, ?_⟩
          have fin : ∀ (t : Addr) (H5 : Hp), Grow (upd H3 l (.tup acc)) H5 → H5 t = some (.tup (k.phead m)) → rCatA K (.ref t) (.ref l) H5 Q := fun t H5 g5 et => by
            have hp2 : (k.phead m).length ≤ 2 := by cases k <;> exact Nat.le_of_ble_eq_true rfl
            have hp1 : k.phead m ≠ [] := by cases k <;> exact List.cons_ne_nil _ _
            have el := g5 _ _ (show (upd H3 l (.tup acc)) l = some (.tup acc) from upd_same)
            have gA := g3.trans (g4.trans g5)
            refine ⟨t, l, _, _, rfl, rfl, SqT.of et, SqT.of el, by rw [sizeLine_eq]; omega, fun q => absurd q hp1, fun _ q => hQ t H5 gA ⟨t, [], [], rfl, ?_, ?_, rfl⟩, fun _ _ r hr => hQ r _ (gA.trans (Grow.new hr)) ⟨r, acc, [], rfl, upd_same, (pa.grow (g4.trans (g5.trans (Grow.new hr)))), rfl⟩⟩
            · rw [List.append_nil]
              exact et
            · subst q
              exact pa.grow (g4.trans g5)
          by_cases e : k = .few
          · subst e
            rw [decide_eq_true (hfew.mpr rfl)]
            exact iteT ⟨_, rfl, a, _, dx, _, _, rfl, ha4, z.cl_Few, z.na_Few_many, rfl, by show 2 ≤ sizeLine; decide, fun t ht => ⟨_, rfl, fin t _ (Grow.new ht) upd_same⟩⟩
          · rw [decide_eq_false (fun x => e (hfew.mp x))]
            refine iteF ⟨_, rfl, _, _, _, _, _, rfl, .own _, ty2, kit_every z hc2, _, rfl, ?_⟩
            by_cases e2 : k = .every
            · subst e2
              rw [decide_eq_true (hev.mpr rfl)]
              exact iteT ⟨by show 1 ≤ sizeLine; decide, fun t ht => ⟨_, rfl, fin t _ (Grow.new ht) upd_same⟩⟩
            · rw [decide_eq_false (fun x => e2 (hev.mp x))]
              have e3 : k = .some := by cases k <;> first | rfl | exact absurd rfl e | exact absurd rfl e2
              subst e3
              exact iteF ⟨by show 1 ≤ sizeLine; decide, fun t ht => ⟨_, rfl, fin t _ (Grow.new ht) upd_same⟩⟩
end
end K80

set_option Elab.async false
set_option linter.all false
set_option maxRecDepth 100000
set_option maxHeartbeats 4000000
/-! the law's bent texts -/
namespace K80
open PySem PySem.Spec PyProof.Rows L2 SX
open He (ga ma)
/-- a term that gives a new list of words, each of the kind B, n at most -/
def GB (B : Str → Prop) (n : Nat) (te : TE) (σ : L2.St) (H0 : Hp) : Prop := ∀ H Q, Grow H0 H → (∀ (l : Addr) (H' : Hp) (us : List Str), Grow H H' → H' l = some (.lst (us.map V.str)) → (∀ y ∈ us, B y) → us.length ≤ n → Q (.ref l) H') → te σ H Q
theorem gb_cat {B : Str → Prop} {m n : Nat} {t1 t2 : TE} {σ : L2.St} {H0 : Hp} (h1 : GB B m t1 σ H0) (h2 : GB B n t2 σ H0) (hl : m + n ≤ 100000) : GB B (m + n) (tOp rCat t1 t2) σ H0 := fun H Q g q =>
  h1 H _ g fun l1 H1 us g1 e1 b1 n1 => h2 H1 _ (g.trans g1) fun l2 H2 vs g2 e2 b2 n2 => ⟨l1, l2, _, _, rfl, rfl, g2 _ _ e1, e2, by rw [List.length_map, List.length_map, sizeLine_eq]; omega, fun p hp => q p _ (us ++ vs) (g1.trans (g2.trans (Grow.new hp))) (by rw [upd_same, List.map_append]) (fun y hy => (List.mem_append.mp hy).elim (b1 y) (b2 y)) (by rw [List.length_append]; omega)⟩
theorem gb_one {B : Str → Prop} {σ : L2.St} {H0 : Hp} {i : Nat} {y : Str} (h : σ[i]? = some (some (.str y))) (hy : B y) : GB B 1 (tLst (tCons (tVar i) tNil)) σ H0 := fun H Q g q => ⟨_, h, by show 1 ≤ sizeLine; decide, fun p hp => q p _ [y] (Grow.new hp) upd_same (fun z hz => by rw [List.mem_singleton.mp hz]; exact hy) (Nat.le_refl _)⟩
theorem gb_var {B : Str → Prop} {σ : L2.St} {H0 : Hp} {i : Nat} {a : Addr} {ws : List Str} (h : σ[i]? = some (some (.ref a))) (ha : H0 a = some (.lst (ws.map V.str))) (hb : ∀ y ∈ ws, B y) : GB B ws.length (tVar i) σ H0 := fun H Q g q => ⟨_, h, q a H ws (Grow.refl _) (g _ _ ha) hb (Nat.le_refl _)⟩
/-- a part of a slice -/
def GO (t : TO) (σ : L2.St) : Prop := ∀ H Q, (∀ o, Q o H) → t σ H Q
theorem go_none {σ : L2.St} : GO tNoPart σ := fun _ _ q => q _
theorem go_var {σ : L2.St} {i : Nat} {d : Int} (h : σ[i]? = some (some (.int d))) : GO (L2.tPart (tVar i)) σ := fun _ _ q => ⟨_, h, d, rfl, q _⟩
theorem go_up {σ : L2.St} {i : Nat} {d : Int} (h : σ[i]? = some (some (.int d))) : GO (L2.tPart (tOp (rI0 fun i j => V.int (i + j)) (tVar i) (tC (.int 1)))) σ := fun _ _ q => ⟨_, h, _, _, rfl, rfl, _, rfl, q _⟩
theorem gb_cut {B : Str → Prop} {K : PySem.W.Frag} {σ : L2.St} {H0 : Hp} {i : Nat} {a : Addr} {ws : List Str} {tl th : TO} (h : σ[i]? = some (some (.ref a))) (ha : H0 a = some (.lst (ws.map V.str))) (hb : ∀ y ∈ ws, B y) (hl : GO tl σ) (hh : GO th σ) : GB B ws.length (tSl (rSlL K) (tVar i) tl th) σ H0 := fun H Q g q => by
  refine ⟨_, h, hl H _ fun lo => hh H _ fun hi => ⟨a, _, rfl, SqL.of (g _ _ ha), fun p hp => ?_⟩⟩
  refine q p _ ((ws.drop (HT.sIx ws.length 0 lo)).take (HT.sIx ws.length ws.length hi - HT.sIx ws.length 0 lo)) (Grow.new hp) ?_ (fun y hy => hb y (List.mem_of_mem_drop (List.mem_of_mem_take hy))) ?_
  · rw [upd_same]
    unfold cutV
    rw [List.length_map, List.map_take, List.map_drop]
  · rw [List.length_take, List.length_drop]
    omega
section
variable {P : Program} {w : World} {K : PySem.W.Frag} {mg : Str → Option Value} {base : Heap}
theorem sc__law_bent : FnScope ["pen", "items", "words", "at", "way", "word"] ["pen", "items", "words"] (defScope s__law_bent) := ⟨rfl, rfl, rfl, by decide +kernel, rfl, by decide +kernel, by decide +kernel⟩
def sp_bent : Sp := fun vs H Q _ => ∃ (pn cl li lw : Addr) (ws wo : List Str) (n : Nat) (B : Str → Prop), vs = [.ref pn, .ref li, .ref lw] ∧ H li = some (.lst (ws.map V.str)) ∧ H lw = some (.lst (wo.map V.str)) ∧ li ≠ pn ∧ lw ≠ pn ∧ ws ≠ [] ∧ ws.length ≤ 10000 ∧ wo.length ≤ 10000 ∧ n ≤ 900000 ∧ PenAt H pn cl n ∧
  (∀ y ∈ ws, B y ∧ B (y ++ "s") ∧ B (y ++ "0") ∧ y.length ≤ 1000) ∧ (∀ y ∈ wo, B y) ∧ B "" ∧
  ∀ (l : Addr) (us : List Str) (H' : Hp), But pn H H' → PenAt H' pn cl (n + 4) → H' l = some (.lst (us.map V.str)) → (∀ y ∈ us, B y) → us.length ≤ 40000 → Q (.ref l) H'
theorem atW {A : Str → Prop} {ws : List Str} {d : Int} (h : ∀ y ∈ ws, A y) (d0 : 0 ≤ d) (d1 : d < (ws.length : Int)) : ∃ x, x ∈ ws ∧ atI (ws.map V.str) d = some (.str x) := by
  have hd : d.toNat < ws.length := by omega
  refine ⟨ws[d.toNat], List.getElem_mem hd, ?_⟩
  unfold atI ixN
  rw [if_pos d0, List.length_map, if_pos d1]
  show (ws.map V.str)[d.toNat]? = _
  rw [List.getElem?_map, List.getElem?_eq_getElem hd]
  rfl
theorem ok_bent (z : Z P w K mg base) : ∃ fd, FnOk P w K mg base (L2.CX P w) 3 (ga K "_law_bent") fd ["pen", "items", "words"] sp_bent ∧ Binds K fd ["pen", "items", "words"] [] := by
  obtain ⟨f1, G1, b1⟩ := ok__law_draw z
  obtain ⟨f2, G2, b2⟩ := ok__law_pick z
  obtain ⟨fd, F⟩ := z.f__law_bent
  refine ⟨fd, F.ok sc__law_bent (fun vs H Q E h => ?_) (fun cdv A outer s0 H vs Q E hr h => ?_), F.bindsN fun _ _ _ _ _ _ us hl => match us, hl with | [_, _, _], _ => rfl⟩
  · obtain ⟨_, _, _, _, _, _, _, _, rfl, _⟩ := h
    rfl
  · obtain ⟨pn, cl, li, lw, ws, wo, n, B, rfl, hli, hlw, ne1, ne2, hw0, hwl, hol, hn, hp, hws, hwo, hB0, hQ⟩ := h
    have nd := sc__law_bent.nd
    refine ⟨_, pss_cons (ps_par (i := 3) (j := 4) rfl nd rfl rfl (by decide) rfl rfl (pa_cons (pe_call G1 (hr.mono (by decide)) rfl z.g__law_draw z.k__law_draw b1 .nil passF (pa_cons (pv 0) (pa_cons (pe_callB call_len rfl z.b_len (by decide +kernel) (pa_cons (pv 1) pa_nil)) pa_nil))) (pa_cons (pe_call G1 (hr.mono (by decide)) rfl z.g__law_draw z.k__law_draw b1 .nil passF (pa_cons (pv 0) (pa_cons pe_int pa_nil))) pa_nil)) rfl)
      (pss_cons (ps_if (pt_cmpR op_eq (pv 4) pe_int (nomark _)) (pss_one (ps_ret (pe_op op_cat (pe_slice sl_list (pv 1) po_none (po_some (pv 3))) (pe_slice sl_list (pv 1) (po_some (pe_op op_add (pv 3) pe_int)) po_none)))) pss_nil)
      (pss_cons (ps_if (pt_cmpR op_eq (pv 4) pe_int (nomark _)) (pss_one (ps_ret (pe_slice sl_list (pv 1) po_none (po_some (pv 3))))) pss_nil)
      (pss_cons (ps_if (pt_cmpR op_eq (pv 4) pe_int (nomark _)) (pss_one (ps_ret (pe_op op_cat (pe_op op_cat (pe_slice sl_list (pv 1) po_none (po_some (pv 3))) (pe_slice sl_list (pv 1) (po_some (pv 3)) (po_some (pe_op op_add (pv 3) pe_int)))) (pe_slice sl_list (pv 1) (po_some (pv 3)) po_none)))) pss_nil)
      (pss_cons (ps_set (i := 5) nd rfl (Or.inl rfl) (pe_call G2 (hr.mono (by decide)) rfl z.g__law_pick z.k__law_pick b2 .nil passF (pa_cons (pv 0) (pa_cons (pe_op op_cat (pv 2) (pe_lst (pa_cons (pe_op op_add_str (pe_ix ix_seq (pv 1) (pv 3) fun _ _ => rfl) pe_str) (pa_cons (pe_op op_add_str (pe_ix ix_seq (pv 1) (pv 3) fun _ _ => rfl) pe_str) (pa_cons pe_str (pa_cons (pe_ix ix_seq (pv 1) (pe_call G1 (hr.mono (by decide)) rfl z.g__law_draw z.k__law_draw b1 .nil passF (pa_cons (pv 0) (pa_cons (pe_callB call_len rfl z.b_len (by decide +kernel) (pa_cons (pv 1) pa_nil)) pa_nil))) fun _ _ => rfl) pa_nil)))))) pa_nil))))
      (pss_cons (ps_if (pt_cmpR op_eq (pv 4) pe_int (nomark _)) (pss_one (ps_ret (pe_op op_cat (pe_op op_cat (pe_slice sl_list (pv 1) po_none (po_some (pv 3))) (pe_lst (pa_cons (pv 5) pa_nil))) (pe_slice sl_list (pv 1) (po_some (pv 3)) po_none)))) pss_nil)
      (pss_cons (ps_if (pt_cmpR op_eq (pv 4) pe_int (nomark _)) (pss_one (ps_ret (pe_op op_cat (pv 1) (pe_lst (pa_cons (pv 5) pa_nil))))) pss_nil)
      (pss_one (ps_ret (pe_op op_cat (pe_op op_cat (pe_slice sl_list (pv 1) po_none (po_some (pv 3))) (pe_lst (pa_cons (pv 5) pa_nil))) (pe_slice sl_list (pv 1) (po_some (pe_op op_add (pv 3) pe_int)) po_none)))))))))), ?_⟩
    have hl : 0 < ws.length := List.length_pos_iff.mpr hw0
    have hB : ∀ y ∈ ws, B y := fun y hy => (hws y hy).1
    refine ⟨_, rfl, _, rfl, _, _, rfl, .inl ⟨_, SqL.of hli, rfl⟩, pn, cl, _, n, rfl, by rw [List.length_map]; omega, by rw [List.length_map]; omega, by omega, hp, fun d H1 u1 p1 d0 d1 => ?_⟩
    rw [List.length_map] at d1
    refine ⟨_, rfl, pn, cl, 7, n + 1, rfl, by decide, by decide, by omega, p1, fun y H2 u2 p2 y0 y1 => ⟨_, _, rfl, ?_⟩⟩
    have e2 := u2 _ _ (u1 _ _ hli ne1) ne1
    have f2 := u2 _ _ (u1 _ _ hlw ne2) ne2
    have u12 := u1.trans u2
    have last : ∀ {te : TE} {m : Nat} {σ : L2.St} {H3 : Hp}, But pn H H3 → PenAt H3 pn cl (n + 4) → GB B m te σ H3 → m ≤ 40000 → te σ H3 Q := fun {te m σ H3} u3 p3 gb hm => gb H3 Q (Grow.refl _) fun l H' us g e b k => hQ l us H' (u3.trans (But.grow g)) (p3.grow g) e b (by omega)
    have hx := atW hws d0 d1
    obtain ⟨x, hx1, hx2⟩ := hx
    obtain ⟨bx, bxs, bx0, xl⟩ := hws x hx1
    refine ⟨_, rfl, rfl, _, rfl, ?_⟩
    by_cases q0 : V.int y = V.int 0
    · rw [decide_eq_true q0]
      exact iteT (last u12 (p2.mono (by omega)) (gb_cat (gb_cut rfl e2 hB go_none (go_var rfl)) (gb_cut rfl e2 hB (go_up rfl) go_none) (by omega)) (by omega))
    rw [decide_eq_false q0]
    refine iteF ⟨_, rfl, rfl, _, rfl, ?_⟩
    by_cases q1 : V.int y = V.int 1
    · rw [decide_eq_true q1]
      exact iteT (last u12 (p2.mono (by omega)) (gb_cut rfl e2 hB go_none (go_var rfl)) (by omega))
    rw [decide_eq_false q1]
    refine iteF ⟨_, rfl, rfl, _, rfl, ?_⟩
    by_cases q2 : V.int y = V.int 2
    · rw [decide_eq_true q2]
      exact iteT (last u12 (p2.mono (by omega)) (gb_cat (gb_cat (gb_cut rfl e2 hB go_none (go_var rfl)) (gb_cut rfl e2 hB (go_var rfl) (go_up rfl)) (by omega)) (gb_cut rfl e2 hB (go_var rfl) go_none) (by omega)) (by omega))
    rw [decide_eq_false q2]
    refine iteF ⟨_, rfl, _, rfl, _, rfl, _, rfl, .inl ⟨li, _, d, _, rfl, rfl, SqL.of e2, hx2, x, "s", rfl, rfl, by rw [sizeLine_eq]; show _ + 1 ≤ _; omega, _, rfl, _, rfl, .inl ⟨li, _, d, _, rfl, rfl, SqL.of e2, hx2, x, "0", rfl, rfl, by rw [sizeLine_eq]; show _ + 1 ≤ _; omega, _, rfl, _, rfl, _, rfl, _, _, rfl, .inl ⟨_, SqL.of e2, rfl⟩, pn, cl, _, n + 2, rfl, by rw [List.length_map]; omega, by rw [List.length_map]; omega, by omega, p2, fun d' H3 u3 p3 d0' d1' => ?_⟩⟩⟩
    rw [List.length_map] at d1'
    obtain ⟨x', hx1', hx2'⟩ := atW hws d0' d1'
    have e3 := u3 _ _ e2 ne1
    have f3 := u3 _ _ f2 ne2
    refine .inl ⟨li, _, d', _, rfl, rfl, SqL.of e3, hx2', by show 4 ≤ sizeLine; decide, fun q hq => ⟨lw, q, _, _, rfl, rfl, Grow.new hq _ _ f3, upd_same, by rw [List.length_map, sizeLine_eq]; show _ + 4 ≤ _; omega, fun r hr => ?_⟩⟩
    have p4 := (p3.grow (Grow.new (o := .lst [.str (x ++ "s"), .str (x ++ "0"), .str "", .str x']) hq))
    have hrp : r ≠ pn := fun e => by
      obtain ⟨_, _, _, h1, _⟩ := p4
      rw [e, h1] at hr
      cases hr
    refine ⟨pn, cl, r, _, n + 3, rfl, upd_same, hrp, by simp, by rw [List.length_append, List.length_map]; show _ + 4 < _; omega, by omega, p4.grow (Grow.new hr), fun v H5 u5 p5 hv => ?_⟩
    have hv2 : ∃ y, v = .str y ∧ B y := by
      rcases List.mem_append.mp hv with h | h
      · obtain ⟨y, hy, rfl⟩ := List.mem_map.mp h
        exact ⟨y, rfl, hwo y hy⟩
      · rcases List.mem_cons.mp h with rfl | h
        · exact ⟨_, rfl, bxs⟩
        rcases List.mem_cons.mp h with rfl | h
        · exact ⟨_, rfl, bx0⟩
        rcases List.mem_cons.mp h with rfl | h
        · exact ⟨_, rfl, hB0⟩
        · rw [List.mem_singleton.mp h]
          exact ⟨_, rfl, hB x' hx1'⟩
    obtain ⟨wd, rfl, hwd⟩ := hv2
    have gq := (Grow.new (o := .lst [.str (x ++ "s"), .str (x ++ "0"), .str "", .str x']) hq).trans (Grow.new (o := .lst (wo.map V.str ++ [.str (x ++ "s"), .str (x ++ "0"), .str "", .str x'])) hr)
    have e5 := u5 _ _ (gq _ _ e3) ne1
    have u35 := ((u12.trans u3).trans (But.grow gq)).trans u5
    refine ⟨_, rfl, rfl, _, rfl, ?_⟩
    by_cases q3 : V.int y = V.int 3
    · rw [decide_eq_true q3]
      exact iteT (last u35 p5 (gb_cat (gb_cat (gb_cut rfl e5 hB go_none (go_var rfl)) (gb_one rfl hwd) (by omega)) (gb_cut rfl e5 hB (go_var rfl) go_none) (by omega)) (by omega))
    rw [decide_eq_false q3]
    refine iteF ⟨_, rfl, rfl, _, rfl, ?_⟩
    by_cases q4 : V.int y = V.int 4
    · rw [decide_eq_true q4]
      exact iteT (last u35 p5 (gb_cat (gb_var rfl e5 hB) (gb_one rfl hwd) (by omega)) (by omega))
    rw [decide_eq_false q4]
    exact iteF (last u35 p5 (gb_cat (gb_cat (gb_cut rfl e5 hB go_none (go_var rfl)) (gb_one rfl hwd) (by omega)) (gb_cut rfl e5 hB (go_up rfl) go_none) (by omega)) (by omega))
end
end K80

set_option Elab.async false
set_option linter.all false
set_option maxRecDepth 100000
set_option maxHeartbeats 4000000
/-! the law's made-up plain needs -/
namespace K80
open PySem PySem.Spec PyProof.Rows L2 SX
open He (ga ma)
section
variable {P : Program} {w : World} {K : PySem.W.Frag} {mg : Str → Option Value} {base : Heap}
theorem sc__law_any_need : FnScope ["pen", "names", "deep", "left", "parts", "turn", "word"] ["pen", "names", "deep", "left"] (defScope s__law_any_need) := ⟨rfl, rfl, rfl, by decide +kernel, rfl, by decide +kernel, by decide +kernel⟩
def sp_any (d : Nat) : Sp := fun vs H Q _ => ∃ (pn cl nm lf : Addr) (names : List Str) (n L : Nat), vs = [.ref pn, .ref nm, .int (d : Nat), .ref lf] ∧ H nm = some (.lst (names.map V.str)) ∧ H lf = some (.lst [.int (L : Nat)]) ∧ nm ≠ pn ∧ lf ≠ pn ∧ nm ≠ lf ∧ cl ≠ lf ∧ names.map V.str ≠ [] ∧ (names.map V.str).length < 1073741824 ∧
  (∀ y ∈ names, nameB y = true) ∧ 1 ≤ d ∧ 1 ≤ L ∧ n + 5 * L ≤ 900000 ∧ PenAt H pn cl n ∧ ∀ (a : Addr) (F : Fo) (n' : Nat) (H' : Hp), But2 pn lf H H' → PenAt H' pn cl n' → H' lf = some (.lst [.int ((L - F.size : Nat) : Nat)]) → F.size ≤ L → n' ≤ n + 5 * F.size → F.len = 1 → okF F → F.deep ≤ d → PlainsAt H' F [.ref a] → Q (.ref a) H'
theorem okF_app : ∀ {F G : Fo}, okF F → okF G → okF (F.app G)
  | .nil, _, _, h => h
  | .has _ _, _, ⟨a, b⟩, h => ⟨a, okF_app b h⟩
  | .node _ _ _ _, _, ⟨a, b, c, d⟩, h => ⟨a, b, c, okF_app d h⟩
theorem leaf_run {σ : L2.St} {H : Hp} {Q : VK} {pn cl nm : Addr} {names : List Str} {n : Nat} (h0 : σ[0]? = some (some (.ref pn))) (h1 : σ[1]? = some (some (.ref nm))) (hnm : H nm = some (.lst (names.map V.str))) (ne1 : nm ≠ pn) (hnn : names.map V.str ≠ []) (hnl : (names.map V.str).length < 1073741824) (hok : ∀ y ∈ names, nameB y = true) (hn : n ≤ 900000) (hp : PenAt H pn cl n)
    (hQ : ∀ (a : Addr) (F : Fo) (H' : Hp), But pn H H' → PenAt H' pn cl (n + 3) → F.size = 1 → F.len = 1 → okF F → F.deep = 1 → PlainsAt H' F [.ref a] → Q (.ref a) H') :
    tCall sp__law_pick [] (fun _ _ _ => False) (tCons (tVar 0) (tCons (tLst (tCons (tTup (tCons (tC (.str "has")) (tCons (tCall sp__law_pick [] (fun _ _ _ => False) (tCons (tVar 0) (tCons (tVar 1) tNil))) tNil))) (tCons (tTup (tCons (tC (.str "has")) (tCons (tCall sp__law_pick [] (fun _ _ _ => False) (tCons (tVar 0) (tCons (tVar 1) tNil))) tNil))) (tCons (tTup (tCons (tC (.str "every")) tNil)) (tCons (tTup (tCons (tC (.str "some")) tNil)) tNil))))) tNil)) σ H Q := by
  refine ⟨_, h0, _, h0, _, h1, pn, cl, nm, _, n, rfl, hnm, ne1, hnn, hnl, by omega, hp, fun v1 H1 w1 r1 m1 => ⟨by show 2 ≤ sizeLine; decide, fun t1 ht1 => ?_⟩⟩
  obtain ⟨y1, my1, rfl⟩ := List.mem_map.mp m1
  have g1 : Grow H1 _ := Grow.new (o := .tup [.str "has", .str y1]) ht1
  refine ⟨_, h0, _, h1, pn, cl, nm, _, n + 1, rfl, g1 _ _ (w1 _ _ hnm ne1), ne1, hnn, hnl, by omega, r1.grow g1, fun v2 H2 w2 r2 m2 => ⟨by show 2 ≤ sizeLine; decide, fun t2 ht2 => ⟨by show 1 ≤ sizeLine; decide, fun t3 ht3 => ⟨by show 1 ≤ sizeLine; decide, fun t4 ht4 => ⟨by show 4 ≤ sizeLine; decide, fun q hq => ?_⟩⟩⟩⟩⟩
  obtain ⟨y2, my2, rfl⟩ := List.mem_map.mp m2
  have g2 := Grow.new (o := .tup [.str "has", .str y2]) ht2
  have g3 := Grow.new (o := .tup [.str "every"]) ht3
  have g4 := Grow.new (o := .tup [.str "some"]) ht4
  have g5 := Grow.new (o := .lst [.ref t1, .ref t2, .ref t3, .ref t4]) hq
  have g25 := g2.trans (g3.trans (g4.trans g5))
  have qn : ∀ p o, H2 p = some o → p ≠ q := fun p o e z => by
    have e2 := (g2.trans (g3.trans g4)) _ _ e
    rw [z, hq] at e2
    cases e2
  have hpq : q ≠ pn := fun e => by
    obtain ⟨_, _, _, k, _⟩ := r2
    exact qn _ _ k e.symm
  have t1n : t1 ≠ pn := fun e => by
    obtain ⟨_, _, _, k, _⟩ := r1
    rw [← e, ht1] at k
    cases k
  have x1 := g25 _ _ (w2 _ _ (show (upd H1 t1 (.tup [.str "has", .str y1])) t1 = some (.tup [.str "has", .str y1]) from upd_same) t1n)
  have x2 := (g3.trans (g4.trans g5)) _ _ (show (upd H2 t2 (.tup [.str "has", .str y2])) t2 = some (.tup [.str "has", .str y2]) from upd_same)
  refine ⟨pn, cl, q, _, n + 2, rfl, upd_same, hpq, List.cons_ne_nil _ _, by show 4 < _; decide, by omega, r2.grow g25, fun v H5 w5 r5 m5 => ?_⟩
  have nn : ∀ {t : Addr} {H0 : Hp}, H0 t = none → (∀ o, H2 pn = some o → H0 pn = some o) → t ≠ pn := fun {t H0} e k z => by
    obtain ⟨_, _, _, kk, _⟩ := r2
    rw [z, k _ kk] at e
    cases e
  have t2n : t2 ≠ pn := nn ht2 fun _ h => h
  have t3n : t3 ≠ pn := nn ht3 fun _ h => g2 _ _ h
  have t4n : t4 ≠ pn := nn ht4 fun _ h => (g2.trans g3) _ _ h
  have x3 := (g4.trans g5) _ _ (show (upd _ t3 (.tup [.str "every"])) t3 = some (.tup [.str "every"]) from upd_same)
  have x4 := g5 _ _ (show (upd _ t4 (.tup [.str "some"])) t4 = some (.tup [.str "some"]) from upd_same)
  have bb : But pn H H5 := (w1.trans (But.grow g1)).trans ((w2.trans (But.grow g25)).trans w5)
  rcases List.mem_cons.mp m5 with rfl | m5
  · exact hQ t1 (.has y1 .nil) H5 bb r5 rfl rfl ⟨hok _ my1, trivial⟩ rfl ⟨t1, [], rfl, w5 _ _ x1 t1n, rfl⟩
  rcases List.mem_cons.mp m5 with rfl | m5
  · exact hQ t2 (.has y2 .nil) H5 bb r5 rfl rfl ⟨hok _ my2, trivial⟩ rfl ⟨t2, [], rfl, w5 _ _ x2 t2n, rfl⟩
  rcases List.mem_cons.mp m5 with rfl | m5
  · exact hQ t3 (.node .every 0 .nil .nil) H5 bb r5 rfl rfl ⟨(nofun), by decide, trivial, trivial⟩ rfl ⟨t3, [], [], rfl, w5 _ _ x3 t3n, rfl, rfl⟩
  · rw [List.mem_singleton.mp m5]
    exact hQ t4 (.node .some 0 .nil .nil) H5 bb r5 rfl rfl ⟨(nofun), by decide, trivial, trivial⟩ rfl ⟨t4, [], [], rfl, w5 _ _ x4 t4n, rfl, rfl⟩
theorem ok_any (z : Z P w K mg base) : ∃ fd, (∀ d, FnOk P w K mg base (L2.CX P w) (3 + d) (ga K "_law_any_need") fd ["pen", "names", "deep", "left"] (sp_any d)) ∧ Binds K fd ["pen", "names", "deep", "left"] [] := by
  obtain ⟨f1, G1, b1⟩ := ok__law_draw z
  obtain ⟨f2, G2, b2⟩ := ok__law_pick z
  obtain ⟨fd, F⟩ := z.f__law_any_need
  have b : Binds K fd ["pen", "names", "deep", "left"] [] := F.bindsN fun _ _ _ _ _ _ us hl => match us, hl with | [_, _, _, _], _ => rfl
  refine ⟨fd, fun d => ?_, b⟩
  have nd := sc__law_any_need.nd
  induction d with
  | zero =>
    refine F.ok sc__law_any_need (fun vs H Q E h => ?_) (fun cdv A outer s H vs Q E hr h => ?_)
    · obtain ⟨_, _, _, _, _, _, _, rfl, _⟩ := h
      rfl
    · obtain ⟨_, _, _, _, _, _, _, rfl, _, _, _, _, _, _, _, _, _, hd, _⟩ := h
      exact absurd hd (by decide)
  | succ d G =>
    refine F.ok sc__law_any_need (fun vs H Q E h => ?_) (fun cdv A outer s H vs Q E hr h => ?_)
    · obtain ⟨_, _, _, _, _, _, _, rfl, _⟩ := h
      rfl
    · obtain ⟨pn, cl, nm, lf, names, n, L, rfl, hnm, hlf, ne1, ne2, ne3, ne4, hnn, hnl, hok, hd, hL, hn, hp, hQ⟩ := h
      have hr1 := hr.mono (show 1 ≤ Nat.add 3 d from Nat.le_trans (by decide) (Nat.le_add_right 3 d))
      have hr2 := hr.mono (show 2 ≤ Nat.add 3 d from Nat.le_trans (by decide) (Nat.le_add_right 3 d))
      refine ⟨_, pss_cons (ps_asg (pe_op op_sub (pe_ix ix_seq (pv 3) pe_int fun _ _ => rfl) pe_int) (pg_sub (pv 3) pe_int set_list))
        (pss_cons (ps_if (PW.pt (pw_or (pt_cmpR op_lt (pv 2) pe_int (nomark _)) (pw_or (pt_cmpR op_lt (pe_ix ix_seq (pv 3) pe_int fun _ _ => rfl) pe_int (nomark _)) (pw_or1 (pt_cmpR op_eq (pe_call G1 hr1 rfl z.g__law_draw z.k__law_draw b1 .nil passF (pa_cons (pv 0) (pa_cons pe_int pa_nil))) pe_int (nomark _)))))) (pss_one (ps_ret (pe_call G2 hr2 rfl z.g__law_pick z.k__law_pick b2 .nil passF (pa_cons (pv 0) (pa_cons (pe_lst (pa_cons (pe_tup (pa_cons pe_str (pa_cons (pe_call G2 hr2 rfl z.g__law_pick z.k__law_pick b2 .nil passF (pa_cons (pv 0) (pa_cons (pv 1) pa_nil))) pa_nil))) (pa_cons (pe_tup (pa_cons pe_str (pa_cons (pe_call G2 hr2 rfl z.g__law_pick z.k__law_pick b2 .nil passF (pa_cons (pv 0) (pa_cons (pv 1) pa_nil))) pa_nil))) (pa_cons (pe_tup (pa_cons pe_str pa_nil)) (pa_cons (pe_tup (pa_cons pe_str pa_nil)) pa_nil))))) pa_nil))))) pss_nil)
        (pss_cons (ps_set (i := 4) nd rfl (Or.inl rfl) (pe_tup pa_nil))
        (pss_cons (ps_for PassesOwn.leaving rfl (pi_range1 rfl z.b_range (pa_cons (pe_op op_add pe_int (pe_call G1 hr1 rfl z.g__law_draw z.k__law_draw b1 .nil passF (pa_cons (pv 0) (pa_cons (pe_call G2 hr2 rfl z.g__law_pick z.k__law_pick b2 .nil passF (pa_cons (pv 0) (pa_cons (pe_lst (pa_cons pe_int (pa_cons pe_int (pa_cons pe_int pa_nil)))) pa_nil))) pa_nil)))) pa_nil)) (pg_name (i := 5) nd rfl (Or.inl rfl)) (pss_one (ps_if (pt_cmpR op_gt (pe_ix ix_seq (pv 3) pe_int fun _ _ => rfl) pe_int (nomark _)) (pss_one (ps_set (i := 4) nd rfl (Or.inl rfl) (pe_op op_catA (pv 4) (pe_tup (pa_cons (pe_call G hr rfl z.g__law_any_need z.k__law_any_need b .nil passF (pa_cons (pv 0) (pa_cons (pv 1) (pa_cons (pe_op op_sub (pv 2) pe_int) (pa_cons (pv 3) pa_nil))))) pa_nil))))) pss_nil)))
        (pss_cons (ps_set (i := 6) nd rfl (Or.inl rfl) (pe_call G2 hr2 rfl z.g__law_pick z.k__law_pick b2 .nil passF (pa_cons (pv 0) (pa_cons (pe_lst (pa_cons pe_str (pa_cons pe_str (pa_cons pe_str pa_nil)))) pa_nil))))
        (pss_one (ps_ret (pe_ifExp (pt_cmpR op_eq (pv 6) pe_str (nomark _)) (pe_op op_catA (pe_tup (pa_cons (pv 6) (pa_cons (pe_op op_add pe_int (pe_call G1 hr1 rfl z.g__law_draw z.k__law_draw b1 .nil passF (pa_cons (pv 0) (pa_cons (pe_callB call_len rfl z.b_len (by decide +kernel) (pa_cons (pv 4) pa_nil)) pa_nil)))) pa_nil))) (pv 4)) (pe_op op_catA (pe_tup (pa_cons (pv 6) pa_nil)) (pv 4))))))))), ?_⟩
      refine ⟨_, rfl, .inl ⟨lf, _, 0, _, rfl, rfl, SqL.of hlf, rfl, _, _, rfl, rfl, _, rfl, lf, _, 0, 0, rfl, rfl, hlf, rfl, ?_⟩⟩
      have eL : ((L : Nat) : Int) - 1 = ((L - 1 : Nat) : Int) := by omega
      have l0 : (upd H lf (.lst [.int (((L : Nat) : Int) - 1)])) lf = some (.lst [.int ((L - 1 : Nat) : Nat)]) := by rw [upd_same, eL]
      have u0 : But2 pn lf H (upd H lf (.lst [.int (((L : Nat) : Int) - 1)])) := fun p o e _ n2 => by rw [upd_ne n2]; exact e
      have p0 : PenAt (upd H lf (.lst [.int (((L : Nat) : Int) - 1)])) pn cl n := by
        obtain ⟨ns, a, g, k1, k2, k3⟩ := hp
        exact ⟨ns, a, g, by rw [upd_ne (Ne.symm ne2)]; exact k1, by rw [upd_ne ne4]; exact k2, k3⟩
      have fin := fun (H2 : Hp) (n1 : Nat) (u2 : But2 pn lf H H2) (p2 : PenAt H2 pn cl n1) (l2 : H2 lf = some (.lst [.int ((L - 1 : Nat) : Nat)])) (hn1 : n1 ≤ n + 1) => leaf_run (σ := [some (.ref pn), some (.ref nm), some (.int ((d + 1 : Nat) : Nat)), some (.ref lf), none, none, none]) (H := H2) (Q := Q) rfl rfl (u2 _ _ hnm ne1 ne3) ne1 hnn hnl hok (by omega) p2 fun a F H' bb pp s1 le1 okf de pl => hQ a F (n1 + 3) H' (u2.trans fun p o e m1 _ => bb p o e m1) pp (by rw [s1]; exact bb _ _ l2 ne2) (by omega) (by omega) le1 okf (by omega) pl
      refine ⟨_, rfl, _, _, rfl, rfl, _, rfl, ?_⟩
      by_cases c1 : ((d + 1 : Nat) : Int) < 2
      · rw [decide_eq_true c1]
        exact iteT (iteT (fin _ n u0 p0 l0 (by omega)))
      rw [decide_eq_false c1]
      refine iteF ⟨_, rfl, .inl ⟨lf, _, 0, _, rfl, rfl, SqL.of l0, rfl, _, _, rfl, rfl, _, rfl, ?_⟩⟩
      by_cases c2 : ((L - 1 : Nat) : Int) < 1
      · rw [decide_eq_true c2]
        exact iteT (iteT (fin _ n u0 p0 l0 (by omega)))
      rw [decide_eq_false c2]
      refine iteF ⟨_, rfl, pn, cl, 3, n, rfl, by decide, by decide, by omega, p0, fun y H2 u2 p2 y0 y1 => ⟨rfl, _, rfl, ?_⟩⟩
      have u02 : But2 pn lf H H2 := u0.trans fun p o e m1 _ => u2 p o e m1
      have l2 := u2 _ _ l0 ne2
      by_cases c3 : V.int y = V.int 0
      · rw [decide_eq_true c3]
        exact iteT (fin _ (n + 1) u02 p2 l2 (by omega))
      rw [decide_eq_false c3]
      refine iteF ⟨Nat.zero_le _, fun t0 ht0 => ?_⟩
      have pl2 : ∀ {H : Hp} {m : Nat}, PenAt H pn cl m → ∃ xs, H pn = some (.lst xs) := fun h => let ⟨_, _, _, k, _⟩ := h; ⟨_, k⟩
      have g0 := Grow.new (o := .tup []) ht0
      refine ⟨_, rfl, _, rfl, by show 3 ≤ sizeLine; decide, fun q hq => ?_⟩
      have gq := Grow.new (o := .lst [.int 3, .int 3, .int 8]) hq
      have hqp : q ≠ pn := fun e => by
        obtain ⟨xs, k⟩ := pl2 p2
        have k2 := g0 _ _ k
        rw [← e, hq] at k2
        cases k2
      have hqt : t0 ≠ q := fun e => by
        rw [← e, upd_same] at hq
        cases hq
      refine ⟨pn, cl, q, _, n + 1, rfl, upd_same, hqp, List.cons_ne_nil _ _, by show 3 < _; decide, by omega, (p2.grow g0).grow gq, fun v H4 w4 p4 m4 => ?_⟩
      have hv : ∃ m : Int, v = .int m ∧ 0 < m ∧ m ≤ 8 := by
        rcases List.mem_cons.mp m4 with rfl | m4
        · exact ⟨3, rfl, by decide, by decide⟩
        rcases List.mem_cons.mp m4 with rfl | m4
        · exact ⟨3, rfl, by decide, by decide⟩
        · rw [List.mem_singleton.mp m4]
          exact ⟨8, rfl, by decide, by decide⟩
      obtain ⟨m, rfl, m0, m1⟩ := hv
      refine ⟨pn, cl, m, n + 2, rfl, m0, by omega, by omega, p4, fun y5 H5 w5 p5 z0 z1 => ⟨_, _, rfl, rfl, _, rfl, by omega, by omega, ?_⟩⟩
      have t0n : t0 ≠ pn := fun e => by
        obtain ⟨xs, k⟩ := pl2 p2
        rw [← e, ht0] at k
        cases k
      have x0 := w5 _ _ (w4 _ _ (gq _ _ (show (upd H2 t0 (.tup [])) t0 = some (.tup []) from upd_same)) t0n) t0n
      have u5 : But2 pn lf H H5 := u02.trans fun p o e a1 _ => w5 _ _ (w4 _ _ (gq _ _ (g0 _ _ e)) a1) a1
      have l5 := w5 _ _ (w4 _ _ (gq _ _ (g0 _ _ l2)) ne2) ne2
      refine for_range (fun i σ' H' => ∃ (t : Addr) (F : Fo) (kvs : List V) (n' : Nat) (a5 a6 : Option V), σ' = [some (.ref pn), some (.ref nm), some (.int ((d + 1 : Nat) : Nat)), some (.ref lf), some (.ref t), a5, a6] ∧ H' t = some (.tup kvs) ∧ PlainsAt H' F kvs ∧ F.len ≤ i ∧ (1 ≤ i → 1 ≤ F.len) ∧ okF F ∧ F.deep ≤ d ∧ PenAt H' pn cl n' ∧ n' ≤ n + 3 + 5 * F.size ∧ F.size ≤ L - 1 ∧ H' lf = some (.lst [.int ((L - 1 - F.size : Nat) : Nat)]) ∧ But2 pn lf H H') ⟨t0, .nil, [], n + 3, none, none, rfl, x0, rfl, Nat.le_refl _, (fun h => absurd h (by decide)), trivial, Nat.zero_le _, p5, Nat.le_refl _, Nat.zero_le _, l5, u5⟩ (fun i σ' H' hi q => ?_) fun σ' H' q => ?_
      · obtain ⟨t, F, kvs, n', a5, a6, rfl, ht, hF, fl, fl1, okf, fd', pp, nn', fs, hl, bt⟩ := q
        refine ⟨_, rfl, .inl ⟨lf, _, 0, _, rfl, rfl, SqL.of hl, rfl, _, _, rfl, rfl, _, rfl, ?_⟩⟩
        by_cases hz : (0 : Int) < ((L - 1 - F.size : Nat) : Int)
        · rw [decide_eq_true hz]
          refine iteT ⟨_, rfl, _, rfl, _, rfl, _, rfl, _, _, rfl, rfl, _, rfl, pn, cl, nm, lf, names, n', L - 1 - F.size, ?_, bt _ _ hnm ne1 ne3, hl, ne1, ne2, ne3, ne4, hnn, hnl, hok, by omega, by omega, by omega, pp, fun a F2 n2 H6 b6 p6 l6 sz hn2 le1 ok2 de2 pl6 => ⟨by show 1 ≤ sizeLine; decide, fun q hq => ?_⟩⟩
          · exact congrArg (fun x => [V.ref pn, V.ref nm, V.int x, V.ref lf]) (by omega)
          · have tnp : t ≠ pn := fun e => by
              obtain ⟨xs, k⟩ := pl2 pp
              rw [← e, ht] at k
              cases k
            have tnl : t ≠ lf := fun e => by
              rw [← e, ht] at hl
              cases hl
            have gt : ∀ p xs, H' p = some (.tup xs) → H6 p = some (.tup xs) := fun p xs k => b6 _ _ k (fun e => by
              obtain ⟨ys, k2⟩ := pl2 pp
              rw [← e, k] at k2
              cases k2) (fun e => by
              rw [← e, k] at hl
              cases hl)
            have gq6 := Grow.new (o := .tup [.ref a]) hq
            have eapp := Fo.app_len F F2
            have easz := Fo.app_size F F2
            have eade := Fo.app_deep F F2
            have nxt : ∀ (r : Addr) (H7 : Hp), Grow H6 H7 → H7 r = some (.tup (kvs ++ [.ref a])) → ∃ (t : Addr) (F : Fo) (kvs : List V) (n' : Nat) (b5 b6 : Option V), [some (.ref pn), some (.ref nm), some (.int ((d + 1 : Nat) : Nat)), some (.ref lf), some (.ref r), some (V.int (0 + ((i : Nat) : Int))), a6] = [some (V.ref pn), some (.ref nm), some (.int ((d + 1 : Nat) : Nat)), some (.ref lf), some (.ref t), b5, b6] ∧ H7 t = some (.tup kvs) ∧ PlainsAt H7 F kvs ∧ F.len ≤ i + 1 ∧ (1 ≤ i + 1 → 1 ≤ F.len) ∧ okF F ∧ F.deep ≤ d ∧ PenAt H7 pn cl n' ∧ n' ≤ n + 3 + 5 * F.size ∧ F.size ≤ L - 1 ∧ H7 lf = some (.lst [.int ((L - 1 - F.size : Nat) : Nat)]) ∧ But2 pn lf H H7 := fun r H7 g7 e7 =>
              ⟨r, F.app F2, kvs ++ [.ref a], n2, _, a6, rfl, e7, ((hF.growT gt).grow g7).app (pl6.grow g7), by omega, fun _ => by omega, okF_app okf ok2, by rw [eade]; omega, p6.grow g7, by omega, by omega, by rw [g7 _ _ l6, easz, Nat.sub_sub (L - 1)], bt.trans (b6.trans (But2.grow g7))⟩
            have kl := hF.len
            exact ⟨t, q, kvs, [.ref a], rfl, rfl, SqT.of (gq6 _ _ (gt _ _ ht)), SqT.of upd_same, (by rw [sizeLine_eq]; show _ + 1 ≤ _; omega), fun e => nxt q _ gq6 (by rw [e]; exact upd_same), (fun _ e => nomatch e), fun _ _ r hr => nxt r _ (gq6.trans (Grow.new hr)) upd_same⟩
        · rw [decide_eq_false hz]
          refine iteF ⟨t, F, kvs, n', _, _, rfl, ht, hF, by omega, fun _ => ?_, okf, fd', pp, nn', fs, hl, bt⟩
          rcases Nat.eq_zero_or_pos F.len with h0 | h0
          · exfalso
            have e := len_zero h0
            subst e
            have e2 : (Fo.nil).size = 0 := rfl
            omega
          · exact h0
      · obtain ⟨t, F, kvs, n', a5, a6, rfl, ht, hF, fl, fl1, okf, fd', pp, nn', fs, hl, bt⟩ := q
        have f1 := fl1 (by omega)
        have kl := hF.len
        have tnp : t ≠ pn := fun e => by
          obtain ⟨xs, k⟩ := pl2 pp
          rw [← e, ht] at k
          cases k
        refine ⟨_, rfl, by show 3 ≤ sizeLine; decide, fun q hq => ?_⟩
        have g7 := Grow.new (o := .lst [.str "every", .str "some", .str "few"]) hq
        have hqp : q ≠ pn := fun e => by
          obtain ⟨xs, k⟩ := pl2 pp
          rw [← e, hq] at k
          cases k
        refine ⟨pn, cl, q, _, n', rfl, upd_same, hqp, List.cons_ne_nil _ _, by show 3 < _; decide, by omega, pp.grow g7, fun v H8 w8 p8 m8 => ?_⟩
        have gt8 : ∀ p xs, H' p = some (.tup xs) → H8 p = some (.tup xs) := fun p xs k => w8 _ _ (g7 _ _ k) (fun e => by
          obtain ⟨ys, k2⟩ := pl2 pp
          rw [← e, k] at k2
          cases k2)
        have bt8 : But2 pn lf H H8 := bt.trans fun p o e a1 _ => w8 _ _ (g7 _ _ e) a1
        have l8 := w8 _ _ (g7 _ _ hl) ne2
        have ht8 := gt8 _ _ ht
        have hF8 := hF.growT gt8
        have last : ∀ (k : Kd) (mm : Int) (T r : Addr) (H9 H10 : Hp) (n9 : Nat), (k = .few → 1 ≤ mm ∧ mm ≤ (F.len : Int)) → But pn H8 H9 → (∀ p xs, H8 p = some (.tup xs) → H9 p = some (.tup xs)) → PenAt H9 pn cl n9 → n9 ≤ n' + 2 → Grow H9 H10 → H10 r = some (.tup (k.phead mm ++ kvs)) → Q (.ref r) H10 := fun k mm T r H9 H10 n9 hk b9 t9 p9 h9 g10 e10 =>
          hQ r (.node k mm F .nil) n9 H10 (bt8.trans ((show But2 pn lf H8 H9 from fun p o e a1 _ => b9 p o e a1).trans (But2.grow g10))) (p9.grow g10) (by
            rw [g10 _ _ (b9 _ _ l8 ne2)]
            have e : L - 1 - F.size = L - (Fo.node k mm F .nil).size := by
              show L - 1 - F.size = L - (1 + F.size + 0)
              omega
            rw [e]) (by show 1 + F.size + 0 ≤ L; omega) (by show n9 ≤ n + 5 * (1 + F.size + 0); omega) rfl ⟨hk, by omega, okf, trivial⟩ (by show max (1 + F.deep) 0 ≤ d + 1; omega) ⟨r, kvs, [], rfl, e10, (hF8.growT t9).grow g10, rfl⟩
        have cat : ∀ (k : Kd) (mm : Int) (H9 : Hp) (n9 : Nat), (k = .few → 1 ≤ mm ∧ mm ≤ (F.len : Int)) → But pn H8 H9 → (∀ p xs, H8 p = some (.tup xs) → H9 p = some (.tup xs)) → PenAt H9 pn cl n9 → n9 ≤ n' + 2 → ∀ (T : Addr) (H10 : Hp), Grow H9 H10 → H10 T = some (.tup (k.phead mm)) → rCatA K (.ref T) (.ref t) H10 Q := fun k mm H9 n9 hk b9 t9 p9 h9 T H10 g eT => by
          have hp2 : (k.phead mm).length ≤ 2 := by cases k <;> exact Nat.le_of_ble_eq_true rfl
          have hp1 : k.phead mm ≠ [] := by cases k <;> exact List.cons_ne_nil _ _
          exact ⟨T, t, _, kvs, rfl, rfl, SqT.of eT, SqT.of (g _ _ (t9 _ _ ht8)), by rw [sizeLine_eq]; omega, fun e => absurd e hp1, fun _ e => last k mm T T H9 H10 n9 hk b9 t9 p9 h9 g (by rw [e, List.append_nil]; exact eT), fun _ _ r hr => last k mm T r H9 _ n9 hk b9 t9 p9 h9 (g.trans (Grow.new hr)) upd_same⟩
        rcases List.mem_cons.mp m8 with rfl | m8
        · refine ⟨_, rfl, rfl, _, rfl, ?_⟩
          rw [str_dec, decide_eq_false (by decide)]
          exact iteF ⟨_, rfl, by show 1 ≤ sizeLine; decide, fun T hT => ⟨_, rfl, cat .every 0 H8 (n' + 1) (nofun) (But.refl _) (fun _ _ k => k) p8 (by omega) T _ (Grow.new hT) upd_same⟩⟩
        rcases List.mem_cons.mp m8 with rfl | m8
        · refine ⟨_, rfl, rfl, _, rfl, ?_⟩
          rw [str_dec, decide_eq_false (by decide)]
          exact iteF ⟨_, rfl, by show 1 ≤ sizeLine; decide, fun T hT => ⟨_, rfl, cat .some 0 H8 (n' + 1) (nofun) (But.refl _) (fun _ _ k => k) p8 (by omega) T _ (Grow.new hT) upd_same⟩⟩
        · rw [List.mem_singleton.mp m8]
          refine ⟨_, rfl, rfl, _, rfl, ?_⟩
          rw [str_dec, decide_eq_true rfl]
          refine iteT ⟨_, rfl, _, rfl, _, rfl, _, _, rfl, .inr ⟨_, SqT.of ht8, rfl⟩, pn, cl, _, n' + 1, rfl, by omega, by omega, by omega, p8, fun y9 H9 w9 p9 a0 a1 => ⟨_, _, rfl, rfl, by show 2 ≤ sizeLine; decide, fun T hT => ⟨_, rfl, ?_⟩⟩⟩
          refine cat .few (1 + y9) H9 (n' + 2) (fun _ => ⟨by omega, by omega⟩) w9 (fun p xs k => w9 _ _ k (fun e => by
            obtain ⟨ys, k2⟩ := pl2 p8
            rw [← e, k] at k2
            cases k2)) p9 (by omega) T _ (Grow.new hT) ?_
          rw [upd_same]
          show some (HO.tup [V.str "few", .int (1 + y9)]) = some (HO.tup [V.str "few", .int (small (1 + y9))])
          rw [small_ok ⟨by omega, by omega⟩]
end
end K80

set_option Elab.async false
set_option linter.all false
set_option maxRecDepth 100000
set_option maxHeartbeats 4000000
/-! the law's run at the caller's own place (its guards are known there: repr) -/
namespace SX
open PySem PySem.Spec PyProof.Rows L2
open LamX (TabB)
/-- the law's def keeps its promise at one place -/
def RunAt (A : Around) (P : Program) (w : World) (K : PySem.W.Frag) (mg : Str → Option Value) (base : Heap) (CX : CXT) (fa : Addr) (fd : FuncData) (x : Str) (sp : Sp) : Prop :=
  ∀ (s : Shared) (H : Hp) (u : Value) (v : V) (Q : VK) (E : XK), Env0 P w K mg base A [] s H → BindsTo s fd ⟨[u], []⟩ [(x, u)] → RelV v u → sp [v] H Q E →
    codeAny (model P w) A (.call (.ref fa) ⟨[u], []⟩) (CR CX [] P w H s Q E) s
/-- a code object's table, empty -/
abbrev tabO : Obj := { cls := .none, data := .fields #[] }
/-- H tracks the tables of T and at most the list at a -/
structure Tr (T : List Addr) (a : Addr) (ob : Obj) (xs : List V) (H : Hp) : Prop where
  tab : ∀ b ∈ T, H b = some (.tbl #[])
  any : ∀ b, b ∉ T → H b = none ∨ (b = a ∧ H b = some (.frz ob (.lst xs)))
section
variable {P : Program} {w : World} {K : PySem.W.Frag} {T : List Addr} {a : Addr} {ob : Obj} {xs : List V} {H H' : Hp} {h h' : Heap} {b : Addr} {o : Obj}
theorem Tr.far (t : Tr T a ob xs H) (h1 : b ∉ T) (h2 : b ≠ a) : H b = none := (t.any b h1).elim id fun q => absurd q.1 h2
/-- what is neither a table nor a list is not tracked -/
theorem Tr.off (t : Tr T a ob xs H) (hT : ∀ b ∈ T, h.get? b = some tabO) (ha : h.get? a = some ob) (e : h.get? b = some o) (h1 : o.data ≠ .fields #[]) (h2 : o.data ≠ ob.data) : H b = none :=
  t.far (fun q => h1 (by rw [hT b q] at e; cases e; rfl)) fun q => h2 (by rw [q, ha] at e; cases e; rfl)
/-- what stood before stands, but that the tables grow -/
theorem Tr.old (t : Tr T a ob xs H) (hT : ∀ b ∈ T, h.get? b = some tabO) (hc : ∀ b ∈ T, isCodeTable h b) (u : Un (frs []) [] H H' h h') (h0 : HOk P w H h) (h1 : HOk P w H' h') : OldK h h' := by
  have far : ∀ b o, b ∉ T → h.get? b = some o → h'.get? b = some o := fun b o nb e => by
    rcases t.any b nb with q | ⟨_, q⟩
    · exact u.keep b o e q (fun z => nomatch z) fun z => nomatch z
    · have e1 := (h0 b _ q).1
      have e2 := (h1 b _ (u.frzs b ob _ q)).1
      rw [e1] at e
      rw [e2]
      exact e
  have near : ∀ b ∈ T, ∃ more : Array Value, h'.get? b = some { cls := .none, data := .fields more } := fun b hb => by
    obtain ⟨more, q⟩ := u.tbls b #[] (t.tab b hb)
    exact ⟨_, h1 b _ q⟩
  constructor
  · intro b o e
    by_cases hb : b ∈ T
    · obtain ⟨more, q⟩ := near b hb
      rw [hT b hb] at e
      cases e
      exact .inr (.inl ⟨hc b hb, rfl, #[], more, rfl, by rw [Array.empty_append]; exact q⟩)
    · exact .inl (far b o hb e)
  · intro b o e
    by_cases hb : b ∈ T
    · obtain ⟨more, q⟩ := near b hb
      exact ⟨_, q⟩
    · exact ⟨o, far b o hb e⟩
end
theorem law_at {P : Program} {w : World} {K : PySem.W.Frag} {mg mb : Str → Option Value} {CX : CXT} {fa a : Addr} {cs : List (Addr × Addr)} {fd : FuncData} {x : Str} {sp : Sp} {s : Shared} {vs : List Value} {ns : List Int}
    (KX : K.In s.heap) (gN : s.heap.Ns mainGlobals mg) (bN : s.heap.Ns builtinsNs mb) (bB : ∀ y : Str, y ≠ "__name__" → mb y = bootBuiltins y) (nl : s.heap.NoLimit) (g0 : s.gens = #[])
    (eT : ∀ p ∈ cs, s.heap.get? p.2 = some tabO) (kT : ∀ p ∈ cs, K.lookup p.2 = none) (cT : ∀ p ∈ cs, PySem.W.CodeHd s.heap p.1 p.2)
    (bm : ∃ (m : Addr) (o : Obj), mg "__builtins__" = some (.ref m) ∧ m ≠ builtinsNs ∧ s.heap.get? m = some o ∧ o.cls = .type "module" ∧ o.dict = some builtinsNs ∧ o.data = .plain)
    (ha : s.heap.get? a = some { cls := .type "list", data := .seq vs.toArray }) (hi : IntsAre vs ns) (hl : ns.length ≤ sizeLine)
    (F : ∀ base : Heap, K.In base → base.Ns mainGlobals mg → (∀ p ∈ cs, TabB base mg p.1 p.2) → RunAt callerA P w K mg base CX fa fd x sp) (hb : ∀ (s : Shared) (u : Value), BindsTo s fd ⟨[u], []⟩ [(x, u)])
    (hsp : ∀ H : Hp, (∀ p ∈ cs, H p.2 = some (.tbl #[])) → SqL K H a (ns.map V.int) → sp [.ref a] H (fun v _ => v = .bl true) fun _ _ _ => False)
    (hCX : ∀ H e s', CX [] H s (fun _ _ _ => False) e s' → False) :
    codeAny (model P w) callerA (.call (.ref fa) ⟨[.ref a], []⟩) (fun r s' => r = .ok (.ret (.bool true)) ∧ OldK s.heap s'.heap ∧ s'.os = s.os ∧ AllBare s'.gens) s := by
  have rv := vals_ints hi
  have lv := hi.length
  have isT : ∀ b ∈ cs.map (·.2), s.heap.get? b = some tabO := List.forall_mem_map.mpr eT
  have inT : ∀ p ∈ cs, p.2 ∈ cs.map (·.2) := fun p hp => List.mem_map_of_mem hp
  have aT : a ∉ cs.map (·.2) := fun q => by
    have e := isT a q
    rw [ha] at e
    exact absurd (congrArg Obj.data (Option.some.inj e)) (nofun)
  have hcode : ∀ b ∈ cs.map (·.2), isCodeTable s.heap b := List.forall_mem_map.mpr fun p hp => ((cT p hp).tab (eT p hp)).isCodeTable
  obtain ⟨H, hH⟩ : ∃ H : Hp, H = fun b => if b ∈ cs.map (·.2) then some (.tbl #[]) else if b = a ∧ (K.lookup a).isNone = true then some (.frz { cls := .type "list", data := .seq vs.toArray } (.lst (ns.map V.int))) else none := ⟨_, rfl⟩
  have hin : ∀ b ∈ cs.map (·.2), H b = some (.tbl #[]) := fun b q => by rw [hH]; exact if_pos q
  have hout : ∀ b, b ∉ cs.map (·.2) → H b = if b = a ∧ (K.lookup a).isNone = true then some (.frz { cls := .type "list", data := .seq vs.toArray } (.lst (ns.map V.int))) else none := fun b q => by rw [hH]; exact if_neg q
  have t : Tr (cs.map (·.2)) a { cls := .type "list", data := .seq vs.toArray } (ns.map V.int) H := ⟨hin, fun b q => by
    rw [hout b q]
    split
    · rename_i c
      exact .inr ⟨c.1, rfl⟩
    · exact .inl rfl⟩
  have seq : SqL K H a (ns.map V.int) := by
    cases k : K.lookup a with
    | none => exact .inl (.inr ⟨_, (hout a aT).trans (if_pos ⟨rfl, by rw [k]; rfl⟩)⟩)
    | some o =>
      have e := (KX a o k).symm.trans ha
      cases e
      exact .inr ⟨_, _, _, k, rfl, rfl, rfl, by rw [List.size_toArray, lv]; exact hl, by simpa using rv⟩
  have hok : HOk P w H s.heap := fun b u q => by
    by_cases c : b ∈ cs.map (·.2)
    · rw [hin b c] at q
      cases q
      exact isT b c
    · rcases t.any b c with e | ⟨rfl, e⟩
      · rw [e] at q
        cases q
      · rw [e] at q
        cases q
        exact ⟨ha, by rw [List.length_map]; exact hl, vs, _, rv, ha⟩
  have dictN : ∀ {b : Addr} {m : Str → Option Value}, s.heap.Ns b m → (hidT s.heap H).Ns b m := fun q => by
    obtain ⟨o, es, ep, e, d, r⟩ := q
    exact ⟨o, es, ep, hidT_get e (t.off isT ha e (by rw [d]; exact nofun) (by rw [d]; exact nofun)), d, r⟩
  have kb : K.In (hidT s.heap H) := fun b o k => hidT_get (KX b o k) (by
    by_cases c : b ∈ cs.map (·.2)
    · obtain ⟨p, hp, rfl⟩ := List.mem_map.mp c
      rw [kT p hp] at k
      cases k
    · rw [hout b c]
      refine if_neg fun q => ?_
      rw [q.1] at k
      have := q.2
      rw [k] at this
      cases this)
  have tb : ∀ p ∈ cs, TabB (hidT s.heap H) mg p.1 p.2 := fun p hp => by
    refine ⟨?_, ?_, fun q => ?_⟩
    · obtain ⟨o, us, file, tf, flags, tg, inF, text, tt, e, r1, r2, r3, rest⟩ := cT p hp
      refine ⟨o, us, file, tf, flags, tg, inF, text, tt, hidT_get e (t.off isT ha e (fun z => ?_) fun z => ?_), r1, r2, r3, rest⟩
      · rw [r2] at z
        cases z
        simp at r3
      · rw [r2] at z
        cases z
    · obtain ⟨m, o, m1, m2, m3, m4, m5, m6⟩ := bm
      refine ⟨m, o, m1, m2, fun q => ?_, fun q => ?_, hidT_get m3 (t.off isT ha m3 (by rw [m6]; exact nofun) (by rw [m6]; exact nofun)), m4, m5, m6⟩
      · obtain ⟨o', es, ep, e, d, _⟩ := gN
        rw [q, e] at m3
        cases m3
        rw [d] at m6
        cases m6
      · rw [q, eT p hp] at m3
        cases m3
        cases m6
    · obtain ⟨o', es, ep, e, d, _⟩ := gN
      rw [q, eT p hp] at e
      cases e
      cases d
  have e0 : Env0 P w K mg (hidT s.heap H) callerA [] s H := {
    frames := rfl
    mod := ⟨kb, dictN gN, ⟨mb, dictN bN, bB⟩, let ⟨mc, h1, h2⟩ := nl; ⟨mc, dictN h1, h2⟩⟩
    bs := fun _ _ e => of_hidT e
    bsz := Nat.le_of_eq (hidT_size _ _)
    funs := trivial
    frf := fun b q => absurd (show b ∈ ([] : List Addr) from q) (by simp)
    hok := hok
    bare := .of_eq g0 }
  refine codeAny_mono (F _ kb (dictN gN) tb s H (.ref a) (.ref a) _ _ e0 (hb s _) rfl (hsp H (fun p hp => hin _ (inT p hp)) seq)) fun r s' q => ?_
  match r, q with
  | .error e, q => exact (hCX H e s' q).elim
  | .ok (.ret u), q =>
    obtain ⟨v, H', os, bare, un, hok', rr, rfl⟩ := q
    cases (show u = Value.bool true from rr)
    exact ⟨rfl, t.old isT hcode un hok hok', os, bare⟩
/-- what is known of the law at the head's heap -/
def LawAtR (l : PySem.W.OpenLaw) (w : World) (K : PySem.W.Frag) (CX : CXT) (n : Nat) (x : Str) (mg : Str → Option Value) (fa : Addr) (h : Heap) : Prop :=
  ∃ (fd : FuncData) (cs : List (Addr × Addr)) (sp : Sp), (∀ p ∈ cs, h.get? p.2 = some tabO) ∧ (∀ p ∈ cs, K.lookup p.2 = none) ∧ (∀ p ∈ cs, PySem.W.CodeHd h p.1 p.2) ∧ (∀ (s : Shared) (u : Value), BindsTo s fd ⟨[u], []⟩ [(x, u)]) ∧
    (∀ (H : Hp) (a : Addr) (ns : List Int), ns.length ≤ n → (∀ p ∈ cs, H p.2 = some (.tbl #[])) → SqL K H a (ns.map V.int) → sp [.ref a] H (fun v _ => v = .bl true) fun _ _ _ => False) ∧
    ∀ base : Heap, K.In base → base.Ns mainGlobals mg → (∀ p ∈ cs, TabB base mg p.1 p.2) → RunAt callerA l.prog w K mg base CX fa fd x sp
theorem walk_atR {l : PySem.W.OpenLaw} {n : Nat} {q : Program} {loose : List Str} {XP : (Str → Option Value) → Heap → Prop} {YP : World → Heap → Prop} {d : DefRec} {CX : World → CXT} {x : Str}
    (hn : l.most = some n) (hn2 : n ≤ sizeLine) (hdf : d.params.defaults = [])
    (F : ∀ (w : World) (mg : Str → Option Value) (fa : Addr) (h : Heap), YP w h → h.Ns mainGlobals mg → mg d.name = some (.ref fa) → ∃ K : PySem.W.Frag, K.In h ∧ LawAtR l w K (CX w) n x mg fa h)
    (hCX : ∀ (w : World) (H : Hp) (s : Shared) (e : Value) (s' : Shared), CX w [] H s (fun _ _ _ => False) e s' → False) : PySem.W.WalkO q loose XP YP l.row.toRowW d [] (fun f vs => PySem.call f vs) :=
  Att.attach_callB hn hdf fun w _ s mg _ fa _ _ _ _ a vs ns G Y _ _ _ hmg hobj hints hlen _ hg => by
    obtain ⟨K, KX, fd, cs, sp, eT, kT, cT, hb, hsp, hF⟩ := F w mg fa _ Y G.T.g hmg
    exact law_at KX G.T.g G.T.b G.T.builtins G.T.nolimit hg eT kT cT G.T.bmain hobj hints (Nat.le_trans hlen hn2) hF hb (fun H hH hS => hsp H a ns hlen hH hS) fun H e s' => hCX w H s e s'
end SX

set_option Elab.async false
set_option linter.all false
set_option maxRecDepth 100000
set_option maxHeartbeats 4000000
/-! repr of tuples at a place whose guards are known; != by an own __eq__ -/
namespace SX
open PySem PySem.Spec PyProof.Rows L2
/-- repr(x), x a list or tuple of plain data -/
def rRepr (K : PySem.W.Frag) : List V → Hp → VK → Prop := fun xs H Q => ∃ (a : Addr) (d : PyData), xs = [.ref a] ∧ Dp K H (.ref a) d ∧ d.showable = true ∧ d.hasDict = false ∧ d.depth ≤ 60 ∧ d.shown.length ≤ sizeLine ∧ Q (.str d.shown) H
theorem call_reprA {X : Cx} (hg : X.A.guards = some []) (hu : X.A.units + 64 < cLine) : CallR X (.builtin "repr") (rRepr X.K) := by
  intro pins s σ H xs us Q I r h
  obtain ⟨a, d, rfl, hd, h1, h2, h3, h4, q⟩ := h
  obtain ⟨u, rfl, r1⟩ := vals1 r
  cases (show u = Value.ref a from r1)
  obtain ⟨as, rd⟩ := Dp.reads I d _ _ hd rfl
  exact repr_of_reads' rd h1 (PyData.noDict_hsm h2) hg (by omega) (fun _ _ e => e) (fun h' v tk k => ⟨.str d.shown, H, I.kept k, ⟨_, rfl⟩, q⟩) h4
/-! ### != -/
section
open PySem.W Builtin
variable {prog : Program} {w : World} {A : Around} {E : Value → Shared → Prop} {s : Shared} {K : Frag} {x C f : Addr} {ox : Obj} {od : Option Obj} {b : Value}
theorem ne_bound {M : Model} {args : List Value} {Q : Option Value → Shared → Prop} (X : K.In s.heap) (I : InstAt s.heap x ox C od) (hs : findIn K (.ref C) "__ne__" = some (some (.builtin "object.__ne__")))
    (h : wpAny M A (call (.builtin "object.__ne__") (.ref x :: args)) (fun v => Q (some v)) E s) : wpAny M A (callSpecialIfBound? (.ref x) "__ne__" args) Q E s := by
  simp only [callSpecialIfBound?, bindSpecialIfBound?]
  refine wpAny_holding (wpAny_bind (wpAny_bind (wpAny_bind (I.type.here ((looks_findIn X hs).here ?_)))))
  have nx := (Looks.of_pure (M := M) (h := s.heap) (PySem.F.cmp_object.ne.bind (.ref x)))
  refine wpAny_bind (wpAny_askSetting (wpAny_ite ?_))
  split
  · exact wpAny_bind (nx.here (wpAny_pure (wpAny_bind (wpAny_mono h (fun v s' q => wpAny_pure q) fun _ _ q => q))))
  · exact wpAny_tryCatch (wpAny_bind (nx.here (wpAny_pure (wpAny_bind (wpAny_mono h (fun v s' q => wpAny_pure q) fun _ _ q => q)))))
theorem ne_entry {Q : Value → Shared → Prop} (hu : A.in1.units < cLine) (X : K.In s.heap) (I : InstAt s.heap x ox C od) (hm : mroIn K C (.type "object") = some true) (hr : findIn K (.ref C) "__eq__" = some (some (.ref f))) (hf : isFn K (.ref f) = true)
    (h : wpAny (model prog w) A.in1 (call (.ref f) [.ref x, b]) (fun v s' => ∃ k, v = .bool k ∧ Q (.bool (!k)) s') E s) : wpAny (model prog w) A (call (.builtin "object.__ne__") [.ref x, b]) Q E s := by
  refine wpAny_call (codeAny_call_builtin PySem.F.cmp_object.ne.plain PySem.F.cmpEntry_ne (check_slot (i := "object.__ne__") (owner := "object") (n := "__ne__") PySem.F.cmpKind_ne PySem.F.cmpSplit_ne (I.type.andThen (looks_mroIn X hm)) (PySem.F.cmpArgs_ne _ _) ?_))
  unfold Builtin.«object.__ne__»
  repeat (first
    | with_reducible refine wpAny_cRoomFor hu ?_
    | (refine wpAny_bind (m := callSpecialIfBound? (.ref x) (Str.ofString "__eq__") [b])
        (ifBound_K X I hr hf (wpAny_mono h (fun r s' hr => by
          obtain ⟨k, rfl, hq⟩ := hr
          repeat (first | exact hq | exact wpAny_pure hq | exact wpAny_truthy_bool hq | (refine wpAny_bind (m := truthy (.bool _)) (wpAny_truthy_bool ?_)) | wp_step)) fun _ _ e => e)))
    | wp_step)
theorem ne_rich {Q : Value → Shared → Prop} (hu : A.units + 1 < cLine) (X : K.In s.heap) (I : InstAt s.heap x ox C od) (hb : Looks (model prog w) s.heap (typeOf b) (.ref C)) (hn : findIn K (.ref C) "__ne__" = some (some (.builtin "object.__ne__")))
    (hm : mroIn K C (.type "object") = some true) (hr : findIn K (.ref C) "__eq__" = some (some (.ref f))) (hf : isFn K (.ref f) = true)
    (h : wpAny (model prog w) A.in1 (call (.ref f) [.ref x, b]) (fun v s' => ∃ k, v = .bool k ∧ Q (.bool (!k)) s') E s) : wpAny (model prog w) A (richCompare .NotEq (.ref x) b) Q E s := by
  have one : wpAny (model prog w) A (tryCompare (.ref x) "__ne__" b) (fun r s' => ∃ k, r = some (.bool k) ∧ Q (.bool k) s') E s := by
    unfold tryCompare
    refine wpAny_bind (ne_bound X I hn (ne_entry (by exact hu) X I hm hr hf (wpAny_mono h (fun v s' q => ?_) fun _ _ e => e)))
    obtain ⟨k, rfl, q⟩ := q
    exact ⟨k, rfl, wpAny_pure ⟨_, rfl, q⟩⟩
  unfold richCompare
  simp only [oneThing_ref]
  refine wpAny_holding (wpAny_bind (wpAny_cRoomFor (Nat.lt_of_succ_lt hu) ?_))
  rw [cmpInfo_NotEq]
  dsimp only
  refine wpAny_bind (I.type.here (wpAny_bind (hb.here ?_)))
  rw [show (Value.ref C != Value.ref C) = false from by simp]
  simp only [Bool.false_eq_true, if_false]
  refine wpAny_bind (wpAny_pure ?_)
  simp only [Bool.false_eq_true, if_false]
  refine wpAny_bind (wpAny_mono one (fun r s' z => ?_) fun _ _ e => e)
  obtain ⟨k, rfl, q⟩ := z
  exact wpAny_pure q
end
section
variable {X : Cx} {n : Nat} {D : Eqv}
/-- != gives False for what D says -/
def NeG (X : Cx) (n : Nat) (D : Eqv) : Prop :=
  ∀ (A : Around) (pins : List (Addr × Obj)) (s : Shared) (σ : L2.St) (H : Hp) (x y : V) (u v : Value), Sub X n A → Inv X pins σ H s → RelV x u → RelV y v → D x y H →
    wpAny (model X.prog X.w) A (richCompare .NotEq u v) (fun r s' => r = .bool false ∧ ∃ H', Inv X pins σ H' s' ∧ Ext H H') X.xe s
theorem neG_ins {CX : CXT} {C f : Addr} {fd : FuncData} {ps : List Str} {R : Addr → Addr → Hp → Prop} {E : XK} (F : FnOk X.prog X.w X.K X.mg X.base CX n f fd ps (spEq R))
    (hn : PySem.W.findIn X.K (.ref C) "__ne__" = some (some (.builtin "object.__ne__"))) (hm : PySem.W.mroIn X.K C (.type "object") = some true)
    (hs : PySem.W.findIn X.K (.ref C) "__eq__" = some (some (.ref f))) (hf : PySem.W.isFn X.K (.ref f) = true) (hb : Binds X.K fd ps []) (hx : Passes CX X E) : NeG X (n + 1) (DIns C R) := by
  intro A pins s σ H x y u v sb I rx ry d
  obtain ⟨a, b, dx, dy, fs, gs, rfl, rfl, ha, hb', hr⟩ := d
  cases rx
  cases ry
  obtain ⟨mA, J, _⟩ := ins_get I.hok ha
  obtain ⟨mB, J', _⟩ := ins_get I.hok hb'
  obtain ⟨od, J, _⟩ := J.look
  obtain ⟨od', J', _⟩ := J'.look
  refine ne_rich (by have := sb.room.units; omega) I.kIn J J'.type hn hm hs hf ?_
  have hsp : spEq R [.ref a, .ref b] H (fun v H' => v = .bl true ∧ Ext H H') E := ⟨a, b, rfl, hr, fun H' e => ⟨rfl, e⟩⟩
  have e0 : Env0 X.prog X.w X.K X.mg X.base A.in1 X.stack s H := by
    have e := I.env0
    exact ⟨by show A.frames = _; rw [sb.fr]; exact e.frames, e.mod, e.bs, e.bsz, e.funs, e.frf, e.hok, e.bare⟩
  have r2 : Vals [V.ref a, V.ref b] [Value.ref a, Value.ref b] := .cons rfl (.cons rfl .nil)
  have hl := F.len _ _ _ _ hsp
  have bt : BindsTo s fd ⟨[.ref a, .ref b], []⟩ (ps.zip [.ref a, .ref b]) := by
    have := hb s [.ref a, .ref b] I.kIn (by simpa using hl)
    simpa using this
  refine wpAny_call (codeAny_mono (F.run A.in1 X.stack s H _ _ _ _ E sb.in1.room e0 bt r2 hsp) fun r s' hq => ?_)
  cases r with
  | error e => exact hx pins σ H s e s' I hq
  | ok fl =>
    cases fl with
    | ret w =>
      obtain ⟨z, H', I', rz, ez, ex⟩ := I.after hq
      subst ez
      cases rz
      exact ⟨true, rfl, rfl, H', I', ex⟩
    | next => exact False.elim hq
    | brk => exact False.elim hq
    | cont => exact False.elim hq
/-- x != y as an expression -/
def rNeG (D : Eqv) : R2 := fun x y H Q => D x y H ∧ ∀ H', Ext H H' → Q (.bl false) H'
theorem op_neG (h : NeG X n D) (hr : Room n X.A) : OpR X (compareOp .NotEq) (rNeG D) := by
  intro pins s σ H x y v u Q I rx ry hq
  obtain ⟨d, q⟩ := hq
  show wpAny (model X.prog X.w) X.A (richCompare .NotEq v u) (EP X pins σ Q) X.xe s
  refine wpAny_mono (h X.A pins s σ H x y v u ⟨hr, rfl⟩ I rx ry d) (fun r s' z => ?_) fun _ _ x => x
  obtain ⟨rfl, H', I', e⟩ := z
  exact ⟨.bl false, H', I', rfl, q H' e⟩
end
end SX

set_option Elab.async false
set_option linter.all false
set_option maxRecDepth 100000
set_option maxHeartbeats 4000000
/-! plain: the plain needs as data, and how long they are when shown -/
namespace K80
open PySem PySem.Spec PyProof.Rows L2 SX TL
def pheadD (k : Kd) (m : Int) : List PyData := match k with
  | .few => [.str "few", .int (small m)]
  | .every => [.str "every"]
  | .some => [.str "some"]
def pdat : Fo → List PyData
  | .nil => []
  | .has s r => .tuple [.str "has", .str s] :: pdat r
  | .node k m kids r => .tuple (pheadD k m ++ pdat kids) :: pdat r
theorem dp_append {K : PySem.W.Frag} {H : Hp} : ∀ {vs ws : List V} {ds es : List PyData}, DpAll K H vs ds → DpAll K H ws es → DpAll K H (vs ++ ws) (ds ++ es)
  | _, _, _, _, .nil, h => h
  | _, _, _, _, .cons a b, h => .cons a (dp_append b h)
theorem dp_head {K : PySem.W.Frag} {H : Hp} (k : Kd) (m : Int) : DpAll K H (k.phead m) (pheadD k m) := by
  cases k with
  | few => exact .cons (.str _) (.cons (.int _) .nil)
  | every => exact .cons (.str _) .nil
  | some => exact .cons (.str _) .nil
theorem plain_dp {K : PySem.W.Frag} {H : Hp} : ∀ {F : Fo} {vs : List V}, PlainsAt H F vs → DpAll K H vs (pdat F)
  | .nil, _, h => by
    rw [show _ = [] from h]
    exact .nil
  | .has s r, _, ⟨a, vs', e, h, t⟩ => by
    rw [e]
    exact .cons (.tup (SqT.of h) (.cons (.str _) (.cons (.str _) .nil))) (plain_dp t)
  | .node k m kids r, _, ⟨a, kvs, vs', e, h, tk, t⟩ => by
    rw [e]
    exact .cons (.tup (SqT.of h) (dp_append (dp_head k m) (plain_dp tk))) (plain_dp t)
theorem pdat_nrm : ∀ F : Fo, pdat (nrm F) = pdat F
  | .nil => rfl
  | .has s r => by
    show _ :: pdat (nrm r) = _ :: pdat r
    rw [pdat_nrm r]
  | .node .every m kids r => by
    show PyData.tuple (pheadD .every 0 ++ pdat (nrm kids)) :: pdat (nrm r) = _
    rw [pdat_nrm kids, pdat_nrm r]
    rfl
  | .node .some m kids r => by
    show PyData.tuple (pheadD .some 0 ++ pdat (nrm kids)) :: pdat (nrm r) = _
    rw [pdat_nrm kids, pdat_nrm r]
    rfl
  | .node .few m kids r => by
    show PyData.tuple ([.str "few", .int (small (small m))] ++ pdat (nrm kids)) :: pdat (nrm r) = _
    rw [pdat_nrm kids, pdat_nrm r, small_small]
    rfl
theorem small_log (m : Int) : (small m).natAbs.log2 < 1920 := by
  obtain ⟨h1, h2⟩ := small_bd m
  exact Nat.lt_of_le_of_lt (Nat.log2_le_self _) (by omega)
theorem sh_app : ∀ {xs ys : List PyData}, PyData.showableAll xs = true → PyData.showableAll ys = true → PyData.showableAll (xs ++ ys) = true
  | [], _, _, h => h
  | x :: xs, ys, h, k => by
    have h : (PyData.showable x && PyData.showableAll xs) = true := by simpa [PyData.showableAll] using h
    obtain ⟨a, b⟩ := He.ba h
    simp [PyData.showableAll, a, sh_app b k]
theorem sh_head (k : Kd) (m : Int) : PyData.showableAll (pheadD k m) = true := by
  cases k with
  | few => simp [pheadD, PyData.showableAll, PyData.showable, small_log]
  | every => rfl
  | some => rfl
theorem pdat_sh : ∀ F : Fo, PyData.showableAll (pdat F) = true
  | .nil => rfl
  | .has s r => by simp [pdat, PyData.showableAll, PyData.showable, pdat_sh r]
  | .node k m kids r => by
    have := sh_app (sh_head k m) (pdat_sh kids)
    simp [pdat, PyData.showableAll, PyData.showable, pdat_sh r, this]
theorem nd_app : ∀ {xs ys : List PyData}, PyData.hasDictAll xs = false → PyData.hasDictAll ys = false → PyData.hasDictAll (xs ++ ys) = false
  | [], _, _, h => h
  | x :: xs, ys, h, k => by
    have h : PyData.hasDict x = false ∧ PyData.hasDictAll xs = false := by simpa [PyData.hasDictAll] using h
    simp [PyData.hasDictAll, h.1, nd_app h.2 k]
theorem pdat_nd : ∀ F : Fo, PyData.hasDictAll (pdat F) = false
  | .nil => rfl
  | .has s r => by simp [pdat, PyData.hasDictAll, PyData.hasDict, pdat_nd r]
  | .node k m kids r => by
    have h : PyData.hasDictAll (pheadD k m) = false := by cases k <;> rfl
    have := nd_app h (pdat_nd kids)
    simp [pdat, PyData.hasDictAll, PyData.hasDict, pdat_nd r, this]
theorem da_app : ∀ {xs ys : List PyData}, PyData.depthAll (xs ++ ys) = max (PyData.depthAll xs) (PyData.depthAll ys)
  | [], ys => by simp [PyData.depthAll]
  | x :: xs, ys => by
    have := da_app (xs := xs) (ys := ys)
    simp only [List.cons_append, PyData.depthAll, this]
    omega
theorem pdat_deep : ∀ F : Fo, PyData.depthAll (pdat F) ≤ F.deep
  | .nil => Nat.le_refl _
  | .has s r => by
    have := pdat_deep r
    simp only [pdat, PyData.depthAll, PyData.depth]
    show _ ≤ max 1 r.deep
    omega
  | .node k m kids r => by
    have h1 := pdat_deep r
    have h2 := pdat_deep kids
    have h3 : PyData.depthAll (pheadD k m) = 0 := by cases k <;> simp [pheadD, PyData.depthAll, PyData.depth]
    simp only [pdat, PyData.depthAll, PyData.depth, da_app, h3]
    show _ ≤ max (1 + kids.deep) r.deep
    omega
/-! ### how long it is -/
theorem tup_len (ts : List Str) : (tupleText ts).length ≤ piled ts + 3 := by
  have e1 : ((("(" : String) : Str)).length = 1 := rfl
  have e3 : (((if ts.length == 1 then ",)" else ")" : String) : Str)).length ≤ 2 := by split <;> decide
  unfold tupleText
  rw [PySem.Str.length_append, PySem.Str.length_append, e1]
  by_cases h : ts = []
  · subst h
    have e : (Str.join ", " []).length = 0 := rfl
    rw [e]
    omega
  · have := join_length_add ts h
    omega
theorem piled_app (ts us : List Str) : piled (ts ++ us) = piled ts + piled us := by
  unfold piled
  rw [List.map_append, List.sum_append]
theorem shown_app : ∀ (xs ys : List PyData), PyData.shownAll (xs ++ ys) = PyData.shownAll xs ++ PyData.shownAll ys
  | [], _ => rfl
  | x :: xs, ys => by
    simp only [List.cons_append, PyData.shownAll, shown_app xs ys]
theorem name_len {s : Str} (h : nameB s = true) : (reprText s).length ≤ 122 := by
  obtain ⟨_, h⟩ := He.ba h
  obtain ⟨h1, h2⟩ := He.ba h
  have h1 := of_decide_eq_true h1
  refine Nat.le_trans (StrLaws.reprText_len s fun c hc => ?_) (by omega)
  have q := List.all_eq_true.mp h2 c hc
  unfold signB at q
  have q2 := (He.ba q).2
  have q3 : ¬ ([122] < [c]) := by
    intro z
    have z' : (("z" : Str).cps.toList < (⟨#[c]⟩ : Str).cps.toList) := z
    rw [decide_eq_true z'] at q2
    exact absurd q2 (by decide)
  have q4 : ¬ 122 < c := fun z => q3 (List.Lex.rel z)
  have : (16 : Nat) ^ 8 = 4294967296 := by decide
  omega
theorem int_len {m : Int} (h : 0 ≤ m ∧ m ≤ 1000) : (Str.ofString (toString m)).length ≤ 10 := by
  have e := int_text_length_le10 (k := 4) (a := m) (by decide) (by have : (10 : Nat) ^ 4 = 10000 := rfl; omega)
  rw [PySem.ofString_length]
  omega
theorem head_len (k : Kd) (m : Int) : piled (PyData.shownAll (pheadD k m)) ≤ 30 := by
  cases k with
  | few =>
    have h := int_len (small_bd m)
    have e1 : (reprText "few").length = 5 := by decide +kernel
    show piled [reprText "few", Str.ofString (toString (small m))] ≤ 30
    unfold piled
    simp only [List.map_cons, List.map_nil, List.sum_cons, List.sum_nil, e1]
    omega
  | every =>
    show piled [reprText "every"] ≤ 30
    decide +kernel
  | some =>
    show piled [reprText "some"] ≤ 30
    decide +kernel
theorem pdat_len : ∀ F : Fo, okF F → piled (PyData.shownAll (pdat F)) ≤ 200 * F.size
  | .nil, _ => Nat.le_refl _
  | .has s r, ⟨a, b⟩ => by
    have h := pdat_len r b
    have hn := name_len a
    have e1 : (reprText "has").length = 5 := by decide +kernel
    have h2 := tup_len [reprText "has", reprText s]
    have e2 : piled [reprText "has", reprText s] = (reprText "has").length + 2 + ((reprText s).length + 2) := by simp [piled]
    have e3 : piled (PyData.shownAll (pdat (.has s r))) = (tupleText [reprText "has", reprText s]).length + 2 + piled (PyData.shownAll (pdat r)) := rfl
    rw [e3]
    show _ ≤ 200 * (1 + r.size)
    omega
  | .node k m kids r, ⟨_, _, a, b⟩ => by
    have h := pdat_len r b
    have h1 := pdat_len kids a
    have h2 := tup_len (PyData.shownAll (pheadD k m ++ pdat kids))
    have h3 := head_len k m
    have e3 : piled (PyData.shownAll (pdat (.node k m kids r))) = (tupleText (PyData.shownAll (pheadD k m ++ pdat kids))).length + 2 + piled (PyData.shownAll (pdat r)) := rfl
    rw [e3]
    rw [shown_app, piled_app] at h2
    rw [shown_app]
    show _ ≤ 200 * (1 + kids.size + r.size)
    omega
/-- the repr of one plain need -/
def shownF (F : Fo) : Str := match pdat F with
  | d :: _ => d.shown
  | [] => ""
theorem shownF_nrm (F : Fo) : shownF (nrm F) = shownF F := by
  unfold shownF
  rw [pdat_nrm]
theorem repr_i {K : PySem.W.Frag} {H : Hp} {a : Addr} {F : Fo} {Q : VK} (h : PlainsAt H F [.ref a]) (ok : okF F) (hd : F.deep ≤ 50) (hs : F.size ≤ 1000) (q : Q (.str (shownF F)) H) : rRepr K [.ref a] H Q := by
  have h1 := plain_dp (K := K) h
  have h2 := pdat_sh F
  have h3 := pdat_nd F
  have h4 := pdat_deep F
  have h5 := pdat_len F ok
  unfold shownF at q
  cases e : pdat F with
  | nil =>
    rw [e] at h1
    cases h1
  | cons d ds =>
    rw [e] at h1 h2 h3 h4 h5 q
    cases h1 with
    | cons k1 k2 =>
      have a1 : (PyData.showable d && PyData.showableAll ds) = true := by simpa [PyData.showableAll] using h2
      have a2 : PyData.hasDict d = false ∧ PyData.hasDictAll ds = false := by simpa [PyData.hasDictAll] using h3
      have a3 : max (PyData.depth d) (PyData.depthAll ds) ≤ F.deep := by simpa only [PyData.depthAll] using h4
      have a4 : d.shown.length + 2 + piled (PyData.shownAll ds) ≤ 200 * F.size := h5
      exact ⟨a, d, rfl, k1, (He.ba a1).1, a2.1, by omega, by rw [sizeLine_eq]; omega, q⟩
end K80

set_option Elab.async false
set_option linter.all false
set_option maxRecDepth 100000
set_option maxHeartbeats 8000000
/-! the needs' own == -/
namespace K80
open PySem PySem.Spec PyProof.Rows L2 SX
open He (ga ma)
/-- a class of needs: its == is its own, its != the general one -/
structure EqC (K : PySem.W.Frag) (c : Str) : Prop where
  ne : PySem.W.findIn K (.ref (ga K c)) "__ne__" = some (some (.builtin "object.__ne__"))
  mro : PySem.W.mroIn K (ga K c) (.type "object") = some true
  eq : PySem.W.findIn K (.ref (ga K c)) "__eq__" = some (some (.ref (ma K (ga K c) "__eq__")))
  fn : PySem.W.isFn K (.ref (ma K (ga K c) "__eq__")) = true
theorem eqC_ok {K : PySem.W.Frag} {c : Str} (h : eqcB K c = true) : EqC K c := by
  unfold eqcB at h
  obtain ⟨h1, h⟩ := He.ba h
  obtain ⟨h2, h⟩ := He.ba h
  obtain ⟨h3, h4⟩ := He.ba h
  exact ⟨He.eqO_ok h1, of_decide_eq_true h2, He.eqO_ok h3, h4⟩
structure EqCs (K : PySem.W.Frag) : Prop where
  has : EqC K "Has"
  every : EqC K "Every"
  some : EqC K "Some"
  few : EqC K "Few"
theorem eqCs_ok {K : PySem.W.Frag} (h : eqK K = true) : EqCs K := by
  unfold eqK at h
  obtain ⟨h1, h⟩ := He.ba h
  obtain ⟨h2, h⟩ := He.ba h
  obtain ⟨h3, h4⟩ := He.ba h
  exact ⟨eqC_ok h1, eqC_ok h2, eqC_ok h3, eqC_ok h4⟩
/-- the class of the first need -/
def clsF : Fo → Str
  | .nil => ""
  | .has _ _ => "Has"
  | .node .every _ _ _ => "Every"
  | .node .some _ _ _ => "Some"
  | .node .few _ _ _ => "Few"
/-- two objects that are needs of one forest -/
def RN (K : PySem.W.Frag) (d : Nat) (c : Str) (a b : Addr) (H : Hp) : Prop := ∃ F, NeedsAt K H F [.ref a] ∧ NeedsAt K H F [.ref b] ∧ F.len = 1 ∧ F.deep ≤ d ∧ clsF F = c
def DN (K : PySem.W.Frag) (d : Nat) : Eqv := fun x y H => ∃ a b F, x = .ref a ∧ y = .ref b ∧ NeedsAt K H F [x] ∧ NeedsAt K H F [y] ∧ F.len = 1 ∧ F.deep ≤ d
theorem mon_DN {K : PySem.W.Frag} {d : Nat} : Mon (DN K d) := fun x y H H' e h => by
  obtain ⟨a, b, F, rfl, rfl, h1, h2, h3, h4⟩ := h
  exact ⟨a, b, F, rfl, rfl, h1.grow e, h2.grow e, h3, h4⟩
theorem prs_kids {K : PySem.W.Frag} {H : Hp} {kids : Fo} {xs ys : List V} {d : Nat} (h1 : NeedsAt K H kids xs) (h2 : NeedsAt K H kids ys) (hd : kids.deep ≤ d) : Prs (DN K d) xs ys H := by
  refine ⟨h1.len.trans h2.len.symm, fun i x y e1 e2 => ?_⟩
  obtain ⟨p1, p2, p3, p4⟩ := h1.get e1
  obtain ⟨q1, _, _, _⟩ := h2.get e2
  have ref : ∀ {F : Fo} {v : V}, NeedsAt K H F [v] → F.len = 1 → ∃ a, v = .ref a := fun {F v} h hl => by
    cases F with
    | nil => cases hl
    | has s r =>
      obtain ⟨a, _, _, e, _⟩ := h
      cases e
      exact ⟨_, rfl⟩
    | node k m kids r =>
      obtain ⟨a, _, _, _, _, e, _⟩ := h
      cases e
      exact ⟨_, rfl⟩
  obtain ⟨a, rfl⟩ := ref p1 p4
  obtain ⟨b, rfl⟩ := ref q1 p4
  exact ⟨a, b, _, rfl, rfl, p1, q1, p4, Nat.le_trans p2 hd⟩
section
variable {P : Program} {w : World} {K : PySem.W.Frag} {mg : Str → Option Value} {base : Heap}
/-- the four defs keep their promise to the depth d -/
structure EqFs (P : Program) (w : World) (K : PySem.W.Frag) (mg : Str → Option Value) (base : Heap) (d : Nat) (f1 f2 f3 f4 : FuncData) : Prop where
  has : FnOk P w K mg base (L2.CX P w) (1 + 2 * d) (ma K (ga K "Has") "__eq__") f1 ["self", "other"] (spEq (RN K d "Has"))
  every : FnOk P w K mg base (L2.CX P w) (1 + 2 * d) (ma K (ga K "Every") "__eq__") f2 ["self", "other"] (spEq (RN K d "Every"))
  some : FnOk P w K mg base (L2.CX P w) (1 + 2 * d) (ma K (ga K "Some") "__eq__") f3 ["self", "other"] (spEq (RN K d "Some"))
  few : FnOk P w K mg base (L2.CX P w) (1 + 2 * d) (ma K (ga K "Few") "__eq__") f4 ["self", "other"] (spEq (RN K d "Few"))
structure EqBs (K : PySem.W.Frag) (f1 f2 f3 f4 : FuncData) : Prop where
  has : Binds K f1 ["self", "other"] []
  every : Binds K f2 ["self", "other"] []
  some : Binds K f3 ["self", "other"] []
  few : Binds K f4 ["self", "other"] []
theorem dn_cls {d : Nat} {x y : V} {H : Hp} (h : DN K d x y H) : DIns (ga K "Has") (RN K d "Has") x y H ∨ DIns (ga K "Every") (RN K d "Every") x y H ∨ DIns (ga K "Some") (RN K d "Some") x y H ∨ DIns (ga K "Few") (RN K d "Few") x y H := by
  obtain ⟨a, b, F, rfl, rfl, h1, h2, h3, h4⟩ := h
  cases F with
  | nil => cases h3
  | has s r =>
    obtain ⟨_, _, _, e, ha, _⟩ := id h1
    cases e
    obtain ⟨_, _, _, e, hb, _⟩ := id h2
    cases e
    exact .inl ⟨a, b, _, _, _, _, rfl, rfl, ha, hb, _, h1, h2, h3, h4, rfl⟩
  | node k m kids r =>
    obtain ⟨_, _, _, _, _, e, ha, _⟩ := id h1
    cases e
    obtain ⟨_, _, _, _, _, e, hb, _⟩ := id h2
    cases e
    cases k with
    | every => exact .inr (.inl ⟨a, b, _, _, _, _, rfl, rfl, ha, hb, _, h1, h2, h3, h4, rfl⟩)
    | some => exact .inr (.inr (.inl ⟨a, b, _, _, _, _, rfl, rfl, ha, hb, _, h1, h2, h3, h4, rfl⟩))
    | few => exact .inr (.inr (.inr ⟨a, b, _, _, _, _, rfl, rfl, ha, hb, _, h1, h2, h3, h4, rfl⟩))
theorem eqG_need {X : Cx} {d : Nat} {f1 f2 f3 f4 : FuncData} (c : EqCs X.K) (F : EqFs X.prog X.w X.K X.mg X.base d f1 f2 f3 f4) (b : EqBs X.K f1 f2 f3 f4) : EqG X (1 + 2 * d) (DN X.K d) :=
  ((eqG_ins F.has c.has.eq c.has.fn b.has passF).or ((eqG_ins F.every c.every.eq c.every.fn b.every passF).or ((eqG_ins F.some c.some.eq c.some.fn b.some passF).or (eqG_ins F.few c.few.eq c.few.fn b.few passF)))).imp fun _ _ _ h => dn_cls h
theorem neG_need {X : Cx} {d : Nat} {f1 f2 f3 f4 : FuncData} (c : EqCs X.K) (F : EqFs X.prog X.w X.K X.mg X.base d f1 f2 f3 f4) (b : EqBs X.K f1 f2 f3 f4) : NeG X (1 + 2 * d + 1) (DN X.K d) := fun A pins s σ H x y u v sb I rx ry h => by
  rcases dn_cls h with h | h | h | h
  · exact neG_ins F.has c.has.ne c.has.mro c.has.eq c.has.fn b.has passF A pins s σ H x y u v sb I rx ry h
  · exact neG_ins F.every c.every.ne c.every.mro c.every.eq c.every.fn b.every passF A pins s σ H x y u v sb I rx ry h
  · exact neG_ins F.some c.some.ne c.some.mro c.some.eq c.some.fn b.some passF A pins s σ H x y u v sb I rx ry h
  · exact neG_ins F.few c.few.ne c.few.mro c.few.eq c.few.fn b.few passF A pins s σ H x y u v sb I rx ry h
theorem kit_self (z : Z P w K mg base) {c : Str} (h : c ∈ (["Has", "Every", "Some", "Few"] : List Str)) : PySem.W.kitOne K (.ref (ga K c)) (.ref (ga K c)) = some true := by
  have q := z.kit (List.mem_append_left _ (List.mem_flatMap.mpr ⟨c, h, List.mem_map.mpr ⟨c, h, rfl⟩⟩))
  rw [q]
  exact congrArg some (decide_eq_true rfl)
theorem sc_eqH : FnScope ["self", "other"] ["self", "other"] (defScope s_Has___eq__) := ⟨rfl, rfl, rfl, by decide +kernel, rfl, by decide +kernel, by decide +kernel⟩
theorem sc_eqE : FnScope ["self", "other"] ["self", "other"] (defScope s_Every___eq__) := ⟨rfl, rfl, rfl, by decide +kernel, rfl, by decide +kernel, by decide +kernel⟩
theorem sc_eqS : FnScope ["self", "other"] ["self", "other"] (defScope s_Some___eq__) := ⟨rfl, rfl, rfl, by decide +kernel, rfl, by decide +kernel, by decide +kernel⟩
theorem sc_eqF : FnScope ["self", "other"] ["self", "other"] (defScope s_Few___eq__) := ⟨rfl, rfl, rfl, by decide +kernel, rfl, by decide +kernel, by decide +kernel⟩
theorem rn_node {d : Nat} {c : Str} {a b : Addr} {H : Hp} {kk : Kd} (hc : c = clsF (.node kk 0 .nil .nil)) (h : RN K (d + 1) c a b H) : ∃ (m : Int) (kids : Fo) (dx dy p q : Addr) (xs ys : List V), H a = some (nodeO K kk m dx p) ∧ H b = some (nodeO K kk m dy q) ∧ H p = some (.tup xs) ∧ H q = some (.tup ys) ∧ NeedsAt K H kids xs ∧ NeedsAt K H kids ys ∧ kids.deep ≤ d := by
  obtain ⟨F, h1, h2, h3, h4, h5⟩ := h
  subst hc
  cases F with
  | nil => cases h3
  | has s r => cases kk <;> exact absurd h5 (by simp only [clsF]; decide)
  | node k m kids r =>
    have e : k = kk := by
      cases k <;> cases kk <;> first | rfl | exact absurd h5 (by simp only [clsF]; decide)
    subst e
    obtain ⟨_, dx, p, xs, _, e, ha, hp, tk, _⟩ := h1
    cases e
    obtain ⟨_, dy, q, ys, _, e, hb, hq, tq, _⟩ := h2
    cases e
    have h4 : max (1 + kids.deep) r.deep ≤ d + 1 := h4
    exact ⟨m, kids, dx, dy, p, q, xs, ys, ha, hb, hp, hq, tk, tq, by omega⟩
theorem rn_zero {c : Str} {a b : Addr} {H : Hp} (h : RN K 0 c a b H) : False := by
  obtain ⟨F, _, _, h3, h4, _⟩ := h
  have := deep_pos F (by omega)
  omega
theorem ok_eqs (z : Z P w K mg base) (c : EqCs K) : ∃ f1 f2 f3 f4, EqBs K f1 f2 f3 f4 ∧ ∀ d, EqFs P w K mg base d f1 f2 f3 f4 := by
  obtain ⟨f1, F1⟩ := z.f_Has___eq__
  obtain ⟨f2, F2⟩ := z.f_Every___eq__
  obtain ⟨f3, F3⟩ := z.f_Some___eq__
  obtain ⟨f4, F4⟩ := z.f_Few___eq__
  have b : EqBs K f1 f2 f3 f4 := ⟨F1.bindsN fun _ _ _ _ _ _ us hl => match us, hl with | [_, _], _ => rfl, F2.bindsN fun _ _ _ _ _ _ us hl => match us, hl with | [_, _], _ => rfl, F3.bindsN fun _ _ _ _ _ _ us hl => match us, hl with | [_, _], _ => rfl, F4.bindsN fun _ _ _ _ _ _ us hl => match us, hl with | [_, _], _ => rfl⟩
  refine ⟨f1, f2, f3, f4, b, fun d => ?_⟩
  have len : ∀ (d : Nat) (c : Str) (vs : List V) (H : Hp) (Q : VK) (E : XK), spEq (RN K d c) vs H Q E → vs.length = ["self", "other"].length := fun d c vs H Q E h => by
    obtain ⟨_, _, rfl, _⟩ := h
    rfl
  induction d with
  | zero =>
    exact ⟨F1.ok sc_eqH (len 0 _) (fun cdv A outer s H vs Q E hr h => let ⟨_, _, _, q, _⟩ := h; (rn_zero q).elim), F2.ok sc_eqE (len 0 _) (fun cdv A outer s H vs Q E hr h => let ⟨_, _, _, q, _⟩ := h; (rn_zero q).elim),
      F3.ok sc_eqS (len 0 _) (fun cdv A outer s H vs Q E hr h => let ⟨_, _, _, q, _⟩ := h; (rn_zero q).elim), F4.ok sc_eqF (len 0 _) (fun cdv A outer s H vs Q E hr h => let ⟨_, _, _, q, _⟩ := h; (rn_zero q).elim)⟩
  | succ d G =>
    have lv : 1 + 2 * (d + 1) = (1 + 2 * d + 1) + 1 := by omega
    refine ⟨?_, ?_, ?_, ?_⟩
    · refine (F1.ok (k := 0) sc_eqH (len (d + 1) _) (fun cdv A outer s H vs Q E hr h => ?_)).mono (by omega)
      obtain ⟨a, e, rfl, ⟨F, h1, h2, h3, h4, h5⟩, hQ⟩ := h
      refine ⟨_, pss_one (ps_ret (pe_and (pe_callB call_isi rfl z.b_isinstance (by decide +kernel) (pa_cons (pv 1) (pa_cons (pe_glob (v := .ref (ga K "Has")) rfl z.g_Has rfl) pa_nil))) (pe_one (pe_cmpR op_eq (pe_fld (pv 0) rfl) (pe_fld (pv 1) rfl) (nomark _))))), ?_⟩
      cases F with
      | nil => cases h3
      | node k m kids r => cases k <;> exact absurd h5 (by simp only [clsF]; decide)
      | has t r =>
        obtain ⟨_, dx, _, q, ha, _⟩ := h1
        cases q
        obtain ⟨_, dy, _, q, hb, _⟩ := h2
        cases q
        refine ⟨_, rfl, _, _, _, _, _, rfl, .own _, ty_ins hb z.cl_Has z.isx, kit_self z (by decide +kernel), _, rfl, iteT ⟨_, rfl, a, _, dx, _, _, rfl, ha, z.cl_Has, z.na_Has_thing, rfl, _, rfl, e, _, dy, _, _, rfl, hb, z.cl_Has, z.na_Has_thing, rfl, rfl, ?_⟩⟩
        rw [decide_eq_true rfl]
        exact hQ H Ext.rfl'
    · rw [lv]
      refine F2.ok sc_eqE (len (d + 1) _) (fun cdv A outer s H vs Q E hr h => ?_)
      obtain ⟨a, e, rfl, hR, hQ⟩ := h
      obtain ⟨m, kids, dx, dy, p, q, xs, ys, ha, hb, hp, hq, tk, tq, hd⟩ := rn_node (kk := .every) rfl hR
      refine ⟨_, pss_one (ps_ret (pe_and (pe_callB call_isi rfl z.b_isinstance (by decide +kernel) (pa_cons (pv 1) (pa_cons (pe_glob (v := .ref (ga K "Every")) rfl z.g_Every rfl) pa_nil))) (pe_one (pe_cmpR (op_eqG (rcG_list mon_DN (eqG_need c G b)) hr) (pe_callTy call_list_of rfl z.b_list (by decide +kernel) (pa_cons (pe_fld (pv 0) rfl) pa_nil)) (pe_callTy call_list_of rfl z.b_list (by decide +kernel) (pa_cons (pe_fld (pv 1) rfl) pa_nil)) (nomark _))))), ?_⟩
      refine ⟨_, rfl, _, _, _, _, _, rfl, .own _, ty_ins hb z.cl_Every z.isx, kit_self z (by decide +kernel), _, rfl, iteT ⟨_, rfl, a, _, dx, _, _, rfl, ha, z.cl_Every, z.na_Every_parts, rfl, p, xs, rfl, .inr (SqT.of hp), fun l hl => ?_⟩⟩
      have g1 : Grow H (upd H l (.lst xs)) := Grow.new hl
      refine ⟨_, rfl, e, _, dy, _, _, rfl, g1 _ _ hb, z.cl_Every, z.na_Every_parts, rfl, q, ys, rfl, .inr (SqT.of (g1 _ _ hq)), fun l2 hl2 => ?_⟩
      have g2 := Grow.new (o := .lst ys) hl2
      exact ⟨⟨l, l2, xs, ys, rfl, rfl, g2 _ _ upd_same, upd_same, prs_kids ((tk.grow g1).grow g2) ((tq.grow g1).grow g2) hd⟩, fun H' x => hQ H' fun u o h => x u o (g2 _ _ (g1 _ _ h))⟩
    · rw [lv]
      refine F3.ok sc_eqS (len (d + 1) _) (fun cdv A outer s H vs Q E hr h => ?_)
      obtain ⟨a, e, rfl, hR, hQ⟩ := h
      obtain ⟨m, kids, dx, dy, p, q, xs, ys, ha, hb, hp, hq, tk, tq, hd⟩ := rn_node (kk := .some) rfl hR
      refine ⟨_, pss_one (ps_ret (pe_and (pe_callB call_isi rfl z.b_isinstance (by decide +kernel) (pa_cons (pv 1) (pa_cons (pe_glob (v := .ref (ga K "Some")) rfl z.g_Some rfl) pa_nil))) (pe_one (pe_cmpR (op_eqG (rcG_list mon_DN (eqG_need c G b)) hr) (pe_callTy call_list_of rfl z.b_list (by decide +kernel) (pa_cons (pe_fld (pv 0) rfl) pa_nil)) (pe_callTy call_list_of rfl z.b_list (by decide +kernel) (pa_cons (pe_fld (pv 1) rfl) pa_nil)) (nomark _))))), ?_⟩
      refine ⟨_, rfl, _, _, _, _, _, rfl, .own _, ty_ins hb z.cl_Some z.isx, kit_self z (by decide +kernel), _, rfl, iteT ⟨_, rfl, a, _, dx, _, _, rfl, ha, z.cl_Some, z.na_Some_parts, rfl, p, xs, rfl, .inr (SqT.of hp), fun l hl => ?_⟩⟩
      have g1 : Grow H (upd H l (.lst xs)) := Grow.new hl
      refine ⟨_, rfl, e, _, dy, _, _, rfl, g1 _ _ hb, z.cl_Some, z.na_Some_parts, rfl, q, ys, rfl, .inr (SqT.of (g1 _ _ hq)), fun l2 hl2 => ?_⟩
      have g2 := Grow.new (o := .lst ys) hl2
      exact ⟨⟨l, l2, xs, ys, rfl, rfl, g2 _ _ upd_same, upd_same, prs_kids ((tk.grow g1).grow g2) ((tq.grow g1).grow g2) hd⟩, fun H' x => hQ H' fun u o h => x u o (g2 _ _ (g1 _ _ h))⟩
    · rw [lv]
      refine F4.ok sc_eqF (len (d + 1) _) (fun cdv A outer s H vs Q E hr h => ?_)
      obtain ⟨a, e, rfl, hR, hQ⟩ := h
      obtain ⟨m, kids, dx, dy, p, q, xs, ys, ha, hb, hp, hq, tk, tq, hd⟩ := rn_node (kk := .few) rfl hR
      refine ⟨_, pss_cons (ps_if (pt_not (pt_val (pe_callB call_isi rfl z.b_isinstance (by decide +kernel) (pa_cons (pv 1) (pa_cons (pe_glob (v := .ref (ga K "Few")) rfl z.g_Few rfl) pa_nil))))) (pss_one (ps_ret pe_bl)) pss_nil)
        (pss_one (ps_ret (pe_and (pe_cmpR op_eq (pe_fld (pv 0) rfl) (pe_fld (pv 1) rfl) (nomark _)) (pe_one (pe_cmpR (op_eqG (rcG_list mon_DN (eqG_need c G b)) hr) (pe_callTy call_list_of rfl z.b_list (by decide +kernel) (pa_cons (pe_fld (pv 0) rfl) pa_nil)) (pe_callTy call_list_of rfl z.b_list (by decide +kernel) (pa_cons (pe_fld (pv 1) rfl) pa_nil)) (nomark _)))))), ?_⟩
      refine ⟨_, rfl, _, _, _, _, _, rfl, .own _, ty_ins hb z.cl_Few z.isx, kit_self z (by decide +kernel), _, rfl, iteF ⟨_, rfl, a, _, dx, _, _, rfl, ha, z.cl_Few, z.na_Few_many, rfl, _, rfl, e, _, dy, _, _, rfl, hb, z.cl_Few, z.na_Few_many, rfl, rfl, _, rfl, ?_⟩⟩
      rw [decide_eq_true rfl]
      refine iteT ⟨_, rfl, a, _, dx, _, _, rfl, ha, z.cl_Few, z.na_Few_parts, rfl, p, xs, rfl, .inr (SqT.of hp), fun l hl => ?_⟩
      have g1 : Grow H (upd H l (.lst xs)) := Grow.new hl
      refine ⟨_, rfl, e, _, dy, _, _, rfl, g1 _ _ hb, z.cl_Few, z.na_Few_parts, rfl, q, ys, rfl, .inr (SqT.of (g1 _ _ hq)), fun l2 hl2 => ?_⟩
      have g2 := Grow.new (o := .lst ys) hl2
      exact ⟨⟨l, l2, xs, ys, rfl, rfl, g2 _ _ upd_same, upd_same, prs_kids ((tk.grow g1).grow g2) ((tq.grow g1).grow g2) hd⟩, fun H' x => hQ H' fun u o h => x u o (g2 _ _ (g1 _ _ h))⟩
end
end K80

set_option Elab.async false
set_option linter.all false
set_option maxRecDepth 100000
set_option maxHeartbeats 8000000
set_option pp.maxSteps 3000
/-! a call by keywords alone -/
namespace SX
open PySem PySem.Spec PyProof.Rows L2
section
variable {X : Cx} {CX : CXT} {k : Nat} {f : Addr} {fd : FuncData} {ps ks : List Str} {sp : Sp} {E : XK} {x : Str} {p pos : Pos} {kws : List Keyword} {tk : TA} {g : List Value → List Value → List Value} {gV : List V → List V → List V}
theorem pe_callN0 (F : FnOk X.prog X.w X.K X.mg X.base CX k f fd ps sp) (hr : Room k X.A) (hg : Gl X x) (hm : X.mg x = some (.ref f)) (hk : PySem.W.keepIn X.K (.ref f) = true) (hb : KBn X.K fd ps 0 ks g gV) (hx : Passes CX X E) (hkw : PK X kws tk)
    (hall : (backToKw pos (keywordEach kws X.env)).all (·.1.isSome) = true := by rfl) (hks : (backToKw pos (keywordEach kws X.env)).filterMap (·.1) = ks := by rfl) (hdb : (x == ("__debug__" : Str)) = false := by decide)
    (hpl : ((backTo pos (starEach [] X.env)).any (·.1) || (backToKw pos (keywordEach kws X.env)).any (·.1.isNone)) = false := by rfl) :
    PE X (.Call (.Name x p) [] kws pos) (fun σ H Q => tk σ H fun zs H2 => zs.length = ks.length ∧ sp (gV [] zs) H2 Q E) := by
  refine ⟨fun pins s σ H Q I h => ?_⟩
  refine wpAny_Call_Name_kw (ld_glob I hg hm ?_ hdb)
  refine PySem.W.callWith_KW0 (h₀ := X.base) I.ok.mod.kin hk hall ?_ hpl
  refine thn (hkw.run pos pins s σ H _ I h) fun ws s2 ⟨zs, H2, I2, rz, l2, q2⟩ => ⟨I2.kIn, ?_⟩
  rw [hks]
  exact run_fnN (us := []) (vs := []) F hr hb hx I2 .nil rz rfl l2 q2
end
/-- the keywords name all parameters, in their order -/
theorem kb_all {K : PySem.W.Frag} {fd : FuncData} {ps : List Str} (h : ∀ ws : List Value, ws.length = ps.length → bindArgs fd ⟨[], ps.zip ws⟩ = pure (ps.zip ws)) : KBn K fd ps 0 ps (fun _ ws => ws) (fun _ zs => zs) :=
  ⟨fun s us ws _ hu hw => by
    have e : us = [] := List.length_eq_zero_iff.mp hu
    subst e
    exact .of_eq (h ws hw), fun _ r => r⟩
theorem FunD.kall {K : PySem.W.Frag} {x qual : Str} {params : Arguments} {body : List Stmt} {scope : Scope} {kws : List (Str × V)} {f : Addr} {fd : FuncData} {ps : List Str} (F : FunD K x qual params body scope [] kws f fd)
    (h : ∀ (kV doc pm : Value) (an : Option Addr) (cdv ct : Value) (us : List Value), us.length = ps.length → bindArgs (PySem.W.fnOf x qual params body scope .none kV doc pm an cdv ct) ⟨[], ps.zip us⟩ = pure (ps.zip us)) : KBn K fd ps 0 ps (fun _ ws => ws) (fun _ zs => zs) := by
  obtain ⟨oc, od, dV, kV, doc, pm, an, cdv, ct, osl, rfl, lk, hcd, hD, hK⟩ := F.ex
  rcases hD with ⟨_, rfl⟩ | ⟨e, _⟩
  · exact kb_all fun ws hl => h kV doc pm an cdv ct ws hl
  · exact absurd rfl e
end SX
/-! ### values that are none -/
namespace K80
open PySem PySem.Spec PyProof.Rows L2 SX StX
open He (ga ma)
open LamX (CodeO TabS Tabs ExtN TabB LamS)
def OddAt (H : Hp) (v : V) : Prop := v = .non ∨ (∃ i, v = .int i) ∨ (∃ b, v = .bl b) ∨ (∃ y, v = .str y) ∨ (∃ a xs, v = .ref a ∧ H a = some (.lst xs)) ∨ (∃ a xs, v = .ref a ∧ H a = some (.tup xs)) ∨ ∃ a kvs, v = .ref a ∧ H a = some (.dK kvs)
theorem OddAt.ext {H H' : Hp} {v : V} (h : OddAt H v) (g : ExtN H H') : OddAt H' v := by
  rcases h with h | h | h | h | ⟨a, xs, e, h⟩ | ⟨a, xs, e, h⟩ | ⟨a, xs, e, h⟩
  · exact .inl h
  · exact .inr (.inl h)
  · exact .inr (.inr (.inl h))
  · exact .inr (.inr (.inr (.inl h)))
  · exact .inr (.inr (.inr (.inr (.inl ⟨a, xs, e, g _ _ h (nofun)⟩))))
  · exact .inr (.inr (.inr (.inr (.inr (.inl ⟨a, xs, e, g _ _ h (nofun)⟩)))))
  · exact .inr (.inr (.inr (.inr (.inr (.inr ⟨a, xs, e, g _ _ h (nofun)⟩)))))
def oddT : List String := ["NoneType", "int", "bool", "str", "list", "tuple", "dict"]
theorem OddAt.ty {K : PySem.W.Frag} {H : Hp} {v : V} (h : OddAt H v) : ∃ T ∈ oddT, TyX K H v (.type T) ∧ (T = "str" → ∃ y, v = .str y) := by
  rcases h with rfl | ⟨i, rfl⟩ | ⟨i, rfl⟩ | ⟨i, rfl⟩ | ⟨a, xs, rfl, h⟩ | ⟨a, xs, rfl, h⟩ | ⟨a, xs, rfl, h⟩
  · exact ⟨"NoneType", by decide, .base .non, fun e => absurd e (by decide)⟩
  · exact ⟨"int", by decide, .base (.int i), fun e => absurd e (by decide)⟩
  · exact ⟨"bool", by decide, .base (.bl i), fun e => absurd e (by decide)⟩
  · exact ⟨"str", by decide, .base (.str i), fun _ => ⟨i, rfl⟩⟩
  · exact ⟨"list", by decide, .base (.lst h), fun e => absurd e (by decide)⟩
  · exact ⟨"tuple", by decide, .base (.tup h), fun e => absurd e (by decide)⟩
  · exact ⟨"dict", by decide, .base (.dK h), fun e => absurd e (by decide)⟩
theorem odd_str : ∀ T ∈ oddT, T ≠ "str" → ∀ K : PySem.W.Frag, PySem.W.kitOne K (.type T) (.type "str") = some false := by
  intro T hT hn K
  simp only [oddT, List.mem_cons, List.not_mem_nil, or_false] at hT
  rcases hT with rfl | rfl | rfl | rfl | rfl | rfl | rfl
  · exact kit_ty (by decide +kernel)
  · exact kit_ty (by decide +kernel)
  · exact kit_ty (by decide +kernel)
  · exact absurd rfl hn
  · exact kit_ty (by decide +kernel)
  · exact kit_ty (by decide +kernel)
  · exact kit_ty (by decide +kernel)
theorem own_off {K : PySem.W.Frag} {t : Value} {C : Addr} (h : PySem.W.kitOne K t (.ref C) = some false) : ((PySem.W.clsIn K C).isSome && PySem.W.typeIn K (.ref C) == some (.type "type")) = true := by
  unfold PySem.W.kitOne at h
  split at h
  · cases h
  · unfold PySem.W.kitCls at h
    dsimp only at h
    split at h
    · assumption
    · cases h
theorem odd_own {K : PySem.W.Frag} {C : Addr} (h : ((PySem.W.clsIn K C).isSome && PySem.W.typeIn K (.ref C) == some (.type "type")) = true) : ∀ T ∈ oddT, PySem.W.kitOne K (.type T) (.ref C) = some false := by
  intro T hT
  have go : ∀ l : List Value, PySem.fastBuiltinMro T = some l → l.contains (.ref C) = false → PySem.W.kitOne K (.type T) (.ref C) = some false := fun l e1 e2 => by
    unfold PySem.W.kitOne
    rw [if_neg (by intro z; cases z)]
    unfold PySem.W.kitCls
    dsimp only
    rw [if_pos h]
    show Option.map (fun x => x.contains (Value.ref C)) (fastBuiltinMro T) = some false
    rw [e1]
    exact congrArg some e2
  simp only [oddT, List.mem_cons, List.not_mem_nil, or_false] at hT
  rcases hT with rfl | rfl | rfl | rfl | rfl | rfl | rfl
  · exact go [.type "NoneType", .type "object"] rfl rfl
  · exact go [.type "int", .type "object"] rfl rfl
  · exact go [.type "bool", .type "int", .type "object"] rfl rfl
  · exact go [.type "str", .type "object"] rfl rfl
  · exact go [.type "list", .type "object"] rfl rfl
  · exact go [.type "tuple", .type "object"] rfl rfl
  · exact go [.type "dict", .type "object"] rfl rfl
section
variable {P : Program} {w : World} {K : PySem.W.Frag} {mg : Str → Option Value} {base : Heap}
theorem odd_four (z : Z P w K mg base) : ∀ T ∈ oddT, PySem.W.kitAny K (.type T) [.ref (ga K "Has"), .ref (ga K "Every"), .ref (ga K "Some"), .ref (ga K "Few")] = some false := by
  intro T hT
  have k : ∀ c ∈ (["Has", "Every", "Some", "Few"] : List Str), ∀ y ∈ (["Has", "Every", "Some", "Few"] : List Str), PySem.W.kitOne K (.ref (ga K c)) (.ref (ga K y)) = some (decide (c = y)) := fun c hc y hy => z.kit (List.mem_append_left _ (List.mem_flatMap.mpr ⟨c, hc, List.mem_map.mpr ⟨y, hy, rfl⟩⟩))
  have one : ∀ c ∈ (["Has", "Every", "Some", "Few"] : List Str), PySem.W.kitOne K (.type T) (.ref (ga K c)) = some false := fun c hc => by
    by_cases e : c = "Has"
    · exact odd_own (own_off ((k "Every" (by decide +kernel) c hc).trans (by rw [e]; rfl))) T hT
    · exact odd_own (own_off ((k "Has" (by decide +kernel) c hc).trans (congrArg some (decide_eq_false fun q => e q.symm)))) T hT
  exact kitAny_cons (one _ (by decide +kernel)) (fun _ => kitAny_cons (one _ (by decide +kernel)) (fun _ => kitAny_cons (one _ (by decide +kernel)) (fun _ => kitAny_cons (one _ (by decide +kernel)) (fun _ => rfl) (fun q => nomatch q)) (fun q => nomatch q)) (fun q => nomatch q)) (fun q => nomatch q)
/-! ### read_need of what is no text -/
def sp_ScanX (K : PySem.W.Frag) : Sp := fun vs H _ E => ∃ (sc : Addr) (v : V), vs = [.ref sc, v] ∧ OddAt H v ∧ (∀ y, v ≠ .str y) ∧ ∀ d H', Grow H H' → H' d = some (badO 0) → E (.ref (ga K "BadText")) (some d) H'
theorem ok_ScanX (z : Z P w K mg base) : ∃ fd, FnOk P w K mg base (L2.CX P w) 3 (ma K (ga K "Scan") "__init__") fd ["self", "text"] (sp_ScanX K) ∧ Binds K fd ["self", "text"] [] := by
  obtain ⟨f1, F1, b1⟩ := ok_BadText z
  obtain ⟨fd, F⟩ := z.f_Scan___init__
  refine ⟨fd, F.ok sc_Scan (fun vs H Q E h => ?_) (fun cdv A outer s H vs Q E hr h => ?_), F.bindsN fun _ _ _ _ _ _ us hl => match us, hl with | [_, _], _ => rfl⟩
  · obtain ⟨_, _, rfl, _⟩ := h
    rfl
  · obtain ⟨sc, v, rfl, hv, hn, hE⟩ := h
    obtain ⟨T, hT, ty, hs⟩ := hv.ty (K := K)
    refine ⟨_, pss_cons (ps_if (pt_not (pt_val (pe_callB call_isi rfl z.b_isinstance (by decide +kernel) (pa_cons (pv 1) (pa_cons (pe_bltn rfl z.b_str (by decide +kernel) (show RelV (.ty "str") (.type "str") from rfl)) pa_nil))))) (pss_one (ps_rz rfl (takes_of rfl rfl rfl rfl) z.s_BadText.t.oex z.s_BadText.init z.s_BadText.ty F1 hr b1 rfl z.g_BadText (pa_cons pe_int pa_nil))) pss_nil) pss_any, ?_⟩
    refine ⟨_, rfl, _, _, _, _, _, rfl, .ty "str", ty, odd_str T hT (fun e => let ⟨y, q⟩ := hs e; hn y q) K, _, rfl, iteT ?_⟩
    exact mkO_of (okv_nat (i := 0) (by decide)) fun d hd => hE d _ (Grow.new hd) upd_same
def sp_readX (K : PySem.W.Frag) : Sp := fun vs H _ E => ∃ v : V, vs = [v] ∧ OddAt H v ∧ (∀ y, v ≠ .str y) ∧ Tabs (TT K) H ∧ ∀ H1, ExtN H H1 → Tabs (TT K) H1 → ∀ d H', Grow H1 H' → H' d = some (badO 0) → E (.ref (ga K "BadText")) (some d) H'
theorem ok_readX (z : Z P w K mg base) (hne : (He.cT K ("_law_same", none)).2 ≠ (He.cT K ("read_need", none)).2 ∧ (He.cT K ("law", none)).2 ≠ (He.cT K ("read_need", none)).2) : ∃ fd, FnOk P w K mg base (L2.CX P w) 26 (ga K "read_need") fd ["text"] (sp_readX K) ∧ Binds K fd ["text"] [] := by
  obtain ⟨f2, G2, b2⟩ := ok_ScanX z
  obtain ⟨fw, Fw⟩ := z.f_read_whole
  obtain ⟨oc, od, dV, kV, doc, pm, an, cdv, ct, osl, rfl, lkw, hcw, hDw, _⟩ := Fw.ex
  obtain rfl : dV = .none := by
    rcases hDw with ⟨_, e⟩ | ⟨e, _⟩
    · exact e
    · exact absurd rfl e
  have bw : Binds K (PySem.W.fnOf "read_whole" "read_whole" (defArgs s_read_whole) (defBody s_read_whole) (defScope s_read_whole) .none kV doc pm an cdv ct) ["text", "take"] [] := Fw.bindsN fun _ _ _ _ _ _ us hl => match us, hl with | [_, _], _ => rfl
  obtain ⟨fd, F⟩ := z.f_read_need
  have bd : Binds K fd ["text"] [] := F.bindsN fun _ _ _ _ _ _ us hl => match us, hl with | [_], _ => rfl
  obtain ⟨oc2, od2, dV2, kV2, doc2, pm2, an2, cdv2, ct2, osl2, rfl, lk2, hc2, _, _⟩ := F.ex
  obtain ⟨c2, rfl⟩ := He.codeIn_ref hc2
  have ec2 : He.codeOf K ("read_need", none) = c2 := He.codeOf_eq (p := ("read_need", none)) lk2 rfl
  have TB : TabB base mg c2 (He.cT K ("read_need", none)).2 := by
    have q := z.tb ("read_need", none) (by decide +kernel)
    have e : (He.cT K ("read_need", none)).1 = c2 := ec2
    rw [e] at q
    exact q
  refine ⟨_, fn_of lk2 hc2 sc_read_need (fun vs H Q E h => ?_) (fun A outer s H vs Q E hr h => ?_), bd⟩
  · obtain ⟨_, rfl, _⟩ := h
    rfl
  · obtain ⟨v, rfl, ho, hn, hT, hR⟩ := h
    refine ⟨_, pss_one (ps_ret (pe_lam1 (E := E) (T := TT K) (TT := fun f c' v0 H1 Q => v0 = v ∧ OddAt H1 v ∧ ∀ d H', Grow H1 H' → H' d = some (badO 0) → E (.ref (ga K "BadText")) (some d) H') rfl z.g_read_whole z.k_read_whole lkw hcw bw sc_read_whole TB rfl List.mem_cons_self (fun p hp e => ?hu) hr ?nf rfl rfl (passes_call (E := E) (takes_of rfl rfl rfl rfl) fun _ _ _ _ q => q) (pv 0) ?hG)), ?_⟩
    case hu =>
      simp only [TT, List.mem_cons, List.not_mem_nil, or_false] at hp
      rcases hp with rfl | rfl | rfl
      · rfl
      · exact absurd e hne.1
      · exact absurd e hne.2
    case nf => decide +kernel
    case hG =>
      rintro f c' pm3 ctv A' outer' s' H' v0 Q' hf hn' hfr hco hr' ⟨rfl, ho', herr⟩
      refine ⟨_, pss_cons (ps_set (i := 2) sc_read_whole.nd rfl (Or.inl rfl) (pe_make z.mk_Scan G2 (hr'.mono (by decide)) rfl z.g_Scan b2 .nil (passes_call (E := E) (takes_of rfl rfl rfl rfl) fun _ _ _ _ q => q) (pa_cons (pv 0) pa_nil))) pss_any, ?_⟩
      refine ⟨_, rfl, fun sc dx hs hd ne => ?_⟩
      have g := (Grow.new (o := .own sc) hd).trans (Grow.new (o := .ins (ga K "Scan") dx []) (show (upd H' dx (.own sc)) sc = none by rw [upd_ne ne.symm]; exact hs))
      exact ⟨sc, v0, rfl, ho'.ext (ExtN.of g), hn, fun d H2 g2 e => herr d H2 (g.trans g2) e⟩
    exact ⟨_, rfl, hT, fun f c' H1 e1 T1 hc1 => ⟨rfl, ho.ext e1, hR H1 e1 T1⟩⟩
/-! ### need_text of what is no need -/
theorem sc_BadNeed : SScope ["self", "part"] (defScope s_BadNeed___init__) := ⟨rfl, rfl, rfl, by decide +kernel, by decide +kernel, rfl, rfl, by decide +kernel, fun y h => (by decide +kernel : ∀ p ∈ (defScope s_BadNeed___init__).names, p.2 = NameKind.free → p.1 = ("__class__" : Str)) _ (PySem.mem_of_lookup h) rfl⟩
theorem ok_BadNeed (z : Z P w K mg base) : ∃ fd, FnOk P w K mg base (L2.CX P w) 1 (ma K (ga K "BadNeed") "__init__") fd ["self", "part"] (spI (ga K "BadNeed") "part") ∧ Binds K fd ["self", "part"] [] := by
  obtain ⟨fd, F, doc, pm, an, ct, e⟩ := ok_init1 (mg := mg) (base := base) (w := w) (CX := L2.CX P w) (part := "part") (fld := "part") (lit := "no need: ") z.s_BadNeed.t sc_BadNeed rfl z.b_super (by decide) (by decide) (by decide) z.na_BadNeed_part (he := fun _ => rfl)
  refine ⟨fd, F, ?_⟩
  rw [e]
  exact Binds.all fun us hl => match us, hl with | [_, _], _ => rfl
def sp_isX (K : PySem.W.Frag) : Sp := fun vs H Q _ => ∃ v : V, vs = [v] ∧ OddAt H v ∧ ∀ H', Grow H H' → Q (.bl false) H'
theorem ok_isX (z : Z P w K mg base) : ∃ fd, FnOk P w K mg base (L2.CX P w) 1 (ga K "is_need") fd ["value"] (sp_isX K) ∧ Binds K fd ["value"] [] := by
  obtain ⟨fd, F⟩ := z.f_is_need
  refine ⟨fd, F.ok sc_is_need (fun vs H Q E h => ?_) (fun cdv A outer s H vs Q E hr h => ?_), F.bindsN fun _ _ _ _ _ _ us hl => match us, hl with | [_], _ => rfl⟩
  · obtain ⟨_, rfl, _⟩ := h
    rfl
  · obtain ⟨v, rfl, hv, hQ⟩ := h
    refine ⟨_, pss_one (ps_ret (pe_callB call_isiT rfl z.b_isinstance (by decide +kernel) (pa_cons (pv 0) (pa_cons (pe_tup (pa_cons (pe_glob (v := .ref (ga K "Has")) rfl z.g_Has rfl) (pa_cons (pe_glob (v := .ref (ga K "Every")) rfl z.g_Every rfl) (pa_cons (pe_glob (v := .ref (ga K "Some")) rfl z.g_Some rfl) (pa_cons (pe_glob (v := .ref (ga K "Few")) rfl z.g_Few rfl) pa_nil))))) pa_nil)))), ?_⟩
    refine ⟨v, rfl, by show 4 ≤ sizeLine; rw [sizeLine_eq]; decide, fun p hp => ?_⟩
    have g := Grow.new (o := .tup [.ref (ga K "Has"), .ref (ga K "Every"), .ref (ga K "Some"), .ref (ga K "Few")]) hp
    obtain ⟨T, hT, ty, _⟩ := (hv.ext (ExtN.of g)).ty (K := K)
    exact ⟨v, p, _, _, _, false, rfl, upd_same, .cons (.own _) (.cons (.own _) (.cons (.own _) (.cons (.own _) .nil))), ty, odd_four z T hT, hQ _ g⟩
def sp_needX (K : PySem.W.Frag) : Sp := fun vs H _ E => ∃ (p : Str) (v : V), vs = [.str p, v] ∧ p.length ≤ 1000 ∧ OddAt H v ∧ ∀ d H', Grow H H' → H' d = some (needO p) → E (.ref (ga K "BadNeed")) (some d) H'
theorem ok_needX (z : Z P w K mg base) : ∃ fd, FnOk P w K mg base (L2.CX P w) 3 (ga K "need_need") fd ["part", "value"] (sp_needX K) ∧ Binds K fd ["part", "value"] [] := by
  obtain ⟨f0, F0, b0⟩ := ok_BadNeed z
  obtain ⟨f1, G1, b1⟩ := ok_isX z
  obtain ⟨fd, F⟩ := z.f_need_need
  refine ⟨fd, F.ok sc_need_need (fun vs H Q E h => ?_) (fun cdv A outer s H vs Q E hr h => ?_), F.bindsN fun _ _ _ _ _ _ us hl => match us, hl with | [_, _], _ => rfl⟩
  · obtain ⟨_, _, rfl, _⟩ := h
    rfl
  · obtain ⟨p, v, rfl, hp, hv, hE⟩ := h
    refine ⟨_, pss_cons (ps_if (pt_not (pt_val (pe_call G1 (hr.mono (by decide)) rfl z.g_is_need z.k_is_need b1 .nil passF (pa_cons (pv 1) pa_nil)))) (pss_one (ps_rz rfl (takes_of rfl rfl rfl rfl) z.s_BadNeed.t.oex z.s_BadNeed.init z.s_BadNeed.ty F0 hr b0 rfl z.g_BadNeed (pa_cons (pv 0) pa_nil))) pss_nil) (pss_one (ps_ret (pv 1))), ?_⟩
    exact ⟨_, rfl, v, rfl, hv, fun H' g => ⟨_, rfl, iteT ⟨_, rfl, mkO_of (.inl ⟨p, rfl, hp⟩) fun d hd => hE d _ (g.trans (Grow.new hd)) upd_same⟩⟩⟩
def sp_textX (K : PySem.W.Frag) : Sp := fun vs H _ E => ∃ v : V, vs = [v] ∧ OddAt H v ∧ ∀ d H', Grow H H' → H' d = some (needO "need") → E (.ref (ga K "BadNeed")) (some d) H'
theorem ok_textX (z : Z P w K mg base) : ∃ fd, FnOk P w K mg base (L2.CX P w) 13 (ga K "need_text") fd ["need"] (sp_textX K) ∧ Binds K fd ["need"] [] := by
  obtain ⟨f1, G1, b1⟩ := ok_needX z
  obtain ⟨f2, G2, b2⟩ := ok_need_items z
  obtain ⟨fd, F⟩ := z.f_need_text
  refine ⟨fd, F.ok sc_need_text (fun vs H Q E h => ?_) (fun cdv A outer s H vs Q E hr h => ?_), F.bindsN fun _ _ _ _ _ _ us hl => match us, hl with | [_], _ => rfl⟩
  · obtain ⟨_, rfl, _⟩ := h
    rfl
  · obtain ⟨v, rfl, hv, hE⟩ := h
    refine ⟨_, pss_one (ps_ret (pe_join pe_str (pe_call (G2 10) (hr.mono (by decide)) rfl z.g_need_items z.k_need_items b2 .nil passF (pa_cons (pe_call G1 (hr.mono (by decide)) rfl z.g_need_need z.k_need_need b1 .nil (passes_call (E := E) (takes_of rfl rfl rfl rfl) fun _ _ _ _ q => q) (pa_cons pe_str (pa_cons (pv 0) pa_nil))) pa_nil)))), ?_⟩
    exact ⟨⟨_, rfl⟩, v, rfl, "need", v, rfl, by decide, hv, hE⟩
end
end K80

set_option Elab.async false
set_option linter.all false
set_option maxRecDepth 100000
set_option maxHeartbeats 8000000
set_option pp.maxSteps 3000
/-! _law_same -/
namespace K80
open PySem PySem.Spec PyProof.Rows L2 SX StX TL
open He (ga ma)
open LamX (CodeO TabS Tabs ExtN TabB LamS GivesTo)
theorem scan_le : ∀ (r : List Str) (s : LS) (i : Nat), (scanL s r i).1 ≤ i + r.length
  | [], _, i => Nat.le_refl _
  | y :: r, s, i => by
    by_cases h : s.ph = .over
    · have e : scanL s (y :: r) i = (i, true) := if_pos h
      rw [e]
      exact Nat.le_add_right _ _
    · have e : scanL s (y :: r) i = match SX.step s y with
        | none => (i, false)
        | some s1 => scanL s1 r (i + 1) := if_neg h
      rw [e]
      cases q : SX.step s y with
      | none => exact Nat.le_add_right _ _
      | some s1 =>
        have := scan_le r s1 (i + 1)
        rw [List.length_cons]
        show (scanL s1 r (i + 1)).1 ≤ _
        omega
/-- a row of words, none told as one empty word -/
def fillW (us : List Str) : List Str := if us = [] then [""] else us
theorem fill_join (us : List Str) : Txt.join " " (fillW us) = Txt.join " " us := by
  unfold fillW
  split
  · rename_i e
    rw [e]
    rfl
  · rfl
theorem fill_due (us : List Str) : dueOf (fillW us) = if (scanL start0 us 0).2 = true ∧ ¬ (scanL start0 us 0).1 < us.length then none else some (scanL start0 us 0).1 := by
  have le := scan_le us start0 0
  unfold fillW
  split
  · rename_i e
    subst e
    decide +kernel
  · unfold dueOf
    split
    · rename_i k e
      rw [e]
      rw [e] at le
      have le : k ≤ 0 + us.length := le
      by_cases h : k = us.length
      · rw [if_pos h, if_pos ⟨rfl, by show ¬ k < us.length; omega⟩]
      · rw [if_neg h, if_neg (fun q => q.2 (by show k < us.length; omega))]
    · rename_i k e
      rw [e]
      exact (if_neg (fun q => nomatch q.1)).symm
/-- a word that may stand in a bent text -/
def PW1 (y : Str) : Prop := (y.length ≤ 100 ∧ 32 ∉ tl y) ∧ Sane y
theorem fill_plain {us : List Str} (hl : us.length ≤ 100000) (h : ∀ y ∈ us, PW1 y) : Plain (fillW us) := by
  unfold fillW
  split
  · exact ⟨List.cons_ne_nil _ _, by decide, fun y hy => by rw [List.mem_singleton.mp hy]; exact ⟨by decide, by decide⟩⟩
  · rename_i e
    exact ⟨e, hl, fun y hy => (h y hy).1⟩
theorem shaped_text (k : Int) : SeqAt.shaped (.tuple [.str "text", .int k]) = true := by
  have hdp : PyData.depthAll [.str "text", .int k] = 0 := by simp only [PyData.depthAll, PyData.depth, Nat.max_self]
  have hs : PyData.strOk "text" = true := by decide +kernel
  show ((PyData.strOk "text" && (true && true)) && decide (PyData.depthAll [.str "text", .int k] + 1 ≤ 64)) = true
  rw [hs, hdp]
  rfl
def tJn (K : PySem.W.Frag) (to te : TE) : TE := tM1 (fun x xs H Q => ∃ a p, ∃ ys : List Str, x = .str a ∧ xs = [.ref p] ∧ (SqL K H p (ys.map V.str) ∨ SqT K H p (ys.map V.str)) ∧ (ys.map (·.length)).sum + ys.length * a.length ≤ 16777216 ∧ Q (.str (Txt.join a ys)) H) to te
section
variable {P : Program} {w : World} {K : PySem.W.Frag} {mg : Str → Option Value} {base : Heap}
theorem sc__law_same : FnScope ["items", "is_right", "at", "told"] ["items"] (defScope s__law_same) := ⟨rfl, rfl, rfl, by decide +kernel, rfl, by decide +kernel, by decide +kernel⟩
def sp_same (K : PySem.W.Frag) : Sp := fun vs H Q _ => ∃ (l : Addr) (us : List Str), vs = [.ref l] ∧ H l = some (.lst (us.map V.str)) ∧ us.length ≤ 100000 ∧ (∀ y ∈ us, PW1 y) ∧ Tabs (TT K) H ∧ ∀ H', ExtN H H' → Tabs (TT K) H' → Q (.bl true) H'
theorem ok_same (z : Z P w K mg base) (hne : (He.cT K ("_law_same", none)).2 ≠ (He.cT K ("read_need", none)).2 ∧ (He.cT K ("law", none)).2 ≠ (He.cT K ("read_need", none)).2 ∧ (He.cT K ("law", none)).2 ≠ (He.cT K ("_law_same", none)).2) : ∃ fd, FnOk P w K mg base (L2.CX P w) 32 (ga K "_law_same") fd ["items"] (sp_same K) ∧ Binds K fd ["items"] [] := by
  obtain ⟨f1, G1, b1, _⟩ := ok_read_need z ⟨hne.1, hne.2.1⟩
  obtain ⟨f2, G2, b2, _⟩ := ok_need_text z
  obtain ⟨f3, G3, b3⟩ := ok_nread z
  obtain ⟨fg, Fg⟩ := z.f__law_caught
  obtain ⟨oc, od, dV, kV, doc, pm, an, cdv, ct, osl, rfl, lkg, hcg, hDg, _⟩ := Fg.ex
  obtain rfl : dV = .none := by
    rcases hDg with ⟨_, e⟩ | ⟨e, _⟩
    · exact e
    · exact absurd rfl e
  have bg : Binds K (PySem.W.fnOf "_law_caught" "_law_caught" (defArgs s__law_caught) (defBody s__law_caught) (defScope s__law_caught) .none kV doc pm an cdv ct) ["ask"] [] := Fg.bindsN fun _ _ _ _ _ _ us hl => match us, hl with | [_], _ => rfl
  obtain ⟨fd, F⟩ := z.f__law_same
  have bd : Binds K fd ["items"] [] := F.bindsN fun _ _ _ _ _ _ us hl => match us, hl with | [_], _ => rfl
  obtain ⟨oc2, od2, dV2, kV2, doc2, pm2, an2, cdv2, ct2, osl2, rfl, lk2, hc2, _, _⟩ := F.ex
  obtain ⟨c2, rfl⟩ := He.codeIn_ref hc2
  have ec2 : He.codeOf K ("_law_same", none) = c2 := He.codeOf_eq (p := ("_law_same", none)) lk2 rfl
  have TB : TabB base mg c2 (He.cT K ("_law_same", none)).2 := by
    have q := z.tb ("_law_same", none) (by decide +kernel)
    have e : (He.cT K ("_law_same", none)).1 = c2 := ec2
    rw [e] at q
    exact q
  have nd := sc__law_same.nd
  refine ⟨_, fn_of lk2 hc2 sc__law_same (fun vs H Q E h => ?_) (fun A outer s H vs Q E hr h => ?_), bd⟩
  · obtain ⟨_, _, rfl, _⟩ := h
    rfl
  · obtain ⟨l, us, rfl, hl, hul, hus, hT, hQ⟩ := h
    refine ⟨_, pss_cons (ps_asg (pe_call G3 (hr.mono (by decide)) rfl z.g__law_need_read z.k__law_need_read b3 .nil passF (pa_cons (pv 0) (pa_cons pe_int (pa_cons pe_non pa_nil)))) (pg_tup rfl (pgs_cons (pg_name (i := 1) nd rfl (Or.inl rfl)) (pgs_cons (pg_name (i := 2) nd rfl (Or.inl rfl)) pgs_nil))))
      (pss_cons (ps_set (i := 3) nd rfl (Or.inl rfl) (LamX.pe_lamcall (k := 26) (T := TT K) (TT := TCaught K) (t := fun E => tCall (sp_read_need K) [] E (tCons (tJn K (tC (.str " ")) (tVar 0)) tNil)) rfl z.g__law_caught z.k__law_caught lkg hcg bg sc__law_caught rfl (.inl rfl) (caught_gives z) TB rfl (List.mem_cons_of_mem _ List.mem_cons_self) (fun p hp e => ?hu) (hr.mono (by decide)) (LamX.lamS_by (sc := defScope s__law_same) (by decide +kernel)) rfl (fun _ _ _ _ _ => rfl)
          (fun A outer s H E f c' hr' => ?hbody)))
      (pss_cons (ps_if (PW.pt (pw_or (pt_not (pt_val (pv 1))) (pw_or1 (pt_cmpR op_lt (pv 2) (pe_callB call_len rfl z.b_len (by decide +kernel) (pa_cons (pv 0) pa_nil)) (nomark _))))) (pss_one (ps_ret (pe_cmpR (op_eqD hr.units) (pv 3) (pe_tup (pa_cons pe_str (pa_cons (pv 2) pa_nil))) (nomark _)))) pss_nil)
      (pss_one (ps_ret (pe_and (pe_cmpR op_eq (pe_ix ix_seq (pv 3) pe_int fun _ _ => rfl) pe_str (nomark _)) (pe_one (pe_cmpR op_eq (pe_call G2 (hr.mono (by decide)) rfl z.g_need_text z.k_need_text b2 .nil passF (pa_cons (pe_ix ix_seq (pv 3) pe_int fun _ _ => rfl) pa_nil)) (pe_join pe_str (pv 0)) (nomark _)))))))), ?_⟩
    case hu =>
      simp only [TT, List.mem_cons, List.not_mem_nil, or_false] at hp
      rcases hp with rfl | rfl | rfl
      · exact absurd e.symm hne.1
      · rfl
      · exact absurd e hne.2.2
    case hbody =>
      exact pe_call G1 hr' rfl z.g_read_need z.k_read_need b1 .nil (passes_call (E := E) (takes_of rfl rfl rfl rfl) fun _ _ _ _ q => q) (pa_cons (pe_join pe_str (pv 0)) pa_nil)
    have hp := fill_plain hul hus
    have hdue := fill_due us
    have hsz : (us.map (·.length)).sum + us.length * (" " : Str).length ≤ 16777216 := by
      have e1 : (" " : Str).length = 1 := rfl
      rw [e1, Nat.mul_one]
      have := sum_le fun y hy => (hus y hy).1.1
      omega
    obtain ⟨k, bb, hk⟩ : ∃ k bb, scanL start0 us 0 = (k, bb) := ⟨_, _, rfl⟩
    rw [hk] at hdue
    refine seq_asg ⟨_, rfl, l, us, 0, rfl, hl, Nat.zero_le _, fun y hy => ⟨by rw [sizeLine_eq]; have := (hus y hy).1.1; omega, (hus y hy).2⟩, fun t H1 g1 ht => ?_⟩
    rw [List.drop_zero, hk] at ht
    have T1 := hT.ext g1
    have hl1 := g1 _ _ hl
    refine ⟨t, _, rfl, SqT.of ht, rfl, _, _, rfl, _, _, rfl, rfl, ?_⟩
    refine seq_asg ⟨T1, fun H2 e2 T2 => ?_⟩
    have hl2 := e2 _ _ hl1 (nofun)
    refine ⟨⟨_, rfl⟩, _, rfl, " ", l, us, rfl, rfl, .inl (SqL.of hl2), hsz, Txt.join " " us, rfl, T2, fun H3 e3 T3 => ?_⟩
    rw [← fill_join]
    have hl3 := e3 _ _ hl2 (nofun)
    refine reads hp (fun hd v F H4 g4 hv f1 f2 f3 ew => ?_) (fun k' d' H4 hd g4 hd' => ?_)
    · -- it is read
      have hb : bb = true ∧ ¬ k < us.length := by
        rw [hd] at hdue
        by_cases q : bb = true ∧ ¬ k < us.length
        · exact q
        · rw [if_neg q] at hdue
          cases hdue
      obtain ⟨rfl, hk2⟩ := hb
      refine ⟨by decide, fun p hp0 => ?_⟩
      have gp := g4.trans (Grow.new (o := .tup [.str "told", v]) hp0)
      have hl5 := gp _ _ hl3
      refine ⟨_, rfl, _, rfl, ?_⟩
      refine iteF ⟨_, rfl, _, rfl, _, _, rfl, .inl ⟨_, SqL.of hl5, rfl⟩, _, _, rfl, rfl, _, rfl, ?_⟩
      rw [List.length_map, decide_eq_false (by omega)]
      refine iteF ⟨_, rfl, .inr (.inl ⟨p, _, 0, _, rfl, rfl, SqT.of upd_same, at0, rfl, _, rfl, ?_⟩)⟩
      rw [str_dec, decide_eq_true rfl]
      have ew2 : Txt.join " " F.words = Txt.join " " us := by rw [← ew, fill_join]
      have hsum : (F.words.map (·.length)).sum + F.words.length ≤ 16777216 := by
        rw [← ew]
        exact hp.sum
      refine iteT ⟨_, rfl, .inr (.inl ⟨p, _, 1, _, rfl, rfl, SqT.of upd_same, at1, v, F, rfl, hv.grow (Grow.new hp0), f1, by omega, by omega, hsum, fun H6 g6 => ⟨⟨_, rfl⟩, _, rfl, " ", l, us, rfl, rfl, .inl (SqL.of (g6 _ _ hl5)), hsz, rfl, ?_⟩⟩)⟩
      rw [ew2, decide_eq_true rfl]
      exact hQ _ ((ExtN.of g1).trans (e2.trans (e3.trans (ExtN.of (gp.trans g6))))) (T3.ext (gp.trans g6))
    · -- it is refused
      have hb : ¬ (bb = true ∧ ¬ k < us.length) ∧ k' = k := by
        rw [hd] at hdue
        by_cases q : bb = true ∧ ¬ k < us.length
        · rw [if_pos q] at hdue
          cases hdue
        · rw [if_neg q] at hdue
          exact ⟨q, Option.some.inj hdue⟩
      obtain ⟨hb, rfl⟩ := hb
      refine ⟨d', rfl, .inl ⟨k', rfl, hd', fun t2 H5 g5 ht2 => ?_⟩⟩
      have gp := g4.trans g5
      have hl5 := gp _ _ hl3
      have fin : tRet (tOp (rEqD K) (tVar 3) (tTup (tCons (tC (.str "text")) (tCons (tVar 2) tNil)))) { nx := fun _ H' => Q .non H', rt := Q } [some (.ref l), some (.bl bb), some (.int (k' : Nat)), some (.ref t2)] H5 := by
        refine ⟨_, rfl, _, rfl, by show 2 ≤ sizeLine; decide, fun t3 ht3 => ?_⟩
        have gt := Grow.new (o := .tup [.str "text", .int (k' : Nat)]) ht3
        refine ⟨.tuple [.str "text", .int (k' : Nat)], .tuple [.str "text", .int (k' : Nat)], .tup (SqT.of (gt _ _ ht2)) (.cons (.str _) (.cons (.int _) .nil)), .tup (SqT.of upd_same) (.cons (.str _) (.cons (.int _) .nil)), shaped_text _, shaped_text _, ?_⟩
        have ee : PyData.eqv (.tuple [.str "text", .int (k' : Nat)]) (.tuple [.str "text", .int (k' : Nat)]) = true := by simp [PyData.eqv, PyData.eqvAll]
        rw [ee]
        exact hQ _ ((ExtN.of g1).trans (e2.trans (e3.trans (ExtN.of (gp.trans gt))))) (T3.ext (gp.trans gt))
      refine ⟨_, rfl, _, rfl, ?_⟩
      cases bb with
      | false => exact iteT (iteT fin)
      | true =>
        refine iteF ⟨_, rfl, _, rfl, _, _, rfl, .inl ⟨_, SqL.of hl5, rfl⟩, _, _, rfl, rfl, _, rfl, ?_⟩
        rw [List.length_map, decide_eq_true (by
          have : k' < us.length := by
            by_cases q : k' < us.length
            · exact q
            · exact absurd ⟨rfl, q⟩ hb
          omega)]
        exact iteT fin
end
end K80

set_option Elab.async false
set_option linter.all false
set_option maxRecDepth 100000
set_option maxHeartbeats 8000000
set_option pp.maxSteps 3000
/-! the heap behind draws and lambdas; lists of written texts; plain: the words of a need can stand anywhere -/
namespace K80
open PySem PySem.Spec PyProof.Rows L2 SX StX TL
open He (ga ma)
open LamX (CodeO TabS Tabs ExtN TabB LamS GivesTo)
/-! ### what stays: all but the pen and the tables -/
def Rl (pn : Addr) (H H' : Hp) : Prop := ∀ b o, H b = some o → b ≠ pn → (∀ ps, o ≠ .tbl ps) → H' b = some o
section
variable {pn cl D : Addr} {H H1 H2 : Hp} {o : HO} {ws : List Str} {v : V} {n : Nat}
theorem Rl.refl (H : Hp) : Rl pn H H := fun _ _ h _ _ => h
theorem Rl.trans (a : Rl pn H H1) (b : Rl pn H1 H2) : Rl pn H H2 := fun c o h n t => b c o (a c o h n t) n t
theorem Rl.but (a : But pn H H1) : Rl pn H H1 := fun c o h n _ => a c o h n
theorem Rl.grow (a : Grow H H1) : Rl pn H H1 := fun c o h _ _ => a c o h
theorem Rl.ext (a : ExtN H H1) : Rl pn H H1 := fun c o h _ t => a c o h t
theorem Rl.put (a : Rl pn H H1) (h : H D = none) : Rl pn H (upd H1 D o) := fun c o e n t => by
  rw [upd_ne (ne_of_none e h)]
  exact a c o e n t
theorem PenAt.ext (h : PenAt H pn cl n) (g : ExtN H H1) : PenAt H1 pn cl n := by
  obtain ⟨ns, a, gr, h1, h2, h3⟩ := h
  exact ⟨ns, a, gr, g _ _ h1 (nofun), g _ _ h2 (nofun), h3⟩
theorem PenAt.lst (h : PenAt H pn cl n) : ∃ xs, H pn = some (.lst xs) := by
  obtain ⟨ns, a, gr, h1, _⟩ := h
  exact ⟨_, h1⟩
theorem PenAt.put (h : PenAt H pn cl n) (hp : D ≠ pn) (hc : D ≠ cl) : PenAt (upd H D o) pn cl n := by
  obtain ⟨ns, a, gr, h1, h2, h3⟩ := h
  exact ⟨ns, a, gr, by rw [upd_ne (Ne.symm hp)]; exact h1, by rw [upd_ne (Ne.symm hc)]; exact h2, h3⟩
theorem tabs_but {T : List (Addr × Str)} (h : Tabs T H) (g : But pn H H1) {xs : List V} (hp : H pn = some (.lst xs)) : Tabs T H1 := fun p hp' => by
  obtain ⟨ps, h1, h2, h3⟩ := h p hp'
  refine ⟨ps, g _ _ h1 (fun e => by rw [e, hp] at h1; cases h1), h2, fun pos cv hc => ?_⟩
  obtain ⟨c, e1, e2⟩ := h3 pos cv hc
  exact ⟨c, e1, g _ _ e2 fun e => by rw [e, hp] at e2; cases e2⟩
theorem tabs_put {T : List (Addr × Str)} (h : Tabs T H) {xs : List V} (hp : H D = some (.lst xs)) : Tabs T (upd H D o) := tabs_but h (But.upd (But.refl H)) hp
end
/-- a list of written texts -/
def GivesS (ta : TA) (ws : List Str) : Prop := ∀ σ H R, R (ws.map V.str) H → ta σ H R
theorem gs_nil : GivesS tNil [] := fun σ H R h => h
theorem gs_cons {ta : TA} {ws : List Str} {y : Str} (h : GivesS ta ws) : GivesS (tCons (tC (.str y)) ta) (y :: ws) := fun σ H R r => h σ H _ r
/-- lists of written texts -/
def Ls (H : Hp) : List (List Str) → List V → Prop
  | [], vs => vs = []
  | ws :: r, vs => ∃ l vs', vs = .ref l :: vs' ∧ H l = some (.lst (ws.map V.str)) ∧ Ls H r vs'
theorem Ls.get {H : Hp} : ∀ {L : List (List Str)} {vs : List V} {v : V}, Ls H L vs → v ∈ vs → ∃ l ws, v = .ref l ∧ ws ∈ L ∧ H l = some (.lst (ws.map V.str))
  | [], vs, v, h, e => by
    rw [show vs = [] from h] at e
    cases e
  | ws :: r, _, v, ⟨l, vs', e, h, t⟩, m => by
    rw [e] at m
    rcases List.mem_cons.mp m with q | q
    · exact ⟨l, ws, q, List.mem_cons_self, h⟩
    · obtain ⟨l', ws', h1, h2, h3⟩ := t.get q
      exact ⟨l', ws', h1, List.mem_cons_of_mem _ h2, h3⟩
theorem Ls.len {H : Hp} : ∀ {L : List (List Str)} {vs : List V}, Ls H L vs → vs.length = L.length
  | [], _, h => by rw [show _ = [] from h]; rfl
  | ws :: r, _, ⟨l, vs', e, h, t⟩ => by rw [e, List.length_cons, List.length_cons, t.len]
def GivesLs (ta : TA) (L : List (List Str)) : Prop := ∀ σ H R, (∀ vs H', Grow H H' → Ls H' L vs → R vs H') → ta σ H R
theorem gls_nil : GivesLs tNil [] := fun σ H R r => r [] H (Grow.refl _) rfl
theorem gls_cons {ta tb : TA} {ws : List Str} {L : List (List Str)} (h : GivesS ta ws) (t : GivesLs tb L) (hl : ws.length ≤ 1000 := by decide) : GivesLs (tCons (tLst ta) tb) (ws :: L) := fun σ H R r =>
  h σ H _ ⟨by rw [List.length_map, sizeLine_eq]; omega, fun p hp => t σ _ _ fun vs H2 g2 i2 => r _ H2 ((Grow.new hp).trans g2) ⟨p, vs, rfl, g2 _ _ upd_same, i2⟩⟩
theorem lst_of {ta : TA} {L : List (List Str)} {σ : L2.St} {H : Hp} {Q : VK} (k : GivesLs ta L) (hl : L.length ≤ 1000) (q : ∀ p vs H', Grow H H' → Ls H' L vs → H' p = none → Q (.ref p) (upd H' p (.lst vs))) : tLst ta σ H Q :=
  k σ H _ fun vs H' g i => ⟨by rw [i.len, sizeLine_eq]; omega, fun p hp => q p vs H' g i hp⟩
theorem next_i {D : Ends} {σ : L2.St} {H : Hp} (h : D.nx σ H) : tNext D σ H := h
theorem seq_for {wi : TI} {g : TG} {tb R : TS} {D : Ends} {σ : L2.St} {H : Hp} (h : tFor wi g tb { D with nx := R D } σ H) : tSeq (tFor wi g tb) R D σ H := h
theorem one_for {wi : TI} {g : TG} {tb : TS} {D : Ends} {σ : L2.St} {H : Hp} (h : wi σ H fun J H1 => ∃ W : Nat → Nat → L2.St → Hp → Prop, (∃ m, W 0 m σ H1) ∧ ∀ i m σ H, W i m σ H → (J.stop i H ∧ D.nx σ H) ∨ (J.go i H ∧ ∃ N : L2.St → Hp → Prop, (∀ σ' H', N σ' H' → ∃ m', m' < m ∧ W (i + 1) m' σ' H') ∧ ∀ x H', J.yld i H x H' → g x σ H' fun σ2 H2 => tb { D with nx := N, ct := N, bk := D.nx } σ2 H2)) : tFor wi g tb D σ H := h
theorem list_i {K : PySem.W.Frag} {tl : TE} {σ : L2.St} {H : Hp} {R : It → Hp → Prop} (h : tl σ H fun x H1 => ∃ a, x = .ref a ∧ (∃ xs, SqL K H1 a xs) ∧ R (Itl K a) H1) : iList K tl σ H R := h
theorem yes_i {σ : L2.St} {H : Hp} {A B : Hp → Prop} (h : A H) : tYes σ H (fun b H3 => if b = true then A H3 else B H3) := h
theorem tcons_i {te : TE} {ta : TA} {σ : L2.St} {H : Hp} {R : List V → Hp → Prop} (h : te σ H fun v H1 => ta σ H1 fun vs H2 => R (v :: vs) H2) : tCons te ta σ H R := h
theorem tcall_i {sp : Sp} {dvs : List V} {E : XK} {t : TA} {σ : L2.St} {H : Hp} {Q : VK} (h : t σ H fun vs H1 => sp (vs ++ dvs) H1 Q E) : tCall sp dvs E t σ H Q := h
theorem pen_ne {H : Hp} {pn cl a : Addr} {n : Nat} {ws : List Str} (h : PenAt H pn cl n) (ha : H a = some (.lst (ws.map V.str))) : a ≠ pn := fun e => by
  obtain ⟨_, _, _, h1, _⟩ := h
  rw [e, h1] at ha
  cases ws with
  | nil => cases ha
  | cons x y => cases ha
section
theorem call_lenK {X : Cx} {K : PySem.W.Frag} (h : X.K = K) : CallR X (.builtin "len") (fun xs H Q => ∃ (x : V) (n : Nat), xs = [x] ∧ LenV K x H n ∧ Q (.int n) H) := by
  subst h
  exact call_len
end
theorem tabs_but2 {T : List (Addr × Str)} {H H1 : Hp} {a b : Addr} {xs ys : List V} (h : Tabs T H) (g : But2 a b H H1) (ha : H a = some (.lst xs)) (hb : H b = some (.lst ys)) : Tabs T H1 := fun p hp' => by
  obtain ⟨ps, h1, h2, h3⟩ := h p hp'
  refine ⟨ps, g _ _ h1 (fun e => by rw [e, ha] at h1; cases h1) (fun e => by rw [e, hb] at h1; cases h1), h2, fun pos cv hc => ?_⟩
  obtain ⟨c, e1, e2⟩ := h3 pos cv hc
  exact ⟨c, e1, g _ _ e2 (fun e => by rw [e, ha] at e2; cases e2) fun e => by rw [e, hb] at e2; cases e2⟩
/-! ### words -/
/-- a short word without a blank -/
def W0 (y : Str) : Prop := y.length ≤ 50 ∧ 32 ∉ tl y ∧ Sane y
theorem tl_app (x y : Str) : tl (x ++ y) = tl x ++ tl y := by
  show (x ++ y).cps.toList = x.cps.toList ++ y.cps.toList
  rw [Str.cps_append, Array.toList_append]
theorem W0.pw {y : Str} (h : W0 y) : PW1 y ∧ PW1 (y ++ "s") ∧ PW1 (y ++ "0") ∧ y.length ≤ 1000 := by
  obtain ⟨h1, h2, h3⟩ := h
  have more : ∀ z : Str, z.length ≤ 1 → 32 ∉ tl z → Sane z → PW1 (y ++ z) := fun z z1 z2 z3 => by
    refine ⟨⟨by rw [PySem.Str.length_append]; omega, fun q => ?_⟩, fun c hc => ?_⟩
    · rw [tl_app] at q
      rcases List.mem_append.mp q with q | q
      · exact h2 q
      · exact z2 q
    · have hc : c ∈ tl (y ++ z) := hc
      rw [tl_app] at hc
      rcases List.mem_append.mp hc with q | q
      · exact h3 c q
      · exact z3 c q
  exact ⟨⟨⟨by omega, h2⟩, h3⟩, more "s" (by decide) (by decide +kernel) (by unfold Sane; decide +kernel), more "0" (by decide) (by decide +kernel) (by unfold Sane; decide +kernel), by omega⟩
theorem w0_by {y : Str} (h : (decide (y.length ≤ 50) && (!decide (32 ∈ tl y) && y.cps.toList.all fun c => decide (c < 1114112))) = true) : W0 y := by
  obtain ⟨h1, h⟩ := He.ba h
  obtain ⟨h2, h3⟩ := He.ba h
  exact ⟨of_decide_eq_true h1, by simpa using h2, fun c hc => of_decide_eq_true (List.all_eq_true.mp h3 c hc)⟩
theorem w0_name {s : Str} (h : nameB s = true) : W0 s := by
  obtain ⟨_, h⟩ := He.ba h
  obtain ⟨h1, h2⟩ := He.ba h
  have h1 := of_decide_eq_true h1
  have bd : ∀ c ∈ s.cps.toList, 97 ≤ c ∧ c ≤ 122 := fun c hc => by
    have q := List.all_eq_true.mp h2 c hc
    unfold signB at q
    obtain ⟨q1, q2⟩ := He.ba q
    have q3 : ¬ c < 97 := fun z => by
      have z' : ((⟨#[c]⟩ : Str).cps.toList < ("a" : Str).cps.toList) := (show [c] < [97] from List.Lex.rel z)
      rw [decide_eq_true z'] at q1
      exact absurd q1 (by decide)
    have q4 : ¬ 122 < c := fun z => by
      have z' : (("z" : Str).cps.toList < (⟨#[c]⟩ : Str).cps.toList) := (show [122] < [c] from List.Lex.rel z)
      rw [decide_eq_true z'] at q2
      exact absurd q2 (by decide)
    omega
  exact ⟨by omega, fun q => by have := bd _ q; omega, fun c hc => by have := bd _ hc; omega⟩
theorem w0_num {m : Int} (h : 1 ≤ m ∧ m ≤ 8) : W0 (numText (small m)) := by
  rw [small_ok (by omega)]
  have : m = 1 ∨ m = 2 ∨ m = 3 ∨ m = 4 ∨ m = 5 ∨ m = 6 ∨ m = 7 ∨ m = 8 := by omega
  rcases this with e | e | e | e | e | e | e | e <;> subst e <;> exact w0_by (by decide +kernel)
theorem w0_words : ∀ F : Fo, okF F → (∀ y ∈ F.words, W0 y) ∧ ∀ y ∈ F.more, W0 y
  | .nil, _ => ⟨(fun _ h => nomatch h), (fun _ h => nomatch h)⟩
  | .has s r, ⟨a, b⟩ => by
    obtain ⟨_, hr⟩ := w0_words r b
    have c : ∀ y ∈ (Fo.has s r).words, W0 y := fun y hy => by
      have hy : y ∈ (("has" : Str) :: s :: r.more) := by simpa [Fo.words, hasw] using hy
      rcases List.mem_cons.mp hy with rfl | hy
      · exact w0_by (by decide +kernel)
      rcases List.mem_cons.mp hy with rfl | hy
      · exact w0_name a
      · exact hr y hy
    refine ⟨c, fun y hy => ?_⟩
    rw [show (Fo.has s r).more = ("," : Str) :: (Fo.has s r).words by rw [Fo.more_eq, if_neg (by show ¬ 1 + r.len = 0; omega)]] at hy
    rcases List.mem_cons.mp hy with rfl | hy
    · exact w0_by (by decide +kernel)
    · exact c y hy
  | .node k m kids r, ⟨a1, a2, a3, b⟩ => by
    obtain ⟨_, hr⟩ := w0_words r b
    obtain ⟨hk, _⟩ := w0_words kids a3
    have hh : ∀ y ∈ k.headw m, W0 y := fun y hy => by
      cases k with
      | few =>
        have hy : y ∈ ([("few" : Str), numText (small m), "("] : List Str) := hy
        simp only [List.mem_cons, List.not_mem_nil, or_false] at hy
        rcases hy with rfl | rfl | rfl
        · exact w0_by (by decide +kernel)
        · obtain ⟨m1, m2⟩ := a1 rfl
          exact w0_num ⟨m1, by omega⟩
        · exact w0_by (by decide +kernel)
      | every =>
        have hy : y ∈ ([("every" : Str), "("] : List Str) := hy
        simp only [List.mem_cons, List.not_mem_nil, or_false] at hy
        rcases hy with rfl | rfl <;> exact w0_by (by decide +kernel)
      | some =>
        have hy : y ∈ ([("some" : Str), "("] : List Str) := hy
        simp only [List.mem_cons, List.not_mem_nil, or_false] at hy
        rcases hy with rfl | rfl <;> exact w0_by (by decide +kernel)
    have c : ∀ y ∈ (Fo.node k m kids r).words, W0 y := fun y hy => by
      have hy : y ∈ k.headw m ++ (kids.words ++ ((")" : Str) :: r.more)) := by simpa [Fo.words] using hy
      rcases List.mem_append.mp hy with hy | hy
      · exact hh y hy
      rcases List.mem_append.mp hy with hy | hy
      · exact hk y hy
      rcases List.mem_cons.mp hy with rfl | hy
      · exact w0_by (by decide +kernel)
      · exact hr y hy
    refine ⟨c, fun y hy => ?_⟩
    rw [show (Fo.node k m kids r).more = ("," : Str) :: (Fo.node k m kids r).words by rw [Fo.more_eq, if_neg (by show ¬ 1 + r.len = 0; omega)]] at hy
    rcases List.mem_cons.mp hy with rfl | hy
    · exact w0_by (by decide +kernel)
    · exact c y hy
theorem okF_nrm : ∀ F : Fo, okF F → okF (nrm F)
  | .nil, h => h
  | .has s r, ⟨a, b⟩ => ⟨a, okF_nrm r b⟩
  | .node .every m kids r, ⟨a, b, c, d⟩ => ⟨(nofun), by rw [nrm_len]; exact b, okF_nrm kids c, okF_nrm r d⟩
  | .node .some m kids r, ⟨a, b, c, d⟩ => ⟨(nofun), by rw [nrm_len]; exact b, okF_nrm kids c, okF_nrm r d⟩
  | .node .few m kids r, ⟨a, b, c, d⟩ => ⟨fun _ => by
      obtain ⟨m1, m2⟩ := a rfl
      rw [nrm_len, small_ok (by omega)]
      exact ⟨m1, m2⟩, by rw [nrm_len]; exact b, okF_nrm kids c, okF_nrm r d⟩
def wordsL : List Str := ["has", "every", "some", "few", "(", ")", ",", "1", "8", "9", "a", "Has", "01", "?"]
theorem wordsL_ok : ∀ y ∈ wordsL, PW1 y := fun y hy => (W0.pw (by
  simp only [wordsL, List.mem_cons, List.not_mem_nil, or_false] at hy
  rcases hy with rfl | rfl | rfl | rfl | rfl | rfl | rfl | rfl | rfl | rfl | rfl | rfl | rfl | rfl <;> exact w0_by (by decide +kernel))).1
theorem empty_ok : PW1 "" := (W0.pw (w0_by (by decide +kernel))).1
def namesL : List (List Str) := [["a", "b"], ["has", "every", "few", "some"], ["zzzzzzzzzzzz", "k", "kk"]]
theorem namesL_ok {ws : List Str} (h : ws ∈ namesL) : ws ≠ [] ∧ ws.length ≤ 1000 ∧ ∀ y ∈ ws, nameB y = true := by
  have q : (namesL.all fun ws => !ws.isEmpty && (decide (ws.length ≤ 1000) && ws.all nameB)) = true := by decide +kernel
  obtain ⟨h1, h2⟩ := He.ba (List.all_eq_true.mp q ws h)
  obtain ⟨h3, h4⟩ := He.ba h2
  exact ⟨fun e => by (rw [e] at h1; cases h1), of_decide_eq_true h3, fun y hy => List.all_eq_true.mp h4 y hy⟩
theorem need_ref {K : PySem.W.Frag} {H : Hp} {F : Fo} {v : V} (h : NeedsAt K H F [v]) (hl : F.len = 1) : ∃ a, v = .ref a := by
  cases F with
  | nil => cases hl
  | has s r =>
    obtain ⟨a, _, _, e, _⟩ := h
    cases e
    exact ⟨_, rfl⟩
  | node k m kids r =>
    obtain ⟨a, _, _, _, _, e, _⟩ := h
    cases e
    exact ⟨_, rfl⟩
end K80

set_option Elab.async false
set_option linter.all false
set_option maxRecDepth 100000
set_option maxHeartbeats 8000000
set_option pp.maxSteps 3000
/-! law: its state; the made-up row; the odd values -/
namespace K80
open PySem PySem.Spec PyProof.Rows L2 SX StX TL
open He (ga ma)
open LamX (CodeO TabS Tabs ExtN TabB LamS GivesTo)
/-- what stays through the law: the pen, the tables, the names, the words -/
structure Lw (K : PySem.W.Frag) (pn cl nm wd : Addr) (names : List Str) (n : Nat) (H : Hp) : Prop where
  pen : PenAt H pn cl n
  tabs : Tabs (TT K) H
  hn : H nm = some (.lst (names.map V.str))
  hw : H wd = some (.lst (wordsL.map V.str))
section
variable {K : PySem.W.Frag} {pn cl nm wd : Addr} {names : List Str} {n m : Nat} {H H' : Hp}
theorem Lw.nn (L : Lw K pn cl nm wd names n H) : nm ≠ pn := pen_ne L.pen L.hn
theorem Lw.nw (L : Lw K pn cl nm wd names n H) : wd ≠ pn := pen_ne L.pen L.hw
theorem Lw.grow (L : Lw K pn cl nm wd names n H) (g : Grow H H') : Lw K pn cl nm wd names n H' := ⟨L.pen.grow g, L.tabs.ext g, g _ _ L.hn, g _ _ L.hw⟩
theorem Lw.ext (L : Lw K pn cl nm wd names n H) (e : ExtN H H') (t : Tabs (TT K) H') : Lw K pn cl nm wd names n H' := ⟨L.pen.ext e, t, e _ _ L.hn (nofun), e _ _ L.hw (nofun)⟩
theorem Lw.but (L : Lw K pn cl nm wd names n H) (b : But pn H H') (p : PenAt H' pn cl m) : Lw K pn cl nm wd names m H' := by
  obtain ⟨xs, hx⟩ := L.pen.lst
  exact ⟨p, tabs_but L.tabs b hx, b _ _ L.hn L.nn, b _ _ L.hw L.nw⟩
theorem Lw.but2 {lf : Addr} {ys : List V} (L : Lw K pn cl nm wd names n H) (b : But2 pn lf H H') (p : PenAt H' pn cl m) (hl : H lf = some (.lst ys)) (h1 : nm ≠ lf) (h2 : wd ≠ lf) : Lw K pn cl nm wd names m H' := by
  obtain ⟨xs, hx⟩ := L.pen.lst
  exact ⟨p, tabs_but2 L.tabs b hx hl, b _ _ L.hn L.nn h1, b _ _ L.hw L.nw h2⟩
theorem Lw.mono (L : Lw K pn cl nm wd names n H) (h : n ≤ m) : Lw K pn cl nm wd names m H := ⟨L.pen.mono h, L.tabs, L.hn, L.hw⟩
theorem Lw.fresh {q : Addr} (L : Lw K pn cl nm wd names n H) (h : H q = none) : q ≠ pn ∧ q ≠ cl ∧ nm ≠ q ∧ wd ≠ q := by
  obtain ⟨ns, a, g, h1, h2, _⟩ := L.pen
  refine ⟨fun e => ?_, fun e => ?_, fun e => ?_, fun e => ?_⟩
  · rw [e, h1] at h; cases h
  · rw [e, h2] at h; cases h
  · rw [← e, L.hn] at h; cases h
  · rw [← e, L.hw] at h; cases h
theorem Lw.put {D : Addr} {o : HO} {xs : List V} (L : Lw K pn cl nm wd names n H) (h : D ≠ pn ∧ D ≠ cl ∧ nm ≠ D ∧ wd ≠ D) (hD : H D = some (.lst xs)) : Lw K pn cl nm wd names n (upd H D o) :=
  ⟨L.pen.put h.1 h.2.1, tabs_put L.tabs hD, by rw [upd_ne h.2.2.1]; exact L.hn, by rw [upd_ne h.2.2.2]; exact L.hw⟩
/-- [_law_pick(pen, words) for turn in range(_law_draw(pen, 12))] -/
theorem comp_words {v0 v2 v4 v5 v6 v7 v8 v9 v10 v11 : Option V} {Q : VK} (L : Lw K pn cl nm wd names n H) (hn : n ≤ 900000)
    (hQ : ∀ (D : Addr) (us : List Str) (H' : Hp), D ≠ pn → Lw K pn cl nm wd names (n + 13) H' → H' D = some (.lst (us.map V.str)) → us.length ≤ 12 → (∀ y ∈ us, PW1 y) → Q (.ref D) H') :
    tLc (iRng1 (tCons (tCall sp__law_draw [] (fun _ _ _ => False) (tCons (tVar 1) (tCons (tC (V.int 12)) tNil))) tNil)) (gName 4) tYes (tCall sp__law_pick [] (fun _ _ _ => False) (tCons (tVar 1) (tCons (tVar 3) tNil)))
      (List.map (fun x => x.snd) [(("turn" : Str), 4)]) [v0, some (.ref pn), v2, some (.ref wd), v4, v5, v6, v7, v8, v9, v10, v11] H Q := by
  refine ⟨_, rfl, pn, cl, 12, n, rfl, by decide, by decide, by omega, L.pen, fun d H1 b1 p1 d0 d1 => ⟨d, rfl, by omega, by omega, fun D hD => ?_⟩⟩
  have L1 := L.but b1 p1
  have fr := L1.fresh hD
  have L2 : Lw K pn cl nm wd names (n + 1) (upd H1 D (.lst [])) := L1.grow (Grow.new hD)
  refine lc_it walk_range (fun k H' => Lw K pn cl nm wd names (n + 1 + k) H' ∧ ∃ us : List Str, H' D = some (.lst (us.map V.str)) ∧ us.length = k ∧ ∀ y ∈ us, PW1 y) ⟨L2, [], upd_same, rfl, fun _ h => nomatch h⟩ (fun _ _ _ _ => True.intro) (fun k x H2 H3 hk q y => ?_) (fun H' q => ?_)
  · obtain ⟨rfl, rfl⟩ := y
    obtain ⟨L3, us, hus, hlen, hpw⟩ := q
    have hk : k < d.toNat := hk
    refine ⟨rfl, ?_⟩
    refine yes_i ?_
    refine ⟨_, rfl, _, rfl, pn, cl, wd, _, n + 1 + k, rfl, L3.hw, L3.nw, List.cons_ne_nil _ _, by decide, by omega, L3.pen, fun v H4 b4 p4 mv => ?_⟩
    obtain ⟨y, my, rfl⟩ := List.mem_map.mp mv
    have L4 := L3.but b4 p4
    have hus4 := b4 _ _ hus fr.1
    refine ⟨us.map V.str, hus4, by rw [List.length_map, sizeLine_eq]; omega, L4.put fr hus4, us ++ [y], by rw [upd_same, List.map_append]; rfl, by rw [List.length_append, hlen]; rfl, fun u hu => ?_⟩
    rcases List.mem_append.mp hu with h | h
    · exact hpw u h
    · rw [List.mem_singleton.mp h]
      exact wordsL_ok y my
  · obtain ⟨L3, us, hus, hlen, hpw⟩ := q
    have hl : us.length ≤ 12 := by
      have e : us.length = d.toNat := hlen
      omega
    exact hQ D us H' fr.1 (L3.mono (by show n + 1 + d.toNat ≤ _; omega)) hus hl hpw
end
theorem none_back {H H' : Hp} {a : Addr} (g : Grow H H') (h : H' a = none) : H a = none := by
  cases e : H a with
  | none => rfl
  | some o => rw [g _ _ e] at h; cases h
theorem OddAt.but {H H' : Hp} {v : V} {pn : Addr} (h : OddAt H v) (b : But pn H H') (hn : v ≠ .ref pn) : OddAt H' v := by
  have ne : ∀ {a}, v = .ref a → a ≠ pn := fun {a} e q => hn (by rw [e, q])
  rcases h with h | h | h | h | ⟨a, xs, e, h⟩ | ⟨a, xs, e, h⟩ | ⟨a, xs, e, h⟩
  · exact .inl h
  · exact .inr (.inl h)
  · exact .inr (.inr (.inl h))
  · exact .inr (.inr (.inr (.inl h)))
  · exact .inr (.inr (.inr (.inr (.inl ⟨a, xs, e, b _ _ h (ne e)⟩))))
  · exact .inr (.inr (.inr (.inr (.inr (.inl ⟨a, xs, e, b _ _ h (ne e)⟩)))))
  · exact .inr (.inr (.inr (.inr (.inr (.inr ⟨a, xs, e, b _ _ h (ne e)⟩)))))
theorem needs_ext {K : PySem.W.Frag} {H H' : Hp} (e : ExtN H H') : ∀ {F : Fo} {vs : List V}, NeedsAt K H F vs → NeedsAt K H' F vs
  | .nil, _, h => h
  | .has s r, _, ⟨a, dx, vs', q, h, t⟩ => ⟨a, dx, vs', q, e _ _ h (nofun), needs_ext e t⟩
  | .node k m kids r, _, ⟨a, dx, p, kvs, vs', q, h, hp, tk, t⟩ => ⟨a, dx, p, kvs, vs', q, e _ _ h (by cases k <;> exact nofun), e _ _ hp (nofun), needs_ext e tk, needs_ext e t⟩
theorem seq_ifnot {te : TE} {tb tc R : TS} {D : Ends} {σ : L2.St} {H : Hp} (h : te σ H fun v H1 => ∃ k, v = V.bl k ∧ if (!k) = true then tb { D with nx := R D } σ H1 else tc { D with nx := R D } σ H1) : tSeq (tIfS (tNot (tB te)) tb tc) R D σ H := h
theorem cat_i {K : PySem.W.Frag} {ta tb : TE} {σ : L2.St} {H : Hp} {Q : VK} (h : ta σ H fun x H1 => tb σ H1 fun y H2 => rCat x y H2 Q) : tOp rCat ta tb σ H Q := h
theorem tnil_i {σ : L2.St} {H : Hp} {R : List V → Hp → Prop} (h : R [] H) : tNil σ H R := h
theorem ttup_i {ta : TA} {σ : L2.St} {H : Hp} {Q : VK} (h : ta σ H fun vs H1 => vs.length ≤ sizeLine ∧ ∀ t, H1 t = none → Q (.ref t) (upd H1 t (.tup vs))) : tTup ta σ H Q := h
theorem tlst_i {ta : TA} {σ : L2.St} {H : Hp} {Q : VK} (h : ta σ H fun vs H1 => vs.length ≤ sizeLine ∧ ∀ t, H1 t = none → Q (.ref t) (upd H1 t (.lst vs))) : tLst ta σ H Q := h
/-- [None, 5, True, ["has", "a"], ("has",), {}] -/
theorem odd_row1 {σ : L2.St} {H : Hp} {R : VK} (h : ∀ q vs H1, Grow H H1 → H1 q = none → vs ≠ [] → vs.length ≤ 10 → (∀ v ∈ vs, OddAt H1 v ∧ (∀ y, v ≠ .str y) ∧ ∀ a, v = .ref a → H a = none) → R (.ref q) (upd H1 q (.lst vs))) :
    tLst (tCons (tC .non) (tCons (tC (.int 5)) (tCons (tC (.bl true)) (tCons (tLst (tCons (tC (.str "has")) (tCons (tC (.str "a")) tNil))) (tCons (tTup (tCons (tC (.str "has")) tNil)) (tCons tDNewK tNil)))))) σ H R := by
  refine ⟨by show 2 ≤ sizeLine; decide, fun p1 h1 => ⟨by show 1 ≤ sizeLine; decide, fun p2 h2 => fun p3 h3 => ⟨by show 6 ≤ sizeLine; decide, fun q hq => ?_⟩⟩⟩
  have g1 := Grow.new (o := .lst [.str "has", .str "a"]) h1
  have g2 := Grow.new (o := .tup [.str "has"]) h2
  have g3 := Grow.new (o := .dK []) h3
  refine h q _ _ (g1.trans (g2.trans g3)) hq (List.cons_ne_nil _ _) (by show 6 ≤ 10; decide) fun v hv => ?_
  simp only [List.mem_cons, List.not_mem_nil, or_false] at hv
  rcases hv with rfl | rfl | rfl | rfl | rfl | rfl
  · exact ⟨.inl rfl, nofun, nofun⟩
  · exact ⟨.inr (.inl ⟨_, rfl⟩), nofun, nofun⟩
  · exact ⟨.inr (.inr (.inl ⟨_, rfl⟩)), nofun, nofun⟩
  · exact ⟨.inr (.inr (.inr (.inr (.inl ⟨p1, _, rfl, (g2.trans g3) _ _ upd_same⟩)))), nofun, fun a e => by cases e; exact h1⟩
  · exact ⟨.inr (.inr (.inr (.inr (.inr (.inl ⟨p2, _, rfl, g3 _ _ upd_same⟩))))), nofun, fun a e => by cases e; exact none_back g1 h2⟩
  · exact ⟨.inr (.inr (.inr (.inr (.inr (.inr ⟨p3, _, rfl, upd_same⟩))))), nofun, fun a e => by cases e; exact none_back (g1.trans g2) h3⟩
/-- [None, "has a", ("has", "a"), 0, []] -/
theorem odd_row2 {σ : L2.St} {H : Hp} {R : VK} (h : ∀ q vs H1, Grow H H1 → H1 q = none → vs ≠ [] → vs.length ≤ 10 → (∀ v ∈ vs, OddAt H1 v ∧ ∀ a, v = .ref a → H a = none) → R (.ref q) (upd H1 q (.lst vs))) :
    tLst (tCons (tC .non) (tCons (tC (.str "has a")) (tCons (tTup (tCons (tC (.str "has")) (tCons (tC (.str "a")) tNil))) (tCons (tC (.int 0)) (tCons (tLst tNil) tNil))))) σ H R := by
  refine ⟨by show 2 ≤ sizeLine; decide, fun p1 h1 => ⟨Nat.zero_le _, fun p2 h2 => ⟨by show 5 ≤ sizeLine; decide, fun q hq => ?_⟩⟩⟩
  have g1 := Grow.new (o := .tup [.str "has", .str "a"]) h1
  have g2 := Grow.new (o := .lst []) h2
  refine h q _ _ (g1.trans g2) hq (List.cons_ne_nil _ _) (by show 5 ≤ 10; decide) fun v hv => ?_
  simp only [List.mem_cons, List.not_mem_nil, or_false] at hv
  rcases hv with rfl | rfl | rfl | rfl | rfl
  · exact ⟨.inl rfl, nofun⟩
  · exact ⟨.inr (.inr (.inr (.inl ⟨_, rfl⟩))), nofun⟩
  · exact ⟨.inr (.inr (.inr (.inr (.inr (.inl ⟨p1, _, rfl, g2 _ _ upd_same⟩))))), fun a e => by cases e; exact h1⟩
  · exact ⟨.inr (.inl ⟨_, rfl⟩), nofun⟩
  · exact ⟨.inr (.inr (.inr (.inr (.inl ⟨p2, _, rfl, upd_same⟩)))), fun a e => by cases e; exact none_back g1 h2⟩
end K80

set_option Elab.async false
set_option linter.all false
set_option maxRecDepth 100000
set_option maxHeartbeats 16000000
set_option pp.maxSteps 300
/-! law -/
namespace K80
open PySem PySem.Spec PyProof.Rows L2 SX StX TL
open He (ga ma)
open LamX (CodeO TabS Tabs ExtN TabB LamS GivesTo)
def nmL : List Str := ["script", "pen", "names", "words", "turn", "odd", "none", "heard", "plain", "items", "told", "lap"]
section
variable {P : Program} {w : World} {K : PySem.W.Frag} {mg : Str → Option Value} {base : Heap}
theorem sc_law : FnScope nmL ["script"] (defScope s_law) := ⟨rfl, rfl, rfl, by decide +kernel, rfl, by decide +kernel, by decide +kernel⟩
def sp_law (K : PySem.W.Frag) : Sp := fun vs H Q _ => ∃ (sc : Addr) (ns : List Int), vs = [.ref sc] ∧ SqL K H sc (ns.map V.int) ∧ Tabs (TT K) H ∧ ∀ H', Q (.bl true) H'
def tA (K : PySem.W.Frag) : XK → TE := fun E => tCall (sp_readX K) [] E (tCons (tVar 5) tNil)
def tB_ (K : PySem.W.Frag) : XK → TE := fun E => tCall (sp_textX K) [] E (tCons (tVar 6) tNil)
theorem run_law (z : Z P w K mg base) (hne : (He.cT K ("_law_same", none)).2 ≠ (He.cT K ("read_need", none)).2 ∧ (He.cT K ("law", none)).2 ≠ (He.cT K ("read_need", none)).2 ∧ (He.cT K ("law", none)).2 ≠ (He.cT K ("_law_same", none)).2) (hq : EqCs K) {A : Around} (hA : Room 34 A) (hg : A.guards = some []) :
    ∃ fd, RunAt A P w K mg base (L2.CX P w) (ga K "law") fd "script" (sp_law K) ∧ FunD K "law" "law" (defArgs s_law) (defBody s_law) (defScope s_law) [] [] (ga K "law") fd := by
  obtain ⟨f1, G1, b1, D1⟩ := ok_read_need z ⟨hne.1, hne.2.1⟩
  obtain ⟨f2, G2, b2, D2⟩ := ok_need_text z
  obtain ⟨f3, G3, b3⟩ := ok__law_pen z
  obtain ⟨f4, G4, b4⟩ := ok__law_pick z
  obtain ⟨f5, G5, b5⟩ := ok_any z
  obtain ⟨f6, G6, b6⟩ := ok_pitems z
  obtain ⟨f7, G7, b7⟩ := ok_plain z
  obtain ⟨f8, G8, b8⟩ := ok_bent z
  obtain ⟨f9, G9, b9⟩ := ok__law_draw z
  obtain ⟨f10, G10, b10⟩ := ok_same z hne
  obtain ⟨f11, G11, b11⟩ := ok_readX z ⟨hne.1, hne.2.1⟩
  obtain ⟨f12, G12, b12⟩ := ok_textX z
  obtain ⟨e1, e2, e3, e4, EB, EQ⟩ := ok_eqs z hq
  have k1 : KBn K f1 ["text"] 0 ["text"] (fun _ ws => ws) (fun _ zs => zs) := FunD.kall D1 fun _ _ _ _ _ _ us hl => match us, hl with | [_], _ => rfl
  have k2 : KBn K f2 ["need"] 0 ["need"] (fun _ ws => ws) (fun _ zs => zs) := FunD.kall D2 fun _ _ _ _ _ _ us hl => match us, hl with | [_], _ => rfl
  obtain ⟨fg, Fg⟩ := z.f__law_caught
  obtain ⟨oc, od, dV, kV, doc, pm, an, cdv, ct, osl, rfl, lkg, hcg, hDg, _⟩ := Fg.ex
  obtain rfl : dV = .none := by
    rcases hDg with ⟨_, e⟩ | ⟨e, _⟩
    · exact e
    · exact absurd rfl e
  have bg : Binds K (PySem.W.fnOf "_law_caught" "_law_caught" (defArgs s__law_caught) (defBody s__law_caught) (defScope s__law_caught) .none kV doc pm an cdv ct) ["ask"] [] := Fg.bindsN fun _ _ _ _ _ _ us hl => match us, hl with | [_], _ => rfl
  obtain ⟨fd, F⟩ := z.f_law
  obtain ⟨oc2, od2, dV2, kV2, doc2, pm2, an2, cdv2, ct2, osl2, rfl, lk2, hc2, _, _⟩ := F.ex
  obtain ⟨c2, rfl⟩ := He.codeIn_ref hc2
  have ec2 : He.codeOf K ("law", none) = c2 := He.codeOf_eq (p := ("law", none)) lk2 rfl
  have TB : TabB base mg c2 (He.cT K ("law", none)).2 := by
    have q := z.tb ("law", none) (by decide +kernel)
    have e : (He.cT K ("law", none)).1 = c2 := ec2
    rw [e] at q
    exact q
  have nd := sc_law.nd
  refine ⟨_, fun s H u v Q E e0 hb rv h => ?_, F⟩
  refine LamX.run_ofS (N := nmL) (ps := ["script"]) (us := [u]) (vs := [v]) lk2 hc2 sc_law hA e0 hb (.cons rv .nil) rfl fun hr => ?_
  obtain ⟨sc, ns, ev, hs, hT, hQ⟩ := h
  cases ev
  have hgd : (A.deeper (envOfC "law" (defScope s_law) s.heap.objs.size (ga K "law") (.ref c2))).guards = some [] := hg
  have hun : (A.deeper (envOfC "law" (defScope s_law) s.heap.objs.size (ga K "law") (.ref c2))).units + 64 < cLine := hr.units
  refine ⟨_, pss_cons (ps_set (i := 1) nd rfl (Or.inr rfl) (pe_call G3 (hr.mono (by decide)) rfl z.g__law_pen z.k__law_pen b3 .nil passF (pa_cons (pv 0) pa_nil)))
      (pss_cons (ps_set (i := 2) nd rfl (Or.inl rfl) (pe_call G4 (hr.mono (by decide)) rfl z.g__law_pick z.k__law_pick b4 .nil passF (pa_cons (pv 1) (pa_cons (pe_lst (pa_cons (pe_lst (pa_cons pe_str (pa_cons pe_str pa_nil))) (pa_cons (pe_lst (pa_cons pe_str (pa_cons pe_str (pa_cons pe_str (pa_cons pe_str pa_nil))))) (pa_cons (pe_lst (pa_cons pe_str (pa_cons pe_str (pa_cons pe_str pa_nil)))) pa_nil)))) pa_nil))))
      (pss_cons (ps_set (i := 3) nd rfl (Or.inr rfl) (pe_lst (pa_cons pe_str (pa_cons pe_str (pa_cons pe_str (pa_cons pe_str (pa_cons pe_str (pa_cons pe_str (pa_cons pe_str (pa_cons pe_str (pa_cons pe_str (pa_cons pe_str (pa_cons pe_str (pa_cons pe_str (pa_cons pe_str (pa_cons pe_str pa_nil))))))))))))))))
      (pss_cons (ps_for PassesOwn.leaving rfl (pi_range1 rfl z.b_range (pa_cons pe_int pa_nil)) (pg_name (i := 4) nd rfl (Or.inl rfl))
        (pss_cons (ps_set (i := 8) nd rfl (Or.inl rfl) (pe_call (G5 6) (hr.mono (by decide)) rfl z.g__law_any_need z.k__law_any_need b5 .nil passF (pa_cons (pv 1) (pa_cons (pv 2) (pa_cons pe_int (pa_cons (pe_lst (pa_cons (pe_call G4 (hr.mono (by decide)) rfl z.g__law_pick z.k__law_pick b4 .nil passF (pa_cons (pv 1) (pa_cons (pe_lst (pa_cons pe_int (pa_cons pe_int (pa_cons pe_int pa_nil)))) pa_nil))) pa_nil)) pa_nil))))))
        (pss_cons (ps_set (i := 9) nd rfl (Or.inl rfl) (pe_call (G6 6) (hr.mono (by decide)) rfl z.g__law_need_items z.k__law_need_items b6 .nil passF (pa_cons (pv 8) pa_nil)))
        (pss_cons (ps_set (i := 10) nd rfl (Or.inl rfl) (pe_call G1 (hr.mono (by decide)) rfl z.g_read_need z.k_read_need b1 .nil passF (pa_cons (pe_join pe_str (pv 9)) pa_nil)))
        (pss_cons (ps_if (PW.pt (pw_or (pt_cmpR op_ne (pe_callB (call_reprA hgd hun) rfl z.b_repr (by decide +kernel) (pa_cons (pe_call (G7 6) (hr.mono (by decide)) rfl z.g__law_plain_need z.k__law_plain_need b7 .nil passF (pa_cons (pv 10) pa_nil)) pa_nil)) (pe_callB (call_reprA hgd hun) rfl z.b_repr (by decide +kernel) (pa_cons (pv 8) pa_nil)) (nomark _)) (pw_or (pt_cmpR op_ne (pe_call G2 (hr.mono (by decide)) rfl z.g_need_text z.k_need_text b2 .nil passF (pa_cons (pv 10) pa_nil)) (pe_join pe_str (pv 9)) (nomark _)) (pw_or1 (pt_cmpR (op_neG (neG_need (d := 6) hq (EQ 6) EB) (hr.mono (by decide))) (pe_callN0 G1 (hr.mono (by decide)) rfl z.g_read_need z.k_read_need k1 passF (pk_cons (pe_callN0 G2 (hr.mono (by decide)) rfl z.g_need_text z.k_need_text k2 passF (pk_cons (pv 10) pk_nil)) pk_nil)) (pv 10) (nomark _)))))) (pss_one (ps_ret pe_bl)) pss_nil)
        (pss_one (ps_for PassesOwn.leaving rfl (pi_range1 rfl z.b_range (pa_cons pe_int pa_nil)) (pg_name (i := 11) nd rfl (Or.inl rfl)) (pss_one (ps_if (pt_not (pt_val (pe_call G10 (hr.mono (by decide)) rfl z.g__law_same z.k__law_same b10 .nil passF (pa_cons (pe_call G8 (hr.mono (by decide)) rfl z.g__law_bent z.k__law_bent b8 .nil passF (pa_cons (pv 1) (pa_cons (pv 9) (pa_cons (pv 3) pa_nil)))) pa_nil)))) (pss_one (ps_ret pe_bl)) pss_nil)))))))))
      (pss_cons (ps_if (pt_not (pt_val (pe_call G10 (hr.mono (by decide)) rfl z.g__law_same z.k__law_same b10 .nil passF (pa_cons (pe_op op_cat (pe_lc (own := [("turn", 4)]) (g := gName 4) (tt := tYes) rfl nd (pi_range1 rfl z.b_range (pa_cons (pe_call G9 (hr.mono (by decide)) rfl z.g__law_draw z.k__law_draw b9 .nil passF (pa_cons (pv 1) (pa_cons pe_int pa_nil))) pa_nil)) (blkOk_by (N := nmL) (sc := defScope s_law) (by decide +kernel)) (fun _ _ _ _ _ => pg_name (i := 4) nd rfl (Or.inl rfl)) (fun _ _ _ _ _ => pts_nil) (fun _ _ _ _ _ => (pe_call G4 (hr.mono (by decide)) rfl z.g__law_pick z.k__law_pick b4 .nil passF (pa_cons (pv 1) (pa_cons (pv 3) pa_nil))))) (pe_lst (pa_cons pe_str pa_nil))) pa_nil)))) (pss_one (ps_ret pe_bl)) pss_nil)
      (pss_cons (ps_asg (pe_tup (pa_cons (pe_call G4 (hr.mono (by decide)) rfl z.g__law_pick z.k__law_pick b4 .nil passF (pa_cons (pv 1) (pa_cons (pe_lst (pa_cons pe_non (pa_cons pe_int (pa_cons pe_bl (pa_cons (pe_lst (pa_cons pe_str (pa_cons pe_str pa_nil))) (pa_cons (pe_tup (pa_cons pe_str pa_nil)) (pa_cons pe_dnewK pa_nil))))))) pa_nil))) (pa_cons (pe_call G4 (hr.mono (by decide)) rfl z.g__law_pick z.k__law_pick b4 .nil passF (pa_cons (pv 1) (pa_cons (pe_lst (pa_cons pe_non (pa_cons pe_str (pa_cons (pe_tup (pa_cons pe_str (pa_cons pe_str pa_nil))) (pa_cons pe_int (pa_cons (pe_lst pa_nil) pa_nil)))))) pa_nil))) pa_nil))) (pg_tup rfl (pgs_cons (pg_name (i := 5) nd rfl (Or.inr rfl)) (pgs_cons (pg_name (i := 6) nd rfl (Or.inr rfl)) pgs_nil))))
      (pss_cons (ps_set (i := 7) nd rfl (Or.inl rfl) (pe_lst (pa_cons (LamX.pe_lamcall (k := 26) (T := TT K) (TT := TCaught K) (t := tA K) rfl z.g__law_caught z.k__law_caught lkg hcg bg sc__law_caught rfl (.inl rfl) (caught_gives z) TB rfl (List.mem_cons_of_mem _ (List.mem_cons_of_mem _ List.mem_cons_self)) (fun p hp e => ?hu) (hr.mono (by decide)) (LamX.lamS_by (sc := defScope s_law) (by decide +kernel)) rfl (fun _ _ _ _ _ => rfl) (fun A outer s H E f c' hr' => ?hbA)) pa_nil)))
      (pss_cons (ps_expr (pe_bm PySem.F.plainAttrs_list PySem.F.slot_list_append PySem.F.type_list_append mt_append (pv 7) (pa_cons (LamX.pe_lamcall (k := 26) (T := TT K) (TT := TCaught K) (t := tB_ K) rfl z.g__law_caught z.k__law_caught lkg hcg bg sc__law_caught rfl (.inl rfl) (caught_gives z) TB rfl (List.mem_cons_of_mem _ (List.mem_cons_of_mem _ List.mem_cons_self)) (fun p hp e => ?hu2) (hr.mono (by decide)) (LamX.lamS_by (sc := defScope s_law) (by decide +kernel)) rfl (fun _ _ _ _ _ => rfl) (fun A outer s H E f c' hr' => ?hbB)) pa_nil)))
      (pss_one (ps_ret (pe_cmpR (op_eqD hr.units) (pv 7) (pe_lst (pa_cons (pe_tup (pa_cons pe_str (pa_cons pe_int pa_nil))) (pa_cons (pe_tup (pa_cons pe_str (pa_cons pe_str pa_nil))) pa_nil))) (nomark _))))))))))), ?_⟩
  case hu =>
    simp only [TT, List.mem_cons, List.not_mem_nil, or_false] at hp
    rcases hp with rfl | rfl | rfl
    · exact absurd e.symm hne.2.1
    · exact absurd e.symm hne.2.2
    · rfl
  case hu2 =>
    simp only [TT, List.mem_cons, List.not_mem_nil, or_false] at hp
    rcases hp with rfl | rfl | rfl
    · exact absurd e.symm hne.2.1
    · exact absurd e.symm hne.2.2
    · rfl
  case hbA =>
    exact pe_call G11 hr' rfl z.g_read_need z.k_read_need b11 .nil (passes_call (E := E) (takes_of rfl rfl rfl rfl) fun _ _ _ _ q => q) (pa_cons (pv 5) pa_nil)
  case hbB =>
    exact pe_call G12 (hr'.mono (by decide)) rfl z.g_need_text z.k_need_text b12 .nil (passes_call (E := E) (takes_of rfl rfl rfl rfl) fun _ _ _ _ q => q) (pa_cons (pv 6) pa_nil)
  have htup : SeqAt.shaped (.list [.tuple [.str "text", .int 0], .tuple [.str "need", .str "need"]]) = true := by
    have d1 : PyData.depthAll [.tuple [.str "text", .int 0], .tuple [.str "need", .str "need"]] = 1 := by simp only [PyData.depthAll, PyData.depth, Nat.max_self] <;> rfl
    have s1 : PyData.strOk "text" = true := by decide +kernel
    have s2 : PyData.strOk "need" = true := by decide +kernel
    show ((((PyData.strOk "text" && (true && true))) && (((PyData.strOk "need" && (PyData.strOk "need" && true))) && true)) && decide (PyData.depthAll [.tuple [.str "text", .int 0], .tuple [.str "need", .str "need"]] + 1 ≤ 64)) = true
    rw [s1, s2, d1]
    rfl
  refine seq_asg ⟨_, rfl, sc, ns, rfl, hs, fun pn cl H1 g1 hpn0 hcl0 hpen => ?_⟩
  have T1 : Tabs (TT K) H1 := hT.ext g1
  have kw := (gls_cons (gs_cons (gs_cons gs_nil)) (gls_cons (gs_cons (gs_cons (gs_cons (gs_cons gs_nil)))) (gls_cons (gs_cons (gs_cons (gs_cons gs_nil))) gls_nil)) : GivesLs _ namesL)
  refine seq_asg (tcall_i (tcons_i ⟨_, rfl, tcons_i (lst_of kw (by decide) fun pw vs4 H4 g4 i4 hpw => ?_)⟩))
  have i4 : Ls H4 namesL vs4 := i4
  have pen4 := (hpen.grow g4).grow (Grow.new (o := .lst vs4) hpw)
  have T4 := (T1.ext g4).ext (Grow.new (o := .lst vs4) hpw)
  have hl4 : vs4.length = 3 := i4.len
  obtain ⟨xs4, hx4⟩ := pen4.lst
  have hpwn : pw ≠ pn := fun e => by
    obtain ⟨xs, hx⟩ := (hpen.grow g4).lst
    rw [← e, hpw] at hx
    cases hx
  refine ⟨pn, cl, pw, vs4, _, rfl, upd_same, hpwn, (fun e => by rw [e] at hl4; cases hl4), by omega, by omega, pen4, fun v H5 b5' pen5 mv => ?_⟩
  obtain ⟨nm, names, rfl, hnames, hnm⟩ := i4.get mv
  obtain ⟨w1, w2, w3⟩ := namesL_ok hnames
  have hnm4 := Grow.new (o := .lst vs4) hpw _ _ hnm
  have hnm5 := b5' _ _ hnm4 (pen_ne pen4 hnm4)
  have T5 := tabs_but T4 b5' hx4
  refine seq_asg ⟨by show 14 ≤ sizeLine; decide, fun wd hwd => ?_⟩
  have gw := Grow.new (o := .lst (wordsL.map V.str)) hwd
  have L6 : Lw K pn cl nm wd names 1 (upd H5 wd (.lst (wordsL.map V.str))) := ⟨pen5.grow gw, T5.ext gw, gw _ _ hnm5, upd_same⟩
  have nne : names.map V.str ≠ [] := fun e => w1 (List.map_eq_nil_iff.mp e)
  have nll : (names.map V.str).length < 1073741824 := by rw [List.length_map]; omega
  refine ⟨3, rfl, by decide, by decide, ?_⟩
  refine for_it walk_range (fun i σ' H' => ∃ (v4 v8 v9 v10 v11 : Option V), σ' = [some (.ref sc), some (.ref pn), some (.ref nm), some (.ref wd), v4, none, none, none, v8, v9, v10, v11] ∧ Lw K pn cl nm wd names (1 + 200 * i) H') ⟨none, none, none, none, none, rfl, L6⟩ (fun _ _ _ _ _ => True.intro) (fun i x σ' H2 H3 hi q y => ?_) (fun σ' H' q => ?_)
  · obtain ⟨v4, v8, v9, v10, v11, rfl, L⟩ := q
    obtain ⟨rfl, rfl⟩ := y
    have hi : i < 3 := hi
    refine seq_asg ⟨_, rfl, _, rfl, _, rfl, by show 3 ≤ sizeLine; decide, fun q hq => ?_⟩
    have gq := Grow.new (o := .lst [.int 30, .int 30, .int 8]) hq
    have L1 := L.grow gq
    refine ⟨pn, cl, q, _, _, rfl, upd_same, (L.fresh hq).1, List.cons_ne_nil _ _, by show 3 < _; decide, by omega, L1.pen, fun v H4 b4' p4 m4 => ?_⟩
    have hv : ∃ m : Nat, v = .int (m : Nat) ∧ 1 ≤ m ∧ m ≤ 30 := by
      simp only [List.mem_cons, List.not_mem_nil, or_false] at m4
      rcases m4 with rfl | rfl | rfl
      · exact ⟨30, rfl, by decide, by decide⟩
      · exact ⟨30, rfl, by decide, by decide⟩
      · exact ⟨8, rfl, by decide, by decide⟩
    obtain ⟨m, rfl, m0, m1⟩ := hv
    have L4 := L1.but b4' p4
    refine ⟨by show 1 ≤ sizeLine; decide, fun lf hlf => ?_⟩
    have L5 := L4.grow (Grow.new (o := .lst [.int (m : Nat)]) hlf)
    obtain ⟨u1, u2, u3, u4⟩ := L4.fresh hlf
    refine ⟨pn, cl, nm, lf, names, _, m, rfl, L5.hn, upd_same, L5.nn, u1, u3, u2.symm, nne, nll, w3, by decide, m0, by omega, L5.pen, fun a F n' H6 b6' p6 l6 fs hn' fl okf fd pl => ?_⟩
    have L6 := L5.but2 b6' p6 upd_same u3 u4
    refine seq_asg ⟨_, rfl, .ref a, F, rfl, pl, fl, by omega, fd, fun l H7 g7 hl => ?_⟩
    have L7 := L6.grow g7
    have hwl := (words_len F).1
    have hw0 := (w0_words F okf).1
    have hne0 : F.words ≠ [] := by
      obtain ⟨y, zz, e, _⟩ := words_first F (by omega)
      rw [e]
      exact List.cons_ne_nil _ _
    have hplain : Plain F.words := ⟨hne0, by omega, fun y hy => (W0.pw (hw0 y hy)).1.1⟩
    have hsz : (F.words.map (·.length)).sum + F.words.length * (" " : Str).length ≤ 16777216 := by
      have e1 : (" " : Str).length = 1 := rfl
      rw [e1, Nat.mul_one]
      exact hplain.sum
    have hdue := words_read okf fl fd (Nat.le_trans fs m1)
    have okG := okF_nrm F okf
    have lenG : (nrm F).len = 1 := (nrm_len F).trans fl
    have deepG : (nrm F).deep ≤ 6 := by rw [nrm_deep]; exact fd
    have sizeG : (nrm F).size ≤ 30 := by rw [nrm_size]; omega
    refine seq_asg (tcall_i (tcons_i ⟨⟨_, rfl⟩, _, rfl, " ", l, F.words, rfl, rfl, .inl (SqL.of hl), hsz, _, rfl, L7.tabs, fun H8 e8 T8 => reads hplain (fun _ v F2 H9 g9 hv k1 k2 k3 ew => ?_) (fun k d H10 hd => ?_)⟩))
    · have L9 := (L7.ext e8 T8).grow g9
      have hl9 := g9 _ _ (e8 _ _ hl (nofun))
      have pl9 : PlainsAt H9 F [.ref a] := ((pl.grow g7).growT fun p xs h => e8 _ _ h (nofun)).grow g9
      have eG : nrm F2 = nrm F := words_one (by omega) (by omega) ew.symm
      have hG : NeedsAt K H9 (nrm F) [v] := by
        rw [← eG]
        exact needs_nrm hv
      have hsum2 : (F2.words.map (·.length)).sum + F2.words.length ≤ 16777216 := by
        rw [← ew]
        exact hplain.sum
      refine ⟨_, rfl, v, nrm F, rfl, hG, lenG, by omega, deepG, fun a2 H10 g10 pl2 => ?_⟩
      refine tnil_i (repr_i pl2 okG (by omega) (by omega) ?_)
      refine ⟨_, rfl, tnil_i ?_⟩
      refine repr_i (pl9.grow g10) okf (by omega) (by omega) ?_
      refine ⟨rfl, _, rfl, ?_⟩
      rw [shownF_nrm, decide_eq_true rfl]
      refine iteF ⟨_, rfl, v, F2, rfl, hv.grow g10, k1, by omega, by omega, hsum2, fun H11 g11 => ⟨⟨_, rfl⟩, _, rfl, " ", l, F.words, rfl, rfl, .inl (SqL.of (g11 _ _ (g10 _ _ hl9))), hsz, rfl, _, rfl, ?_⟩⟩
      rw [← ew, decide_eq_true rfl]
      have g911 := g10.trans g11
      refine iteF ⟨_, rfl, rfl, v, F2, rfl, hv.grow g911, k1, by omega, by omega, hsum2, fun H12 g12 => ⟨rfl, _, rfl, L9.tabs.ext (g911.trans g12), fun H13 e13 T13 => ?_⟩⟩
      have g912 := g911.trans g12
      rw [← ew]
      refine reads hplain (fun _ v2 F3 H14 g14 hv2 k1' k2' k3' ew2 => ?_) (fun k d H14 hd => ?_)
      · have eG3 : nrm F3 = nrm F := words_one (by omega) (by omega) ew2.symm
        have hG2 : NeedsAt K H14 (nrm F) [v2] := by
          rw [← eG3]
          exact needs_nrm hv2
        have L14 := ((L9.grow g912).ext e13 T13).grow g14
        have hG14 : NeedsAt K H14 (nrm F) [v] := (needs_ext e13 (hG.grow g912)).grow g14
        have hl14 := g14 _ _ (e13 _ _ (g912 _ _ hl9) (nofun))
        obtain ⟨a3, rfl⟩ := need_ref hG2 lenG
        obtain ⟨a4, ev4⟩ := need_ref hG lenG
        refine ⟨_, rfl, ⟨a3, a4, nrm F, rfl, ev4, hG2, hG14, lenG, deepG⟩, fun H15 x15 => ⟨_, rfl, iteF (next_i ?_)⟩⟩
        have g15 : Grow H14 H15 := x15
        have L15 := L14.grow g15
        have hl15 := g15 _ _ hl14
        dsimp only
        refine ⟨7, rfl, by decide, by decide, ?_⟩
        refine for_it walk_range (fun j σ' H' => ∃ v11 : Option V, σ' = [some (.ref sc), some (.ref pn), some (.ref nm), some (.ref wd), some (.int (0 + (i : Nat))), none, none, none, some (.ref a), some (.ref l), some v, v11] ∧ Lw K pn cl nm wd names (n' + 4 * j) H' ∧ H' l = some (.lst (F.words.map V.str))) ⟨v11, rfl, L15, hl15⟩ (fun _ _ _ _ _ => True.intro) (fun j x σ' H' H'' hj q y => ?_) (fun σ' H' q => ?_)
        · obtain ⟨v11', rfl, Lj, hlj⟩ := q
          obtain ⟨rfl, rfl⟩ := y
          have hj : j < 7 := hj
          refine ⟨_, rfl, _, rfl, _, rfl, pn, cl, l, wd, F.words, wordsL, n' + 4 * j, PW1, rfl, hlj, Lj.hw, pen_ne Lj.pen hlj, Lj.nw, hne0, by omega, by decide, by omega, Lj.pen, fun y hy => W0.pw (hw0 y hy), wordsL_ok, empty_ok, fun l2 us H2 b2' p2 e2' hus lus => ?_⟩
          have Lb := Lj.but b2' p2
          refine ⟨l2, us, rfl, e2', by omega, hus, Lb.tabs, fun H3 e3' T3 => ⟨_, rfl, iteF ⟨_, rfl, ?_, e3' _ _ (b2' _ _ hlj (pen_ne Lj.pen hlj)) (nofun)⟩⟩⟩
          have q := Lb.ext e3' T3
          exact q.mono (by omega)
        · obtain ⟨v11', rfl, Lj, _⟩ := q
          exact ⟨_, _, _, _, _, rfl, Lj.mono (by omega)⟩
      · rw [hdue] at hd
        cases hd
    · rw [hdue] at hd
      cases hd
  · obtain ⟨v4, v8, v9, v10, v11, rfl, L⟩ := q
    dsimp only
    refine seq_ifnot (tcall_i (tcons_i (cat_i (K := K) (comp_words L (by omega) fun D us H8 hDn L8 hD hul hup => ?_))))
    -- H8 hDn L8 hD hul hup => ?_
    refine ⟨by show 1 ≤ sizeLine; decide, fun q hq => ⟨D, q, _, _, rfl, rfl, Grow.new hq _ _ hD, upd_same, by rw [List.length_map, sizeLine_eq]; show us.length + 1 ≤ _; omega, fun r hr => ?_⟩⟩
    have L9 := (L8.grow (Grow.new (o := .lst [.str "has"]) hq)).grow (Grow.new (o := .lst (us.map V.str ++ [.str "has"])) hr)
    refine ⟨r, us ++ [("has" : Str)], rfl, by rw [upd_same, List.map_append]; rfl, by rw [List.length_append]; show us.length + 1 ≤ _; omega, fun y hy => ?_, L9.tabs, fun H10 e10 T10 => ⟨_, rfl, iteF (next_i ?_)⟩⟩
    · rcases List.mem_append.mp hy with h | h
      · exact hup y h
      · rw [List.mem_singleton.mp h]
        exact wordsL_ok "has" (by decide +kernel)
    have L10 := L9.ext e10 T10
    dsimp only
    refine seq_asg (ttup_i (tcons_i (tcall_i (tcons_i ⟨_, rfl, tcons_i (odd_row1 fun q vs H11 g11 hq hv1 hv2 hodd => ?_)⟩))))
    have L11 := (L10.grow g11).grow (Grow.new (o := .lst vs) hq)
    refine ⟨pn, cl, q, vs, _, rfl, upd_same, ((L10.grow g11).fresh hq).1, hv1, by omega, by omega, L11.pen, fun v1 H12 b12 p12 m12 => ?_⟩
    obtain ⟨od1, ns1, fr1⟩ := hodd v1 m12
    have L12 := L11.but b12 p12
    have n1 : v1 ≠ .ref pn := fun e => (L10.fresh (fr1 pn e)).1 rfl
    have od1 := (od1.ext (ExtN.of (Grow.new (o := .lst vs) hq))).but b12 n1
    refine tcons_i (tcall_i (tcons_i ⟨_, rfl, tcons_i (odd_row2 fun q2 vs2 H13 g13 hq2 hv3 hv4 hodd2 => ?_)⟩))
    have L13 := (L12.grow g13).grow (Grow.new (o := .lst vs2) hq2)
    refine ⟨pn, cl, q2, vs2, _, rfl, upd_same, ((L12.grow g13).fresh hq2).1, hv3, by omega, by omega, L13.pen, fun v2 H14 b14 p14 m14 => ?_⟩
    obtain ⟨od2, fr2⟩ := hodd2 v2 m14
    have L14 := L13.but b14 p14
    have n2 : v2 ≠ .ref pn := fun e => (L12.fresh (fr2 pn e)).1 rfl
    have od2 := (od2.ext (ExtN.of (Grow.new (o := .lst vs2) hq2))).but b14 n2
    have od1 := (od1.ext (ExtN.of (g13.trans (Grow.new (o := .lst vs2) hq2)))).but b14 n1
    refine ⟨by show 2 ≤ sizeLine; decide, fun t ht => ?_⟩
    have gt := Grow.new (o := .tup [v1, v2]) ht
    refine ⟨t, _, rfl, SqT.of upd_same, rfl, _, _, rfl, _, _, rfl, rfl, ?_⟩
    have L15 := L14.grow gt
    have od1 := od1.ext (ExtN.of gt)
    have od2 := od2.ext (ExtN.of gt)
    refine seq_asg (tlst_i (tcons_i ⟨L15.tabs, fun H16 e16 T16 => ⟨_, rfl, v1, rfl, od1.ext e16, ns1, T16, fun H17 e17 T17 d1 H18 g18 hd1 => ⟨d1, rfl, .inl ⟨0, rfl, hd1, fun t1 H19 g19 ht1 => ?_⟩⟩⟩⟩))
    have L19 := ((L15.ext e16 T16).ext e17 T17).grow (g18.trans g19)
    have od2 := ((od2.ext e16).ext e17).ext (ExtN.of (g18.trans g19))
    refine ⟨by show 1 ≤ sizeLine; decide, fun lh hlh => ?_⟩
    have gh := Grow.new (o := .lst [.ref t1]) hlh
    have L20 := L19.grow gh
    have ht20 := gh _ _ ht1
    have od2 := od2.ext (ExtN.of gh)
    refine ⟨_, rfl, .inl ⟨rfl, _, .inl (.inl upd_same)⟩, L20.tabs, fun H21 e21 T21 => ⟨_, rfl, v2, rfl, od2.ext e21, fun d2 H22 g22 hd2 => ⟨d2, rfl, .inr ⟨"need", rfl, hd2, fun t2 H23 g23 ht2 => ?_⟩⟩⟩⟩
    have g2223 := g22.trans g23
    have hl23 := g2223 _ _ (e21 _ _ (upd_same (H := H19) (a := lh) (o := .lst [.ref t1])) (nofun))
    have ht23 := g2223 _ _ (e21 _ _ ht20 (nofun))
    refine ⟨lh, _, _, rfl, rfl, hl23, by show 1 < sizeLine; decide, ?_⟩
    have ne1 : t1 ≠ lh := fun e => by
      rw [e, hl23] at ht23
      cases ht23
    have ne2 : t2 ≠ lh := fun e => by
      rw [e, hl23] at ht2
      cases ht2
    refine ⟨_, rfl, by show 2 ≤ sizeLine; decide, fun s1 hs1 => ⟨by show 2 ≤ sizeLine; decide, fun s2 hs2 => ⟨by show 2 ≤ sizeLine; decide, fun s3 hs3 => ?_⟩⟩⟩
    have ga := Grow.new (o := .tup [.str "text", .int 0]) hs1
    have gb := Grow.new (o := .tup [.str "need", .str "need"]) hs2
    have gc := Grow.new (o := .lst [.ref s1, .ref s2]) hs3
    have gabc := ga.trans (gb.trans gc)
    have x1 := gabc _ _ (show (upd H23 lh (.lst [.ref t1, .ref t2])) t1 = some (.tup [.str "text", .int 0]) by rw [upd_ne ne1]; exact ht23)
    have x2 := gabc _ _ (show (upd H23 lh (.lst [.ref t1, .ref t2])) t2 = some (.tup [.str "need", .str "need"]) by rw [upd_ne ne2]; exact ht2)
    have x3 := gabc _ _ (show (upd H23 lh (.lst [.ref t1, .ref t2])) lh = some (.lst [.ref t1, .ref t2]) from upd_same)
    refine ⟨.list [.tuple [.str "text", .int 0], .tuple [.str "need", .str "need"]], .list [.tuple [.str "text", .int 0], .tuple [.str "need", .str "need"]], .lst (SqL.of x3) (.cons (.tup (SqT.of x1) (.cons (.str _) (.cons (.int _) .nil))) (.cons (.tup (SqT.of x2) (.cons (.str _) (.cons (.str _) .nil))) .nil)),
      .lst (SqL.of upd_same) (.cons (.tup (SqT.of ((gb.trans gc) _ _ upd_same)) (.cons (.str _) (.cons (.int _) .nil))) (.cons (.tup (SqT.of (gc _ _ upd_same)) (.cons (.str _) (.cons (.str _) .nil))) .nil)), htup, htup, ?_⟩
    have ee : PyData.eqv (.list [.tuple [.str "text", .int 0], .tuple [.str "need", .str "need"]]) (.list [.tuple [.str "text", .int 0], .tuple [.str "need", .str "need"]]) = true := by simp [PyData.eqv, PyData.eqvAll]
    rw [ee]
    exact hQ _
end
end K80

set_option Elab.async false
set_option linter.all false
set_option maxRecDepth 100000
set_option maxHeartbeats 0
namespace K80
open PySem PySem.Spec PyProof.Rows L2
theorem funD_eq {K : PySem.W.Frag} {x q : Str} {a : Arguments} {b : List Stmt} {s : Scope} {dv : List V} {kv : List (Str × V)} {f : Addr} {fd fd' : FuncData} (F : FunD K x q a b s dv kv f fd) (F' : FunD K x q a b s dv kv f fd') : fd = fd' := by
  obtain ⟨_, _, _, _, _, _, _, _, _, _, _, lk, _⟩ := F.ex
  obtain ⟨_, _, _, _, _, _, _, _, _, _, _, lk', _⟩ := F'.ex
  rw [lk] at lk'
  have e := congrArg Obj.data (Option.some.inj lk')
  exact Data.func.inj e
abbrev HK : PySem.W.Hook := SH.hook 5 "/claim/cut.py" fa fn ini tf exK2
theorem run_head (w : World) : HandSHeadRun.RunEq R (PySem.W.view R.prog [69]) HK (SH.ob 5 "/claim/cut.py" fa fn ini tf exK2) 12000 bound w := by
  have h := SH.run_join (SH.run_join (SH.run_join (run_4 w) (run_1 w)) (run_2 w)) (run_3 w)
  simp only [List.nil_append, List.append_nil] at h
  exact h
theorem top_super : ((PySem.Challenge.rw_stillthenstorm_k79_whole_texts_of_needs.prog).main.scope.names.lookup ("super" : Str)).isSome = false := by kernel_rfl
theorem facts {w : World} {K : PySem.W.Frag} {h : Heap} {mg : Str → Option Value} {f : Addr} (X : K.In h) (G : h.Ns mainGlobals mg) (hfa : mg ("law" : Str) = some (.ref f)) (c : SH.Says "/claim/cut.py" fa fn ini tf exK2 h K) :
    SX.LawAtR PySem.Challenge.rw_stillthenstorm_k79_whole_texts_of_needs w K (L2.CX PySem.Challenge.rw_stillthenstorm_k79_whole_texts_of_needs.prog w) 63 "script" mg f h := by
  have mk : ∀ base : Heap, K.In base → base.Ns mainGlobals mg → (∀ p ∈ tf.map (He.cT K), LamX.TabB base mg p.1 p.2) → Z PySem.Challenge.rw_stillthenstorm_k79_whole_texts_of_needs.prog w K mg base := fun base X' G' T =>
    ⟨c.d, X', G', fun d hd => SH.supB_ok (c.sup d hd).1 (c.sup d hd).2 top_super, (He.ba c.ex).1, fun t ht => T _ (List.mem_map.mpr ⟨t, ht, rfl⟩)⟩
  have hne := neK_ok (He.ba (He.ba c.ex).2).1
  have hq := eqCs_ok (He.ba (He.ba c.ex).2).2
  obtain ⟨fd, F⟩ := c.d.def_ 33 (d := d_law)
  have e : f = He.ga K "law" := by
    have q := hfa.symm.trans (He.glo_ok X G (c.d.fact 66 (f := .glo "law")))
    cases q
    rfl
  subst e
  have b2 := FunD.bindsA (ps := ["script"]) F fun _ _ _ _ _ _ us hl => match us, hl with | [_], _ => rfl
  refine ⟨fd, tf.map (He.cT K), sp_law K, fun p hp => ?_, fun p hp => ?_, fun p hp => ?_, fun s u => b2 s [u] rfl, fun H a ns hn hT hs => ⟨a, ns, rfl, hs, fun p hp => ?_, fun _ => rfl⟩, fun base X' G' T => ?_⟩
  · obtain ⟨t, ht, rfl⟩ := List.mem_map.mp hp
    exact c.empty t ht
  · obtain ⟨t, ht, rfl⟩ := List.mem_map.mp hp
    exact c.out t ht
  · obtain ⟨t, ht, rfl⟩ := List.mem_map.mp hp
    exact PySem.W.codeHd_of_K X (c.hd t ht)
  · have q : ∃ t ∈ tf, p = ((He.cT K t).2, qn t.1) := by
      simp only [TT, List.mem_cons, List.not_mem_nil, or_false] at hp
      rcases hp with rfl | rfl | rfl
      · exact ⟨("read_need", none), by decide +kernel, rfl⟩
      · exact ⟨("_law_same", none), by decide +kernel, rfl⟩
      · exact ⟨("law", none), by decide +kernel, rfl⟩
    obtain ⟨t, ht, rfl⟩ := q
    exact LamX.TabS.nil (hT (He.cT K t) (List.mem_map.mpr ⟨t, ht, rfl⟩))
  · obtain ⟨fd', ok, F'⟩ := run_law (A := callerA) (mk base X' G' T) hne hq ⟨rfl, by decide, by decide⟩ rfl
    rw [funD_eq F F']
    exact ok
end K80
open PySem PySem.W PySem.Calls PyProof.Rows
theorem PySem.Challenge.cw_stillthenstorm_k79_whole_texts_of_needs_holds : PySem.Challenge.rw_stillthenstorm_k79_whole_texts_of_needs.Holds := by
  w_on; o_law
  refine HandSHeadRun.head_any (r := OpenLaw.row PySem.Challenge.rw_stillthenstorm_k79_whole_texts_of_needs) (q := view (OpenLaw.row PySem.Challenge.rw_stillthenstorm_k79_whole_texts_of_needs).prog [69]) (H := K80.HK) (ob := SH.ob 5 "/claim/cut.py" K80.fa K80.fn K80.ini K80.tf K80.exK2) (M := 12000) (loose := K80.bound) (d := HandSHeadRun.topDef (OpenLaw.row PySem.Challenge.rw_stillthenstorm_k79_whole_texts_of_needs).prog 69) (kwd := []) SH.ob_eq
    (by kernel_rfl) (fun s => by kernel_rfl) K80.run_head (by kernel_rfl) (by kernel_rfl) (by kernel_rfl) (by rfl) (by first | assumption | decide +kernel) (by decide +kernel) ⟨rfl, rfl, rfl, rfl, rfl, by decide +kernel⟩ ?hw ?hc
  case hw => w_witness2
  case hc =>
    refine SX.walk_atR (l := PySem.Challenge.rw_stillthenstorm_k79_whole_texts_of_needs) (n := 63) (x := "script") (CX := fun w => L2.CX PySem.Challenge.rw_stillthenstorm_k79_whole_texts_of_needs.prog w) rfl (by decide) (by kernel_rfl) ?F (fun _ _ _ _ _ h => ?hCX)
    case hCX =>
      obtain ⟨_, _, _, _, _, _, _, _, _, _, _, _, z⟩ := h
      exact z
    intro w mg fa h Y G hmg0
    obtain ⟨K, KX, c⟩ := Y
    have hmg : mg ("law" : PySem.Str) = some (.ref fa) := by
      have e : (HandSHeadRun.topDef (OpenLaw.row PySem.Challenge.rw_stillthenstorm_k79_whole_texts_of_needs).prog 69).name = ("law" : PySem.Str) := by kernel_rfl
      rw [← e]
      exact hmg0
    exact ⟨K, KX, K80.facts KX G hmg c⟩
