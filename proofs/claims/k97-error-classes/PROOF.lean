import PyProof.Rows.All
import Wide.All
import OpenK.AllK
import Wide.FinOn
import HandS.ForMost
import HandS.ForExc
import HandS.Walk
import HandS.IsInst
import HandS.TryMany
import HandS.SuiteRaise
import HandS.RaiseFrom
import HandS.ExcInit
import HandS.ExcField
import HandS.Property
import HandS.ClsMeth
import HandS.Wide
import HandS.Zip
import HandS.Rev
import HandS.Deep
import HandS.TupAny
import HandS.TupMul
import HandS.GenCall
import HandS.GenList
import HandS.SortInts
import HandS.Defaults
import HandS.ExcIs
import HandS.ExcValue
import KE.KExcSuper
import KE.KExcIs
import HandS.HeadHook2
import KE.KSuper
import HandS.Text
import HandS.WordsExc
import KE.KStateDown
import Lean
import HandS.Head0
import HandS.Head1
import HandS.Head2
import HandS.HeadEnd
import HandS.HeadHook1
import PySem.Challenge.RW_outagain_k97_error_classes
set_option Elab.async false
set_option linter.all false
set_option maxRecDepth 100000
set_option maxHeartbeats 8000000
/-! OE1: an own exception's __init__ that says super().__init__(..) ahead of its fields. -/
namespace OD
open PySem PySem.Spec L2
open PyProof.Rows hiding St

/-- super().__init__ called: the bound wrapper -/
theorem call_mw {prog : Program} {w : World} {A : Around} {E : Value → Shared → Prop} {h : Heap} {g : Array GenState} {d : Drawn} {t : Nat} {os : OsState} {B i newId : String} {bmB : List Value} (FB : ExcBaseFacts B newId i bmB)
    {nm q : Str} {C N : Addr} {bs bm : List Value} {hdct : Bool} {sn : List Str} {sub : List Value} {ab : Bool} {col : Option Bool} {dd : Option Addr} {k0 k1 k2 k3 k5 : Option Value}
    {u e t0 : Addr} {rest : List Value} {Q : Value → Shared → Prop}
    (hC : h.get? C = some (excClassObj nm q C N bs bm hdct sn sub ab col dd k0 k1 k2 k3 k5 newId)) (he : h.get? e = some (HandSPX.excO C t0)) (hu : h.get? u = some (PySem.W.kxs_mw i e)) (hrest : rest.length ≤ sizeLine)
    (hq : ∀ h' t1, (∀ b o, b ≠ e → h.get? b = some o → h'.get? b = some o) → h'.get? e = some (HandSPX.excO C t1) → Q .none ⟨h', g, d, t, os⟩) :
    wpAny (model prog w) A (call (.ref u) rest) Q E ⟨h, g, d, t, os⟩ := by
  refine wpAny_call (codeAny_of_tree ?_)
  show wpAny _ A.in1 (callAny (.ref u) ⟨rest, []⟩) _ _ _
  simp only [callAny]
  refine wpAny_bind (wpAny_load hu ?_)
  simp only [PySem.W.kxs_mw, show (Value.type "method-wrapper" == Value.type "method" || Value.type "method-wrapper" == Value.type "builtin_function_or_method" || Value.type "method-wrapper" == Value.type "method-wrapper") = true by decide, if_true]
  refine W.KFB.if_so (by decide) ?_
  refine wpAny_bind (PySem.W.check_bound_init FB.toExcCallFacts hC he rfl ?_)
  refine wpAny_bind (wpAny_pure (wpAny_pure ?_))
  refine ⟨PySem.plainId_quiet FB.init.plain _, codeAny_builtin FB.initEntry ?_⟩
  exact PySem.W.exc_init_tree (cls := .ref C) (t0 := t0) (dv := none) (c2 := .none) (c3 := .none) (b4 := .bool false) he hrest fun h' k e' _ => hq h' _ k e'

section
variable {X : Cx} {pins : List (Addr × Obj)} {σ : L2.St} {H : Hp} {s : Shared} {Q : VK} {body : List Stmt} {e : Expr} {es : List Expr} {ta : TA} {p0 p1 apos pos : Pos} {f cc cda C D a : Addr} {fd : FuncData} {ar : Arg} {vs : Array Value} {file : Str} {tf : Tok} {oc ccl cl : Value} {od cdd cld : Option Addr} {osl ccs csl : Array (Option Value)} {cdD : ClassData}
theorem wp_super (I : Inv X pins σ H s) (T : OexC X.K C) (hks : X.env.kindOf "super" = some .globalImplicit) (hkc : X.env.kindOf "__class__" = some .free) (hfu : X.env.func = some f) (hco : X.env.code = .ref cda) (hce : X.env.cells.lookup ("__class__" : Str) = some cc)
    (hf : X.K.lookup f = some ⟨oc, od, .func fd, osl⟩) (hp : (fd.params.posonlyargs ++ fd.params.args).head? = some ar)
    (hcode : X.K.lookup cda = some ⟨ccl, cdd, .fields vs, ccs⟩) (hvs : vs[2]? = some (.str file tf)) (hfile : ((X.prog.main.file : Str) == file) = true)
    (hcell : X.K.lookup cc = some ⟨cl, cld, .cell (some (.ref D)), csl⟩) (hD : PySem.W.clsIn X.K D = some cdD) (hsub : PySem.W.mroIn X.K C (.ref D) = some true) (hsuper : X.mg "super" = none)
    (hka : X.env.kindOf ar.arg = some .local) (hN : X.N[0]? = some ar.arg) (hσ : σ[0]? = some (some (.ref a))) (htop : (X.prog.main.scope.names.lookup ("super" : Str)).isSome = false)
    (ho : PySem.W.nsIn X.K PySem.cStatics "thirdparty.any" = some none) (hm : PySem.W.ks_superIn X.K C D "__init__" = some (some (.builtin "ValueError.__init__"))) (hB : PySem.W.subIn X.K (.ref C) (.type "ValueError") = some true)
    (ea : H a = some (exo a C none)) (ha : PA X (e :: es) ta) (h : ta σ H fun ws H1 => ws.length ≤ 1000 ∧ H1 a = some (exo a C none) ∧ Q .non H1)
    (he : starEach (e :: es) X.env = (false, eval e X.env) :: starEach es X.env) (hpl : (backTo pos (starEach es X.env)).any (·.1) = false) {pl : Sem Bool}
    (hev : eval (.Call (.Attribute (.Call (.Name "super" p0) [] [] p1) "__init__" apos) (e :: es) [] pos) X.env = (do
      let ov ← attributeBase (.Call (.Name "super" p0) [] [] p1) "__init__" X.env (eval (.Call (.Name "super" p0) [] [] p1) X.env)
      standAt apos.atName
      let (f, first) ← holding [ov] (getMethod ov "__init__" pl)
      callWith pos f first (backTo pos (starEach (e :: es) X.env)) [])) :
    PySem.wpAt (model X.prog X.w) X.A (.func body X.env) (eval (.Call (.Attribute (.Call (.Name "super" p0) [] [] p1) "__init__" apos) (e :: es) [] pos) X.env) (EP X pins σ Q) X.xe s := by
  have hka' : Vis X.env.scope ar.arg := .inl hka
  obtain ⟨nm, q, N, bs, bm, sn, sub, ab, col, dd, k0, k1, k2, k3, k5, hC, hbm⟩ := T.cls
  have XK := I.kIn
  obtain ⟨t1, hoe⟩ := exo_at I.hok ea
  obtain ⟨hh, g, d, t, os⟩ := s
  obtain ⟨m, hn, hl⟩ := I.loc
  obtain ⟨u0, ru, lk⟩ := hl 0 ar.arg (.ref a) hN hσ hka'
  obtain rfl : u0 = Value.ref a := ru
  have hmv : m ar.arg = some (.ref a) := by
    rcases lk with ⟨_, z⟩ | ⟨z, _⟩
    · exact z
    · rcases z with z | z <;> (rw [hka] at z; cases z)
  have J : PySem.W.InstAt hh a { cls := .ref C, dict := none, data := .fields #[.ref t1, .none, .none, .none, .bool false, .none] } C none := ⟨hoe, rfl, rfl, trivial⟩
  obtain ⟨oD, hD1, hD2⟩ : ∃ oD, hh.get? D = some oD ∧ oD.data = .cls cdD := by
    unfold PySem.W.clsIn at hD
    split at hD
    · rename_i c d cd' sl ho
      cases hD
      exact ⟨_, XK _ _ ho, rfl⟩
    · cases hD
  obtain ⟨mb, hb1, hb2⟩ := I.mod.blt
  have hboot : bootBuiltins ("super" : Str) = some (.type "super") := PyProof.Rows.Boot.super
  refine PySem.ks_wpAt_MethodCall (pl := pl) ?_ hev
  refine PySem.ks_wpAt_super_base hks hkc rfl hfu (XK _ _ hf) rfl hp hco (XK _ _ hcode) rfl hvs hfile htop ?_
  refine PySem.W.ks_loadName_global I.ok.kind hks (Calls.loadGlobal_builtin (by rw [I.ok.glob]; exact I.mod.glob.keeps I.bk) hsuper (by rw [I.ok.blt]; exact hb1.keeps I.bk) ((hb2 ("super" : Str) (by decide)).trans hboot) ⟨rfl, ?_⟩)
  refine wpAny_loadName_free I.ok.kind hkc hce ⟨_, XK _ _ hcell, rfl⟩ ?_
  refine wpAny_loadName_local I.ok.kind hka hn hmv ?_
  refine PySem.ks_wpAny_isType_cls hD1 hD2 ⟨rfl, ?_⟩
  refine PySem.ks_wpAny_call_super hD1 hD2 J.at_ J.cls (fun c e => by cases e) (PySem.W.looks_mroIn XK hsub) (fun h' e k => ?_)
  have I1 : Inv X pins σ H ⟨h', g, d, t, os⟩ := I.kept (t' := t) k
  have J1 : PySem.W.InstAt h' a { cls := .ref C, dict := none, data := .fields #[.ref t1, .none, .none, .none, .bool false, .none] } C none := ⟨k _ _ hoe, rfl, rfl, trivial⟩
  have XK1 := I1.kIn
  have hcl : PySem.W.clsIn X.K C = some { name := nm, bases := bs, mro := .ref C :: bm, ns := N, qualname := q, hasDict := true, slotNames := sn, subclasses := sub, abstract := ab, collection := col, hasDel := false } := by unfold PySem.W.clsIn; rw [hC] <;> rfl
  have hm' := hm
  unfold PySem.W.ks_superIn at hm'
  rw [hcl] at hm'
  have hI : PySem.W.Looks (model X.prog X.w) h' (isInstance (.ref a) (.type "ValueError")) true := J1.type.andThen (PySem.W.looks_subIn XK1 hB)
  refine PySem.W.kxs_getMethod PySem.W.kxs_ValueError e (PySem.W.looks_opaque XK1 ho) (l₀ := .ref C :: bm) ?_ rfl XK1 hm' hI (PySem.W.ks_ne XK1 J1 hcl) rfl ?_
  · exact fun A Q E s k q => wpAny_bind ((PySem.W.looks_clsIn XK1 hcl) A _ E s k (wpAny_pure q))
  have k2 : ∀ b o, h'.get? b = some o → (h'.push (PySem.W.kxs_mw "ValueError.__init__" a)).get? b = some o := fun b o z => Heap.get?_push_of_some _ z
  have I2 : Inv X pins σ H ⟨h'.push (PySem.W.kxs_mw "ValueError.__init__" a), g, d, t + 1, os⟩ := I1.kept (t' := t + 1) k2
  have I3 : Inv X ((h'.objs.size, PySem.W.kxs_mw "ValueError.__init__" a) :: pins) σ H ⟨h'.push (PySem.W.kxs_mw "ValueError.__init__" a), g, d, t + 1, os⟩ := I2.pins_of fun p hp => by
    rcases List.mem_cons.mp hp with rfl | hp
    · refine ⟨Heap.get?_push_at rfl rfl, I1.hok.fresh (Nat.le_refl _), fun z => ?_, I1.nofs (Nat.le_refl _), fun v z => by cases z⟩
      have := I1.lt
      exact absurd (show X.env.locals = h'.objs.size from z.symm) (Nat.ne_of_lt this)
    · exact I2.pin p (List.mem_append_right _ hp)
  rw [he]
  refine PySem.W.kxs_callWith (i := "ValueError.__init__") (x := a) (by show (false || (backTo pos (starEach es X.env)).any (·.1)) = false; rw [hpl]; rfl) ?_
  refine PySem.Calls.evalArgs_plain ?_
  have hr := ha.run pos _ _ σ H _ I3 h
  rw [he] at hr
  refine wpAny_mono hr (fun us s1 hq => ?_) fun _ _ z => z
  obtain ⟨ws, H1, I4, r1, hlen, ea1, q1⟩ := hq
  have hu := (I4.pin (h'.objs.size, PySem.W.kxs_mw "ValueError.__init__" a) (List.mem_append_right _ List.mem_cons_self)).1
  refine ⟨hu, ?_⟩
  have I5 : Inv X pins σ H1 s1 := I4.pins_of fun p hp => I4.pin p (List.mem_append_right _ (List.mem_cons_of_mem _ hp))
  obtain ⟨t2, hoe2⟩ := exo_at I5.hok ea1
  have hus : us.length ≤ sizeLine := by
    rw [← Paired.length r1, sizeLine_eq]
    omega
  obtain ⟨hp, g2, d2, tk2, os2⟩ := s1
  refine call_mw F.excBase_ValueError (I5.kIn _ _ hC) hoe2 hu hus fun h3 t3 k3 hx => ?_
  have J3 := I5.write (t' := tk2) (x := a) (e := a) (o := exo a C none) (by rw [ea1]; exact True.intro) (.inl rfl) k3 ⟨_, hx⟩ (exo_ok hx)
  have eu : upd H1 a (exo a C none) = H1 := by
    funext b
    by_cases hb : b = a
    · rw [hb, upd_same, ea1]
    · rw [upd_ne hb]
  rw [eu] at J3
  exact ⟨.non, H1, J3, rfl, q1⟩
end
end OD

/-! OE2: such an __init__ keeps its promise. -/
namespace OD
open PySem PySem.Spec L2
open PyProof.Rows hiding St

def cxS (CX : CXT) (P : Program) (w : World) (K : PySem.W.Frag) (mg : Str → Option Value) (base : Heap) (N : List Str) (qual : Str) (scope : Scope) (f cda cc : Addr) (A : Around) (outer : List Env) (s : Shared) (H : Hp) (E : XK) : Cx where
  prog := P
  w := w
  K := K
  mg := mg
  base := base
  A := A.deeper (PySem.W.ksEnv qual scope s.heap.objs.size f (.ref cda) cc)
  N := N
  s_0 := s
  H_0 := H
  env := PySem.W.ksEnv qual scope s.heap.objs.size f (.ref cda) cc
  outer := outer
  stack := PySem.W.ksEnv qual scope s.heap.objs.size f (.ref cda) cc :: outer
  ex := []
  calm := true
  fn := fun _ => false
  pn := []
  xe := fun e s' => wpAny (model P w) (A.deeper (PySem.W.ksEnv qual scope s.heap.objs.size f (.ref cda) cc)) (leaving (PySem.W.ksEnv qual scope s.heap.objs.size f (.ref cda) cc) e) (fun _ s'' => CX outer H s E e s'') (fun e' s'' => CX outer H s E e' s'') s'

structure SupScope (N ps : List Str) (sc : Scope) : Prop where
  kind : sc.kind = .function
  co : sc.isCoroutine = false
  gen : sc.isGenerator = false
  nd : N.Nodup
  pre : N.take ps.length = ps
  par : ∀ x ∈ ps, sc.names.lookup x = some .local
  free : ∀ x, sc.names.lookup x = some .free → x = ("__class__" : Str)
  nocell : ∀ x ∈ sc.names, x.2 ≠ .cell
  sup : sc.names.lookup ("super" : Str) = some .globalImplicit
  cls : sc.names.lookup ("__class__" : Str) = some .free

theorem lookup_nd {x : Str} {v : Value} : ∀ {l : List (Str × Value)}, (l.map (·.1)).Nodup → (x, v) ∈ l → l.lookup x = some v
  | [], _, h => by cases h
  | (y, u) :: l, nd, h => by
    rcases List.mem_cons.mp h with h | h
    · cases h; simp [List.lookup]
    · have hy : x ≠ y := fun q => (List.nodup_cons.mp nd).1 (List.mem_map.mpr ⟨(x, v), h, q⟩)
      have e : (x == y) = false := by simpa using hy
      simp only [List.lookup, e]
      exact lookup_nd (List.nodup_cons.mp nd).2 h

theorem zip_fst_nodup {ps : List Str} (nd : ps.Nodup) (us : List Value) : ((ps.zip us).map (·.1)).Nodup := by
  induction ps generalizing us with
  | nil => simp
  | cons p ps ih =>
    cases us with
    | nil => simp
    | cons u us =>
      simp only [List.zip_cons_cons, List.map_cons]
      refine List.nodup_cons.mpr ⟨fun h => ?_, ih (List.nodup_cons.mp nd).2 us⟩
      obtain ⟨q, hq, e⟩ := List.mem_map.mp h
      have := (List.of_mem_zip (a := q.1) (b := q.2) hq).1
      rw [e] at this
      exact (List.nodup_cons.mp nd).1 this

section
variable {CX : CXT} {P : Program} {w : World} {K : PySem.W.Frag} {mg : Str → Option Value} {base : Heap} {k : Nat} {f cc cda C : Addr} {name qual : Str} {params : Arguments} {scope : Scope} {dV kV doc pm ct oc ccl cl : Value} {an od cdd cld : Option Addr} {osl ccs csl : Array (Option Value)} {N ps : List Str} {sp : Sp} {e : Expr} {es : List Expr} {rest : List Stmt} {p0 p1 apos pos pos' : Pos} {ar : Arg} {vs : Array Value} {file : Str} {tf : Tok} {cdD : ClassData}

theorem inv_startS {A : Around} {outer : List Env} {s : Shared} {H : Hp} {E : XK} {us : List Value} {ws : List V} {h1 : Heap} {tk : Nat}
    (S : SupScope N ps scope) (hd : A.handled = none) (e0 : Env0 P w K mg base A outer s H) (hl : ws.length = ps.length) (r : Vals ws us)
    (hcell : K.lookup cc = some ⟨cl, cld, .cell (some (.ref C)), csl⟩)
    (hns : h1.Ns s.heap.objs.size (fun x => (ps.zip us).reverse.lookup x)) (hk : ∀ b o, s.heap.get? b = some o → h1.get? b = some o) :
    Inv (cxS CX P w K mg base N qual scope f cda cc A outer s H E) [] (L2.start N ws) H { s with heap := h1, toks := tk } := by
  have hpl : ps.length ≤ N.length := by have := congrArg List.length S.pre; rw [List.length_take] at this; omega
  have noA : ∀ b : Addr, b ∉ (cxS CX P w K mg base N qual scope f cda cc A outer s H E).ex := fun b z => absurd (show b ∈ ([] : List Addr) from z) (by simp)
  have KXb : ∀ b o, K.lookup b = some o → base.get? b = some o := fun b o z => e0.mod.kin _ _ z
  have cin : ∀ {x : Str} {c : Addr}, List.lookup x [(("__class__" : Str), cc)] = some c → c = cc ∧ x = ("__class__" : Str) := fun {x c} z => by
    by_cases hx : x = ("__class__" : Str)
    · subst hx; have z' : some cc = some c := z; cases z'; exact ⟨rfl, rfl⟩
    · have e : (x == ("__class__" : Str)) = false := by simpa using hx
      unfold List.lookup at z
      rw [e] at z
      cases z
  have hcc := KXb _ _ hcell
  have hcH : H cc = none := (e0.bs _ _ hcc).2
  have hcs : s.heap.get? cc = some ⟨cl, cld, .cell (some (.ref C)), csl⟩ := (e0.bs _ _ hcc).1
  refine ⟨⟨e0.mod, S.kind, rfl, rfl, Nat.le_refl _, fun y z c h1 h2 => ?_, fun y hy => ?_, fun y c h _ => ?_, fun _ => hd, Around.frames_deeper e0.frames, .inr ⟨rfl, rfl⟩, fun b z => absurd z (noA b), e0.bs, e0.bsz, fun b _ _ => noA b, fun b z => absurd z (noA b), e0.funs, e0.frf⟩,
    rfl, e0.bare, Un.kept hk, ⟨_, hns, fun i y v h1 h2 h3 => ?_⟩, fun y c h => ?_, e0.hok.fresh (Nat.le_refl _), fun y c h => ?_, fun p hp => absurd (show p ∈ ([] : List (Addr × Obj)) from hp) (by simp), e0.hok.kept hk, ?_⟩
  · exact (cin h1).2.trans (cin h2).2.symm
  · have hy : scope.names.lookup y = some .cell ∨ scope.names.lookup y = some .free := hy
    rcases hy with hy | hy
    · exact absurd rfl (S.nocell _ (PySem.mem_of_lookup hy))
    · rw [S.free y hy]; exact ⟨cc, rfl⟩
  · cases (show (false : Bool) = true from h)
  · have hi : i < ws.length := by
      unfold L2.start at h2
      by_cases hi : i < ws.length
      · exact hi
      · rw [List.getElem?_append_right (by simpa using hi)] at h2
        rw [List.getElem?_replicate] at h2
        split at h2 <;> cases h2
    have ha : ws[i]? = some v := by
      unfold L2.start at h2
      rw [List.getElem?_append_left (by simpa using hi), List.getElem?_map] at h2
      cases e : ws[i]? with
      | none => rw [e] at h2; cases h2
      | some a => rw [e] at h2; cases h2; rfl
    obtain ⟨u, hu, rv⟩ := r.get ha
    have hp : ps[i]? = some y := by
      rw [← S.pre, List.getElem?_take_of_lt (by omega)]; exact h1
    have ndP : ps.Nodup := by rw [← S.pre]; exact S.nd.sublist (List.take_sublist _ _)
    refine ⟨u, rv, .inl ⟨S.par y (List.mem_of_getElem? hp), lookup_nd ?_ ?_⟩⟩
    · rw [List.map_reverse]; exact (List.reverse_perm _).nodup_iff.mpr (zip_fst_nodup ndP us)
    · refine List.mem_reverse.mpr (List.mem_of_getElem? (i := i) ?_)
      rw [List.getElem?_zip_eq_some]; exact ⟨hp, hu⟩
  · obtain ⟨rfl, rfl⟩ := cin h
    exact ⟨_, _, hk _ _ hcs, rfl⟩
  · obtain ⟨rfl, rfl⟩ := cin h
    exact hcH
  · unfold L2.start
    show _ = N.length
    rw [List.length_append, List.length_map, List.length_replicate]
    omega

/-- THE RULE -/
theorem fn_super (T : OexC K C) (S : SupScope N ps scope) (len : ∀ vs H Q E, sp vs H Q E → vs.length = ps.length)
    (lk : K.lookup f = some ⟨oc, od, .func (PySem.W.ksFn name qual params (.Expr (.Call (.Attribute (.Call (.Name "super" p0) [] [] p1) "__init__" apos) (e :: es) [] pos) pos' :: rest) scope dV kV doc pm an (.ref cda) ct cc), osl⟩)
    (hcd : PySem.W.codeIn K (.ref cda) qual = true) (hp : (params.posonlyargs ++ params.args).head? = some ar) (hp0 : ps[0]? = some ar.arg)
    (hcode : K.lookup cda = some ⟨ccl, cdd, .fields vs, ccs⟩) (hvs : vs[2]? = some (.str file tf)) (hfile : ((P.main.file : Str) == file) = true)
    (hcell : K.lookup cc = some ⟨cl, cld, .cell (some (.ref C)), csl⟩) (hsub : PySem.W.mroIn K C (.ref C) = some true) (hsuper : mg "super" = none)
    (htop : (P.main.scope.names.lookup ("super" : Str)).isSome = false)
    (ho : PySem.W.nsIn K PySem.cStatics "thirdparty.any" = some none) (hm : PySem.W.ks_superIn K C C "__init__" = some (some (.builtin "ValueError.__init__"))) (hB : PySem.W.subIn K (.ref C) (.type "ValueError") = some true)
    (hbody : ∀ (A : Around) (outer : List Env) (s : Shared) (H : Hp) (ws : List V) (Q : VK) (E : XK), sp ws H Q E →
      ∃ (a : Addr) (ta : TA) (u : TS) (pl : Sem Bool), ws[0]? = some (.ref a) ∧ H a = some (exo a C none) ∧ PA (cxS CX P w K mg base N qual scope f cda cc A outer s H E) (e :: es) ta ∧ PSs (cxS CX P w K mg base N qual scope f cda cc A outer s H E) rest u ∧
        (ta (L2.start N ws) H fun zs H1 => zs.length ≤ 1000 ∧ H1 a = some (exo a C none) ∧ u { nx := fun _ H' => Q .non H', rt := Q } (L2.start N ws) H1) ∧
        (starEach (e :: es) (cxS CX P w K mg base N qual scope f cda cc A outer s H E).env = (false, eval e (cxS CX P w K mg base N qual scope f cda cc A outer s H E).env) :: starEach es (cxS CX P w K mg base N qual scope f cda cc A outer s H E).env) ∧
        (backTo pos (starEach es (cxS CX P w K mg base N qual scope f cda cc A outer s H E).env)).any (·.1) = false ∧
        (eval (.Call (.Attribute (.Call (.Name "super" p0) [] [] p1) "__init__" apos) (e :: es) [] pos) (cxS CX P w K mg base N qual scope f cda cc A outer s H E).env = (do
          let ov ← attributeBase (.Call (.Name "super" p0) [] [] p1) "__init__" (cxS CX P w K mg base N qual scope f cda cc A outer s H E).env (eval (.Call (.Name "super" p0) [] [] p1) (cxS CX P w K mg base N qual scope f cda cc A outer s H E).env)
          standAt apos.atName
          let (f1, first) ← holding [ov] (getMethod ov "__init__" pl)
          callWith pos f1 first (backTo pos (starEach (e :: es) (cxS CX P w K mg base N qual scope f cda cc A outer s H E).env)) [])) ∧
        interactive (cxS CX P w K mg base N qual scope f cda cc A outer s H E).env = false ∧
        swapsWith (.Call (.Attribute (.Call (.Name "super" p0) [] [] p1) "__init__" apos) (e :: es) [] pos) none pos'.line (cxS CX P w K mg base N qual scope f cda cc A outer s H E).env = pure false) :
    FnOk P w K mg base CX (k + 1) f (PySem.W.ksFn name qual params (.Expr (.Call (.Attribute (.Call (.Name "super" p0) [] [] p1) "__init__" apos) (e :: es) [] pos) pos' :: rest) scope dV kV doc pm an (.ref cda) ct cc) ps sp := by
  refine ⟨len, fun A outer s H args us ws Q E hr e0 hb r hsp => ?_⟩
  have hl := len _ _ _ _ hsp
  have KX : K.In s.heap := e0.mod.kin.keeps fun b o e => (e0.bs b o e).1
  have lim : s.heap.NoLimit := e0.mod.nolimit.keeps fun b o e => (e0.bs b o e).1
  obtain ⟨a, ta, u, pl, h0, ea, ha, hu, hq, he, hpl, hev, hi, hsw⟩ := hbody A outer s H ws Q E hsp
  refine PySem.ks_codeAny_call_defAt hr.depth (KX _ _ lk) rfl lim (PySem.W.codeRec_of KX hcd) rfl hb S.nocell (fun x hx => S.par x.1 (List.of_mem_zip (a := x.1) (b := x.2) hx).1) (fun h1 hns hk => ?_) S.co S.gen S.kind
  have I : Inv (cxS CX P w K mg base N qual scope f cda cc A outer s H E) [] (L2.start N ws) H { s with heap := h1, toks := s.toks + (ps.zip us).length } := inv_startS S hr.hd e0 hl r hcell hns hk
  have hcl : ∃ cdD, PySem.W.clsIn K C = some cdD := by
    obtain ⟨nm, q, N, bs, bm, sn, sub, ab, col, dd, k0, k1, k2, k3, k5, hC, hbm⟩ := T.cls
    exact ⟨_, by unfold PySem.W.clsIn; rw [hC] <;> rfl⟩
  obtain ⟨cdD, hcl⟩ := hcl
  have fin : ∀ {σ' : L2.St} {H' : Hp} {v : V} {u : Value} {s' : Shared}, Inv (cxS CX P w K mg base N qual scope f cda cc A outer s H E) [] σ' H' s' → L2.RelV v u → Q v H' → CE outer P w H s Q u s' :=
    fun {σ' H' v u s'} J rv q => ⟨v, H', J.os, J.bare, J.base, J.hok, rv, q⟩
  have hσ0 : (L2.start N ws)[0]? = some (some (.ref a)) := by
    unfold L2.start
    have hlen : 0 < (ws.map some).length := by
      have := (List.getElem?_eq_some_iff.mp h0).1; simpa using this
    rw [List.getElem?_append_left hlen, List.getElem?_map, h0]; rfl
  have hN0 : N[0]? = some ar.arg := by
    have h1 : (N.take ps.length)[0]? = some ar.arg := by rw [S.pre]; exact hp0
    have h2 := (List.getElem?_eq_some_iff.mp hp0).1
    rwa [List.getElem?_take_of_lt h2] at h1
  show PySem.wpAt (model P w) (A.deeper (PySem.W.ksEnv qual scope s.heap.objs.size f (.ref cda) cc)) _ (execs _ (PySem.W.ksEnv qual scope s.heap.objs.size f (.ref cda) cc)) _ _ _
  refine PySem.ks_wpAt_execs_cons (PySem.ks_wpAt_Expr_any ?_ hi hsw)
  refine PySem.ks_wpAt_mono (wp_super (X := cxS CX P w K mg base N qual scope f cda cc A outer s H E) (pins := []) (pl := pl) I T S.sup S.cls rfl rfl rfl lk hp hcode hvs hfile hcell hcl hsub hsuper (S.par _ (List.mem_of_getElem? hp0)) hN0 hσ0 htop ho hm hB ea ha
    (Q := fun _ H1 => u { nx := fun _ H' => Q .non H', rt := Q } (L2.start N ws) H1) hq he hpl hev) (fun v s1 hs => ?_) fun _ _ z => z
  obtain ⟨_, H1, I1, _, q1⟩ := hs
  refine wpAt_of_wpAny ?_
  refine wpAny_mono (hu.run [] s1 (L2.start N ws) H1 _ I1 q1) (fun fl s' hs => ?_) fun e s' hs => hs
  cases fl with
  | ret u =>
    obtain ⟨v, σ', H', J, rv, q⟩ := hs
    exact fin J rv q
  | next =>
    obtain ⟨σ', H', J, q⟩ := hs
    exact fin (v := V.non) (u := Value.none) J rfl q
  | brk =>
    obtain ⟨_, _, _, q⟩ := hs
    exact False.elim q
  | cont =>
    obtain ⟨_, _, _, q⟩ := hs
    exact False.elim q
end
end OD

/-! OE3: own exceptions as values: made, asked for their class, their fields read. -/
namespace OD
open PySem PySem.Spec L2
open PyProof.Rows hiding St

/-! ### what the written part says of such a class -/
structure ExF (K : PySem.W.Frag) (C : Addr) : Prop where
  T : OexC K C
  xf : XfC K C
  is : ExcC K C
  sV : PySem.W.subIn K (.ref C) (.type "ValueError") = some true
  mro : PySem.W.mroIn K C (.ref C) = some true
  keep : PySem.W.keepIn K (.ref C) = true
def oexB (K : PySem.W.Frag) (C : Addr) : Bool := match K.lookup C with
  | some ⟨.type "type", _, .cls cd, sl⟩ => (match cd.mro, sl.toList with
    | .ref C' :: bm, [_, _, _, _, some (.builtin n), _] => C' == C && (n == "ValueError.__new__" && (!cd.hasDel && (cd.hasDict && HandSPX.refsVE bm)))
    | _, _ => false)
  | _ => false
def exfB (K : PySem.W.Frag) (C : Addr) : Bool := oexB K C && (decide (PySem.W.findIn K (.ref C) "__setattr__" = some (some (.builtin "object.__setattr__"))) && (decide (PySem.W.subIn K (.ref C) (.type "BaseException") = some true) && (decide (PySem.W.typeIn K (.ref C) = some (.type "type")) && (PySem.W.keepIn K (.ref C) && (xfB K C &&
  (decide (PySem.W.findIn K (.ref C) "__class__" = some (some (.builtin "object.__class__"))) && (decide (PySem.W.specialIn K (.builtin "object.__class__") "__get__" = some (some (.builtin "getset_descriptor.__get__"))) && (decide (PySem.W.takesIn K (.builtin "object.__class__") = some true) && (decide (PySem.W.mroIn K C (.type "object") = some true) &&
  (decide (PySem.W.subIn K (.ref C) (.type "ValueError") = some true) && decide (PySem.W.mroIn K C (.ref C) = some true)))))))))))
theorem oexB_ok {K : PySem.W.Frag} {C : Addr} (q : oexB K C = true) : ∃ nm q N bs bm sn sub ab col dd k0 k1 k2 k3 k5, K.lookup C = some (excClassObj nm q C N bs bm true sn sub ab col dd k0 k1 k2 k3 k5 "ValueError.__new__") ∧ PySem.HandSPX.refsVE bm = true := by
  unfold oexB at q
  split at q
  · rename_i dd cd sl ho
    split at q
    · rename_i C' bm k0 k1 k2 k3 n k5 hm hs
      simp only [Bool.and_eq_true, beq_iff_eq, Bool.not_eq_true'] at q
      obtain ⟨rfl, rfl, hdel, hdict, ht⟩ := q
      obtain ⟨nm, bs, mro, ns, qn, hd, sn, sub, ab, col, del⟩ := cd
      dsimp only at hm hdel hdict
      subst hm hdel hdict
      have hsl : sl = #[k0, k1, k2, k3, some (.builtin "ValueError.__new__"), k5] := by
        obtain ⟨l⟩ := sl
        simp only at hs
        rw [hs]
      subst hsl
      exact ⟨nm, qn, ns, bs, bm, sn, sub, ab, col, dd, k0, k1, k2, k3, k5, ho, ht⟩
    · cases q
  · cases q
theorem exfB_ok {K : PySem.W.Frag} {C : Addr} (h : exfB K C = true) : ExF K C := by
  unfold exfB at h
  simp only [Bool.and_eq_true, decide_eq_true_eq] at h
  obtain ⟨h1, h2, h3, h4, h5, h6, h7, h8, h9, h10, h11, h12⟩ := h
  have x := xfB_ok h6
  exact ⟨⟨oexB_ok h1, h2, h3, h4, h5⟩, x, ⟨x.ga, x.gg, x.exC, x.hdC, h7, h8, h9, h10⟩, h11, h12, h5⟩

/-! ### an exception that stands as a value -/
/-- at a: an exception of the class at C with the fields gs (no dict: no fields) -/
def ExAt (H : Hp) (a C : Addr) (gs : List (Str × V)) : Prop := (gs = [] ∧ H a = some (exo a C none)) ∨ ∃ dx, H a = some (exo a C (some dx)) ∧ H dx = some (exd dx gs)
theorem ExAt.mono {H H' : Hp} {a C : Addr} {gs : List (Str × V)} (s : Same H H') (h : ExAt H a C gs) : ExAt H' a C gs := by
  rcases h with ⟨h1, h2⟩ | ⟨dx, h1, h2⟩
  · exact .inl ⟨h1, s _ _ h2⟩
  · exact .inr ⟨dx, s _ _ h1, s _ _ h2⟩
/-- C's __init__, two fields | one field behind super().__init__ -/
def sp2 (C : Addr) (f1 f2 : Str) : Sp := fun vs H Q E => ∃ (a : Addr) (v1 v2 : V), vs = [.ref a, v1, v2] ∧ H a = some (exo a C none) ∧
  ∀ dx, H dx = none → dx ≠ a → Q .non (upd (upd (upd H dx (exd dx [(f1, v1)])) a (exo a C (some dx))) dx (exd dx [(f2, v2), (f1, v1)]))
def sp1 (C : Addr) (f1 : Str) : Sp := fun vs H Q E => ∃ (a : Addr) (v1 : V), vs = [.ref a, v1] ∧ H a = some (exo a C none) ∧
  ∀ dx, H dx = none → dx ≠ a → Q .non (upd (upd H dx (exd dx [(f1, v1)])) a (exo a C (some dx)))

/-- C(e, ..) as a value -/
def tMkV (C : Addr) (sp : Sp) (dvs : List V) (ta : TA) : TE := fun σ H Q => ta σ H fun vs H1 => vs.length ≤ 1000 ∧ ∀ a, H1 a = none → sp (.ref a :: (vs ++ dvs)) (upd H1 a (exo a C none))
  (fun v H2 => v = .non ∧ Q (.ref a) H2) (fun _ _ _ => False)
theorem pe_mkx {X : Cx} {e : Expr} {es : List Expr} {ta : TA} {p pos : Pos} {CX : CXT} {x : Str} {C fI : Addr} {k : Nat} {fd : FuncData} {ps : List Str} {sp : Sp} {ds : List Value} {dvs : List V} (T : OexC X.K C) (iC : PySem.W.findIn X.K (.ref C) "__init__" = some (some (.ref fI))) (tI : PySem.W.typeIn X.K (.ref fI) = some (.type "function"))
    (F1 : FnOk X.prog X.w X.K X.mg X.base CX k fI fd ps sp) (hr : Room (k + 1) X.A) (hb : Binds X.K fd ps ds) (hd : Vals dvs ds) (hx : Passes CX X (fun _ _ _ => False)) (hg : Gl X x) (hm : X.mg x = some (.ref C)) (ha : PA X (e :: es) ta)
    (hdb : (x == ("__debug__" : Str)) = false := by decide) (he : starEach (e :: es) X.env = (false, eval e X.env) :: starEach es X.env := by rfl) (hpl : (backTo pos (starEach es X.env)).any (·.1) = false := by rfl) :
    PE X (.Call (.Name x p) (e :: es) [] pos) (tMkV C sp dvs ta) := by
  refine ⟨fun pins s σ H Q I h => ?_⟩
  obtain ⟨nm, q, N, bs, bm, sn, sub, ab, col, dd, k0, k1, k2, k3, k5, hC, hbm⟩ := T.cls
  refine wpAny_Call_Name_kw (ld_glob I hg hm ?_ hdb)
  refine PySem.W.callWith_K (h₀ := X.base) I.ok.mod.kin T.kC (thn (ha.run pos pins s σ H _ I h) fun us s1 ⟨vs, H1, I1, r1, hz, q1⟩ => ⟨I1.kIn, ?_⟩) he hpl
  show wpAny _ _ (call (.ref C) us) _ _ _
  obtain ⟨hp, g, dr, tk, os⟩ := s1
  have hsz : hp.objs.size ≤ hp.objs.size + 1 := Nat.le_succ _
  have hn : H1 (hp.objs.size + 1) = none := I1.hok.fresh hsz
  have hq := q1 (hp.objs.size + 1) hn
  have kk : ∀ b o, hp.get? b = some o → ((hp.push (PySem.W.kdv_tup us)).push (PySem.HandSPX.excO C hp.objs.size)).get? b = some o := fun b o e => Heap.get?_push_of_some _ (Heap.get?_push_of_some _ e)
  have hget : ((hp.push (PySem.W.kdv_tup us)).push (PySem.HandSPX.excO C hp.objs.size)).get? (hp.objs.size + 1) = some (PySem.HandSPX.excO C hp.objs.size) := by heap_get
  have I2 : Inv X pins σ (upd H1 (hp.objs.size + 1) (exo (hp.objs.size + 1) C none)) ⟨(hp.push (PySem.W.kdv_tup us)).push (PySem.HandSPX.excO C hp.objs.size), g, dr, tk, os⟩ :=
    I1.laid (t' := tk) (a := hp.objs.size + 1) (o := exo (hp.objs.size + 1) C none) (h' := (hp.push (PySem.W.kdv_tup us)).push (PySem.HandSPX.excO C hp.objs.size)) kk hsz (exo_ok hget)
  have r2 : Vals (V.ref (hp.objs.size + 1) :: (vs ++ dvs)) (Value.ref (hp.objs.size + 1) :: (us ++ ds)) := .cons rfl (r1.append hd)
  have hl : (Value.ref (hp.objs.size + 1) :: us ++ ds).length = ps.length := by
    have e := r2.length
    rw [F1.len _ _ _ _ hq] at e
    exact e.symm
  have hus : us.length ≤ sizeLine := by
    rw [← Paired.length r1, sizeLine_eq]
    omega
  refine wpAny_call (PySem.HandSPX.call_own F.excBase_ValueError (fun Y => PySem.HandSPX.refsVE_contains Y bm hbm) (I1.kIn _ _ hC) (PySem.W.looks_findIn I1.kIn iC) (fun self => PySem.W.bind_fn I1.kIn self tI) hus
    (codeAny_mono (F1.run _ X.stack _ _ ⟨Value.ref (hp.objs.size + 1) :: us, []⟩ (Value.ref (hp.objs.size + 1) :: (us ++ ds)) _ _ (fun _ _ _ => False) (hr.make C us []) (I2.env0.make C us []) (hb _ (Value.ref (hp.objs.size + 1) :: us) I2.kIn hl) r2 hq) fun r s' hq' => ?_))
  cases r with
  | error er => exact hx pins σ _ _ er s' I2 hq'
  | ok fl =>
    cases fl with
    | ret u =>
      obtain ⟨v, H3, I3, rv, ev, q2⟩ := I2.after hq'
      subst ev
      exact ⟨rv, .ref (hp.objs.size + 1), H3, I3, rfl, q2⟩
    | next => exact False.elim hq'
    | brk => exact False.elim hq'
    | cont => exact False.elim hq'

/-! ### e.f -/
def tXv (K : PySem.W.Frag) (f : Str) (te : TE) : TE := fun σ H Q => te σ H fun x H1 => ∃ (a C dx : Addr) (gs : List (Str × V)) (v : V), x = .ref a ∧ H1 a = some (exo a C (some dx)) ∧ H1 dx = some (exd dx gs) ∧ XfC K C ∧ PySem.W.findIn K (.ref C) f = some none ∧ gs.lookup f = some v ∧ Q v H1
theorem pe_xv {X : Cx} {e : Expr} {te : TE} {pos : Pos} {n : Str} (he : PE X e te) (hb : attributeBase e n X.env (eval e X.env) = eval e X.env := by rfl) : PE X (.Attribute e n pos) (tXv X.K n te) := by
  refine ⟨fun pins s σ H Q I h => ?_⟩
  refine attr_of hb (thn (he.run pins s σ H _ I h) fun u s1 hh => ?_)
  obtain ⟨x, H1, I1, rx, a, C, dx, gs, v, ex, ea, ed, T, hno, l, q⟩ := hh
  subst ex
  obtain rfl : u = Value.ref a := rx
  obtain ⟨t1, ho⟩ := exo_at I1.hok ea
  obtain ⟨mA, hns, hr⟩ := exd_at I1.hok ed
  obtain ⟨od, ho2, hl⟩ := lookIn_ns hns
  obtain ⟨u, hu, ru⟩ := RelO.some_of (v := v) (o := mA n) (by rw [← l]; exact hr n)
  have J : PySem.W.InstAt s1.heap a { cls := .ref C, dict := some dx, data := .fields #[.ref t1, .none, .none, .none, .bool false, .none] } C (some od) := ⟨ho, rfl, rfl, ho2⟩
  exact HandSPX.exc_get I1.kIn J T.ga T.gg T.exC (PySem.W.findObj_own T.hdC hno rfl (by rw [hl, hu])) (handed_of ru) ⟨v, H1, I1.tok _, ru, q⟩
end OD

/-! OE4: isinstance of such a value. -/
namespace OD
open PySem PySem.Spec L2
open PyProof.Rows hiding St
/-- isinstance's questions of an exception that stands as a value -/
theorem ExF.kit {K : PySem.W.Frag} {x D : Addr} {ox : Obj} {od : Option Obj} (T : ExF K D) : PySem.W.KitX K (.ref x) (.ref D) (fun h => PySem.W.InstAt h x ox D od) := by
  have hcl : ∃ cd, PySem.W.clsIn K D = some cd := by
    obtain ⟨nm, q, N, bs, bm, sn, sub, ab, col, dd, k0, k1, k2, k3, k5, hC, _⟩ := T.T.cls
    exact ⟨_, by unfold PySem.W.clsIn; rw [hC] <;> rfl⟩
  have hk : PySem.W.kitCls K (.ref D) (.ref D) = some true := by
    have hb : ((PySem.W.clsIn K D).isSome && PySem.W.typeIn K (.ref D) == some (.type "type")) = true := by
      rw [T.T.tyC]
      obtain ⟨cd, e⟩ := hcl
      rw [e]; rfl
    show (if _ = true then PySem.W.subIn K (.ref D) (.ref D) else none) = some true
    rw [if_pos hb]; exact T.mro
  have hc : (PySem.W.clsIn K D).isSome = true := by
    obtain ⟨cd, e⟩ := hcl
    rw [e]; rfl
  refine ⟨fun _ _ _ I => I.type, fun M h X _ => (PySem.W.kit_cls X hk).2.1, fun h tp dd its n sl X htp => ?_, fun X I k => PySem.W.kx_classE X I T.xf.ga T.xf.gg T.xf.exC (PySem.W.findObj_dataE hc T.is.ha T.is.hn T.is.ht) T.is.hm k⟩
  cases hq : (Value.ref D == Value.ref tp) with
  | false => rfl
  | true =>
    have hD : D = tp := by
      have := eq_of_beq hq
      cases this; rfl
    obtain ⟨nm, q, N, bs, bm, sn, sub, ab, col, dd', k0, k1, k2, k3, k5, hC, _⟩ := T.T.cls
    have e2 := X _ _ hC
    rw [hD, htp] at e2
    have e4 := congrArg Obj.data (Option.some.inj e2)
    cases e4
/-- isinstance(e, c), e such a value -/
def rIsX (K : PySem.W.Frag) : List V → Hp → VK → Prop := fun xs H Q => ∃ (a C : Addr) (gs : List (Str × V)) (c : V) (u : Value) (b : Bool), xs = [.ref a, c] ∧ ClsV c u ∧ ExAt H a C gs ∧ ExF K C ∧ PySem.W.kitOne K (.ref C) u = some b ∧ Q (.bl b) H
theorem call_isX {X : Cx} : CallR X (.builtin "isinstance") (rIsX X.K) := by
  intro pins s σ H xs us Q I r h
  obtain ⟨a, C, gs, c, u, b, rfl, k, ex, T, e, q⟩ := h
  obtain ⟨u1, u2, rfl, r1, r2⟩ := vals2 r
  have e2 := k.eq r2
  subst e2
  obtain rfl : u1 = Value.ref a := r1
  have fin : ∀ {ox : Obj} {od : Option Obj}, PySem.W.InstAt s.heap a ox C od → wpAny (model X.prog X.w) X.A (call (.builtin "isinstance") [.ref a, u2]) (EP X pins σ Q) X.xe s := fun J =>
    PySem.W.kia_one T.kit I.kIn J e (fun z => nomatch z) fun tk => ⟨.bl b, H, I.kept (t' := tk) fun _ _ z => z, rfl, q⟩
  rcases ex with ⟨_, ea⟩ | ⟨dx, ea, ed⟩
  · obtain ⟨t1, ho⟩ := exo_at I.hok ea
    exact fin (od := none) ⟨ho, rfl, rfl, trivial⟩
  · obtain ⟨t1, ho⟩ := exo_at I.hok ea
    obtain ⟨mA, hns, hr⟩ := exd_at I.hok ed
    obtain ⟨od, ho2, hl⟩ := lookIn_ns hns
    exact fin (od := some od) ⟨ho, rfl, rfl, ho2⟩
end OD

/-! OE5: C() without an own __init__; the promises of the two kinds of __init__. -/
namespace OD
open PySem PySem.Spec L2
open PyProof.Rows hiding St

theorem pe_mk0 {X : Cx} {C : Addr} {bmB : List Value} {B newId initId : String} {x : Str} {p pos : Pos} (F : ExcBaseFacts B newId initId bmB) (q : PySem.W.excIn X.K C bmB newId = true) (kC : PySem.W.keepIn X.K (.ref C) = true) (hg : Gl X x) (gC : X.mg x = some (.ref C))
    (hdb : (x == ("__debug__" : Str)) = false := by decide) :
    PE X (.Call (.Name x p) [] [] pos) (fun σ H Q => ∀ a, H a = none → Q (.ref a) (upd H a (exo a C none))) := by
  refine ⟨fun pins s σ H Q I h => ?_⟩
  refine wpAny_Call_Name_kw (ld_glob I hg gC ?_ hdb)
  refine PySem.W.callWith_K0 I.kIn kC ?_
  show wpAny _ _ (call (.ref C) []) _ _ _
  obtain ⟨bm, N, nm, qn, bs, hdct, sn, sub, ab, col, dd, k0, k1, k2, k3, k5, mN, hC, hN, hni, T⟩ := exc_obj I.kIn q
  refine wpAny_call_exc_subT F T hC hN hni (fun h' a hm => ?_) (by show 0 ≤ sizeLine; omega)
  have hn : H a = none := I.hok.gone hm.new
  obtain ⟨t, ht, _, _⟩ := hm.there
  exact ⟨.ref a, upd H a (exo a C none), I.laidN hm.keeps hm.new hn (exo_ok ht), rfl, h a hn⟩

/-! ### the text of such an __init__ -/
def superLine (e : Expr) (p0 p1 apos pos pos' : Pos) : Stmt := .Expr (.Call (.Attribute (.Call (.Name "super" p0) [] [] p1) "__init__" apos) [e] [] pos) pos'
def setLine (s f v : Str) (p0 p1 p2 p3 : Pos) : Stmt := .Assign [.Attribute (.Name s p0) f p1] (.Name v p2) p3
/-- where such an __init__ stands, its text -/
structure SupD where
  cls : Str
  qual : Str
  params : Arguments
  body : List Stmt
  scope : Scope
def supAt (K : PySem.W.Frag) (x : Str) : Addr := match PySem.W.findIn K (.ref (He.ga K x)) "__init__" with
  | some (some (.ref f)) => f
  | _ => 0
abbrev SupW : Type := Option (Str × Str × Arguments × FuncBody × Scope × Addr × List Str × Addr)
def supW (K : PySem.W.Frag) (x : Str) : SupW := match K.lookup (supAt K x) with
  | some ⟨_, _, .func fd, _⟩ => some (fd.name, fd.qualname, fd.params, fd.body, fd.scope, fd.globals, fd.closure.map (·.1), fd.builtins)
  | _ => none
def SupD.val (d : SupD) : SupW := some ("__init__", d.qual, d.params, .stmts d.body, d.scope, mainGlobals, ["__class__"], builtinsNs)
def supB (file : Str) (K : PySem.W.Frag) (d : SupD) : Bool := exfB K (He.ga K d.cls) && (decide (PySem.W.findIn K (.ref (He.ga K d.cls)) "__init__" = some (some (.ref (supAt K d.cls)))) && (decide (PySem.W.typeIn K (.ref (supAt K d.cls)) = some (.type "function")) &&
  (decide (PySem.W.ks_superIn K (He.ga K d.cls) (He.ga K d.cls) "__init__" = some (some (.builtin "ValueError.__init__"))) && (decide (PySem.W.nsIn K PySem.cStatics "thirdparty.any" = some none) &&
  (match K.lookup (supAt K d.cls) with
  | some ⟨_, _, .func fd, _⟩ => (match fd.defaults with | .none => true | _ => false) && (PySem.W.codeIn K fd.code d.qual && ((match fd.closure with
    | [(_, cc)] => (match K.lookup cc with
      | some ⟨_, _, .cell (some (.ref D)), _⟩ => decide (D = He.ga K d.cls)
      | _ => false)
    | _ => false) && (match fd.code with
      | .ref cda => (match K.lookup cda with
        | some ⟨_, _, .fields vs, _⟩ => (match vs[2]? with
          | some (Value.str fl _) => (file : Str) == fl
          | _ => false)
        | _ => false)
      | _ => false)))
  | _ => false)))))
structure SupF (file : Str) (K : PySem.W.Frag) (d : SupD) : Prop where
  ex : ExF K (He.ga K d.cls)
  init : PySem.W.findIn K (.ref (He.ga K d.cls)) "__init__" = some (some (.ref (supAt K d.cls)))
  ty : PySem.W.typeIn K (.ref (supAt K d.cls)) = some (.type "function")
  sup : PySem.W.ks_superIn K (He.ga K d.cls) (He.ga K d.cls) "__init__" = some (some (.builtin "ValueError.__init__"))
  st : PySem.W.nsIn K PySem.cStatics "thirdparty.any" = some none
  fn : ∃ (oc : Value) (od : Option Addr) (kV doc pm : Value) (an : Option Addr) (cda cc : Addr) (ct : Value) (osl : Array (Option Value)) (ccl : Value) (cdd : Option Addr) (vs : Array Value) (ccs : Array (Option Value)) (fl : Str) (tf : Tok) (cl : Value) (cld : Option Addr) (csl : Array (Option Value)),
    K.lookup (supAt K d.cls) = some ⟨oc, od, .func (PySem.W.ksFn "__init__" d.qual d.params d.body d.scope .none kV doc pm an (.ref cda) ct cc), osl⟩ ∧ PySem.W.codeIn K (.ref cda) d.qual = true ∧ K.lookup cda = some ⟨ccl, cdd, .fields vs, ccs⟩ ∧ vs[2]? = some (.str fl tf) ∧ (file == fl) = true ∧
    K.lookup cc = some ⟨cl, cld, .cell (some (.ref (He.ga K d.cls))), csl⟩
theorem supB_ok {file : Str} {K : PySem.W.Frag} {d : SupD} (e : supW K d.cls = d.val) (h : supB file K d = true) : SupF file K d := by
  unfold supB at h
  simp only [Bool.and_eq_true, decide_eq_true_eq] at h
  obtain ⟨h1, h2, h3, h4, h5, h6⟩ := h
  refine ⟨exfB_ok h1, h2, h3, h4, h5, ?_⟩
  unfold supW SupD.val at e
  split at h6
  · rename_i oc od fd osl ho
    rw [ho] at e
    obtain ⟨n1, n2, n3, n4, n5, n6, n7, n8, n9, n10, n11, n12, n13, n14, n15⟩ := fd
    simp only [Option.some.injEq, Prod.mk.injEq] at e
    obtain ⟨e1, e2, e3, e4, e5, e6, e7, e8⟩ := e
    subst e1 e2 e3 e4 e5 e6 e8
    simp only [Bool.and_eq_true] at h6
    obtain ⟨k0, k1, k2, k3⟩ := h6
    split at k0
    · split at k2
      · rename_i _ nm cc
        simp only [List.map_cons, List.map_nil, List.cons.injEq, and_true] at e7
        subst e7
        split at k2
        · rename_i cl cld D csl hcell
          have hD := of_decide_eq_true k2
          subst hD
          split at k3
          · rename_i cda
            split at k3
            · rename_i ccl cdd vs ccs hcode
              split at k3
              · rename_i fl tf hv
                exact ⟨oc, od, _, _, _, _, cda, cc, _, osl, ccl, cdd, vs, ccs, fl, tf, cl, cld, csl, ho, k1, hcode, hv, k3, hcell⟩
              · cases k3
            · cases k3
          · cases k3
        · cases k2
      · cases k2
    · cases k0
  · cases h6
end OD

/-! OE6: the promises of the two kinds of __init__. -/
namespace OD
open PySem PySem.Spec L2
open PyProof.Rows hiding St
section
variable {P : Program} {w : World} {K : PySem.W.Frag} {mg : Str → Option Value} {base : Heap} {CX : CXT} {k : Nat} {file : Str} {d : SupD} {q0 q1 q2 q3 q4 q5 q6 q7 q8 q9 q10 q11 q12 q13 : Pos}
theorem SupF.ok2 (F : SupF file K d) (hbody : d.body = [superLine (.Name "code" q0) q1 q2 q3 q4 q5, setLine "self" "at" "at" q6 q7 q8 q9, setLine "self" "code" "code" q10 q11 q12 q13])
    (S : SupScope ["self", "at", "code"] ["self", "at", "code"] d.scope) {ar : Arg} (hp : (d.params.posonlyargs ++ d.params.args).head? = some ar) (hp0 : ar.arg = "self") (hfile : P.main.file = file) (hsuper : mg "super" = none)
    (htop : (P.main.scope.names.lookup ("super" : Str)).isSome = false) (n1 : PySem.W.findIn K (.ref (He.ga K d.cls)) "at" = some none) (n2 : PySem.W.findIn K (.ref (He.ga K d.cls)) "code" = some none)
    (hev : ∃ pl : Env → Sem Bool, ∀ env : Env, eval (.Call (.Attribute (.Call (.Name "super" q1) [] [] q2) "__init__" q3) [.Name "code" q0] [] q4) env = (do
          let ov ← attributeBase (.Call (.Name "super" q1) [] [] q2) "__init__" env (eval (.Call (.Name "super" q1) [] [] q2) env)
          standAt q3.atName
          let (f1, first) ← holding [ov] (getMethod ov "__init__" (pl env))
          callWith q4 f1 first (backTo q4 (starEach [.Name "code" q0] env)) []))
    (hb : ∀ (kV doc pm : Value) (an : Option Addr) (cda cc : Addr) (ct : Value), Binds K (PySem.W.ksFn "__init__" d.qual d.params d.body d.scope .none kV doc pm an (.ref cda) ct cc) ["self", "at", "code"] []) :
    ∃ fd, FnOk P w K mg base CX (k + 1) (supAt K d.cls) fd ["self", "at", "code"] (sp2 (He.ga K d.cls) "at" "code") ∧ Binds K fd ["self", "at", "code"] [] := by
  obtain ⟨oc, od, kV, doc, pm, an, cda, cc, ct, osl, ccl, cdd, vs, ccs, fl, tf, cl, cld, csl, lk, hcd, hcode, hvs, hfl, hcell⟩ := F.fn
  obtain ⟨pl, hev⟩ := hev
  refine ⟨_, ?_, hb kV doc pm an cda cc ct⟩
  rw [hbody] at lk ⊢
  refine fn_super (N := ["self", "at", "code"]) F.ex.T S (fun vs H Q E h => ?_) lk hcd hp (by rw [hp0]; rfl) hcode hvs (by rw [hfile]; exact hfl) hcell F.ex.mro hsuper htop F.st F.sup F.ex.sV fun A outer s H ws Q E h => ?_
  · obtain ⟨a, v1, v2, rfl, _⟩ := h; rfl
  · obtain ⟨a, v1, v2, rfl, ea, h⟩ := h
    refine ⟨a, tCons (tVar 2) tNil, tSeq (tOst K "at" (tVar 0) (tVar 1)) (tSeq (tOst K "code" (tVar 0) (tVar 2)) tNext), _, rfl, ea, ?_, ?_, ?_, rfl, rfl, hev _, (by show (d.scope.kind == .module && _) = false; rw [S.kind]; rfl), rfl⟩
    · exact pa_cons (pe_var rfl (.inl (S.par _ (by decide)))) pa_nil
    · exact pss_cons (ps_ost (pe_var rfl (.inl (S.par _ (by decide)))) (pe_var rfl (.inl (S.par _ (by decide))))) (pss_cons (ps_ost (pe_var rfl (.inl (S.par _ (by decide)))) (pe_var rfl (.inl (S.par _ (by decide))))) pss_nil)
    · refine ⟨v2, rfl, (by simp), ea, ?_⟩
      refine ⟨v1, rfl, .ref a, rfl, a, _, rfl, F.ex.T, n1, .inl ⟨ea, fun dx n ne => ?_⟩⟩
      refine ⟨v2, rfl, .ref a, rfl, a, _, rfl, F.ex.T, n2, .inr ⟨dx, [("at", v1)], ?_, ?_, (by simp), h dx n ne⟩⟩
      · rw [upd_same]
      · rw [upd_ne ne, upd_same]
theorem SupF.ok1 {z : Str} {j : Nat} (F : SupF file K d) (hbody : d.body = [superLine (.Constant (.str z) j q0) q1 q2 q3 q4 q5, setLine "self" "reason" "reason" q6 q7 q8 q9])
    (S : SupScope ["self", "reason"] ["self", "reason"] d.scope) {ar : Arg} (hp : (d.params.posonlyargs ++ d.params.args).head? = some ar) (hp0 : ar.arg = "self") (hfile : P.main.file = file) (hsuper : mg "super" = none)
    (htop : (P.main.scope.names.lookup ("super" : Str)).isSome = false) (n1 : PySem.W.findIn K (.ref (He.ga K d.cls)) "reason" = some none)
    (hev : ∃ pl : Env → Sem Bool, ∀ env : Env, eval (.Call (.Attribute (.Call (.Name "super" q1) [] [] q2) "__init__" q3) [.Constant (.str z) j q0] [] q4) env = (do
          let ov ← attributeBase (.Call (.Name "super" q1) [] [] q2) "__init__" env (eval (.Call (.Name "super" q1) [] [] q2) env)
          standAt q3.atName
          let (f1, first) ← holding [ov] (getMethod ov "__init__" (pl env))
          callWith q4 f1 first (backTo q4 (starEach [.Constant (.str z) j q0] env)) []))
    (hb : ∀ (kV doc pm : Value) (an : Option Addr) (cda cc : Addr) (ct : Value), Binds K (PySem.W.ksFn "__init__" d.qual d.params d.body d.scope .none kV doc pm an (.ref cda) ct cc) ["self", "reason"] []) :
    ∃ fd, FnOk P w K mg base CX (k + 1) (supAt K d.cls) fd ["self", "reason"] (sp1 (He.ga K d.cls) "reason") ∧ Binds K fd ["self", "reason"] [] := by
  obtain ⟨oc, od, kV, doc, pm, an, cda, cc, ct, osl, ccl, cdd, vs, ccs, fl, tf, cl, cld, csl, lk, hcd, hcode, hvs, hfl, hcell⟩ := F.fn
  obtain ⟨pl, hev⟩ := hev
  refine ⟨_, ?_, hb kV doc pm an cda cc ct⟩
  rw [hbody] at lk ⊢
  refine fn_super (N := ["self", "reason"]) F.ex.T S (fun vs H Q E h => ?_) lk hcd hp (by rw [hp0]; rfl) hcode hvs (by rw [hfile]; exact hfl) hcell F.ex.mro hsuper htop F.st F.sup F.ex.sV fun A outer s H ws Q E h => ?_
  · obtain ⟨a, v1, rfl, _⟩ := h; rfl
  · obtain ⟨a, v1, rfl, ea, h⟩ := h
    refine ⟨a, tCons (tC (.str z)) tNil, tSeq (tOst K "reason" (tVar 0) (tVar 1)) tNext, _, rfl, ea, ?_, ?_, ?_, rfl, rfl, hev _, (by show (d.scope.kind == .module && _) = false; rw [S.kind]; rfl), rfl⟩
    · exact pa_cons pe_str pa_nil
    · exact pss_cons (ps_ost (pe_var rfl (.inl (S.par _ (by decide)))) (pe_var rfl (.inl (S.par _ (by decide))))) pss_nil
    · refine ⟨(by simp), ea, ?_⟩
      exact ⟨v1, rfl, .ref a, rfl, a, _, rfl, F.ex.T, n1, .inl ⟨ea, fun dx n ne => h dx n ne⟩⟩
end
end OD

/-! OD: values without a heap, a store of mutable cells, and what they stand for. -/
namespace OD
open PySem PySem.Spec L2
open PyProof.Rows hiding St

inductive D where
  | non | bl (b : Bool) | int (i : Int) | str (s : Str)
  | tup (ds : List D) | lst (ds : List D) | scr (ns : List Int)
  | obj (c : Str) (fs : List (Str × D))
  | own (k : Nat)
  | ty (n : String) | cls (c : Str)
  | exc (c : Str) (fs : List (Str × D))

inductive Cell where
  | lst (ds : List D) | ins (c : Str) (fs : List (Str × D)) | gone

abbrev Store := List Cell
abbrev DEnv := List (Option D)

/-- the addresses of classes, the written part -/
structure Ct where
  K : PySem.W.Frag
  ca : Str → Addr

section
variable (C : Ct) (F : Hp) (μ : List Addr)
mutual
def Rep : D → V → Prop
  | .non, v => v = .non
  | .bl b, v => v = .bl b
  | .int i, v => v = .int i
  | .str s, v => v = .str s
  | .tup ds, v => ∃ a vs, v = .ref a ∧ SqT C.K F a vs ∧ Reps ds vs
  | .lst ds, v => ∃ a vs, v = .ref a ∧ F a = some (.lst vs) ∧ Reps ds vs
  | .scr ns, v => ∃ a, v = .ref a ∧ SqL C.K F a (ns.map V.int)
  | .obj c fs, v => ∃ a dx gs, v = .ref a ∧ F a = some (.ins (C.ca c) dx gs) ∧ RepF fs gs
  | .own k, v => ∃ a, v = .ref a ∧ μ[k]? = some a
  | .ty n, v => v = .ty n
  | .cls c, v => v = .ref (C.ca c)
  | .exc c fs, v => ∃ a gs, v = .ref a ∧ ExAt F a (C.ca c) gs ∧ RepF fs gs
def Reps : List D → List V → Prop
  | [], vs => vs = []
  | d :: ds, vs => ∃ v r, vs = v :: r ∧ Rep d v ∧ Reps ds r
def RepF : List (Str × D) → List (Str × V) → Prop
  | [], vs => vs = []
  | p :: ds, vs => ∃ v r, vs = (p.1, v) :: r ∧ Rep p.2 v ∧ RepF ds r
end
end

theorem SqT.same {K : PySem.W.Frag} {H H' : Hp} {a : Addr} {xs : List V} (e : Same H H') (h : SqT K H a xs) : SqT K H' a xs := by
  rcases h with (h | ⟨o, h⟩) | h
  · exact .inl (.inl (e _ _ h))
  · exact .inl (.inr ⟨o, e _ _ h⟩)
  · exact .inr h

section
variable {C : Ct} {F F' F'' : Hp} {μ μ' μ'' : List Addr}
theorem pre_get {α : Type} {l l' : List α} (h : l <+: l') {k : Nat} {a : α} (e : l[k]? = some a) : l'[k]? = some a := by
  obtain ⟨t, rfl⟩ := h
  have hk := (List.getElem?_eq_some_iff.mp e).1
  rw [List.getElem?_append_left hk]; exact e
mutual
theorem Rep.mono (hF : Same F F') (hm : μ <+: μ') : ∀ {d : D} {v : V}, Rep C F μ d v → Rep C F' μ' d v
  | .non, _, h => h
  | .bl _, _, h => h
  | .int _, _, h => h
  | .str _, _, h => h
  | .tup ds, v, h => by
    unfold Rep at h ⊢
    obtain ⟨a, vs, e, q, r⟩ := h
    exact ⟨a, vs, e, SqT.same hF q, Reps.mono hF hm r⟩
  | .lst ds, v, h => by
    unfold Rep at h ⊢
    obtain ⟨a, vs, e, q, r⟩ := h
    exact ⟨a, vs, e, hF _ _ q, Reps.mono hF hm r⟩
  | .scr ns, v, h => by
    unfold Rep at h ⊢
    obtain ⟨a, e, q⟩ := h
    exact ⟨a, e, hF.seq q⟩
  | .obj c fs, v, h => by
    unfold Rep at h ⊢
    obtain ⟨a, dx, gs, e, q, r⟩ := h
    exact ⟨a, dx, gs, e, hF _ _ q, RepF.mono hF hm r⟩
  | .own k, v, h => by
    unfold Rep at h ⊢
    obtain ⟨a, e, q⟩ := h
    exact ⟨a, e, pre_get hm q⟩
  | .ty _, _, h => h
  | .cls _, _, h => h
  | .exc c fs, v, h => by
    unfold Rep at h ⊢
    obtain ⟨a, gs, e, q, r⟩ := h
    exact ⟨a, gs, e, ExAt.mono hF q, RepF.mono hF hm r⟩
theorem Reps.mono (hF : Same F F') (hm : μ <+: μ') : ∀ {ds : List D} {vs : List V}, Reps C F μ ds vs → Reps C F' μ' ds vs
  | [], _, h => h
  | d :: ds, vs, h => by
    unfold Reps at h ⊢
    obtain ⟨v, r, e, h1, h2⟩ := h
    exact ⟨v, r, e, Rep.mono hF hm h1, Reps.mono hF hm h2⟩
theorem RepF.mono (hF : Same F F') (hm : μ <+: μ') : ∀ {ds : List (Str × D)} {vs : List (Str × V)}, RepF C F μ ds vs → RepF C F' μ' ds vs
  | [], _, h => h
  | p :: ds, vs, h => by
    unfold RepF at h ⊢
    obtain ⟨v, r, e, h1, h2⟩ := h
    exact ⟨v, r, e, Rep.mono hF hm h1, RepF.mono hF hm h2⟩
end
theorem Reps.nil : Reps C F μ [] [] := by unfold Reps; rfl
theorem Reps.cons {d : D} {v : V} {ds : List D} {vs : List V} (h : Rep C F μ d v) (r : Reps C F μ ds vs) : Reps C F μ (d :: ds) (v :: vs) := by
  unfold Reps; exact ⟨v, vs, rfl, h, r⟩
theorem Reps.cons_iff {d : D} {ds : List D} {vs : List V} : Reps C F μ (d :: ds) vs ↔ ∃ v r, vs = v :: r ∧ Rep C F μ d v ∧ Reps C F μ ds r := by
  conv => lhs; unfold Reps
theorem Reps.nil_iff {vs : List V} : Reps C F μ [] vs ↔ vs = [] := by conv => lhs; unfold Reps
theorem Reps.length : ∀ {ds : List D} {vs : List V}, Reps C F μ ds vs → ds.length = vs.length
  | [], vs, h => by rw [Reps.nil_iff.mp h]; rfl
  | d :: ds, vs, h => by
    obtain ⟨v, r, rfl, h1, h2⟩ := Reps.cons_iff.mp h
    simp [Reps.length h2]
theorem Reps.get : ∀ {ds : List D} {vs : List V} {i : Nat} {d : D}, Reps C F μ ds vs → ds[i]? = some d → ∃ v, vs[i]? = some v ∧ Rep C F μ d v
  | [], _, _, _, _, e => by simp at e
  | d :: ds, vs, 0, x, h, e => by
    obtain ⟨v, r, rfl, h1, h2⟩ := Reps.cons_iff.mp h
    simp at e; subst e; exact ⟨v, rfl, h1⟩
  | d :: ds, vs, i + 1, x, h, e => by
    obtain ⟨v, r, rfl, h1, h2⟩ := Reps.cons_iff.mp h
    obtain ⟨u, h3, h4⟩ := Reps.get (i := i) h2 (by simpa using e)
    exact ⟨u, by simpa using h3, h4⟩
theorem Reps.getV : ∀ {ds : List D} {vs : List V} {i : Nat} {v : V}, Reps C F μ ds vs → vs[i]? = some v → ∃ d, ds[i]? = some d ∧ Rep C F μ d v
  | [], vs, _, _, h, e => by rw [Reps.nil_iff.mp h] at e; simp at e
  | d :: ds, vs, 0, x, h, e => by
    obtain ⟨v, r, rfl, h1, h2⟩ := Reps.cons_iff.mp h
    simp at e; subst e; exact ⟨d, rfl, h1⟩
  | d :: ds, vs, i + 1, x, h, e => by
    obtain ⟨v, r, rfl, h1, h2⟩ := Reps.cons_iff.mp h
    obtain ⟨u, h3, h4⟩ := Reps.getV (i := i) h2 (by simpa using e)
    exact ⟨u, by simpa using h3, h4⟩
theorem Reps.append : ∀ {ds es : List D} {vs ws : List V}, Reps C F μ ds vs → Reps C F μ es ws → Reps C F μ (ds ++ es) (vs ++ ws)
  | [], _, vs, _, h, k => by rw [Reps.nil_iff.mp h]; exact k
  | d :: ds, es, vs, ws, h, k => by
    obtain ⟨v, r, rfl, h1, h2⟩ := Reps.cons_iff.mp h
    exact Reps.cons h1 (Reps.append h2 k)
theorem Reps.set {d : D} {v : V} (q : Rep C F μ d v) : ∀ {ds : List D} {vs : List V} (i : Nat), Reps C F μ ds vs → Reps C F μ (ds.set i d) (vs.set i v)
  | [], vs, _, h => by rw [Reps.nil_iff.mp h]; exact Reps.nil
  | x :: ds, vs, 0, h => by
    obtain ⟨u, r, rfl, h1, h2⟩ := Reps.cons_iff.mp h
    exact Reps.cons q h2
  | x :: ds, vs, i + 1, h => by
    obtain ⟨u, r, rfl, h1, h2⟩ := Reps.cons_iff.mp h
    exact Reps.cons h1 (Reps.set q i h2)
theorem Reps.take : ∀ {ds : List D} {vs : List V} (n : Nat), Reps C F μ ds vs → Reps C F μ (ds.take n) (vs.take n)
  | [], vs, n, h => by rw [Reps.nil_iff.mp h]; simp [Reps.nil]
  | x :: ds, vs, 0, h => Reps.nil
  | x :: ds, vs, n + 1, h => by
    obtain ⟨u, r, rfl, h1, h2⟩ := Reps.cons_iff.mp h
    exact Reps.cons h1 (Reps.take n h2)
theorem Reps.drop : ∀ {ds : List D} {vs : List V} (n : Nat), Reps C F μ ds vs → Reps C F μ (ds.drop n) (vs.drop n)
  | [], vs, n, h => by rw [Reps.nil_iff.mp h]; simp [Reps.nil]
  | x :: ds, vs, 0, h => h
  | x :: ds, vs, n + 1, h => by
    obtain ⟨u, r, rfl, h1, h2⟩ := Reps.cons_iff.mp h
    exact Reps.drop n h2
theorem Reps.ints : ∀ (ns : List Int), Reps C F μ (ns.map D.int) (ns.map V.int)
  | [] => Reps.nil
  | n :: ns => Reps.cons (by unfold Rep; rfl) (Reps.ints ns)
theorem Reps.of_ints : ∀ {ns : List Int} {vs : List V}, Reps C F μ (ns.map D.int) vs → vs = ns.map V.int
  | [], vs, h => Reps.nil_iff.mp h
  | n :: ns, vs, h => by
    obtain ⟨v, r, rfl, h1, h2⟩ := Reps.cons_iff.mp h
    unfold Rep at h1
    rw [h1, Reps.of_ints h2]; rfl
theorem Rep.int_iff {i : Int} {v : V} : Rep C F μ (.int i) v ↔ v = .int i := by unfold Rep; exact Iff.rfl
theorem Rep.bl_iff {i : Bool} {v : V} : Rep C F μ (.bl i) v ↔ v = .bl i := by unfold Rep; exact Iff.rfl
theorem Rep.non_iff {v : V} : Rep C F μ .non v ↔ v = .non := by unfold Rep; exact Iff.rfl
theorem Rep.str_iff {i : Str} {v : V} : Rep C F μ (.str i) v ↔ v = .str i := by unfold Rep; exact Iff.rfl
theorem Rep.tup_iff {ds : List D} {v : V} : Rep C F μ (.tup ds) v ↔ ∃ a vs, v = .ref a ∧ SqT C.K F a vs ∧ Reps C F μ ds vs := by conv => lhs; unfold Rep
theorem Rep.lst_iff {ds : List D} {v : V} : Rep C F μ (.lst ds) v ↔ ∃ a vs, v = .ref a ∧ F a = some (.lst vs) ∧ Reps C F μ ds vs := by conv => lhs; unfold Rep
theorem Rep.scr_iff {ds : List Int} {v : V} : Rep C F μ (.scr ds) v ↔ ∃ a, v = .ref a ∧ SqL C.K F a (ds.map V.int) := by conv => lhs; unfold Rep
theorem Rep.obj_iff {c : Str} {fs : List (Str × D)} {v : V} : Rep C F μ (.obj c fs) v ↔ ∃ a dx gs, v = .ref a ∧ F a = some (.ins (C.ca c) dx gs) ∧ RepF C F μ fs gs := by conv => lhs; unfold Rep
theorem Rep.exc_iff {c : Str} {fs : List (Str × D)} {v : V} : Rep C F μ (.exc c fs) v ↔ ∃ a gs, v = .ref a ∧ ExAt F a (C.ca c) gs ∧ RepF C F μ fs gs := by conv => lhs; unfold Rep
theorem Rep.own_iff {k : Nat} {v : V} : Rep C F μ (.own k) v ↔ ∃ a, v = .ref a ∧ μ[k]? = some a := by conv => lhs; unfold Rep
theorem Rep.ty_iff {n : String} {v : V} : Rep C F μ (.ty n) v ↔ v = .ty n := by unfold Rep; exact Iff.rfl
theorem Rep.cls_iff {c : Str} {v : V} : Rep C F μ (.cls c) v ↔ v = .ref (C.ca c) := by unfold Rep; exact Iff.rfl
end

/-! ### the state -/
section
variable (C : Ct) (F : Hp) (μ : List Addr) (H : Hp)
def CellOk (a : Addr) : Cell → Prop
  | .gone => True
  | .lst ds => F a = none ∧ ∃ vs, H a = some (.lst vs) ∧ Reps C F μ ds vs
  | .ins c fs => F a = none ∧ ∃ dx gs, H a = some (.ins (C.ca c) dx gs) ∧ RepF C F μ fs gs
structure SR (S : Store) : Prop where
  sub : Same F H
  len : μ.length = S.length
  nd : μ.Nodup
  alive : ∀ a ∈ μ, (H a).isSome = true
  cell : ∀ (k : Nat) (c : Cell) (a : Addr), S[k]? = some c → μ[k]? = some a → CellOk C F μ H a c
end
/-- a later state -/
structure Ext (F : Hp) (μ : List Addr) (H : Hp) (F' : Hp) (μ' : List Addr) (H' : Hp) : Prop where
  f : Same F F'
  m : μ <+: μ'
  fr : ∀ a o, H a = some o → a ∉ μ → H' a = some o
  new : ∀ a, a ∈ μ' → a ∉ μ → H a = none
  newF : ∀ a o, F' a = some o → F a = none → H a = none ∨ a ∈ μ
theorem Ext.refl (F : Hp) (μ : List Addr) (H : Hp) : Ext F μ H F μ H := ⟨Same.refl F, List.prefix_refl μ, fun _ _ h _ => h, fun _ h k => absurd h k, fun _ _ h k => by rw [h] at k; cases k⟩
theorem Ext.trans {F F' F'' : Hp} {μ μ' μ'' : List Addr} {H H' H'' : Hp} (a : Ext F μ H F' μ' H') (b : Ext F' μ' H' F'' μ'' H'') : Ext F μ H F'' μ'' H'' where
  f := a.f.trans b.f
  m := a.m.trans b.m
  fr := fun c o h n => b.fr c o (a.fr c o h n) (fun q => by rw [a.new c q n] at h; cases h)
  new := fun c q n => by
    by_cases hc : c ∈ μ'
    · exact a.new c hc n
    · have h1 := b.new c q hc
      cases e : H c with
      | none => rfl
      | some o => rw [a.fr c o e n] at h1; cases h1
  newF := fun c o q n => by
    cases e : F' c with
    | some u => exact a.newF c u e n
    | none =>
      rcases b.newF c o q e with h1 | h1
      · by_cases hc : c ∈ μ
        · exact .inr hc
        · cases e2 : H c with
          | none => exact .inl rfl
          | some u => rw [a.fr c u e2 hc] at h1; cases h1
      · by_cases hc : c ∈ μ
        · exact .inr hc
        · exact .inl (a.new c h1 hc)
section
variable {C : Ct} {F F' F'' : Hp} {μ μ' μ'' : List Addr} {H H' H'' : Hp} {S S' : Store}
theorem Rep.ext (e : Ext F μ H F' μ' H') {d : D} {v : V} (h : Rep C F μ d v) : Rep C F' μ' d v := h.mono e.f e.m
theorem Reps.ext (e : Ext F μ H F' μ' H') {d : List D} {v : List V} (h : Reps C F μ d v) : Reps C F' μ' d v := h.mono e.f e.m
theorem RepF.ext (e : Ext F μ H F' μ' H') {d : List (Str × D)} {v : List (Str × V)} (h : RepF C F μ d v) : RepF C F' μ' d v := h.mono e.f e.m
def EnvR (C : Ct) (F : Hp) (μ : List Addr) (σ : St) (ρ : DEnv) : Prop := ρ.length = σ.length ∧ ∀ (i : Nat) (d : D), ρ[i]? = some (some d) → ∃ v, σ[i]? = some (some v) ∧ Rep C F μ d v
theorem EnvR.ext {σ : St} {ρ : DEnv} (e : Ext F μ H F' μ' H') (h : EnvR C F μ σ ρ) : EnvR C F' μ' σ ρ :=
  ⟨h.1, fun i d q => let ⟨v, h1, h2⟩ := h.2 i d q; ⟨v, h1, h2.ext e⟩⟩
theorem EnvR.set {σ : St} {ρ : DEnv} {d : D} {v : V} (h : EnvR C F μ σ ρ) (i : Nat) (r : Rep C F μ d v) : EnvR C F μ (σ.set i (some v)) (ρ.set i (some d)) := by
  refine ⟨by simp [h.1], fun j x q => ?_⟩
  by_cases hj : j = i
  · subst hj
    have hl : j < ρ.length := by
      have := (List.getElem?_eq_some_iff.mp q).1; simpa using this
    rw [List.getElem?_set_self hl] at q
    cases q
    exact ⟨v, List.getElem?_set_self (by rw [← h.1]; exact hl), r⟩
  · rw [List.getElem?_set_ne (Ne.symm hj)] at q
    obtain ⟨u, h1, h2⟩ := h.2 j x q
    exact ⟨u, by rw [List.getElem?_set_ne (Ne.symm hj)]; exact h1, h2⟩
theorem EnvR.unset {σ : St} {ρ : DEnv} (h : EnvR C F μ σ ρ) (i : Nat) : EnvR C F μ (σ.set i none) (ρ.set i none) := by
  refine ⟨by simp [h.1], fun j x q => ?_⟩
  by_cases hj : j = i
  · subst hj
    have hl : j < ρ.length := by
      have := (List.getElem?_eq_some_iff.mp q).1; simpa using this
    rw [List.getElem?_set_self hl] at q
    cases q
  · rw [List.getElem?_set_ne (Ne.symm hj)] at q
    obtain ⟨u, h1, h2⟩ := h.2 j x q
    exact ⟨u, by rw [List.getElem?_set_ne (Ne.symm hj)]; exact h1, h2⟩
theorem SR.notIn (s : SR C F μ H S) {a : Addr} (h : H a = none) : a ∉ μ := fun q => by
  have := s.alive a q; rw [h] at this; cases this
theorem SR.freeF (s : SR C F μ H S) {a : Addr} (h : H a = none) : F a = none := by
  cases e : F a with
  | none => rfl
  | some o => rw [s.sub a o e] at h; cases h
theorem CellOk.mono {a : Addr} {c : Cell} (hF : Same F F') (hm : μ <+: μ') (hn : F a = none → c ≠ .gone → F' a = none) (hH : ∀ o, H a = some o → H' a = some o) (k : CellOk C F μ H a c) : CellOk C F' μ' H' a c := by
  cases c with
  | gone => trivial
  | lst ds => obtain ⟨n, vs, h1, h2⟩ := k; exact ⟨hn n (by simp), vs, hH _ h1, h2.mono hF hm⟩
  | ins c fs => obtain ⟨n, dx, gs, h1, h2⟩ := k; exact ⟨hn n (by simp), dx, gs, hH _ h1, h2.mono hF hm⟩
/-- a new object that never changes -/
theorem SR.frz (s : SR C F μ H S) {p : Addr} {o : HO} (hp : H p = none) : SR C (upd F p o) μ (upd H p o) S ∧ Ext F μ H (upd F p o) μ (upd H p o) := by
  have hf := s.freeF hp
  have hm := s.notIn hp
  have sF : Same F (upd F p o) := fun b u e => by rw [upd_ne (ne_of_none e hf)]; exact e
  refine ⟨⟨fun b u e => ?_, s.len, s.nd, fun a ha => ?_, fun k c a e1 e2 => ?_⟩, ⟨sF, List.prefix_refl μ, fun a u e _ => by rw [upd_ne (ne_of_none e hp)]; exact e, fun _ h k => absurd h k, fun a u e n => by
    by_cases ha : a = p
    · subst ha; exact .inl hp
    · rw [upd_ne ha] at e; rw [e] at n; cases n⟩⟩
  · by_cases hb : b = p
    · subst hb; rw [upd_same] at e ⊢; exact e
    · rw [upd_ne hb] at e ⊢; exact s.sub b u e
  · have hap : a ≠ p := fun q => hm (q ▸ ha)
    rw [upd_ne hap]; exact s.alive a ha
  · have hap : a ≠ p := fun q => hm (q ▸ List.mem_of_getElem? e2)
    exact (s.cell k c a e1 e2).mono sF (List.prefix_refl μ) (fun n _ => by rw [upd_ne hap]; exact n) fun u e => by rw [upd_ne hap]; exact e
/-- other objects laid, that nobody looks at -/
theorem SR.junk (s : SR C F μ H S) {p : Addr} {o : HO} (hp : H p = none) : SR C F μ (upd H p o) S ∧ Ext F μ H F μ (upd H p o) := by
  have hm := s.notIn hp
  refine ⟨⟨fun b u e => ?_, s.len, s.nd, fun a ha => ?_, fun k c a e1 e2 => ?_⟩, ⟨Same.refl F, List.prefix_refl μ, fun a u e _ => by rw [upd_ne (ne_of_none e hp)]; exact e, fun _ h k => absurd h k, fun _ _ h k => by rw [h] at k; cases k⟩⟩
  · have := s.sub b u e
    rw [upd_ne (ne_of_none this hp)]; exact this
  · have hap : a ≠ p := fun q => hm (q ▸ ha)
    rw [upd_ne hap]; exact s.alive a ha
  · have hap : a ≠ p := fun q => hm (q ▸ List.mem_of_getElem? e2)
    exact (s.cell k c a e1 e2).mono (Same.refl F) (List.prefix_refl μ) (fun n _ => n) fun u e => by rw [upd_ne hap]; exact e
theorem get_snoc {α : Type} {l : List α} {a b : α} {k : Nat} (h : (l ++ [a])[k]? = some b) : (k < l.length ∧ l[k]? = some b) ∨ (k = l.length ∧ b = a) := by
  by_cases hk : k < l.length
  · rw [List.getElem?_append_left hk] at h; exact .inl ⟨hk, h⟩
  · rw [List.getElem?_append_right (by omega)] at h
    have := (List.getElem?_eq_some_iff.mp h).1
    simp at this
    have e : k = l.length := by omega
    subst e
    simp at h
    exact .inr ⟨rfl, h.symm⟩
/-- a new cell -/
theorem SR.cellNew (s : SR C F μ H S) {p : Addr} {o : HO} {c : Cell} (hp : H p = none) (hc : CellOk C F (μ ++ [p]) (upd H p o) p c) : SR C F (μ ++ [p]) (upd H p o) (S ++ [c]) ∧ Ext F μ H F (μ ++ [p]) (upd H p o) := by
  have hm := s.notIn hp
  have hf := s.freeF hp
  refine ⟨⟨fun b u e => ?_, by simp [s.len], ?_, fun a ha => ?_, fun k c' a e1 e2 => ?_⟩, ⟨Same.refl F, List.prefix_append μ [p], fun a u e _ => by rw [upd_ne (ne_of_none e hp)]; exact e, fun a h k => ?_, fun _ _ h k => by rw [h] at k; cases k⟩⟩
  · have := s.sub b u e
    rw [upd_ne (ne_of_none this hp)]; exact this
  · exact List.nodup_append.mpr ⟨s.nd, by simp, fun a ha b hb => by simp at hb; subst hb; exact fun q => hm (q ▸ ha)⟩
  · by_cases hap : a = p
    · subst hap; rw [upd_same]; rfl
    · rw [upd_ne hap]
      rcases List.mem_append.mp ha with q | q
      · exact s.alive a q
      · simp at q; exact absurd q hap
  · rcases get_snoc e1 with ⟨hk, e1⟩ | ⟨hk, rfl⟩
    · rcases get_snoc e2 with ⟨_, e2⟩ | ⟨hk2, _⟩
      · have hap : a ≠ p := fun q => hm (q ▸ List.mem_of_getElem? e2)
        exact (s.cell k c' a e1 e2).mono (Same.refl F) (List.prefix_append μ [p]) (fun n _ => n) fun u e => by rw [upd_ne hap]; exact e
      · rw [s.len] at hk2; omega
    · rcases get_snoc e2 with ⟨hk2, _⟩ | ⟨_, rfl⟩
      · rw [s.len] at hk2; omega
      · exact hc
  · rcases List.mem_append.mp h with q | q
    · exact absurd q k
    · simp at q; subst q; exact hp
/-- a cell's object is changed -/
theorem SR.put (s : SR C F μ H S) {k : Nat} {a : Addr} {o : HO} {c c' : Cell} (ek : S[k]? = some c) (ea : μ[k]? = some a) (hn : c ≠ .gone) (hc : F a = none → CellOk C F μ (upd H a o) a c') :
    SR C F μ (upd H a o) (S.set k c') ∧ Ext F μ H F μ (upd H a o) := by
  have k0 := s.cell k c a ek ea
  have fa : F a = none := by
    cases c with
    | gone => exact absurd rfl hn
    | lst ds => exact k0.1
    | ins c fs => exact k0.1
  have hmem := List.mem_of_getElem? ea
  refine ⟨⟨fun b u e => ?_, by simp [s.len], s.nd, fun b hb => ?_, fun j c2 b e1 e2 => ?_⟩, ⟨Same.refl F, List.prefix_refl μ, fun b u e n => ?_, fun _ h k => absurd h k, fun _ _ h k => by rw [h] at k; cases k⟩⟩
  · by_cases hb : b = a
    · subst hb; rw [fa] at e; cases e
    · rw [upd_ne hb]; exact s.sub b u e
  · by_cases hb' : b = a
    · subst hb'; rw [upd_same]; rfl
    · rw [upd_ne hb']; exact s.alive b hb
  · by_cases hj : j = k
    · subst hj
      rw [ea] at e2; cases e2
      have hl : j < S.length := (List.getElem?_eq_some_iff.mp ek).1
      rw [List.getElem?_set_self hl] at e1
      cases e1
      exact hc fa
    · rw [List.getElem?_set_ne (Ne.symm hj)] at e1
      have hb : b ≠ a := fun q => by
        subst q
        exact hj (nodup_get s.nd e2 ea)
      exact (s.cell j c2 b e1 e2).mono (Same.refl F) (List.prefix_refl μ) (fun n _ => n) fun u e => by rw [upd_ne hb]; exact e
  · have hb : b ≠ a := fun q => n (q ▸ hmem)
    rw [upd_ne hb]; exact e
where
  nodup_get {l : List Addr} (nd : l.Nodup) {i j : Nat} {a : Addr} (h1 : l[i]? = some a) (h2 : l[j]? = some a) : i = j := by
    obtain ⟨p1, q1⟩ := List.getElem?_eq_some_iff.mp h1
    obtain ⟨p2, q2⟩ := List.getElem?_eq_some_iff.mp h2
    exact (List.getElem_inj nd).mp (q1.trans q2.symm)
end
end OD

/-! OD2: the judgements over D, names, constants, operators, tests, displays, calls of built-ins. -/
namespace OD
open PySem PySem.Spec L2
open PyProof.Rows hiding St

theorem PE.imp {X : Cx} {e : Expr} {t t' : TE} (h : PE X e t) (k : ∀ σ H Q, t' σ H Q → t σ H Q) : PE X e t' := ⟨fun pins s σ H Q I q => h.run pins s σ H Q I (k σ H Q q)⟩
theorem PT.imp {X : Cx} {e : Expr} {t t' : TT} (h : PT X e t) (k : ∀ σ H Q, t' σ H Q → t σ H Q) : PT X e t' := ⟨fun pins s σ H Q I q => h.run pins s σ H Q I (k σ H Q q)⟩
theorem PW.imp {X : Cx} {e : Expr} {t t' : TT} (h : PW X e t) (k : ∀ σ H Q, t' σ H Q → t σ H Q) : PW X e t' := ⟨fun wh pins s σ H Q I q => h.run wh pins s σ H Q I (k σ H Q q)⟩
theorem PA.imp {X : Cx} {e : List Expr} {t t' : TA} (h : PA X e t) (k : ∀ σ H Q, t' σ H Q → t σ H Q) : PA X e t' := ⟨fun pos pins s σ H Q I q => h.run pos pins s σ H Q I (k σ H Q q)⟩
theorem PS.imp {X : Cx} {e : Stmt} {t t' : TS} (h : PS X e t) (k : ∀ D σ H, t' D σ H → t D σ H) : PS X e t' := ⟨fun pins s σ H D I q => h.run pins s σ H D I (k D σ H q)⟩
theorem PSs.imp {X : Cx} {e : List Stmt} {t t' : TS} (h : PSs X e t) (k : ∀ D σ H, t' D σ H → t D σ H) : PSs X e t' := ⟨fun pins s σ H D I q => h.run pins s σ H D I (k D σ H q)⟩

abbrev XcD := Str → List (Str × D) → Store → Prop
abbrev TD (B : Type) := DEnv → Store → (B → Store → Prop) → XcD → Prop
/-- an exception: its class, its own dict -/
def ExcR (C : Ct) (F : Hp) (μ : List Addr) (cls : Value) (dd : Option Addr) (c : Str) (fs : List (Str × D)) : Prop :=
  cls = .ref (C.ca c) ∧ ((dd = none ∧ fs = []) ∨ ∃ d gs, dd = some d ∧ F d = some (.xd gs) ∧ RepF C F μ fs gs)
theorem ExcR.ext {C : Ct} {F F' : Hp} {μ μ' : List Addr} {H H' : Hp} {cls : Value} {dd : Option Addr} {c : Str} {fs : List (Str × D)} (e : Ext F μ H F' μ' H') (h : ExcR C F μ cls dd c fs) : ExcR C F' μ' cls dd c fs := by
  obtain ⟨h1, h2⟩ := h
  refine ⟨h1, ?_⟩
  rcases h2 with h2 | ⟨d, gs, h2, h3, h4⟩
  · exact .inl h2
  · exact .inr ⟨d, gs, h2, e.f _ _ h3, h4.ext e⟩
/-- the reading of a D-reading -/
def lift {A B : Type} (C : Ct) (W : WX) (rel : Hp → List Addr → B → A → Prop) (t : TD B) : L2.St → Hp → (A → Hp → Prop) → Prop := fun σ H Q =>
  ∃ (F : Hp) (μ : List Addr) (ρ : DEnv) (S : Store) (R : B → Store → Prop) (Xc : XcD), EnvR C F μ σ ρ ∧ SR C F μ H S ∧ t ρ S R Xc ∧
    (∀ F' μ' H' v d S', Ext F μ H F' μ' H' → SR C F' μ' H' S' → rel F' μ' d v → R d S' → Q v H') ∧
    (∀ F' μ' H' cls dd c fs S', Ext F μ H F' μ' H' → SR C F' μ' H' S' → ExcR C F' μ' cls dd c fs → Xc c fs S' → W cls dd σ H')
abbrev rV (C : Ct) : Hp → List Addr → D → V → Prop := fun F μ d v => Rep C F μ d v
abbrev rVs (C : Ct) : Hp → List Addr → List D → List V → Prop := fun F μ d v => Reps C F μ d v
abbrev rB : Hp → List Addr → Bool → Bool → Prop := fun _ _ b c => b = c
abbrev rO : Hp → List Addr → Option Int → Option Int → Prop := fun _ _ b c => b = c
abbrev DE (X : Cx) (C : Ct) (W : WX) (e : Expr) (t : TD D) : Prop := PE X e (lift C W (rV C) t)
abbrev DT (X : Cx) (C : Ct) (W : WX) (e : Expr) (t : TD Bool) : Prop := PT X e (lift C W rB t)
abbrev DW (X : Cx) (C : Ct) (W : WX) (e : Expr) (t : TD Bool) : Prop := PW X e (lift C W rB t)
abbrev DA (X : Cx) (C : Ct) (W : WX) (e : List Expr) (t : TD (List D)) : Prop := PA X e (lift C W (rVs C) t)
abbrev DO (X : Cx) (C : Ct) (W : WX) (e : Option Expr) (t : TD (Option Int)) : Prop := PO X e (lift C W rO t)

section
variable {X : Cx} {C : Ct} {W : WX}
/-- one after another -/
theorem lift_bind {A B A' B' : Type} {rel : Hp → List Addr → B → A → Prop} {rel' : Hp → List Addr → B' → A' → Prop} {t : TD B} {u : B → TD B'} {σ : L2.St} {H : Hp} {Q : A' → Hp → Prop} {g : A → Hp → (A' → Hp → Prop) → Prop}
    (h : lift C W rel' (fun ρ S R Xc => t ρ S (fun d S1 => u d ρ S1 R Xc) Xc) σ H Q)
    (hg : ∀ F μ ρ H S d v R Xc, EnvR C F μ σ ρ → SR C F μ H S → rel F μ d v → u d ρ S R Xc →
      (∀ F' μ' H' v d S', Ext F μ H F' μ' H' → SR C F' μ' H' S' → rel' F' μ' d v → R d S' → Q v H') →
      (∀ F' μ' H' cls dd c fs S', Ext F μ H F' μ' H' → SR C F' μ' H' S' → ExcR C F' μ' cls dd c fs → Xc c fs S' → W cls dd σ H') → g v H Q) :
    lift C W rel t σ H fun v H1 => g v H1 Q := by
  obtain ⟨F, μ, ρ, S, R, Xc, e, s, h, hR, hX⟩ := h
  exact ⟨F, μ, ρ, S, _, Xc, e, s, h, fun F1 μ1 H1 v d S1 x1 s1 r1 h1 => hg F1 μ1 ρ H1 S1 d v R Xc (e.ext x1) s1 r1 h1
    (fun F2 μ2 H2 v2 d2 S2 x2 s2 r2 h2 => hR F2 μ2 H2 v2 d2 S2 (x1.trans x2) s2 r2 h2) (fun F2 μ2 H2 cls dd c fs S2 x2 s2 r2 h2 => hX F2 μ2 H2 cls dd c fs S2 (x1.trans x2) s2 r2 h2), hX⟩
theorem lift_of {A B : Type} {rel : Hp → List Addr → B → A → Prop} {t : TD B} {σ : L2.St} {H : Hp} {Q : A → Hp → Prop} {F : Hp} {μ : List Addr} {ρ : DEnv} {S : Store} {R : B → Store → Prop} {Xc : XcD}
    (e : EnvR C F μ σ ρ) (s : SR C F μ H S) (h : t ρ S R Xc) (hR : ∀ F' μ' H' v d S', Ext F μ H F' μ' H' → SR C F' μ' H' S' → rel F' μ' d v → R d S' → Q v H')
    (hX : ∀ F' μ' H' cls dd c fs S', Ext F μ H F' μ' H' → SR C F' μ' H' S' → ExcR C F' μ' cls dd c fs → Xc c fs S' → W cls dd σ H') : lift C W rel t σ H Q := ⟨F, μ, ρ, S, R, Xc, e, s, h, hR, hX⟩

/-! ### names, constants -/
def dVar (i : Nat) : TD D := fun ρ S Q _ => ∃ d, ρ[i]? = some (some d) ∧ Q d S
def dC (d : D) : TD D := fun _ S Q _ => Q d S
theorem de_var (i : Nat) {x : Str} {pos : Pos} (hN : X.N[i]? = some x := by rfl) (hv : Vis X.env.scope x := by first | exact Or.inl rfl | exact Or.inr (Or.inl rfl) | exact Or.inr (Or.inr rfl)) (hd : (x == ("__debug__" : Str)) = false := by decide)
    (hcd : (x == ("__classdict__" : Str)) = false := by decide) : DE X C W (.Name x pos) (dVar i) := PE.imp (pe_var hN hv hd hcd) fun σ H Q ⟨F, μ, ρ, S, R, Xc, e, s, ⟨d, h1, h⟩, hR, hX⟩ => by
  obtain ⟨v, h2, h3⟩ := e.2 i d h1
  exact ⟨v, h2, hR F μ H v d S (Ext.refl F μ H) s h3 h⟩
/-- a value that stands for itself -/
def Flat : D → V → Prop
  | .non, v => v = .non
  | .bl b, v => v = .bl b
  | .int b, v => v = .int b
  | .str b, v => v = .str b
  | .ty n, v => v = .ty n
  | _, _ => False
theorem Flat.rep {d : D} {v : V} (h : Flat d v) {F : Hp} {μ : List Addr} : Rep C F μ d v := by
  cases d <;> first | (exact False.elim h) | (unfold Rep; exact h)
theorem de_c {e : Expr} {d : D} {v : V} (h : PE X e (tC v)) (f : Flat d v) : DE X C W e (dC d) := PE.imp h fun σ H Q ⟨F, μ, ρ, S, R, Xc, e, s, h, hR, hX⟩ => hR F μ H v d S (Ext.refl F μ H) s f.rep h
theorem de_int {i j pos} : DE X C W (.Constant (.int i) j pos) (dC (.int i)) := de_c pe_int rfl
theorem de_bl {i j pos} : DE X C W (.Constant (.bool i) j pos) (dC (.bl i)) := de_c pe_bl rfl
theorem de_non {j pos} : DE X C W (.Constant .none j pos) (dC .non) := de_c pe_non rfl
theorem de_str {i j pos} : DE X C W (.Constant (.str i) j pos) (dC (.str i)) := de_c pe_str rfl
/-- a constant of the module -/
theorem de_glob {x : Str} {d : D} {v : V} {u : Value} {pos : Pos} (hm : X.mg x = some u) (r : RelV v u) (f : Flat d v) (hg : Gl X x := by rfl) (hd : (x == ("__debug__" : Str)) = false := by decide) : DE X C W (.Name x pos) (dC d) := de_c (pe_glob hg hm r hd) f

/-! ### operators by values -/
/-- what an operation on values does, over D -/
def Prim1 (C : Ct) (r : V → Hp → VK → Prop) (p : D → Store → (D → Store → Prop) → Prop) : Prop := ∀ F μ H S x dx R Q, SR C F μ H S → Rep C F μ dx x → p dx S R →
  (∀ F' μ' H' v d S', Ext F μ H F' μ' H' → SR C F' μ' H' S' → Rep C F' μ' d v → R d S' → Q v H') → r x H Q
def Prim2 (C : Ct) (r : R2) (p : D → D → Store → (D → Store → Prop) → Prop) : Prop := ∀ F μ H S x y dx dy R Q, SR C F μ H S → Rep C F μ dx x → Rep C F μ dy y → p dx dy S R →
  (∀ F' μ' H' v d S', Ext F μ H F' μ' H' → SR C F' μ' H' S' → Rep C F' μ' d v → R d S' → Q v H') → r x y H Q
def PrimN (C : Ct) (r : List V → Hp → VK → Prop) (p : List D → Store → (D → Store → Prop) → Prop) : Prop := ∀ F μ H S xs ds R Q, SR C F μ H S → Reps C F μ ds xs → p ds S R →
  (∀ F' μ' H' v d S', Ext F μ H F' μ' H' → SR C F' μ' H' S' → Rep C F' μ' d v → R d S' → Q v H') → r xs H Q
def PrimM (C : Ct) (r : V → List V → Hp → VK → Prop) (p : D → List D → Store → (D → Store → Prop) → Prop) : Prop := ∀ F μ H S x xs d ds R Q, SR C F μ H S → Rep C F μ d x → Reps C F μ ds xs → p d ds S R →
  (∀ F' μ' H' v d S', Ext F μ H F' μ' H' → SR C F' μ' H' S' → Rep C F' μ' d v → R d S' → Q v H') → r x xs H Q
abbrev P1 := D → Store → (D → Store → Prop) → Prop
abbrev P2 := D → D → Store → (D → Store → Prop) → Prop
abbrev PN := List D → Store → (D → Store → Prop) → Prop
def dOp (p : P2) (ta tb : TD D) : TD D := fun ρ S Q Xc => ta ρ S (fun x S1 => tb ρ S1 (fun y S2 => p x y S2 Q) Xc) Xc
def dUn (p : P1) (ta : TD D) : TD D := fun ρ S Q Xc => ta ρ S (fun x S1 => p x S1 Q) Xc
variable {a b c : Expr} {ta tb tc : TD D} {pos : Pos}
theorem tOp_of {r : R2} {p : P2} (hp : Prim2 C r p) {σ : L2.St} {H : Hp} {Q : VK} (h : lift C W (rV C) (dOp p ta tb) σ H Q) : tOp r (lift C W (rV C) ta) (lift C W (rV C) tb) σ H Q := by
  refine lift_bind (u := fun x ρ S Q Xc => tb ρ S (fun y S2 => p x y S2 Q) Xc) (g := fun x H1 Q => lift C W (rV C) tb σ H1 fun y H2 => r x y H2 Q) h fun F μ ρ H S x v R Xc e s rx hu hR hX => ?_
  exact lift_of e s hu (fun F1 μ1 H1 w y S1 x1 s1 r1 h1 => hp F1 μ1 H1 S1 v w x y R Q s1 (Rep.ext x1 rx) r1 h1 fun F2 μ2 H2 u z S2 x2 s2 r2 h2 => hR F2 μ2 H2 u z S2 (x1.trans x2) s2 r2 h2) hX
theorem de_op {op : Operator} {r : R2} {p : P2} (ho : OpR X (binaryOp op) r) (hp : Prim2 C r p) (ha : DE X C W a ta) (hb : DE X C W b tb) : DE X C W (.BinOp a op b pos) (dOp p ta tb) :=
  PE.imp (pe_op ho ha hb) fun _ _ _ h => tOp_of hp h
theorem de_cmp {op : CmpOp} {r : R2} {p : P2} (ho : OpR X (compareOp op) r) (hp : Prim2 C r p) (ha : DE X C W a ta) (hb : DE X C W b tb) (hm : behindInMarks op b = false := by first | exact nomark _ | rfl) : DE X C W (.Compare a [op] [b] pos) (dOp p ta tb) :=
  PE.imp (pe_cmpR ho ha hb hm) fun _ _ _ h => tOp_of hp h
theorem tUn_of {r : V → Hp → VK → Prop} {p : P1} (hp : Prim1 C r p) {σ : L2.St} {H : Hp} {Q : VK} (h : lift C W (rV C) (dUn p ta) σ H Q) : tUn r (lift C W (rV C) ta) σ H Q :=
  lift_bind (u := fun x _ S Q _ => p x S Q) (g := fun x H1 Q => r x H1 Q) h fun F μ ρ H S x v R Xc e s rx hu hR hX => hp F μ H S v x R Q s rx hu hR
theorem de_un {op : UnaryOp} {r : V → Hp → VK → Prop} {p : P1} (ho : UnR X (unaryOp op) r) (hp : Prim1 C r p) (ha : DE X C W a ta) : DE X C W (.UnaryOp op a pos) (dUn p ta) :=
  PE.imp (pe_un ho ha) fun _ _ _ h => tUn_of hp h
theorem de_ix {r : R2} {p : P2} (ho : IxR X r) (hp : Prim2 C r p) (ha : DE X C W a ta) (hb : DE X C W b tb) (hs : PlainIx b := by exact fun _ _ => rfl) : DE X C W (.Subscript a b pos) (dOp p ta tb) :=
  PE.imp (pe_ix ho ha hb hs) fun _ _ _ h => tOp_of hp h

/-! ### tests -/
/-- a bool, as a test -/
def dB (t : TD D) : TD Bool := fun ρ S Q Xc => t ρ S (fun x S1 => ∃ k, x = .bl k ∧ Q k S1) Xc
def dBack (t : TD Bool) : TD D := fun ρ S Q Xc => t ρ S (fun k S1 => Q (.bl k) S1) Xc
theorem lift_test {t : TD D} {σ : L2.St} {H : Hp} {Q : Bool → Hp → Prop} (h : lift C W rB (dB t) σ H Q) : lift C W (rV C) t σ H fun x H' => ∃ k, x = .bl k ∧ Q k H' := by
  refine lift_bind (u := fun (x : D) _ S Q _ => ∃ k, x = .bl k ∧ Q k S) (g := fun (x : V) H1 (Q : Bool → Hp → Prop) => ∃ k, x = .bl k ∧ Q k H1) h fun F μ ρ H S x v R Xc e s rx hu hR hX => ?_
  obtain ⟨k, rfl, hk⟩ := hu
  exact ⟨k, Rep.bl_iff.mp rx, hR F μ H k k S (Ext.refl F μ H) s rfl hk⟩
theorem dt_cmp {op : CmpOp} {r : R2} {p : P2} (ho : OpR X (compareOp op) r) (hp : Prim2 C r p) (ha : DE X C W a ta) (hb : DE X C W b tb) (hm : behindInMarks op b = false := by first | exact nomark _ | rfl) : DT X C W (.Compare a [op] [b] pos) (dB (dOp p ta tb)) := by
  refine PT.imp (pt_cmpR ho ha hb hm) fun σ H Q h => ?_
  show tOp r _ _ σ H fun x H' => ∃ k, x = .bl k ∧ Q k H'
  have h' := lift_test h
  exact tOp_of hp h'
def dChain (p p' : P2) (ta tb tc : TD D) : TD D := fun ρ S Q Xc => ta ρ S (fun x S1 => tb ρ S1 (fun y S2 => p x y S2 fun z S3 => ∃ k, z = .bl k ∧ (if k = true then tc ρ S3 (fun w S4 => p' y w S4 Q) Xc else Q (.bl false) S3)) Xc) Xc
theorem tChain_of {r r' : R2} {p p' : P2} (hp : Prim2 C r p) (hp' : Prim2 C r' p') {σ : L2.St} {H : Hp} {Q : VK} (h : lift C W (rV C) (dChain p p' ta tb tc) σ H Q) : tChain r r' (lift C W (rV C) ta) (lift C W (rV C) tb) (lift C W (rV C) tc) σ H Q := by
  refine lift_bind (u := fun x ρ S Q Xc => tb ρ S (fun y S2 => p x y S2 fun z S3 => ∃ k, z = .bl k ∧ (if k = true then tc ρ S3 (fun w S4 => p' y w S4 Q) Xc else Q (.bl false) S3)) Xc)
    (g := fun x H1 Q => lift C W (rV C) tb σ H1 fun y H2 => r x y H2 fun z H3 => ∃ k, z = .bl k ∧ (if k = true then lift C W (rV C) tc σ H3 fun w' H4 => r' y w' H4 Q else Q (.bl false) H3)) h fun F μ ρ H S x v R Xc e s rx hu hR hX => ?_
  refine lift_of e s hu (fun F1 μ1 H1 w y S1 x1 s1 r1 h1 => hp F1 μ1 H1 S1 v w x y _ _ s1 (Rep.ext x1 rx) r1 h1 fun F2 μ2 H2 u z S2 x2 s2 r2 h2 => ?_) hX
  obtain ⟨k, rfl, h2⟩ := h2
  refine ⟨k, Rep.bl_iff.mp r2, ?_⟩
  cases k with
  | false =>
    rw [if_neg Bool.false_ne_true] at h2 ⊢
    exact hR F2 μ2 H2 _ _ S2 (x1.trans x2) s2 (Rep.bl_iff.mpr rfl) h2
  | true =>
    rw [if_pos rfl] at h2 ⊢
    exact lift_of (e.ext (x1.trans x2)) s2 h2 (fun F3 μ3 H3 u3 z3 S3 x3 s3 r3 h3 => hp' F3 μ3 H3 S3 w u3 y z3 R Q s3 (Rep.ext (x2.trans x3) r1) r3 h3 fun F4 μ4 H4 u4 z4 S4 x4 s4 r4 h4 => hR F4 μ4 H4 u4 z4 S4 ((x1.trans x2).trans (x3.trans x4)) s4 r4 h4)
      fun F3 μ3 H3 cls dd c fs S3 x3 s3 r3 h3 => hX F3 μ3 H3 cls dd c fs S3 ((x1.trans x2).trans x3) s3 r3 h3
theorem de_chain {op op' : CmpOp} {r r' : R2} {p p' : P2} (ho : OpR X (compareOp op) r) (ho' : OpR X (compareOp op') r') (hp : Prim2 C r p) (hp' : Prim2 C r' p') (ha : DE X C W a ta) (hb : DE X C W b tb) (hc : DE X C W c tc) (hm : lastMarks [op, op'] [b, c] = false := by rfl) :
    DE X C W (.Compare a [op, op'] [b, c] pos) (dChain p p' ta tb tc) := PE.imp (pe_chain ho ho' ha hb hc hm) fun _ _ _ h => tChain_of hp hp' h
theorem dt_chain {op op' : CmpOp} {r r' : R2} {p p' : P2} (ho : OpR X (compareOp op) r) (ho' : OpR X (compareOp op') r') (hp : Prim2 C r p) (hp' : Prim2 C r' p') (ha : DE X C W a ta) (hb : DE X C W b tb) (hc : DE X C W c tc) (hm : lastMarks [op, op'] [b, c] = false := by rfl) :
    DT X C W (.Compare a [op, op'] [b, c] pos) (dB (dChain p p' ta tb tc)) := by
  refine PT.imp (pt_chain ho ho' ha hb hc hm) fun σ H Q h => ?_
  exact tChain_of hp hp' (lift_test h)
def dTru (p : D → Store → Option Bool) (ta : TD D) : TD Bool := fun ρ S Q Xc => ta ρ S (fun x S1 => ∃ k, p x S1 = some k ∧ Q k S1) Xc
/-- truth by kinds -/
def truD : D → Store → Option Bool
  | .non, _ => some false
  | .bl b, _ => some b
  | .int i, _ => some (i != 0)
  | .tup ds, _ => some (!ds.isEmpty)
  | .lst ds, _ => some (!ds.isEmpty)
  | .own k, S => match S[k]? with
    | some (.lst ds) => some (!ds.isEmpty)
    | _ => none
  | .str z, _ => if z.length ≤ sizeLine then some ((z.length : Int) != 0) else none
  | _, _ => none
theorem Reps.isEmpty {F : Hp} {μ : List Addr} {ds : List D} {vs : List V} (h : Reps C F μ ds vs) : vs.isEmpty = ds.isEmpty := by
  have := h.length
  cases ds <;> cases vs <;> simp_all
theorem truV_of {F : Hp} {μ : List Addr} {H : Hp} {S : Store} {d : D} {v : V} {k : Bool} (s : SR C F μ H S) (r : Rep C F μ d v) (h : truD d S = some k) : TruV C.K v H k := by
  cases d with
  | non => rw [Rep.non_iff] at r; subst r; have h := Option.some.inj h; subst h; rfl
  | bl b => rw [Rep.bl_iff] at r; subst r; have h := Option.some.inj h; subst h; rfl
  | int b => rw [Rep.int_iff] at r; subst r; have h := Option.some.inj h; subst h; rfl
  | str b =>
    rw [Rep.str_iff] at r; subst r; simp only [truD] at h
    split at h
    · rename_i hz; cases h; exact ⟨hz, rfl⟩
    · cases h
  | tup ds =>
    obtain ⟨a, vs, rfl, q, r2⟩ := Rep.tup_iff.mp r
    have h := Option.some.inj h; subst h
    exact .inr (.inl ⟨vs, SqT.same s.sub q, by rw [r2.isEmpty]⟩)
  | lst ds =>
    obtain ⟨a, vs, rfl, q, r2⟩ := Rep.lst_iff.mp r
    have h := Option.some.inj h; subst h
    exact .inl ⟨vs, SqL.of (s.sub _ _ q), by rw [r2.isEmpty]⟩
  | own j =>
    obtain ⟨a, rfl, q⟩ := Rep.own_iff.mp r
    simp only [truD] at h
    split at h
    · rename_i ds e
      cases h
      obtain ⟨_, vs, h1, h2⟩ := s.cell j _ a e q
      exact .inl ⟨vs, SqL.of h1, by rw [h2.isEmpty]⟩
    · cases h
  | scr ns => simp [truD] at h
  | obj c fs => simp [truD] at h
  | ty c => simp [truD] at h
  | cls c => simp [truD] at h
  | exc c fs => simp [truD] at h
theorem dt_tru (hK : X.K = C.K) (ha : DE X C W a ta) (he : ∀ whole, isTrue a X.env whole = (do let v ← whole; standAt a.pos; holding [v] (truthy v)) := by intro _; rfl) : DT X C W a (dTru truD ta) := by
  refine PT.imp (pt_truth ha he) fun σ H Q h => ?_
  refine lift_bind (u := fun x _ S Q _ => ∃ k, truD x S = some k ∧ Q k S) (g := fun x H1 (Q : Bool → Hp → Prop) => ∃ k, TruV X.K x H1 k ∧ Q k H1) h fun F μ ρ H S x v R Xc e s rx hu hR hX => ?_
  obtain ⟨k, h1, h2⟩ := hu
  exact ⟨k, by rw [hK]; exact truV_of s rx h1, hR F μ H k k S (Ext.refl F μ H) s rfl h2⟩
variable {A B : TD Bool} {rest : List Expr}
def dAnd (A B : TD Bool) : TD Bool := fun ρ S Q Xc => A ρ S (fun k S1 => if k = true then B ρ S1 Q Xc else Q false S1) Xc
def dOr (A B : TD Bool) : TD Bool := fun ρ S Q Xc => A ρ S (fun k S1 => if k = true then Q true S1 else B ρ S1 Q Xc) Xc
def dNot (A : TD Bool) : TD Bool := fun ρ S Q Xc => A ρ S (fun k S1 => Q (!k) S1) Xc
theorem dw_and1 (h : DT X C W a A) : DW X C W (.BoolOp .And [a] pos) A := pw_and1 h
theorem dw_or1 (h : DT X C W a A) : DW X C W (.BoolOp .Or [a] pos) A := pw_or1 h
theorem tAnd_of {σ : L2.St} {H : Hp} {Q : Bool → Hp → Prop} (h : lift C W rB (dAnd A B) σ H Q) : tAnd (lift C W rB A) (lift C W rB B) σ H Q := by
  refine lift_bind (u := fun k ρ S Q Xc => if k = true then B ρ S Q Xc else Q false S) (g := fun k H1 Q => if k = true then lift C W rB B σ H1 Q else Q false H1) h fun F μ ρ H S x v R Xc e s rx hu hR hX => ?_
  cases rx
  cases x with
  | true => exact lift_of e s hu hR hX
  | false => exact hR F μ H _ _ S (Ext.refl F μ H) s rfl hu
theorem tOr_of {σ : L2.St} {H : Hp} {Q : Bool → Hp → Prop} (h : lift C W rB (dOr A B) σ H Q) : tOr (lift C W rB A) (lift C W rB B) σ H Q := by
  refine lift_bind (u := fun k ρ S Q Xc => if k = true then Q true S else B ρ S Q Xc) (g := fun k H1 Q => if k = true then Q true H1 else lift C W rB B σ H1 Q) h fun F μ ρ H S x v R Xc e s rx hu hR hX => ?_
  cases rx
  cases x with
  | false => exact lift_of e s hu hR hX
  | true => exact hR F μ H _ _ S (Ext.refl F μ H) s rfl hu
theorem dw_and (ha : DT X C W a A) (hb : DW X C W (.BoolOp .And (b :: rest) pos) B) : DW X C W (.BoolOp .And (a :: b :: rest) pos) (dAnd A B) := PW.imp (pw_and ha hb) fun _ _ _ h => tAnd_of h
theorem dw_or (ha : DT X C W a A) (hb : DW X C W (.BoolOp .Or (b :: rest) pos) B) : DW X C W (.BoolOp .Or (a :: b :: rest) pos) (dOr A B) := PW.imp (pw_or ha hb) fun _ _ _ h => tOr_of h
theorem dt_w (h : DW X C W a A) : DT X C W a A := PW.pt h
theorem dt_not (h : DT X C W a A) : DT X C W (.UnaryOp .Not a pos) (dNot A) := PT.imp (pt_not h) fun σ H Q q => by
  refine lift_bind (u := fun k _ S Q _ => Q (!k) S) (g := fun k H1 (Q : Bool → Hp → Prop) => Q (!k) H1) q fun F μ ρ H S x v R Xc e s rx hu hR hX => ?_
  cases rx
  exact hR F μ H _ _ S (Ext.refl F μ H) s rfl hu
/-- and, or, not of bools, as values -/
def dAndV (ta tb : TD D) : TD D := fun ρ S Q Xc => ta ρ S (fun x S1 => ∃ k, x = .bl k ∧ if k = true then tb ρ S1 Q Xc else Q (.bl false) S1) Xc
def dOrV (ta tb : TD D) : TD D := fun ρ S Q Xc => ta ρ S (fun x S1 => ∃ k, x = .bl k ∧ if k = true then Q (.bl true) S1 else tb ρ S1 Q Xc) Xc
def dNotV (ta : TD D) : TD D := fun ρ S Q Xc => ta ρ S (fun x S1 => ∃ k, x = .bl k ∧ Q (.bl (!k)) S1) Xc
theorem de_one {op} (h : DE X C W a ta) : DE X C W (.BoolOp op [a] pos) ta := pe_one h
theorem de_and (ha : DE X C W a ta) (hb : DE X C W (.BoolOp .And (b :: rest) pos) tb) : DE X C W (.BoolOp .And (a :: b :: rest) pos) (dAndV ta tb) := PE.imp (pe_and ha hb) fun σ H Q h => by
  refine lift_bind (u := fun (x : D) ρ S Q Xc => ∃ k, x = .bl k ∧ if k = true then tb ρ S Q Xc else Q (.bl false) S) (g := fun (x : V) H1 Q => ∃ k, x = .bl k ∧ if k = true then lift C W (rV C) tb σ H1 Q else Q (.bl false) H1) h fun F μ ρ H S x v R Xc e s rx hu hR hX => ?_
  obtain ⟨k, rfl, hu⟩ := hu
  refine ⟨k, Rep.bl_iff.mp rx, ?_⟩
  cases k with
  | true => exact lift_of e s hu hR hX
  | false => exact hR F μ H _ _ S (Ext.refl F μ H) s (Rep.bl_iff.mpr rfl) hu
theorem de_or (ha : DE X C W a ta) (hb : DE X C W (.BoolOp .Or (b :: rest) pos) tb) : DE X C W (.BoolOp .Or (a :: b :: rest) pos) (dOrV ta tb) := PE.imp (pe_or ha hb) fun σ H Q h => by
  refine lift_bind (u := fun (x : D) ρ S Q Xc => ∃ k, x = .bl k ∧ if k = true then Q (.bl true) S else tb ρ S Q Xc) (g := fun (x : V) H1 Q => ∃ k, x = .bl k ∧ if k = true then Q (.bl true) H1 else lift C W (rV C) tb σ H1 Q) h fun F μ ρ H S x v R Xc e s rx hu hR hX => ?_
  obtain ⟨k, rfl, hu⟩ := hu
  refine ⟨k, Rep.bl_iff.mp rx, ?_⟩
  cases k with
  | false => exact lift_of e s hu hR hX
  | true => exact hR F μ H _ _ S (Ext.refl F μ H) s (Rep.bl_iff.mpr rfl) hu
theorem de_not (ha : DE X C W a ta) : DE X C W (.UnaryOp .Not a pos) (dNotV ta) := PE.imp (pe_not ha) fun σ H Q h => by
  refine lift_bind (u := fun (x : D) _ S Q _ => ∃ k, x = D.bl k ∧ Q (D.bl (!k)) S) (g := fun (x : V) H1 (Q : VK) => ∃ k, x = .bl k ∧ Q (.bl (!k)) H1) h fun F μ ρ H S x v R Xc e s rx hu hR hX => ?_
  obtain ⟨k, rfl, hu⟩ := hu
  exact ⟨k, Rep.bl_iff.mp rx, hR F μ H _ _ S (Ext.refl F μ H) s (Rep.bl_iff.mpr rfl) hu⟩
def dIfE (A : TD Bool) (ta tb : TD D) : TD D := fun ρ S Q Xc => A ρ S (fun k S1 => if k = true then ta ρ S1 Q Xc else tb ρ S1 Q Xc) Xc
theorem de_ife (hc : DT X C W c A) (ha : DE X C W a ta) (hb : DE X C W b tb) : DE X C W (.IfExp c a b pos) (dIfE A ta tb) := PE.imp (pe_ifExp hc ha hb) fun σ H Q h => by
  refine lift_bind (u := fun k ρ S Q Xc => if k = true then ta ρ S Q Xc else tb ρ S Q Xc) (g := fun k H1 Q => if k = true then lift C W (rV C) ta σ H1 Q else lift C W (rV C) tb σ H1 Q) h fun F μ ρ H S x v R Xc e s rx hu hR hX => ?_
  cases rx
  cases x with
  | true => exact lift_of e s hu hR hX
  | false => exact lift_of e s hu hR hX

/-! ### arguments, displays -/
def dNil : TD (List D) := fun _ S Q _ => Q [] S
def dCons (t : TD D) (u : TD (List D)) : TD (List D) := fun ρ S Q Xc => t ρ S (fun x S1 => u ρ S1 (fun xs S2 => Q (x :: xs) S2) Xc) Xc
variable {es : List Expr} {u : TD (List D)}
theorem da_nil : DA X C W [] dNil := PA.imp pa_nil fun σ H Q ⟨F, μ, ρ, S, R, Xc, e, s, h, hR, hX⟩ => hR F μ H [] [] S (Ext.refl F μ H) s Reps.nil h
theorem da_cons (ha : DE X C W a ta) (hr : DA X C W es u) (hs : starEach (a :: es) X.env = (false, eval a X.env) :: starEach es X.env := by rfl) : DA X C W (a :: es) (dCons ta u) := PA.imp (pa_cons ha hr hs) fun σ H Q h => by
  refine lift_bind (u := fun x ρ S Q Xc => u ρ S (fun xs S2 => Q (x :: xs) S2) Xc) (g := fun x H1 (Q : List V → Hp → Prop) => lift C W (rVs C) u σ H1 fun xs H2 => Q (x :: xs) H2) h fun F μ ρ H S x v R Xc e s rx hu hR hX => ?_
  exact lift_of e s hu (fun F1 μ1 H1 ws ys S1 x1 s1 r1 h1 => hR F1 μ1 H1 _ _ S1 x1 s1 (Reps.cons (Rep.ext x1 rx) r1) h1) hX
def dTup (u : TD (List D)) : TD D := fun ρ S Q Xc => u ρ S (fun xs S1 => xs.length ≤ sizeLine ∧ Q (.tup xs) S1) Xc
/-- a list, frozen or a cell -/
def mkL (o : Bool) (xs : List D) (S : Store) (Q : D → Store → Prop) : Prop := match o with
  | false => Q (.lst xs) S
  | true => Q (.own S.length) (S ++ [.lst xs])
def dLst (o : Bool) (u : TD (List D)) : TD D := fun ρ S Q Xc => u ρ S (fun xs S1 => xs.length ≤ sizeLine ∧ mkL o xs S1 Q) Xc
theorem mk_tup {F : Hp} {μ : List Addr} {H : Hp} {S : Store} {xs : List D} {vs : List V} {p : Addr} (s : SR C F μ H S) (r : Reps C F μ xs vs) (hp : H p = none) :
    ∃ F', Ext F μ H F' μ (upd H p (.tup vs)) ∧ SR C F' μ (upd H p (.tup vs)) S ∧ Rep C F' μ (.tup xs) (.ref p) := by
  obtain ⟨s1, x1⟩ := s.frz (p := p) (o := .tup vs) hp
  exact ⟨_, x1, s1, Rep.tup_iff.mpr ⟨p, vs, rfl, SqT.of upd_same, r.ext x1⟩⟩
theorem mk_lst {o : Bool} {F : Hp} {μ : List Addr} {H : Hp} {S : Store} {xs : List D} {vs : List V} {p : Addr} {R : D → Store → Prop} {Q : V → Hp → Prop} (s : SR C F μ H S) (r : Reps C F μ xs vs) (hp : H p = none) (h : mkL o xs S R)
    (hR : ∀ F' μ' H' v d S', Ext F μ H F' μ' H' → SR C F' μ' H' S' → Rep C F' μ' d v → R d S' → Q v H') : Q (.ref p) (upd H p (.lst vs)) := by
  cases o with
  | false =>
    obtain ⟨s1, x1⟩ := s.frz (p := p) (o := .lst vs) hp
    exact hR _ μ _ _ _ S x1 s1 (Rep.lst_iff.mpr ⟨p, vs, rfl, upd_same, r.ext x1⟩) h
  | true =>
    obtain ⟨s1, x1⟩ := s.cellNew (p := p) (o := .lst vs) (c := .lst xs) hp ⟨s.freeF hp, vs, upd_same, r.mono (Same.refl F) (List.prefix_append μ [p])⟩
    exact hR F _ _ _ _ _ x1 s1 (Rep.own_iff.mpr ⟨p, rfl, by rw [← s.len]; simp⟩) h
theorem de_tup {k} (h : DA X C W es u) : DE X C W (.Tuple es k pos) (dTup u) := PE.imp (pe_tup h) fun σ H Q q => by
  refine lift_bind (u := fun (xs : List D) _ S Q _ => xs.length ≤ sizeLine ∧ Q (D.tup xs) S) (g := fun (xs : List V) H1 (Q : VK) => xs.length ≤ sizeLine ∧ ∀ p, H1 p = none → Q (.ref p) (upd H1 p (.tup xs))) q fun F μ ρ H S x v R Xc e s rx hu hR hX => ?_
  refine ⟨by rw [← rx.length]; exact hu.1, fun p hp => ?_⟩
  obtain ⟨F1, x1, s1, r1⟩ := mk_tup s rx hp
  exact hR _ _ _ _ _ _ x1 s1 r1 hu.2
theorem de_lst {o : Bool} (h : DA X C W es u) : DE X C W (.List es pos) (dLst o u) := PE.imp (pe_lst h) fun σ H Q q => by
  refine lift_bind (u := fun (xs : List D) _ S Q _ => xs.length ≤ sizeLine ∧ mkL o xs S Q) (g := fun (xs : List V) H1 (Q : VK) => xs.length ≤ sizeLine ∧ ∀ p, H1 p = none → Q (.ref p) (upd H1 p (.lst xs))) q fun F μ ρ H S x v R Xc e s rx hu hR hX => ?_
  exact ⟨by rw [← rx.length]; exact hu.1, fun p hp => mk_lst s rx hp hu.2 hR⟩

/-! ### calls of built-ins by their names -/
def dCB (p : PN) (u : TD (List D)) : TD D := fun ρ S Q Xc => u ρ S (fun xs S1 => p xs S1 Q) Xc
theorem tCB_of {r : List V → Hp → VK → Prop} {p : PN} (hp : PrimN C r p) {σ : L2.St} {H : Hp} {Q : VK} (h : lift C W (rV C) (dCB p u) σ H Q) : tCB r (lift C W (rVs C) u) σ H Q :=
  lift_bind (u := fun x _ S Q _ => p x S Q) (g := fun x H1 Q => r x H1 Q) h fun F μ ρ H S x v R Xc e s rx hu hR hX => hp F μ H S v x R Q s rx hu hR
variable {x : Str} {q : Pos} {id T : String} {r : List V → Hp → VK → Prop} {p : PN}
theorem de_callB (hc : CallR X (.builtin id) r) (hp : PrimN C r p) (hm : X.mg x = none) (ha : DA X C W (a :: es) u) (hv : bootBuiltins x = some (.builtin id) := by first | exact boot_len | decide +kernel) (hg : Gl X x := by rfl) (hn : x ≠ "__name__" := by decide) (hdb : (x == ("__debug__" : Str)) = false := by decide)
    (he : starEach (a :: es) X.env = (false, eval a X.env) :: starEach es X.env := by rfl) (hpl : (backTo pos (starEach es X.env)).any (·.1) = false := by rfl) : DE X C W (.Call (.Name x q) (a :: es) [] pos) (dCB p u) :=
  PE.imp (pe_callB hc hg hm hv ha hn hdb he hpl) fun _ _ _ h => tCB_of hp h
theorem de_callTy (hc : CallR X (.type T) r) (hp : PrimN C r p) (hm : X.mg x = none) (ha : DA X C W (a :: es) u) (hv : bootBuiltins x = some (.type T) := by decide +kernel) (hg : Gl X x := by rfl) (hn : x ≠ "__name__" := by decide) (hdb : (x == ("__debug__" : Str)) = false := by decide)
    (he : starEach (a :: es) X.env = (false, eval a X.env) :: starEach es X.env := by rfl) (hpl : (backTo pos (starEach es X.env)).any (·.1) = false := by rfl) : DE X C W (.Call (.Name x q) (a :: es) [] pos) (dCB p u) :=
  PE.imp (pe_callTy hc hg hm hv ha hn hdb he hpl) fun _ _ _ h => tCB_of hp h
end
end OD

/-! OD3: statements, targets, loops, comprehensions over D. -/
namespace OD
open PySem PySem.Spec L2
open PyProof.Rows hiding St

/-- what is wanted behind a statement, over D -/
structure EndsD where
  nx : DEnv → Store → Prop
  rt : D → Store → Prop
  bk : DEnv → Store → Prop := fun _ _ => False
  ct : DEnv → Store → Prop := fun _ _ => False
  ex : Str → List (Str × D) → DEnv → Store → Prop := fun _ _ _ _ => False
/-- another continuation; within a loop -/
def EndsD.wn (E : EndsD) (J : DEnv → Store → Prop) : EndsD := { E with nx := J }
def EndsD.lp (E : EndsD) (J : DEnv → Store → Prop) : EndsD := { E with nx := J, ct := J, bk := E.nx }
abbrev TSD := EndsD → DEnv → Store → Prop
structure EndOk (C : Ct) (W : WX) (F : Hp) (μ : List Addr) (H : Hp) (E : EndsD) (D : Ends) : Prop where
  nx : ∀ F' μ' H' σ' ρ' S', Ext F μ H F' μ' H' → EnvR C F' μ' σ' ρ' → SR C F' μ' H' S' → E.nx ρ' S' → D.nx σ' H'
  rt : ∀ F' μ' H' v d S', Ext F μ H F' μ' H' → SR C F' μ' H' S' → Rep C F' μ' d v → E.rt d S' → D.rt v H'
  bk : ∀ F' μ' H' σ' ρ' S', Ext F μ H F' μ' H' → EnvR C F' μ' σ' ρ' → SR C F' μ' H' S' → E.bk ρ' S' → D.bk σ' H'
  ct : ∀ F' μ' H' σ' ρ' S', Ext F μ H F' μ' H' → EnvR C F' μ' σ' ρ' → SR C F' μ' H' S' → E.ct ρ' S' → D.ct σ' H'
  ex : ∀ F' μ' H' σ' ρ' S' cls dd c fs, Ext F μ H F' μ' H' → EnvR C F' μ' σ' ρ' → SR C F' μ' H' S' → ExcR C F' μ' cls dd c fs → E.ex c fs ρ' S' → W cls dd σ' H'
theorem EndOk.ext {C : Ct} {W : WX} {F F1 : Hp} {μ μ1 : List Addr} {H H1 : Hp} {E : EndsD} {D : Ends} (k : EndOk C W F μ H E D) (x : Ext F μ H F1 μ1 H1) : EndOk C W F1 μ1 H1 E D :=
  ⟨fun F' μ' H' σ' ρ' S' y => k.nx F' μ' H' σ' ρ' S' (x.trans y), fun F' μ' H' v d S' y => k.rt F' μ' H' v d S' (x.trans y), fun F' μ' H' σ' ρ' S' y => k.bk F' μ' H' σ' ρ' S' (x.trans y), fun F' μ' H' σ' ρ' S' y => k.ct F' μ' H' σ' ρ' S' (x.trans y),
    fun F' μ' H' σ' ρ' S' cls dd c fs y => k.ex F' μ' H' σ' ρ' S' cls dd c fs (x.trans y)⟩
def liftS (C : Ct) (W : WX) (t : TSD) : TS := fun D σ H => ∃ (F : Hp) (μ : List Addr) (ρ : DEnv) (S : Store) (E : EndsD), EnvR C F μ σ ρ ∧ SR C F μ H S ∧ t E ρ S ∧ EndOk C W F μ H E D
abbrev DS (X : Cx) (C : Ct) (W : WX) (e : Stmt) (t : TSD) : Prop := PS X e (liftS C W t)
abbrev DSs (X : Cx) (C : Ct) (W : WX) (e : List Stmt) (t : TSD) : Prop := PSs X e (liftS C W t)
abbrev TGD := D → DEnv → Store → (DEnv → Store → Prop) → XcD → Prop
def liftG (C : Ct) (W : WX) (g : TGD) : TG := fun v σ H Q => ∃ (F : Hp) (μ : List Addr) (ρ : DEnv) (S : Store) (d : D) (R : DEnv → Store → Prop) (Xc : XcD), EnvR C F μ σ ρ ∧ SR C F μ H S ∧ Rep C F μ d v ∧ g d ρ S R Xc ∧
  (∀ F' μ' H' σ' ρ' S', Ext F μ H F' μ' H' → EnvR C F' μ' σ' ρ' → SR C F' μ' H' S' → R ρ' S' → Q σ' H') ∧
  (∀ F' μ' H' cls dd c fs S', Ext F μ H F' μ' H' → SR C F' μ' H' S' → ExcR C F' μ' cls dd c fs → Xc c fs S' → W cls dd σ H')
abbrev TGsD := List D → DEnv → Store → (DEnv → Store → Prop) → XcD → Prop
def liftGs (C : Ct) (W : WX) (g : TGsD) : TGs := fun v σ H Q => ∃ (F : Hp) (μ : List Addr) (ρ : DEnv) (S : Store) (d : List D) (R : DEnv → Store → Prop) (Xc : XcD), EnvR C F μ σ ρ ∧ SR C F μ H S ∧ Reps C F μ d v ∧ g d ρ S R Xc ∧
  (∀ F' μ' H' σ' ρ' S', Ext F μ H F' μ' H' → EnvR C F' μ' σ' ρ' → SR C F' μ' H' S' → R ρ' S' → Q σ' H') ∧
  (∀ F' μ' H' cls dd c fs S', Ext F μ H F' μ' H' → SR C F' μ' H' S' → ExcR C F' μ' cls dd c fs → Xc c fs S' → W cls dd σ H')
abbrev DG (X : Cx) (C : Ct) (W : WX) (e : Expr) (g : TGD) : Prop := PG X e (liftG C W g)
abbrev DGs (X : Cx) (C : Ct) (W : WX) (e : List Expr) (g : TGsD) : Prop := PGs X e (liftGs C W g)
theorem PG.imp {X : Cx} {e : Expr} {t t' : TG} (h : PG X e t) (k : ∀ v σ H Q, t' v σ H Q → t v σ H Q) : PG X e t' := ⟨fun pins s σ H v u Q I r q => h.run pins s σ H v u Q I r (k v σ H Q q)⟩
theorem PGs.imp {X : Cx} {e : List Expr} {t t' : TGs} (h : PGs X e t) (k : ∀ v σ H Q, t' v σ H Q → t v σ H Q) : PGs X e t' := ⟨fun pins s σ H v u Q I r q => h.run pins s σ H v u Q I r (k v σ H Q q)⟩
theorem PG.or {X : Cx} {e : Expr} {t t' : TG} (h : PG X e t) (h' : PG X e t') : PG X e (fun v σ H Q => t v σ H Q ∨ t' v σ H Q) := ⟨fun pins s σ H v u Q I r q => by
  rcases q with q | q
  · exact h.run pins s σ H v u Q I r q
  · exact h'.run pins s σ H v u Q I r q⟩

/-! ### cells that are no longer wanted -/
mutual
def ownLt (n : Nat) : D → Bool
  | .own k => decide (k < n)
  | .tup ds => ownLts n ds
  | .lst ds => ownLts n ds
  | .obj _ fs => ownLtF n fs
  | .exc _ fs => ownLtF n fs
  | _ => true
def ownLts (n : Nat) : List D → Bool
  | [] => true
  | d :: ds => ownLt n d && ownLts n ds
def ownLtF (n : Nat) : List (Str × D) → Bool
  | [] => true
  | p :: ds => ownLt n p.2 && ownLtF n ds
end
def cellLt (n : Nat) : Cell → Bool
  | .lst ds => ownLts n ds
  | .ins _ fs => ownLtF n fs
  | .gone => true
section
variable {C : Ct} {F F' F0 : Hp} {μ μ' μ0 : List Addr} {H H' H0 : Hp} {S S' S0 : Store}
mutual
theorem Rep.own : ∀ {d : D} {v : V}, Rep C F μ d v → ownLt μ.length d = true
  | .non, _, _ => by simp [ownLt]
  | .bl _, _, _ => by simp [ownLt]
  | .int _, _, _ => by simp [ownLt]
  | .str _, _, _ => by simp [ownLt]
  | .scr _, _, _ => by simp [ownLt]
  | .ty _, _, _ => by simp [ownLt]
  | .cls _, _, _ => by simp [ownLt]
  | .tup ds, v, h => by
    obtain ⟨a, vs, _, _, r⟩ := Rep.tup_iff.mp h
    simp only [ownLt]; exact Reps.own r
  | .lst ds, v, h => by
    obtain ⟨a, vs, _, _, r⟩ := Rep.lst_iff.mp h
    simp only [ownLt]; exact Reps.own r
  | .obj c fs, v, h => by
    obtain ⟨a, dx, gs, _, _, r⟩ := Rep.obj_iff.mp h
    simp only [ownLt]; exact RepF.own r
  | .exc c fs, v, h => by
    obtain ⟨a, gs, _, _, r⟩ := Rep.exc_iff.mp h
    simp only [ownLt]; exact RepF.own r
  | .own k, v, h => by
    obtain ⟨a, _, q⟩ := Rep.own_iff.mp h
    simp only [ownLt, decide_eq_true_eq]
    exact (List.getElem?_eq_some_iff.mp q).1
theorem Reps.own : ∀ {d : List D} {v : List V}, Reps C F μ d v → ownLts μ.length d = true
  | [], _, _ => by simp [ownLts]
  | d :: ds, v, h => by
    obtain ⟨x, r, rfl, h1, h2⟩ := Reps.cons_iff.mp h
    simp only [ownLts, Bool.and_eq_true]
    exact ⟨Rep.own h1, Reps.own h2⟩
theorem RepF.own : ∀ {d : List (Str × D)} {v : List (Str × V)}, RepF C F μ d v → ownLtF μ.length d = true
  | [], _, _ => by simp [ownLtF]
  | p :: ds, v, h => by
    unfold RepF at h
    obtain ⟨x, r, rfl, h1, h2⟩ := h
    simp only [ownLtF, Bool.and_eq_true]
    exact ⟨Rep.own h1, RepF.own h2⟩
end
mutual
theorem Rep.cut (hm : μ0 <+: μ) : ∀ {d : D} {v : V}, Rep C F μ d v → ownLt μ0.length d = true → Rep C F μ0 d v
  | .non, _, h, _ => by rw [Rep.non_iff] at h ⊢; exact h
  | .bl _, _, h, _ => by rw [Rep.bl_iff] at h ⊢; exact h
  | .int _, _, h, _ => by rw [Rep.int_iff] at h ⊢; exact h
  | .str _, _, h, _ => by rw [Rep.str_iff] at h ⊢; exact h
  | .scr _, _, h, _ => by rw [Rep.scr_iff] at h ⊢; exact h
  | .ty _, _, h, _ => by rw [Rep.ty_iff] at h ⊢; exact h
  | .cls _, _, h, _ => by rw [Rep.cls_iff] at h ⊢; exact h
  | .tup ds, v, h, k => by
    obtain ⟨a, vs, e, q, r⟩ := Rep.tup_iff.mp h
    simp only [ownLt] at k
    exact Rep.tup_iff.mpr ⟨a, vs, e, q, Reps.cut hm r k⟩
  | .lst ds, v, h, k => by
    obtain ⟨a, vs, e, q, r⟩ := Rep.lst_iff.mp h
    simp only [ownLt] at k
    exact Rep.lst_iff.mpr ⟨a, vs, e, q, Reps.cut hm r k⟩
  | .obj c fs, v, h, k => by
    obtain ⟨a, dx, gs, e, q, r⟩ := Rep.obj_iff.mp h
    simp only [ownLt] at k
    exact Rep.obj_iff.mpr ⟨a, dx, gs, e, q, RepF.cut hm r k⟩
  | .exc c fs, v, h, k => by
    obtain ⟨a, gs, e, q, r⟩ := Rep.exc_iff.mp h
    simp only [ownLt] at k
    exact Rep.exc_iff.mpr ⟨a, gs, e, q, RepF.cut hm r k⟩
  | .own j, v, h, k => by
    obtain ⟨a, e, q⟩ := Rep.own_iff.mp h
    simp only [ownLt, decide_eq_true_eq] at k
    obtain ⟨t, rfl⟩ := hm
    rw [List.getElem?_append_left k] at q
    exact Rep.own_iff.mpr ⟨a, e, q⟩
theorem Reps.cut (hm : μ0 <+: μ) : ∀ {d : List D} {v : List V}, Reps C F μ d v → ownLts μ0.length d = true → Reps C F μ0 d v
  | [], _, h, _ => by rw [Reps.nil_iff] at h ⊢; exact h
  | d :: ds, v, h, k => by
    obtain ⟨x, r, rfl, h1, h2⟩ := Reps.cons_iff.mp h
    simp only [ownLts, Bool.and_eq_true] at k
    exact Reps.cons (Rep.cut hm h1 k.1) (Reps.cut hm h2 k.2)
theorem RepF.cut (hm : μ0 <+: μ) : ∀ {d : List (Str × D)} {v : List (Str × V)}, RepF C F μ d v → ownLtF μ0.length d = true → RepF C F μ0 d v
  | [], _, h, _ => by unfold RepF at h ⊢; exact h
  | p :: ds, v, h, k => by
    unfold RepF at h ⊢
    obtain ⟨x, r, rfl, h1, h2⟩ := h
    simp only [ownLtF, Bool.and_eq_true] at k
    exact ⟨x, r, rfl, Rep.cut hm h1 k.1, RepF.cut hm h2 k.2⟩
end
/-- the cells behind those of S0 are let go -/
def Cut (S0 S S' : Store) : Prop := S' = S.take S0.length ∧ ∀ (k : Nat) (c : Cell), k < S0.length → S[k]? = some c → S0[k]? = some c ∨ cellLt S0.length c = true
theorem SR.cut (s0 : SR C F0 μ0 H0 S0) (x : Ext F0 μ0 H0 F μ H) (s : SR C F μ H S) (h : Cut S0 S S') : SR C F μ0 H S' ∧ Ext F0 μ0 H0 F μ0 H := by
  obtain ⟨rfl, h⟩ := h
  have hl : S0.length ≤ S.length := by rw [← s0.len, ← s.len]; exact x.m.length_le
  have hmem : ∀ a, a ∈ μ0 → a ∈ μ := fun a ha => x.m.subset ha
  refine ⟨⟨s.sub, by rw [s0.len, List.length_take]; exact (Nat.min_eq_left hl).symm, s0.nd, fun a ha => s.alive a (hmem a ha), fun k c a e1 e2 => ?_⟩, ⟨x.f, List.prefix_refl _, x.fr, fun a h1 h2 => absurd h1 h2, x.newF⟩⟩
  have hk : k < S0.length := by rw [← s0.len]; exact (List.getElem?_eq_some_iff.mp e2).1
  rw [List.getElem?_take, if_pos hk] at e1
  have ok := s.cell k c a e1 (pre_get x.m e2)
  have lt : cellLt μ0.length c = true := by
    rcases h k c hk e1 with z | z
    · have ok0 := s0.cell k c a z e2
      cases c with
      | gone => rfl
      | lst ds => obtain ⟨_, vs, _, r⟩ := ok0; exact r.own
      | ins c fs => obtain ⟨_, dx, gs, _, r⟩ := ok0; exact r.own
    · rw [s0.len]; exact z
  cases c with
  | gone => trivial
  | lst ds => obtain ⟨n, vs, h1, r⟩ := ok; exact ⟨n, vs, h1, r.cut x.m lt⟩
  | ins c fs => obtain ⟨n, dx, gs, h1, r⟩ := ok; exact ⟨n, dx, gs, h1, r.cut x.m lt⟩
theorem Cut.app (S0 L : Store) : Cut S0 (S0 ++ L) S0 := ⟨by simp, fun k c hk e => .inl (by rw [List.getElem?_append_left hk] at e; exact e)⟩
theorem Cut.refl (S0 : Store) : Cut S0 S0 S0 := ⟨by simp, fun k c hk e => .inl e⟩
theorem Cut.set (S0 L : Store) (j : Nat) (c : Cell) (h : cellLt S0.length c = true) : Cut S0 (S0.set j c ++ L) (S0.set j c) := ⟨by rw [List.take_append_of_le_length (by simp)]; rw [List.take_of_length_le (by simp)], fun k c' hk e => by
  rw [List.getElem?_append_left (by simpa using hk)] at e
  by_cases hj : j = k
  · subst hj
    rw [List.getElem?_set_self hk] at e
    cases e
    exact .inr h
  · rw [List.getElem?_set_ne hj] at e
    exact .inl e⟩
/-- at a turn's end: as it is, or with the turn's own cells let go -/
def Shr (ρ0 : DEnv) (S0 : Store) (ρ : DEnv) (S : Store) (ρ' : DEnv) (S' : Store) : Prop := (ρ' = ρ ∧ S' = S) ∨
  (Cut S0 S S' ∧ ρ'.length = ρ.length ∧ ∀ (i : Nat) (d : D), ρ'[i]? = some (some d) → ρ[i]? = some (some d) ∧ (ρ0[i]? = some (some d) ∨ ownLt S0.length d = true))
theorem Shr.keep {ρ0 : DEnv} {S0 : Store} {ρ : DEnv} {S : Store} : Shr ρ0 S0 ρ S ρ S := .inl ⟨rfl, rfl⟩
theorem shr_of {σ0 σ : L2.St} {ρ0 ρ ρ' : DEnv} (e0 : EnvR C F0 μ0 σ0 ρ0) (s0 : SR C F0 μ0 H0 S0) (x : Ext F0 μ0 H0 F μ H) (e : EnvR C F μ σ ρ) (s : SR C F μ H S) (h : Shr ρ0 S0 ρ S ρ' S') :
    ∃ μ1, Ext F0 μ0 H0 F μ1 H ∧ EnvR C F μ1 σ ρ' ∧ SR C F μ1 H S' := by
  rcases h with ⟨rfl, rfl⟩ | ⟨hc, hl, he⟩
  · exact ⟨μ, x, e, s⟩
  · obtain ⟨s1, x1⟩ := s0.cut x s hc
    refine ⟨μ0, x1, ⟨hl.trans e.1, fun i d q => ?_⟩, s1⟩
    obtain ⟨h1, h2⟩ := he i d q
    obtain ⟨v, h3, h4⟩ := e.2 i d h1
    refine ⟨v, h3, h4.cut x.m ?_⟩
    rcases h2 with z | z
    · obtain ⟨w, _, h6⟩ := e0.2 i d z
      exact h6.own
    · rw [s0.len]; exact z
end

section
variable {X : Cx} {C : Ct} {W : WX}
/-! ### targets -/
def gN (i : Nat) : TGD := fun d ρ S R _ => R (ρ.set i (some d)) S
theorem dg_name (i : Nat) {x : Str} {pos : Pos} (hN : X.N.Nodup) (hi : X.N[i]? = some x := by rfl) (hx : Loc X.env.scope x := by first | exact Or.inl rfl | exact Or.inr rfl) (hf : X.fn x = true ∨ X.env.scope.names.lookup x = some .local := by first | exact .inl rfl | exact .inr rfl | assumption) : DG X C W (.Name x pos) (gN i) :=
  PG.imp (pg_name hN hi hx hf) fun v σ H Q ⟨F, μ, ρ, S, d, R, Xc, e, s, r, h, hR, hX⟩ => hR F μ H _ _ S (Ext.refl F μ H) (e.set i r) s h
def gNil : TGsD := fun ds ρ S R _ => ds = [] ∧ R ρ S
def gCons (g : TGD) (gs : TGsD) : TGsD := fun ds ρ S R Xc => ∃ d r, ds = d :: r ∧ g d ρ S (fun ρ1 S1 => gs r ρ1 S1 R Xc) Xc
theorem dgs_nil : DGs X C W [] gNil := PGs.imp pgs_nil fun v σ H Q ⟨F, μ, ρ, S, d, R, Xc, e, s, r, ⟨h1, h⟩, hR, hX⟩ => by
  subst h1
  exact ⟨Reps.nil_iff.mp r, hR F μ H _ _ S (Ext.refl F μ H) e s h⟩
def gLook (g : TGD) : Prop := ∀ d ρ S R Xc Xc', g d ρ S R Xc → g d ρ S R Xc'
theorem dgs_cons {e : Expr} {es : List Expr} {g : TGD} {gs : TGsD} (hn : ∀ d ρ S R Xc, g d ρ S R Xc → g d ρ S R (fun _ _ _ => False)) (hns : ∀ d ρ S R Xc, gs d ρ S R Xc → gs d ρ S R (fun _ _ _ => False)) (h1 : DG X C W e g) (h2 : DGs X C W es gs)
    (hs : (assignEach (e :: es) X.env).map (·.2) = assign e X.env :: (assignEach es X.env).map (·.2) := by rfl) : DGs X C W (e :: es) (gCons g gs) :=
  PGs.imp (pgs_cons h1 h2 hs) fun v σ H Q ⟨F, μ, ρ, S, ds, R, Xc, e, s, r, ⟨d, tl, h0, h⟩, hR, hX⟩ => by
    subst h0
    obtain ⟨w, vs, rfl, r1, r2⟩ := Reps.cons_iff.mp r
    refine ⟨w, vs, rfl, F, μ, ρ, S, d, _, _, e, s, r1, hn _ _ _ _ _ h, fun F1 μ1 H1 σ1 ρ1 S1 x1 e1 s1 h1 => ?_, fun _ _ _ _ _ _ _ _ _ _ _ z => z.elim⟩
    exact ⟨F1, μ1, ρ1, S1, tl, R, _, e1, s1, Reps.ext x1 r2, hns _ _ _ _ _ h1, fun F2 μ2 H2 σ2 ρ2 S2 x2 e2 s2 h2 => hR F2 μ2 H2 σ2 ρ2 S2 (x1.trans x2) e2 s2 h2, fun _ _ _ _ _ _ _ _ _ _ _ z => z.elim⟩
/-- a tuple, or a list (frozen, or a cell) -/
def seqD : D → Store → Option (List D)
  | .tup ds, _ => some ds
  | .lst ds, _ => some ds
  | .own k, S => match S[k]? with
    | some (.lst ds) => some ds
    | _ => none
  | _, _ => none
theorem seqV_of {F : Hp} {μ : List Addr} {H : Hp} {S : Store} {d : D} {v : V} {ds : List D} (s : SR C F μ H S) (r : Rep C F μ d v) (h : seqD d S = some ds) : ∃ a vs, v = .ref a ∧ (SqL C.K H a vs ∨ SqT C.K H a vs) ∧ Reps C F μ ds vs := by
  cases d <;> simp only [seqD] at h <;> try (cases h)
  · obtain ⟨a, vs, rfl, q, r2⟩ := Rep.tup_iff.mp r
    exact ⟨a, vs, rfl, .inr (SqT.same s.sub q), r2⟩
  · obtain ⟨a, vs, rfl, q, r2⟩ := Rep.lst_iff.mp r
    exact ⟨a, vs, rfl, .inl (SqL.of (s.sub _ _ q)), r2⟩
  · rename_i k
    obtain ⟨a, rfl, q⟩ := Rep.own_iff.mp r
    split at h
    · rename_i ds' e
      cases h
      obtain ⟨_, vs, h1, h2⟩ := s.cell k _ a e q
      exact ⟨a, vs, rfl, .inl (SqL.of h1), h2⟩
    · cases h
def gT (n : Nat) (gs : TGsD) : TGD := fun d ρ S R Xc => ∃ ds, seqD d S = some ds ∧ ds.length = n ∧ gs ds ρ S R Xc
theorem dg_tup {es : List Expr} {k : Nat} {pos : Pos} {gs : TGsD} {n : Nat} (hK : X.K = C.K) (hc : X.calm = true) (h : DGs X C W es gs) (hn : (assignEach es X.env).length = n := by rfl) (hst : (assignEach es X.env).findIdx? (·.1) = none := by rfl) : DG X C W (.Tuple es k pos) (gT n gs) := by
  refine PG.imp (PG.or (pg_tup hc h hn hst) (pg_lst hc h hn hst)) fun v σ H Q ⟨F, μ, ρ, S, d, R, Xc, e, s, r, ⟨ds, h1, h2, hh⟩, hR, hX⟩ => ?_
  obtain ⟨a, vs, rfl, q, r2⟩ := seqV_of s r h1
  have hl : vs.length = n := by rw [← r2.length]; exact h2
  rcases q with q | q
  · exact .inr ⟨a, vs, rfl, by rw [hK]; exact q, hl, F, μ, ρ, S, ds, R, Xc, e, s, r2, hh, hR, hX⟩
  · exact .inl ⟨a, vs, rfl, by rw [hK]; exact q, hl, F, μ, ρ, S, ds, R, Xc, e, s, r2, hh, hR, hX⟩
/-- xs[i] = d, xs a cell -/
def setD (o i d : D) (S : Store) (Q : Store → Prop) : Prop := ∃ k ds j n, o = .own k ∧ S[k]? = some (.lst ds) ∧ i = .int j ∧ ixN ds.length j = some n ∧ Q (S.set k (.lst (ds.set n d)))
theorem set_of {F : Hp} {μ : List Addr} {H : Hp} {S : Store} {o i d : D} {vo vi v : V} {R : Store → Prop} {Q : Hp → Prop} (s : SR C F μ H S) (ro : Rep C F μ o vo) (ri : Rep C F μ i vi) (r : Rep C F μ d v) (h : setD o i d S R)
    (hR : ∀ H' S', Ext F μ H F μ H' → SR C F μ H' S' → R S' → Q H') : rSetL vo vi v H Q := by
  obtain ⟨k, ds, j, n, rfl, e, rfl, hn, h⟩ := h
  obtain ⟨a, rfl, q⟩ := Rep.own_iff.mp ro
  obtain ⟨_, vs, h1, h2⟩ := s.cell k _ a e q
  have hi := Rep.int_iff.mp ri
  subst hi
  refine ⟨a, vs, j, n, rfl, rfl, h1, by rw [← h2.length]; exact hn, ?_⟩
  obtain ⟨s1, x1⟩ := s.put (o := .lst (vs.set n v)) (c' := .lst (ds.set n d)) e q (by simp) fun hf => ⟨hf, _, upd_same, Reps.set r n h2⟩
  exact hR _ _ x1 s1 h
def gS (ta ti : TD D) : TGD := fun d ρ S R Xc => ta ρ S (fun o S1 => ti ρ S1 (fun i S2 => setD o i d S2 fun S3 => R ρ S3) Xc) Xc
theorem dg_sub {o i : Expr} {ta ti : TD D} {pos : Pos} (ho : DE X C W o ta) (hi : DE X C W i ti) (ha : ∀ v, assign (.Subscript o i pos) X.env v = (do
      let ov ← holding [v] (eval o X.env)
      let iv ← holding [v, ov] (eval i X.env)
      standAt pos
      holding [v, ov, iv] (setItem ov iv v)
      release [v, ov, iv] []) := by intro _; rfl) : DG X C W (.Subscript o i pos) (gS ta ti) :=
  PG.imp (pg_sub ho hi set_list ha) fun v σ H Q ⟨F, μ, ρ, S, d, R, Xc, e, s, r, h, hR, hX⟩ => by
    show lift C W (rV C) ta σ H fun o H1 => lift C W (rV C) ti σ H1 fun i H2 => rSetL o i v H2 fun H3 => Q σ H3
    refine lift_of e s h (fun F1 μ1 H1 vo o1 S1 x1 s1 r1 h1 => ?_) hX
    refine lift_of (e.ext x1) s1 h1 (fun F2 μ2 H2 vi i2 S2 x2 s2 r2 h2 => ?_) fun F2 μ2 H2 cls dd c fs S2 x2 s2 r2 h2 => hX F2 μ2 H2 cls dd c fs S2 (x1.trans x2) s2 r2 h2
    refine set_of s2 (Rep.ext x2 r1) r2 (Rep.ext (x1.trans x2) r) h2 fun H3 S3 x3 s3 h3 => hR F2 μ2 H3 σ ρ S3 ((x1.trans x2).trans x3) (e.ext ((x1.trans x2).trans x3)) s3 h3

/-! ### statements -/
def dNext : TSD := fun E ρ S => E.nx ρ S
def dSeq (t u : TSD) : TSD := fun E ρ S => ∃ J : DEnv → Store → Prop, t (E.wn J) ρ S ∧ ∀ ρ' S', J ρ' S' → u E ρ' S'
variable {st : Stmt} {rest : List Stmt} {t u : TSD} {a b c e : Expr} {ta tb : TD D} {pos : Pos}
theorem dss_nil : DSs X C W [] dNext := PSs.imp pss_nil fun D σ H ⟨F, μ, ρ, S, E, e, s, h, k⟩ => k.nx F μ H σ ρ S (Ext.refl F μ H) e s h
theorem dss_cons (h1 : DS X C W st t) (h2 : DSs X C W rest u) : DSs X C W (st :: rest) (dSeq t u) := PSs.imp (pss_cons h1 h2) fun D σ H ⟨F, μ, ρ, S, E, e, s, ⟨J, h, hJ⟩, k⟩ =>
  ⟨F, μ, ρ, S, _, e, s, h, ⟨fun F' μ' H' σ' ρ' S' x e' s' h' => ⟨F', μ', ρ', S', E, e', s', hJ ρ' S' h', k.ext x⟩, k.rt, k.bk, k.ct, k.ex⟩⟩
theorem dss_one (h1 : DS X C W st t) : DSs X C W [st] t := pss_one h1
theorem ds_pass : DS X C W (.Pass pos) dNext := PS.imp ps_pass fun D σ H ⟨F, μ, ρ, S, E, e, s, h, k⟩ => k.nx F μ H σ ρ S (Ext.refl F μ H) e s h
def dBreak : TSD := fun E ρ S => E.bk ρ S
def dCont : TSD := fun E ρ S => E.ct ρ S
theorem ds_break : DS X C W (.Break pos) dBreak := PS.imp ps_break fun D σ H ⟨F, μ, ρ, S, E, e, s, h, k⟩ => k.bk F μ H σ ρ S (Ext.refl F μ H) e s h
theorem ds_cont : DS X C W (.Continue pos) dCont := PS.imp ps_continue fun D σ H ⟨F, μ, ρ, S, E, e, s, h, k⟩ => k.ct F μ H σ ρ S (Ext.refl F μ H) e s h
theorem ds_doc {x j pos pos'} : DS X C W (.Expr (.Constant (.str x) j pos) pos') dNext := PS.imp ps_doc fun D σ H ⟨F, μ, ρ, S, E, e, s, h, k⟩ => k.nx F μ H σ ρ S (Ext.refl F μ H) e s h
/-- a way that is never taken -/
def dNever : TSD := fun _ _ _ => False
theorem ds_never : DS X C W st dNever := PS.imp ps_never fun D σ H ⟨F, μ, ρ, S, E, e, s, h, k⟩ => h
theorem dss_never {sts : List Stmt} : DSs X C W sts dNever := PSs.imp pss_never fun D σ H ⟨F, μ, ρ, S, E, e, s, h, k⟩ => h
theorem exOf {F : Hp} {μ : List Addr} {H : Hp} {E : EndsD} {D : Ends} {σ : L2.St} {ρ : DEnv} (k : EndOk C W F μ H E D) (e : EnvR C F μ σ ρ) :
    ∀ F' μ' H' cls dd c fs S', Ext F μ H F' μ' H' → SR C F' μ' H' S' → ExcR C F' μ' cls dd c fs → E.ex c fs ρ S' → W cls dd σ H' := fun F' μ' H' cls dd c fs S' x s' r' h' => k.ex F' μ' H' σ ρ S' cls dd c fs x (e.ext x) s' r' h'
def dDrop (ta : TD D) : TSD := fun E ρ S => ta ρ S (fun _ S1 => E.nx ρ S1) fun c fs S1 => E.ex c fs ρ S1
theorem ds_expr (he : DE X C W a ta) (hs : swapsWith a none pos.line X.env = pure false := by rfl) : DS X C W (.Expr a pos) (dDrop ta) := PS.imp (ps_expr he hs) fun D σ H ⟨F, μ, ρ, S, E, e, s, h, k⟩ =>
  lift_of e s h (fun F1 μ1 H1 v d S1 x1 s1 r1 h1 => k.nx F1 μ1 H1 σ ρ S1 x1 (e.ext x1) s1 h1) (exOf k e)
def dRet (ta : TD D) : TSD := fun E ρ S => ta ρ S (fun d S1 => E.rt d S1) fun c fs S1 => E.ex c fs ρ S1
theorem ds_ret (he : DE X C W a ta) : DS X C W (.Return (some a) pos) (dRet ta) := PS.imp (ps_ret he) fun D σ H ⟨F, μ, ρ, S, E, e, s, h, k⟩ =>
  lift_of e s h (fun F1 μ1 H1 v d S1 x1 s1 r1 h1 => k.rt F1 μ1 H1 v d S1 x1 s1 r1 h1) (exOf k e)
def dRetN : TSD := fun E ρ S => E.rt .non S
theorem ds_retN : DS X C W (.Return none pos) dRetN := PS.imp ps_retN fun D σ H ⟨F, μ, ρ, S, E, e, s, h, k⟩ => k.rt F μ H .non .non S (Ext.refl F μ H) s (Rep.non_iff.mpr rfl) h
def dAsg (ta : TD D) (g : TGD) : TSD := fun E ρ S => ta ρ S (fun d S1 => g d ρ S1 E.nx fun c fs S2 => E.ex c fs ρ S2) fun c fs S1 => E.ex c fs ρ S1
theorem tAsg_of {g : TGD} {D : Ends} {σ : L2.St} {H : Hp} (q : liftS C W (dAsg ta g) D σ H) : tAsg (lift C W (rV C) ta) (liftG C W g) D σ H := by
  obtain ⟨F, μ, ρ, S, E, e, s, h, k⟩ := q
  exact lift_of e s h (fun F1 μ1 H1 v d S1 x1 s1 r1 h1 => ⟨F1, μ1, ρ, S1, d, E.nx, _, e.ext x1, s1, r1, h1, fun F2 μ2 H2 σ2 ρ2 S2 x2 e2 s2 h2 => k.nx F2 μ2 H2 σ2 ρ2 S2 (x1.trans x2) e2 s2 h2, exOf (k.ext x1) (e.ext x1)⟩) (exOf k e)
theorem ds_asg {tg : Expr} {g : TGD} (he : DE X C W a ta) (hg : DG X C W tg g) (hs : swapsWithSole [tg] a pos.line X.env = pure false := by rfl) (hw : swappedStores [tg] a X.env = pure none := by rfl)
    (h1 : (assignEach [tg] X.env).map (·.2) = [assign tg X.env] := by rfl) : DS X C W (.Assign [tg] a pos) (dAsg ta g) := PS.imp (ps_asg he hg hs hw h1) fun D σ H q => tAsg_of q
theorem tAsgN_of {i : Nat} {D : Ends} {σ : L2.St} {H : Hp} (q : liftS C W (dAsg ta (gN i)) D σ H) : tAsg (lift C W (rV C) ta) (gName i) D σ H := by
  obtain ⟨F, μ, ρ, S, E, e, s, h, k⟩ := q
  exact lift_of e s h (fun F1 μ1 H1 v d S1 x1 s1 r1 h1 => k.nx F1 μ1 H1 _ _ S1 x1 ((e.ext x1).set i r1) s1 h1) (exOf k e)
theorem ds_set (i : Nat) {x : Str} {pos' : Pos} (hN : X.N.Nodup) (he : DE X C W a ta) (hi : X.N[i]? = some x := by rfl) (hx : Loc X.env.scope x := by first | exact Or.inl rfl | exact Or.inr rfl) (hs : swapsWith a (some (.Name x pos')) pos.line X.env = pure false := by rfl)
    (hf : X.fn x = true ∨ X.env.scope.names.lookup x = some .local := by first | exact .inl rfl | exact .inr rfl | assumption) : DS X C W (.Assign [.Name x pos'] a pos) (dAsg ta (gN i)) := PS.imp (ps_set hN hi hx he hs hf) fun D σ H q => tAsgN_of q
def dIf (A : TD Bool) (t u : TSD) : TSD := fun E ρ S => A ρ S (fun k S1 => if k = true then t E ρ S1 else u E ρ S1) fun c fs S1 => E.ex c fs ρ S1
theorem ds_if {A : TD Bool} {as bs : List Stmt} (hc : DT X C W c A) (ha : DSs X C W as t) (hb : DSs X C W bs u) : DS X C W (.If c as bs pos) (dIf A t u) := PS.imp (ps_if hc ha hb) fun D σ H ⟨F, μ, ρ, S, E, e, s, h, k⟩ =>
  lift_of e s h (fun F1 μ1 H1 b b' S1 x1 s1 r1 h1 => by
    cases r1
    cases b with
    | true => exact ⟨F1, μ1, ρ, S1, E, e.ext x1, s1, h1, k.ext x1⟩
    | false => exact ⟨F1, μ1, ρ, S1, E, e.ext x1, s1, h1, k.ext x1⟩) (exOf k e)
/-- x op= e -/
def dAug (i : Nat) (ta : TD D) (p : P2) : TSD := fun E ρ S => ∃ x, ρ[i]? = some (some x) ∧ ta ρ S (fun y S1 => p x y S1 fun z S2 => E.nx (ρ.set i (some z)) S2) fun c fs S1 => E.ex c fs ρ S1
theorem ds_aug (i : Nat) {x : Str} {op : Operator} {ti : TIp} {p : P2} {pos' : Pos} (hN : X.N.Nodup) (he : DE X C W a ta) (ho : PIp X op ti) (hp : Prim2 C ti p) (hi : X.N[i]? = some x := by rfl) (hx : Loc X.env.scope x := by first | exact Or.inl rfl | exact Or.inr rfl)
    (hf : X.fn x = true ∨ X.env.scope.names.lookup x = some .local := by first | exact .inl rfl | exact .inr rfl | assumption) : DS X C W (.AugAssign (.Name x pos') op a pos) (dAug i ta p) := PS.imp (ps_aug hN hi hx he ho hf) fun D σ H ⟨F, μ, ρ, S, E, e, s, ⟨x, h0, h⟩, k⟩ => by
  obtain ⟨v, h2, h3⟩ := e.2 i x h0
  refine ⟨v, h2, lift_of e s h (fun F1 μ1 H1 w d S1 x1 s1 r1 h1 => ?_) (exOf k e)⟩
  exact hp F1 μ1 H1 S1 v w x d _ _ s1 (Rep.ext x1 h3) r1 h1 fun F2 μ2 H2 z dz S2 x2 s2 r2 h2 => k.nx F2 μ2 H2 _ _ S2 (x1.trans x2) ((e.ext (x1.trans x2)).set i r2) s2 h2
/-- while, by an invariant with a measure -/
def dWhile (A : TD Bool) (t : TSD) : TSD := fun E ρ S => ∃ I : Nat → DEnv → Store → Prop, (∃ m, I m ρ S) ∧ ∀ m ρ S, I m ρ S →
  A ρ S (fun k S1 => if k = true then ∃ N : DEnv → Store → Prop, (∀ ρ' S', N ρ' S' → ∃ m' ρ3 S3, m' < m ∧ Shr ρ S ρ' S' ρ3 S3 ∧ I m' ρ3 S3) ∧ t (E.lp N) ρ S1 else E.nx ρ S1) fun c fs S1 => E.ex c fs ρ S1
theorem ds_while {A : TD Bool} {body : List Stmt} (hp : PassesOwn (model X.prog X.w) X.A X.env X.xe) (hc : DT X C W c A) (hb : DSs X C W body t) : DS X C W (.While c body [] pos) (dWhile A t) := PS.imp (ps_while hp hc hb) fun D σ H ⟨F, μ, ρ, S, E, e, s, ⟨I, ⟨m0, h0⟩, turn⟩, k⟩ => by
  refine ⟨fun m σ1 H1 => ∃ F1 μ1 ρ1 S1, Ext F μ H F1 μ1 H1 ∧ EnvR C F1 μ1 σ1 ρ1 ∧ SR C F1 μ1 H1 S1 ∧ I m ρ1 S1, ⟨m0, F, μ, ρ, S, Ext.refl F μ H, e, s, h0⟩, ?_⟩
  rintro m σ1 H1 ⟨F1, μ1, ρ1, S1, x1, e1, s1, i1⟩
  refine lift_of e1 s1 (turn m ρ1 S1 i1) (fun F2 μ2 H2 b b' S2 x2 s2 r2 h2 => ?_) (exOf (k.ext x1) e1)
  cases r2
  cases b with
  | false => exact k.nx F2 μ2 H2 σ1 ρ1 S2 (x1.trans x2) (e1.ext x2) s2 h2
  | true =>
    obtain ⟨N, hN, h2⟩ := h2
    rw [if_pos rfl]
    refine ⟨fun σ3 H3 => ∃ F3 μ3 ρ3 S3, Ext F1 μ1 H1 F3 μ3 H3 ∧ EnvR C F3 μ3 σ3 ρ3 ∧ SR C F3 μ3 H3 S3 ∧ N ρ3 S3, fun σ3 H3 ⟨F3, μ3, ρ3, S3, x3, e3, s3, n3⟩ => ?_, F2, μ2, ρ1, S2, _, e1.ext x2, s2, h2, ?_⟩
    · obtain ⟨m', ρ4, S4, hm, hs, i3⟩ := hN ρ3 S3 n3
      obtain ⟨μ4, x4, e4, s4⟩ := shr_of e1 s1 x3 e3 s3 hs
      exact ⟨m', hm, F3, μ4, ρ4, S4, x1.trans x4, e4, s4, i3⟩
    · have k2 := (k.ext (x1.trans x2))
      exact ⟨fun F3 μ3 H3 σ3 ρ3 S3 x3 e3 s3 h3 => ⟨F3, μ3, ρ3, S3, x2.trans x3, e3, s3, h3⟩, k2.rt, k2.nx, fun F3 μ3 H3 σ3 ρ3 S3 x3 e3 s3 h3 => ⟨F3, μ3, ρ3, S3, x2.trans x3, e3, s3, h3⟩, k2.ex⟩

/-! ### what is walked -/
/-- items, and what must hold of the store while they are walked -/
abbrev TID := TD (List D × (Store → Prop))
/-- an iterator gives these items -/
structure ItD (C : Ct) (F : Hp) (μ : List Addr) (J : It) (n : Nat) (items : List D) (G : Store → Prop) : Prop where
  go : ∀ i F' μ' H' S', i < n → Same F F' → μ <+: μ' → SR C F' μ' H' S' → G S' → J.go i H'
  stop : ∀ F' μ' H' S', Same F F' → μ <+: μ' → SR C F' μ' H' S' → G S' → J.stop n H'
  yld : ∀ i F' μ' H' S' x H2, i < n → Same F F' → μ <+: μ' → SR C F' μ' H' S' → G S' → J.yld i H' x H2 → ∃ F2 d, Ext F' μ' H' F2 μ' H2 ∧ SR C F2 μ' H2 S' ∧ items[i]? = some d ∧ Rep C F2 μ' d x
  len : items.length = n
def liftI (C : Ct) (W : WX) (t : TID) : TI := fun σ H Q =>
  ∃ (F : Hp) (μ : List Addr) (ρ : DEnv) (S : Store) (R : List D × (Store → Prop) → Store → Prop) (Xc : XcD), EnvR C F μ σ ρ ∧ SR C F μ H S ∧ t ρ S R Xc ∧
    (∀ F' μ' H' J items G S', Ext F μ H F' μ' H' → SR C F' μ' H' S' → ItD C F' μ' J items.length items G → R (items, G) S' → Q J H') ∧
    (∀ F' μ' H' cls dd c fs S', Ext F μ H F' μ' H' → SR C F' μ' H' S' → ExcR C F' μ' cls dd c fs → Xc c fs S' → W cls dd σ H')
abbrev DI (X : Cx) (C : Ct) (W : WX) (tg e : Expr) (t : TID) : Prop := PI X tg e (liftI C W t)
theorem PI.imp {X : Cx} {tg e : Expr} {t t' : TI} (h : PI X tg e t) (k : ∀ σ H Q, t' σ H Q → t σ H Q) : PI X tg e t' := ⟨fun pins s σ H Q I q => h.run pins s σ H Q I (k σ H Q q)⟩
def dFor (ti : TID) (g : TGD) (t : TSD) : TSD := fun E ρ S => ti ρ S (fun it S1 => ∃ I : Nat → DEnv → Store → Prop, I 0 ρ S1 ∧ ∀ i ρ S, I i ρ S → it.2 S ∧ (i = it.1.length → E.nx ρ S) ∧
  ∀ d, it.1[i]? = some d → g d ρ S (fun ρ1 S1 => t (E.lp fun ρ2 S2 => ∃ ρ3 S3, Shr ρ S ρ2 S2 ρ3 S3 ∧ I (i + 1) ρ3 S3) ρ1 S1) fun c fs S1 => E.ex c fs ρ S1) fun c fs S1 => E.ex c fs ρ S1
theorem tFor_of {wi : TI} {ti : TID} {g : TGD} (hw : ∀ σ H Q, liftI C W ti σ H Q → wi σ H Q) {D : Ends} {σ : L2.St} {H : Hp} (q : liftS C W (dFor ti g t) D σ H) : tFor wi (liftG C W g) (liftS C W t) D σ H := by
  obtain ⟨F, μ, ρ, S, E, e, s, h, k⟩ := q
  refine hw σ H _ ⟨F, μ, ρ, S, _, _, e, s, h, fun F1 μ1 H1 J items G S1 x1 s1 it h1 => ?_, exOf k e⟩
  obtain ⟨I, h0, hI⟩ := h1
  refine ⟨fun i m σ2 H2 => m = items.length - i ∧ i ≤ items.length ∧ ∃ F2 μ2 ρ2 S2, Ext F1 μ1 H1 F2 μ2 H2 ∧ EnvR C F2 μ2 σ2 ρ2 ∧ SR C F2 μ2 H2 S2 ∧ I i ρ2 S2, ⟨items.length, by simp, Nat.zero_le _, F1, μ1, ρ, S1, Ext.refl F1 μ1 H1, e.ext x1, s1, h0⟩, ?_⟩
  rintro i m σ2 H2 ⟨rfl, hi, F2, μ2, ρ2, S2, x2, e2, s2, i2⟩
  obtain ⟨hg, hend, hturn⟩ := hI i ρ2 S2 i2
  by_cases hlt : i < items.length
  · refine .inr ⟨it.go i F2 μ2 H2 S2 hlt x2.f x2.m s2 hg, fun σ3 H3 => ∃ F3 μ3 ρ3 S3, Ext F1 μ1 H1 F3 μ3 H3 ∧ EnvR C F3 μ3 σ3 ρ3 ∧ SR C F3 μ3 H3 S3 ∧ I (i + 1) ρ3 S3, fun σ3 H3 ⟨F3, μ3, ρ3, S3, x3, e3, s3, i3⟩ => ⟨items.length - (i + 1), by omega, rfl, hlt, F3, μ3, ρ3, S3, x3, e3, s3, i3⟩, fun x H3 hy => ?_⟩
    obtain ⟨F3, d, x3, s3, hd, r3⟩ := it.yld i F2 μ2 H2 S2 x H3 hlt x2.f x2.m s2 hg hy
    refine ⟨F3, μ2, ρ2, S2, d, _, _, e2.ext x3, s3, r3, hturn d hd, fun F4 μ4 H4 σ4 ρ4 S4 x4 e4 s4 h4 => ?_, exOf ((k.ext (x1.trans x2)).ext x3) (e2.ext x3)⟩
    have k4 := k.ext (((x1.trans x2).trans x3).trans x4)
    have fin : ∀ F5 μ5 H5 σ5 ρ5 S5, Ext F4 μ4 H4 F5 μ5 H5 → EnvR C F5 μ5 σ5 ρ5 → SR C F5 μ5 H5 S5 → (∃ ρ6 S6, Shr ρ2 S2 ρ5 S5 ρ6 S6 ∧ I (i + 1) ρ6 S6) → ∃ F6 μ6 ρ6 S6, Ext F1 μ1 H1 F6 μ6 H5 ∧ EnvR C F6 μ6 σ5 ρ6 ∧ SR C F6 μ6 H5 S6 ∧ I (i + 1) ρ6 S6 := fun F5 μ5 H5 σ5 ρ5 S5 x5 e5 s5 ⟨ρ6, S6, hs, h5⟩ => by
      obtain ⟨μ6, x6, e6, s6⟩ := shr_of e2 s2 (x3.trans (x4.trans x5)) e5 s5 hs
      exact ⟨F5, μ6, ρ6, S6, x2.trans x6, e6, s6, h5⟩
    exact ⟨F4, μ4, ρ4, S4, _, e4, s4, h4, ⟨fin, k4.rt, k4.nx, fin, k4.ex⟩⟩
  · have ei : i = items.length := by omega
    exact .inl ⟨by rw [ei]; exact it.stop F2 μ2 H2 S2 x2.f x2.m s2 hg, k.nx F2 μ2 H2 σ2 ρ2 S2 (x1.trans x2) e2 s2 (hend ei)⟩
theorem ds_for {tg iter : Expr} {body : List Stmt} {ti : TID} {g : TGD} (hp : PassesOwn (model X.prog X.w) X.A X.env X.xe) (hc : X.calm = true) (hi : DI X C W tg iter ti) (hg : DG X C W tg g) (hb : DSs X C W body t)
    (hs : ∀ x, foldedSetIterable iter X.env x = pure x := by intro _; rfl) : DS X C W (.For tg iter body [] pos) (dFor ti g t) := PS.imp (ps_for hp hc hi hg hb hs) fun D σ H q => tFor_of (fun _ _ _ z => z) q
/-- a sequence is walked -/
def iSeq (ta : TD D) : TID := fun ρ S Q Xc => ta ρ S (fun x S1 => ∃ ds, seqD x S1 = some ds ∧ Q (ds, fun S' => seqD x S' = some ds) S1) Xc
theorem pi_seq {X : Cx} {tg e : Expr} {ta : TE} (hl : PE X e ta) : PI X tg e (fun σ H R => ta σ H fun x H1 => ∃ a, x = .ref a ∧ (((∃ xs, SqL X.K H1 a xs) ∧ R (Itl X.K a) H1) ∨ ((∃ xs, SqT X.K H1 a xs) ∧ R (Itt X.K a) H1))) := by
  refine ⟨fun pins s σ H R I h => ?_⟩
  refine thn (hl.run pins s σ H _ I h) fun v s1 ⟨x, H1, I1, r1, q1⟩ => ?_
  obtain ⟨a, e, q⟩ := q1
  subst e
  cases r1
  rcases q with ⟨⟨xs, hq⟩, q⟩ | ⟨⟨xs, hq⟩, q⟩
  · obtain ⟨its, rv, p, hz⟩ := I1.list hq
    refine wpAny_pyIter_list p.isList ?_
    refine ⟨s1.heap.objs.size, [s1.heap.objs.size], _, _, H1, rfl, I1.kept (t' := s1.toks) fun b o e => Heap.get?_push_of_some _ e, turn_list a _, ⟨_, Heap.get?_push_size _ rfl, rfl, rfl⟩, fun b hb => ?_, q⟩
    have e : b = s1.heap.objs.size := by simpa using hb
    subst e
    exact I1.fpOk (Nat.le_refl _) (I1.hok.fresh (Nat.le_refl _))
  · obtain ⟨its, rv, p, hz⟩ := I1.tuple hq
    refine wpAny_pyIter_tuple (show s1.heap.IsTuple a its.toArray from p) ?_
    refine ⟨s1.heap.objs.size, [s1.heap.objs.size], _, _, H1, rfl, I1.kept (t' := s1.toks) fun b o e => Heap.get?_push_of_some _ e, turn_tuple a _, ⟨_, Heap.get?_push_size _ rfl, rfl, rfl⟩, fun b hb => ?_, q⟩
    have e : b = s1.heap.objs.size := by simpa using hb
    subst e
    exact I1.fpOk (Nat.le_refl _) (I1.hok.fresh (Nat.le_refl _))
theorem seq_at {F : Hp} {μ : List Addr} {H : Hp} {S : Store} {x : D} {v : V} {ds : List D} (s : SR C F μ H S) (r : Rep C F μ x v) (h : seqD x S = some ds) : ∃ a, v = .ref a ∧
    ((∀ F' μ' H' S', Same F F' → μ <+: μ' → SR C F' μ' H' S' → seqD x S' = some ds → ∃ vs, SqL C.K H' a vs ∧ Reps C F' μ' ds vs) ∨
     (∀ F' μ' H' S', Same F F' → μ <+: μ' → SR C F' μ' H' S' → seqD x S' = some ds → ∃ vs, SqT C.K H' a vs ∧ Reps C F' μ' ds vs)) := by
  cases x <;> simp only [seqD] at h <;> try (cases h)
  · obtain ⟨a, vs, rfl, q, r2⟩ := Rep.tup_iff.mp r
    exact ⟨a, rfl, .inr fun F' μ' H' S' hF hm s' _ => ⟨vs, SqT.same s'.sub (SqT.same hF q), r2.mono hF hm⟩⟩
  · obtain ⟨a, vs, rfl, q, r2⟩ := Rep.lst_iff.mp r
    exact ⟨a, rfl, .inl fun F' μ' H' S' hF hm s' _ => ⟨vs, SqL.of (s'.sub _ _ (hF _ _ q)), r2.mono hF hm⟩⟩
  · rename_i k
    obtain ⟨a, rfl, q⟩ := Rep.own_iff.mp r
    refine ⟨a, rfl, .inl fun F' μ' H' S' hF hm s' h' => ?_⟩
    simp only [seqD] at h'
    split at h'
    · rename_i ds' e
      cases h'
      obtain ⟨_, vs, h1, h2⟩ := s'.cell k _ a e (pre_get hm q)
      exact ⟨vs, SqL.of h1, h2⟩
    · cases h'
theorem ItD.ofL {F : Hp} {μ : List Addr} {x : D} {ds : List D} {a : Addr} (h : ∀ F' μ' H' S', Same F F' → μ <+: μ' → SR C F' μ' H' S' → seqD x S' = some ds → ∃ vs, SqL C.K H' a vs ∧ Reps C F' μ' ds vs) : ItD C F μ (Itl C.K a) ds.length ds (fun S' => seqD x S' = some ds) := by
  refine ⟨fun i F' μ' H' S' hi hF hm s hg => ?_, fun F' μ' H' S' hF hm s hg => ?_, fun i F' μ' H' S' y H2 hi hF hm s hg hy => ?_, rfl⟩
  · obtain ⟨vs, q, r⟩ := h F' μ' H' S' hF hm s hg
    exact ⟨vs, vs[i]'(by rw [← r.length]; exact hi), q, by simp [r.length ▸ hi]⟩
  · obtain ⟨vs, q, r⟩ := h F' μ' H' S' hF hm s hg
    exact ⟨vs, q, by rw [r.length]; exact Nat.le_refl _⟩
  · obtain ⟨vs, q, r⟩ := h F' μ' H' S' hF hm s hg
    obtain ⟨rfl, hx⟩ := hy
    obtain ⟨d, h1, h2⟩ := r.getV (hx vs q)
    exact ⟨F', d, Ext.refl _ _ _, s, h1, h2⟩
theorem ItD.ofT {F : Hp} {μ : List Addr} {x : D} {ds : List D} {a : Addr} (h : ∀ F' μ' H' S', Same F F' → μ <+: μ' → SR C F' μ' H' S' → seqD x S' = some ds → ∃ vs, SqT C.K H' a vs ∧ Reps C F' μ' ds vs) : ItD C F μ (Itt C.K a) ds.length ds (fun S' => seqD x S' = some ds) := by
  refine ⟨fun i F' μ' H' S' hi hF hm s hg => ?_, fun F' μ' H' S' hF hm s hg => ?_, fun i F' μ' H' S' y H2 hi hF hm s hg hy => ?_, rfl⟩
  · obtain ⟨vs, q, r⟩ := h F' μ' H' S' hF hm s hg
    exact ⟨vs, vs[i]'(by rw [← r.length]; exact hi), q, by simp [r.length ▸ hi]⟩
  · obtain ⟨vs, q, r⟩ := h F' μ' H' S' hF hm s hg
    exact ⟨vs, q, by rw [r.length]; exact Nat.le_refl _⟩
  · obtain ⟨vs, q, r⟩ := h F' μ' H' S' hF hm s hg
    obtain ⟨rfl, hx⟩ := hy
    obtain ⟨d, h1, h2⟩ := r.getV (hx vs q)
    exact ⟨F', d, Ext.refl _ _ _, s, h1, h2⟩
theorem di_seq {tg : Expr} (hK : X.K = C.K) (ha : DE X C W a ta) : DI X C W tg a (iSeq ta) := PI.imp (pi_seq ha) fun σ H Q ⟨F, μ, ρ, S, R, Xc, e, s, h, hR, hX⟩ => by
  refine lift_of e s h (fun F1 μ1 H1 v x S1 x1 s1 r1 ⟨ds, h1, h2⟩ => ?_) hX
  obtain ⟨b, rfl, z⟩ := seq_at s1 r1 h1
  rw [hK]
  refine ⟨b, rfl, ?_⟩
  rcases z with z | z
  · obtain ⟨vs, q, r⟩ := z F1 μ1 H1 S1 (Same.refl _) (List.prefix_refl _) s1 h1
    exact .inl ⟨⟨vs, q⟩, hR F1 μ1 H1 _ ds _ S1 x1 s1 (ItD.ofL z) h2⟩
  · obtain ⟨vs, q, r⟩ := z F1 μ1 H1 S1 (Same.refl _) (List.prefix_refl _) s1 h1
    exact .inr ⟨⟨vs, q⟩, hR F1 μ1 H1 _ ds _ S1 x1 s1 (ItD.ofT z) h2⟩
/-- ranges -/
def intsFrom (lo : Int) (n : Nat) : List D := (List.range n).map fun i => D.int (lo + (i : Nat))
theorem intsFrom_get {lo : Int} {n i : Nat} (h : i < n) : (intsFrom lo n)[i]? = some (.int (lo + i)) := by
  unfold intsFrom; simp [h]
theorem intsFrom_len {lo : Int} {n : Nat} : (intsFrom lo n).length = n := by unfold intsFrom; simp
theorem ItD.rng {F : Hp} {μ : List Addr} {lo : Int} {n : Nat} : ItD C F μ (Itr lo n) (intsFrom lo n).length (intsFrom lo n) (fun _ => True) := by
  rw [intsFrom_len]
  exact ⟨fun i _ _ _ _ hi _ _ _ _ => hi, fun _ _ _ _ _ _ _ _ => Nat.le_refl _, fun i F' μ' H' S' y H2 hi hF hm s hg ⟨e1, e2⟩ => by subst e1; subst e2; exact ⟨F', _, Ext.refl _ _ _, s, intsFrom_get hi, Rep.int_iff.mpr rfl⟩, intsFrom_len⟩
def iRange1 (ta : TD D) : TID := fun ρ S Q Xc => ta ρ S (fun x S1 => ∃ j, x = .int j ∧ j < 2 ^ 62 ∧ -(2 ^ 62) ≤ j ∧ Q (intsFrom 0 j.toNat, fun _ => True) S1) Xc
theorem di_range1 {tg : Expr} {p : Pos} (hm : X.mg "range" = none) (ha : DE X C W a ta) (hs : starEach [a] X.env = [(false, eval a X.env)] := by rfl) (hg : Gl X "range" := by rfl) : DI X C W tg (.Call (.Name "range" p) [a] [] pos) (iRange1 ta) :=
  PI.imp (pi_range1 hg hm (pa_cons ha pa_nil hs) hs) fun σ H Q ⟨F, μ, ρ, S, R, Xc, e, s, h, hR, hX⟩ => by
    refine lift_of e s h (fun F1 μ1 H1 v x S1 x1 s1 r1 ⟨j, h1, h2, h3, h4⟩ => ?_) hX
    subst h1
    exact ⟨j, by rw [Rep.int_iff.mp r1], h3, h2, hR F1 μ1 H1 _ _ _ S1 x1 s1 ItD.rng h4⟩
def iRange2 (ta tb : TD D) : TID := fun ρ S Q Xc => ta ρ S (fun x S1 => tb ρ S1 (fun y S2 => ∃ i j, x = .int i ∧ y = .int j ∧ (-(2 ^ 62) ≤ i ∧ i < 2 ^ 62 ∧ -(2 ^ 62) ≤ j ∧ j < 2 ^ 62) ∧ Q (intsFrom i (j - i).toNat, fun _ => True) S2) Xc) Xc
theorem di_range2 {tg : Expr} {p : Pos} (hm : X.mg "range" = none) (ha : DE X C W a ta) (hb : DE X C W b tb) (hs : starEach [a, b] X.env = [(false, eval a X.env), (false, eval b X.env)] := by rfl) (hs2 : starEach [b] X.env = [(false, eval b X.env)] := by rfl) (hg : Gl X "range" := by rfl) :
    DI X C W tg (.Call (.Name "range" p) [a, b] [] pos) (iRange2 ta tb) :=
  PI.imp (pi_range2 hg hm (pa_cons ha (pa_cons hb pa_nil hs2) (by rw [hs, hs2])) hs hs2) fun σ H Q ⟨F, μ, ρ, S, R, Xc, e, s, h, hR, hX⟩ => by
    refine lift_of e s h (fun F1 μ1 H1 v x S1 x1 s1 r1 h1 => ?_) hX
    refine lift_of (e.ext x1) s1 h1 (fun F2 μ2 H2 w y S2 x2 s2 r2 ⟨i, j, h1, h2, h3, h4⟩ => ?_) fun F2 μ2 H2 cls dd c fs S2 x2 s2 r2 h2 => hX F2 μ2 H2 cls dd c fs S2 (x1.trans x2) s2 r2 h2
    subst h1; subst h2
    exact ⟨i, j, by rw [Rep.int_iff.mp r1, Rep.int_iff.mp r2], h3, hR F2 μ2 H2 _ _ _ S2 (x1.trans x2) s2 ItD.rng h4⟩
end
end OD

/-! OD4: comprehensions, defs and their calls over D. -/
namespace OD
open PySem PySem.Spec L2
open PyProof.Rows hiding St

/-! ### comprehensions -/
def wipeD (ρ : DEnv) : List Nat → DEnv
  | [] => ρ
  | v :: vs => (wipeD ρ vs).set v none
theorem EnvR.wipe {C : Ct} {F : Hp} {μ : List Addr} {σ : L2.St} {ρ : DEnv} (h : EnvR C F μ σ ρ) : ∀ vs : List Nat, EnvR C F μ (L2.wipe σ vs) (wipeD ρ vs)
  | [] => h
  | v :: vs => (EnvR.wipe h vs).unset v
theorem wipe_get {σ : L2.St} : ∀ {vs : List Nat} {i : Nat}, i ∉ vs → (L2.wipe σ vs)[i]? = σ[i]?
  | [], _, _ => rfl
  | v :: vs, i, h => by
    unfold L2.wipe
    rw [List.getElem?_set_ne (fun e => h (by simp [e]))]
    exact wipe_get fun z => h (by simp [z])
theorem wipe_at {σ : L2.St} : ∀ {vs : List Nat} {i : Nat}, i ∈ vs → i < σ.length → (L2.wipe σ vs)[i]? = some none
  | v :: vs, i, h, hl => by
    unfold L2.wipe
    by_cases e : v = i
    · subst e
      rw [List.getElem?_set_self (by rw [wipe_length]; exact hl)]
    · rw [List.getElem?_set_ne e]
      exact wipe_at (by rcases List.mem_cons.mp h with z | z; exact absurd z.symm e; exact z) hl
theorem wipe_set {σ : L2.St} {vs : List Nat} {i : Nat} {o : Option V} (h : i ∈ vs) : L2.wipe (σ.set i o) vs = L2.wipe σ vs := by
  apply List.ext_getElem?
  intro j
  by_cases hj : j ∈ vs
  · by_cases hl : j < σ.length
    · rw [wipe_at hj (by simpa using hl), wipe_at hj hl]
    · rw [List.getElem?_eq_none (by rw [wipe_length]; simp; omega), List.getElem?_eq_none (by rw [wipe_length]; omega)]
  · have hij : i ≠ j := fun e => hj (e ▸ h)
    rw [wipe_get hj, wipe_get hj, List.getElem?_set_ne hij]
theorem wipe_wipe {σ : L2.St} {vs : List Nat} : L2.wipe (L2.wipe σ vs) vs = L2.wipe σ vs := by
  apply List.ext_getElem?
  intro j
  by_cases hj : j ∈ vs
  · by_cases hl : j < σ.length
    · rw [wipe_at hj (by rw [wipe_length]; exact hl), wipe_at hj hl]
    · rw [List.getElem?_eq_none (by rw [wipe_length, wipe_length]; omega), List.getElem?_eq_none (by rw [wipe_length]; omega)]
  · rw [wipe_get hj]
/-- a comprehension's target over D: the new slots -/
abbrev GD := D → DEnv → Store → Option DEnv
def noX : XcD := fun _ _ _ => False
abbrev noW : WX := fun _ _ _ _ => False
def dLc (o : Bool) (ti : TID) (g : GD) (A : TD Bool) (te : TD D) (vs : List Nat) : TD D := fun ρ S Q Xc => ti ρ S (fun it S1 => ∃ I : Nat → List D → Store → Prop, I 0 [] S1 ∧ ∀ i acc S, I i acc S → it.2 S ∧ (i = it.1.length → mkL o acc S Q) ∧
  ∀ d, it.1[i]? = some d → ∃ ρ1, g d (wipeD ρ vs) S = some ρ1 ∧ A ρ1 S (fun k S2 => if k = true then te ρ1 S2 (fun y S3 => acc.length < sizeLine ∧ I (i + 1) (acc ++ [y]) S3) noX else I (i + 1) acc S2) noX) Xc
/-- what a target does: HandS's reading and ours -/
def TgOk (C : Ct) (vs : List Nat) (gh : TG) (g : GD) : Prop := ∀ F μ H S (σ : L2.St) ρ ρ1 x d (Q : L2.St → Hp → Prop), SR C F μ H S → EnvR C F μ (L2.wipe σ vs) ρ → Rep C F μ d x → g d ρ S = some ρ1 →
  (∀ σ2, EnvR C F μ σ2 ρ1 → L2.wipe σ2 vs = L2.wipe σ vs → Q σ2 H) → gh x (L2.wipe σ vs) H Q
theorem frz_late {C : Ct} {F F1 : Hp} {μ μ1 : List Addr} {H H1 : Hp} {S : Store} {D0 : Addr} {acc : List D} {vs : List V} (x : Ext F1 μ1 H1 F μ H) (s : SR C F μ H S) (h1 : H1 D0 = none) (hF : F D0 = none) (hm : D0 ∉ μ) (hD : H D0 = some (.lst vs)) (r : Reps C F μ acc vs) :
    Ext F1 μ1 H1 (upd F D0 (.lst vs)) μ H ∧ SR C (upd F D0 (.lst vs)) μ H S ∧ Rep C (upd F D0 (.lst vs)) μ (.lst acc) (.ref D0) := by
  have sF : Same F (upd F D0 (.lst vs)) := fun b u e => by rw [upd_ne (ne_of_none e hF)]; exact e
  refine ⟨⟨x.f.trans sF, x.m, x.fr, x.new, fun a u e n => ?_⟩, ⟨fun b u e => ?_, s.len, s.nd, s.alive, fun k c a e1 e2 => ?_⟩, Rep.lst_iff.mpr ⟨D0, vs, rfl, upd_same, r.mono sF (List.prefix_refl μ)⟩⟩
  · by_cases ha : a = D0
    · subst ha; exact .inl h1
    · rw [upd_ne ha] at e; exact x.newF a u e n
  · by_cases hb : b = D0
    · subst hb; rw [upd_same] at e; rw [hD]; exact e
    · rw [upd_ne hb] at e; exact s.sub b u e
  · have hap : a ≠ D0 := fun q => hm (q ▸ List.mem_of_getElem? e2)
    exact (s.cell k c a e1 e2).mono sF (List.prefix_refl μ) (fun n _ => by rw [upd_ne hap]; exact n) fun u e => e
theorem cell_late {C : Ct} {F F1 : Hp} {μ μ1 : List Addr} {H H1 : Hp} {S : Store} {D0 : Addr} {acc : List D} {vs : List V} (x : Ext F1 μ1 H1 F μ H) (s : SR C F μ H S) (h1 : H1 D0 = none) (hF : F D0 = none) (hm : D0 ∉ μ) (hD : H D0 = some (.lst vs)) (r : Reps C F μ acc vs) :
    Ext F1 μ1 H1 F (μ ++ [D0]) H ∧ SR C F (μ ++ [D0]) H (S ++ [.lst acc]) ∧ Rep C F (μ ++ [D0]) (.own S.length) (.ref D0) := by
  refine ⟨⟨x.f, x.m.trans (List.prefix_append μ [D0]), x.fr, fun a h n => ?_, x.newF⟩, ⟨s.sub, by simp [s.len], List.nodup_append.mpr ⟨s.nd, by simp, fun a ha b hb => by simp at hb; subst hb; exact fun q => hm (q ▸ ha)⟩, fun a ha => ?_, fun k c a e1 e2 => ?_⟩, Rep.own_iff.mpr ⟨D0, rfl, by rw [← s.len]; simp⟩⟩
  · rcases List.mem_append.mp h with q | q
    · exact x.new a q n
    · simp at q; subst q; exact h1
  · rcases List.mem_append.mp ha with q | q
    · exact s.alive a q
    · simp at q; subst q; rw [hD]; rfl
  · rcases get_snoc e1 with ⟨hk, e1⟩ | ⟨hk, rfl⟩
    · rcases get_snoc e2 with ⟨_, e2⟩ | ⟨hk2, _⟩
      · exact (s.cell k c a e1 e2).mono (Same.refl F) (List.prefix_append μ [D0]) (fun n _ => n) fun u e => e
      · rw [s.len] at hk2; omega
    · rcases get_snoc e2 with ⟨hk2, _⟩ | ⟨_, rfl⟩
      · rw [s.len] at hk2; omega
      · exact ⟨hF, vs, hD, r.mono (Same.refl F) (List.prefix_append μ [a])⟩
/-- an object that nobody looks at is changed -/
theorem SR.aside {C : Ct} {F : Hp} {μ : List Addr} {H : Hp} {S : Store} {D0 : Addr} {o : HO} (s : SR C F μ H S) (hF : F D0 = none) (hm : D0 ∉ μ) : SR C F μ (upd H D0 o) S := by
  refine ⟨fun b u e => ?_, s.len, s.nd, fun a ha => ?_, fun k c a e1 e2 => ?_⟩
  · rw [upd_ne (ne_of_none e hF)]; exact s.sub b u e
  · have hap : a ≠ D0 := fun q => hm (q ▸ ha)
    rw [upd_ne hap]; exact s.alive a ha
  · have hap : a ≠ D0 := fun q => hm (q ▸ List.mem_of_getElem? e2)
    exact (s.cell k c a e1 e2).mono (Same.refl F) (List.prefix_refl μ) (fun n _ => n) fun u e => by rw [upd_ne hap]; exact e
theorem Ext.aside {F F1 : Hp} {μ μ1 : List Addr} {H H1 : Hp} {D0 : Addr} {o : HO} (x : Ext F1 μ1 H1 F μ H) (h1 : H1 D0 = none) : Ext F1 μ1 H1 F μ (upd H D0 o) :=
  ⟨x.f, x.m, fun a u e n => by rw [upd_ne (ne_of_none e h1)]; exact x.fr a u e n, x.new, x.newF⟩
/-- it stays apart -/
theorem Ext.apart {F F1 : Hp} {μ μ1 : List Addr} {H H1 : Hp} {D0 : Addr} {o : HO} (x : Ext F1 μ1 H1 F μ H) (hD : H1 D0 = some o) (hF : F1 D0 = none) (hm : D0 ∉ μ1) : H D0 = some o ∧ F D0 = none ∧ D0 ∉ μ := by
  refine ⟨x.fr D0 o hD hm, ?_, fun z => ?_⟩
  · cases q : F D0 with
    | none => rfl
    | some u =>
      rcases x.newF D0 u q hF with z | z
      · rw [hD] at z; cases z
      · exact absurd z hm
  · have := x.new D0 z hm
    rw [hD] at this; cases this
section
variable {X : Cx} {C : Ct} {W : WX}
theorem tLc_of {o : Bool} {ti : TID} {g : GD} {gh : TG} {A : TD Bool} {te : TD D} {vs : List Nat} (hg : TgOk C vs gh g) {σ : L2.St} {H : Hp} {Q : VK} (q : lift C W (rV C) (dLc o ti g A te vs) σ H Q) :
    tLc (liftI C W ti) gh (lift C noW rB A) (lift C noW (rV C) te) vs σ H Q := by
  obtain ⟨F, μ, ρ, S, R, Xc, e, s, h, hR, hX⟩ := q
  refine ⟨F, μ, ρ, S, _, _, e, s, h, fun F1 μ1 H1 J items G S1 x1 s1 it h1 D0 hD => ?_, hX⟩
  obtain ⟨I, h0, hI⟩ := h1
  have hm1 : D0 ∉ μ1 := s1.notIn hD
  have hF1 : F1 D0 = none := s1.freeF hD
  refine ⟨fun i m H2 => m = items.length - i ∧ i ≤ items.length ∧ ∃ F2 μ2 S2 acc vacc, Ext F1 μ1 H1 F2 μ2 H2 ∧ SR C F2 μ2 H2 S2 ∧ I i acc S2 ∧ H2 D0 = some (.lst vacc) ∧ F2 D0 = none ∧ D0 ∉ μ2 ∧ Reps C F2 μ2 acc vacc,
    ⟨items.length, by simp, Nat.zero_le _, F1, μ1, S1, [], [], (Ext.refl _ _ _).aside hD, s1.aside hF1 hm1, h0, upd_same, hF1, hm1, Reps.nil⟩, ?_⟩
  rintro i m H2 ⟨rfl, hi, F2, μ2, S2, acc, vacc, x2, s2, i2, hD2, hF2, hm2, racc⟩
  obtain ⟨hg2, hend, hturn⟩ := hI i acc S2 i2
  by_cases hlt : i < items.length
  · refine .inr ⟨it.go i F2 μ2 H2 S2 hlt x2.f x2.m s2 hg2, fun H3 => ∃ F3 μ3 S3 acc' vacc', Ext F1 μ1 H1 F3 μ3 H3 ∧ SR C F3 μ3 H3 S3 ∧ I (i + 1) acc' S3 ∧ H3 D0 = some (.lst vacc') ∧ F3 D0 = none ∧ D0 ∉ μ3 ∧ Reps C F3 μ3 acc' vacc',
      fun H3 z => ⟨items.length - (i + 1), by omega, rfl, hlt, z⟩, fun x H3 hy => ?_⟩
    obtain ⟨F3, d, x3, s3, hd, r3⟩ := it.yld i F2 μ2 H2 S2 x H3 hlt x2.f x2.m s2 hg2 hy
    obtain ⟨ρ1, hρ, hA⟩ := hturn d hd
    have e3 : EnvR C F3 μ2 (L2.wipe σ vs) (wipeD ρ vs) := EnvR.ext (x1.trans (x2.trans x3)) (e.wipe vs)
    obtain ⟨hD3, hF3, hm3⟩ := x3.apart hD2 hF2 hm2
    refine hg F3 μ2 H3 S2 σ _ ρ1 x d _ s3 e3 r3 hρ fun σ2 e4 hw => ⟨hw, ?_⟩
    refine lift_of e4 s3 hA (fun F4 μ4 H4 b b' S4 x4 s4 r4 h4 => ?_) (fun _ _ _ _ _ _ _ _ _ _ _ z => z.elim)
    cases r4
    obtain ⟨hD4, hF4, hm4⟩ := x4.apart hD3 hF3 hm3
    cases b with
    | false => exact ⟨F4, μ4, S4, acc, vacc, (x2.trans x3).trans x4, s4, h4, hD4, hF4, hm4, racc.ext (x3.trans x4)⟩
    | true =>
      rw [if_pos rfl]
      refine lift_of (e4.ext x4) s4 h4 (fun F5 μ5 H5 w y S5 x5 s5 r5 ⟨h5, h6⟩ => ?_) (fun _ _ _ _ _ _ _ _ _ _ _ z => z.elim)
      obtain ⟨hD5, hF5, hm5⟩ := x5.apart hD4 hF4 hm4
      have rac5 : Reps C F5 μ5 acc vacc := racc.ext ((x3.trans x4).trans x5)
      exact ⟨vacc, hD5, by rw [← rac5.length]; exact h5, F5, μ5, S5, acc ++ [y], vacc ++ [w], ((x2.trans x3).trans (x4.trans x5)).aside hD, s5.aside hF5 hm5, h6, upd_same, hF5, hm5, Reps.append rac5 (Reps.cons r5 Reps.nil)⟩
  · have ei : i = items.length := by omega
    refine .inl ⟨by rw [ei]; exact it.stop F2 μ2 H2 S2 x2.f x2.m s2 hg2, ?_⟩
    have hend := hend ei
    cases o with
    | false =>
      obtain ⟨x6, s6, r6⟩ := frz_late x2 s2 hD hF2 hm2 hD2 racc
      exact hR _ _ _ _ _ _ (x1.trans x6) s6 r6 hend
    | true =>
      obtain ⟨x6, s6, r6⟩ := cell_late x2 s2 hD hF2 hm2 hD2 racc
      exact hR _ _ _ _ _ _ (x1.trans x6) s6 r6 hend
/-- for x in .. -/
def g1 (i : Nat) : GD := fun d ρ _ => some (ρ.set i (some d))
theorem tg1_ok {C : Ct} {i : Nat} : TgOk C [i] (gName i) (g1 i) := fun F μ H S σ ρ ρ1 x d Q s e r h k => by
  cases h
  exact k _ (e.set i r) (by rw [wipe_set (by simp)]; exact wipe_wipe)
/-- for x, y in .. -/
def g2 (i j : Nat) : GD := fun d ρ S => match seqD d S with
  | some [a, b] => some ((ρ.set i (some a)).set j (some b))
  | _ => none
def gh2 (K : PySem.W.Frag) (i j : Nat) : TG := fun v σ H Q => gTup K 2 (L2.gCons (gName i) (L2.gCons (gName j) L2.gNil)) v σ H Q ∨ gLst K 2 (L2.gCons (gName i) (L2.gCons (gName j) L2.gNil)) v σ H Q
theorem tg2_ok {C : Ct} {i j : Nat} : TgOk C [i, j] (gh2 C.K i j) (g2 i j) := fun F μ H S σ ρ ρ1 x d Q s e r h k => by
  unfold g2 at h
  split at h
  · rename_i a b hs
    cases h
    obtain ⟨p, vs, rfl, q, r2⟩ := seqV_of s r hs
    obtain ⟨v1, r', rfl, q1, r3⟩ := Reps.cons_iff.mp r2
    obtain ⟨v2, r', rfl, q2, r4⟩ := Reps.cons_iff.mp r3
    rw [Reps.nil_iff] at r4; subst r4
    have fin := k _ ((e.set i q1).set j q2) (by rw [wipe_set (by simp), wipe_set (by simp)]; exact wipe_wipe)
    rcases q with q | q
    · exact .inr ⟨p, _, rfl, q, rfl, v1, _, rfl, v2, _, rfl, rfl, fin⟩
    · exact .inl ⟨p, _, rfl, q, rfl, v1, _, rfl, v2, _, rfl, rfl, fin⟩
  · cases h
abbrev DTs (X : Cx) (C : Ct) (W : WX) (e : List Expr) (t : TD Bool) : Prop := PTs X e (lift C W rB t)
theorem PTs.imp {X : Cx} {e : List Expr} {t t' : TT} (h : PTs X e t) (k : ∀ σ H Q, t' σ H Q → t σ H Q) : PTs X e t' := ⟨fun pins s σ H Q I q => h.run pins s σ H Q I (k σ H Q q)⟩
def dYes : TD Bool := fun _ S Q _ => Q true S
theorem dts_nil : DTs X C W [] dYes := PTs.imp pts_nil fun σ H Q ⟨F, μ, ρ, S, R, Xc, e, s, h, hR, hX⟩ => hR F μ H true true S (Ext.refl F μ H) s rfl h
theorem dts_one {c : Expr} {A : TD Bool} (h : DT X C W c A) : DTs X C W [c] A := pts_one h
variable {elt iter : Expr} {ifs : List Expr} {scope : Scope} {pos : Pos} {ti : TID} {A : TD Bool} {te : TD D} {o : Bool} {x y : Str} {px py pt : Pos} {kt : Nat}
abbrev Blk (X : Cx) (scope : Scope) (P : Cx → Prop) : Prop := ∀ (s : Shared) (H : Hp) (Cc : Addr) (cl : List (Str × Addr)) (fp : List Addr), P (X.blk s H scope (compEnvC scope cl Cc X.env) fp)
theorem de_lc1 (i : Nat) (hc : X.calm = true) (hN : X.N.Nodup) (hi : DI X C W (.Name x px) iter ti) (ok : BlkOk X.N X.env.scope scope [(x, i)])
    (hg : Blk X scope fun Y => PG Y (.Name x px) (gName i)) (ht : Blk X scope fun Y => DTs Y C noW ifs A) (he : Blk X scope fun Y => DE Y C noW elt te) (hs : ∀ z, foldedSetIterable iter X.env z = pure z := by intro _; rfl) :
    DE X C W (.ListComp elt [⟨.Name x px, iter, ifs, 0⟩] scope pos) (dLc o ti (g1 i) A te [i]) :=
  PE.imp (pe_lc hc hN hi ok hg ht he hs) fun σ H Q q => tLc_of tg1_ok q
theorem PG.or' {Y : Cx} {e : Expr} {t t' : TG} (h : PG Y e t) (h' : PG Y e t') : PG Y e (fun v σ H Q => t v σ H Q ∨ t' v σ H Q) := PG.or h h'
theorem de_lc2 (i j : Nat) (hK : X.K = C.K) (hc : X.calm = true) (hN : X.N.Nodup) (hi : DI X C W (.Tuple [.Name x px, .Name y py] kt pt) iter ti) (ok : BlkOk X.N X.env.scope scope [(x, i), (y, j)])
    (hg : Blk X scope fun Y => PG Y (.Name x px) (gName i)) (hg' : Blk X scope fun Y => PG Y (.Name y py) (gName j)) (ht : Blk X scope fun Y => DTs Y C noW ifs A) (he : Blk X scope fun Y => DE Y C noW elt te) (hs : ∀ z, foldedSetIterable iter X.env z = pure z := by intro _; rfl) :
    DE X C W (.ListComp elt [⟨.Tuple [.Name x px, .Name y py] kt pt, iter, ifs, 0⟩] scope pos) (dLc o ti (g2 i j) A te [i, j]) :=
  PE.imp (pe_lc (own := [(x, i), (y, j)]) (g := gh2 C.K i j) hc hN hi ok (fun s H Cc cl fp => by
    rw [← hK]
    exact PG.or (pg_tup hc (pgs_cons (hg s H Cc cl fp) (pgs_cons (hg' s H Cc cl fp) pgs_nil)) rfl rfl) (pg_lst hc (pgs_cons (hg s H Cc cl fp) (pgs_cons (hg' s H Cc cl fp) pgs_nil)) rfl rfl)) ht he hs) fun σ H Q q => tLc_of tg2_ok q
/-- y = [..] on one line -/
theorem ds_setLc1 (i j : Nat) {v : Str} {pv spos : Pos} (hc : X.calm = true) (hN : X.N.Nodup) (hy : X.N[j]? = some v) (hyl : X.env.scope.names.lookup v = some .local)
    (hsw : swapsWith (.ListComp elt [⟨.Name x px, iter, ifs, 0⟩] scope pos) (some (.Name v pv)) spos.line X.env = pure true) (hi : DI X C W (.Name x px) iter ti) (ok : BlkOk X.N X.env.scope scope [(x, i)])
    (hg : Blk X scope fun Y => PG Y (.Name x px) (gName i)) (ht : Blk X scope fun Y => DTs Y C noW ifs A) (he : Blk X scope fun Y => DE Y C noW elt te) (hs : ∀ z, foldedSetIterable iter X.env z = pure z := by intro _; rfl) :
    DS X C W (.Assign [.Name v pv] (.ListComp elt [⟨.Name x px, iter, ifs, 0⟩] scope pos) spos) (dAsg (dLc o ti (g1 i) A te [i]) (gN j)) :=
  PS.imp (ps_setLc (i := j) hc hN hy hyl hsw hi ok hg ht he hs) fun Dd σ H ⟨F, μ, ρ, S, E, e, s, h, k⟩ => by
    exact tLc_of tg1_ok (lift_of e s h (fun F1 μ1 H1 v d S1 x1 s1 r1 h1 => k.nx F1 μ1 H1 _ _ S1 x1 ((e.ext x1).set j r1) s1 h1) (exOf k e))
theorem ds_setLc2 (i j l : Nat) {v : Str} {pv spos : Pos} (hK : X.K = C.K) (hc : X.calm = true) (hN : X.N.Nodup) (hy : X.N[l]? = some v) (hyl : X.env.scope.names.lookup v = some .local)
    (hsw : swapsWith (.ListComp elt [⟨.Tuple [.Name x px, .Name y py] kt pt, iter, ifs, 0⟩] scope pos) (some (.Name v pv)) spos.line X.env = pure true) (hi : DI X C W (.Tuple [.Name x px, .Name y py] kt pt) iter ti) (ok : BlkOk X.N X.env.scope scope [(x, i), (y, j)])
    (hg : Blk X scope fun Y => PG Y (.Name x px) (gName i)) (hg' : Blk X scope fun Y => PG Y (.Name y py) (gName j)) (ht : Blk X scope fun Y => DTs Y C noW ifs A) (he : Blk X scope fun Y => DE Y C noW elt te) (hs : ∀ z, foldedSetIterable iter X.env z = pure z := by intro _; rfl) :
    DS X C W (.Assign [.Name v pv] (.ListComp elt [⟨.Tuple [.Name x px, .Name y py] kt pt, iter, ifs, 0⟩] scope pos) spos) (dAsg (dLc o ti (g2 i j) A te [i, j]) (gN l)) :=
  PS.imp (ps_setLc (i := l) (own := [(x, i), (y, j)]) (g := gh2 C.K i j) hc hN hy hyl hsw hi ok (fun s H Cc cl fp => by
    rw [← hK]
    exact PG.or (pg_tup hc (pgs_cons (hg s H Cc cl fp) (pgs_cons (hg' s H Cc cl fp) pgs_nil)) rfl rfl) (pg_lst hc (pgs_cons (hg s H Cc cl fp) (pgs_cons (hg' s H Cc cl fp) pgs_nil)) rfl rfl)) ht he hs) fun Dd σ H ⟨F, μ, ρ, S, E, e, s, h, k⟩ => by
    exact tLc_of tg2_ok (lift_of e s h (fun F1 μ1 H1 v d S1 x1 s1 r1 h1 => k.nx F1 μ1 H1 _ _ S1 x1 ((e.ext x1).set l r1) s1 h1) (exOf k e))

/-! ### defs -/
abbrev SpD := List D → Store → (D → Store → Prop) → XcD → Prop
def liftP (C : Ct) (sp : SpD) : Sp := fun vs H Q E => ∃ (F : Hp) (μ : List Addr) (ds : List D) (S : Store) (R : D → Store → Prop) (Xc : XcD), Reps C F μ ds vs ∧ SR C F μ H S ∧ sp ds S R Xc ∧
  (∀ F' μ' H' v d S', Ext F μ H F' μ' H' → SR C F' μ' H' S' → Rep C F' μ' d v → R d S' → Q v H') ∧
  (∀ F' μ' H' cls dd c fs S', Ext F μ H F' μ' H' → SR C F' μ' H' S' → ExcR C F' μ' cls dd c fs → Xc c fs S' → E cls dd H')
/-- the number of arguments -/
def Arity (n : Nat) (sp : SpD) : Prop := ∀ ds S R Xc, sp ds S R Xc → ds.length = n
/-- a def keeps its promise over D -/
structure FnD (P : Program) (w : World) (C : Ct) (mg : Str → Option Value) (base : Heap) (k : Nat) (x : Str) (ps : List Str) (sp : SpD) : Prop where
  ex : ∃ f fd, mg x = some (.ref f) ∧ PySem.W.keepIn C.K (.ref f) = true ∧ Binds C.K fd ps [] ∧ FnOk P w C.K mg base (L2.CX P w) k f fd ps (liftP C sp)
def dCall (sp : SpD) (u : TD (List D)) : TD D := fun ρ S Q Xc => u ρ S (fun ds S1 => sp ds S1 Q Xc) Xc
theorem tCallS_of {sp : SpD} {u : TD (List D)} {σ : L2.St} {H : Hp} {Q : VK} (q : lift C W (rV C) (dCall sp u) σ H Q) : tCallS (liftP C sp) (WE W) (lift C W (rVs C) u) σ H Q :=
  lift_bind (u := fun ds _ S Q Xc => sp ds S Q Xc) (g := fun vs H1 Q => liftP C sp vs H1 Q (WE W σ)) q fun F μ ρ H S x v R Xc e s rx hu hR hX => ⟨F, μ, x, S, R, Xc, rx, s, hu, hR, hX⟩
theorem de_call {k j : Nat} {ps : List Str} {sp : SpD} {a : Expr} {es : List Expr} {u : TD (List D)} {q : Pos} (hK : X.K = C.K) (F : FnD X.prog X.w C X.mg X.base k x ps sp) (hr : Room j X.A) (tk : Takes X W) (ha : DA X C W (a :: es) u) (hkj : k ≤ j := by decide) (hg : Gl X x := by rfl)
    (hdb : (x == ("__debug__" : Str)) = false := by decide) (he : starEach (a :: es) X.env = (false, eval a X.env) :: starEach es X.env := by rfl) (hpl : (backTo pos (starEach es X.env)).any (·.1) = false := by rfl) :
    DE X C W (.Call (.Name x q) (a :: es) [] pos) (dCall sp u) := by
  obtain ⟨f, fd, hm, hk, hb, ok⟩ := F.ex
  rw [← hK] at hk hb ok
  exact PE.imp (pe_callS ok (hr.mono hkj) hg hm hk hb (fun σ => passAt tk σ) ha hdb he hpl) fun σ H Q z => tCallS_of z
/-- the slots at a def's start -/
def startD (n : Nat) (ds : List D) : DEnv := ds.map some ++ List.replicate n none
theorem start_env {F : Hp} {μ : List Addr} {N : List Str} {ds : List D} {vs : List V} {n : Nat} (r : Reps C F μ ds vs) (hN : ds.length + n = N.length) : EnvR C F μ (L2.start N vs) (startD n ds) := by
  have hl := r.length
  refine ⟨?_, fun i d h => ?_⟩
  · unfold startD L2.start; simp; omega
  · unfold startD at h
    by_cases hi : i < ds.length
    · rw [List.getElem?_append_left (by simpa using hi), List.getElem?_map] at h
      cases e : ds[i]? with
      | none => rw [e] at h; cases h
      | some z =>
        rw [e] at h; cases h
        obtain ⟨v, h1, h2⟩ := r.get e
        refine ⟨v, ?_, h2⟩
        unfold L2.start
        rw [List.getElem?_append_left (by simp; omega), List.getElem?_map, h1]; rfl
    · rw [List.getElem?_append_right (by simp; omega), List.getElem?_replicate] at h
      split at h <;> cases h
end
end OD

/-! OD5: the operations by values. -/
namespace OD
open PySem PySem.Spec L2
open PyProof.Rows hiding St
section
variable {X : Cx} {C : Ct} {W : WX}
/-! ### whole numbers -/
/-- two ints -/
def pI (c : Int → Int → Prop) (g : Int → Int → D) : P2 := fun x y S Q => match x, y with
  | .int i, .int j => c i j ∧ Q (g i j) S
  | _, _ => False
def pI0 (g : Int → Int → D) : P2 := fun x y S Q => match x, y with
  | .int i, .int j => Q (g i j) S
  | _, _ => False
theorem pI_ok {c : Int → Int → Prop} {g : Int → Int → D} {g' : Int → Int → V} (h : ∀ i j, Flat (g i j) (g' i j)) : Prim2 C (rI c g') (pI c g) := fun F μ H S x y dx dy R Q s rx ry hp hR => by
  cases dx <;> cases dy <;> simp only [pI] at hp
  all_goals try exact hp.elim
  exact ⟨_, _, Rep.int_iff.mp rx, Rep.int_iff.mp ry, hp.1, hR F μ H _ _ S (Ext.refl F μ H) s (h _ _).rep hp.2⟩
theorem pI0_ok {g : Int → Int → D} {g' : Int → Int → V} (h : ∀ i j, Flat (g i j) (g' i j)) : Prim2 C (rI0 g') (pI0 g) := fun F μ H S x y dx dy R Q s rx ry hp hR => by
  cases dx <;> cases dy <;> simp only [pI0] at hp
  all_goals try exact hp.elim
  exact ⟨_, _, Rep.int_iff.mp rx, Rep.int_iff.mp ry, hR F μ H _ _ S (Ext.refl F μ H) s (h _ _).rep hp⟩
def pSub : P2 := pI0 fun i j => .int (i - j)
def pDiv : P2 := pI CDivW fun i j => .int (i / j)
def pMod : P2 := pI (fun _ j => 0 < j) fun i j => .int (i % j)
def pPow : P2 := pI CPow fun i j => .int (i ^ j.toNat)
def pLt : P2 := pI0 fun i j => .bl (decide (i < j))
def pLe : P2 := pI0 fun i j => .bl (decide (i ≤ j))
def pGt : P2 := pI0 fun i j => .bl (decide (j < i))
def pGe : P2 := pI0 fun i j => .bl (decide (j ≤ i))
theorem de_sub {a b ta tb pos} (ha : DE X C W a ta) (hb : DE X C W b tb) : DE X C W (.BinOp a .Sub b pos) (dOp pSub ta tb) := de_op op_sub (pI0_ok fun _ _ => rfl) ha hb
theorem de_div {a b ta tb pos} (ha : DE X C W a ta) (hb : DE X C W b tb) : DE X C W (.BinOp a .FloorDiv b pos) (dOp pDiv ta tb) := de_op op_fdivW (pI_ok fun _ _ => rfl) ha hb
theorem de_mod {a b ta tb pos} (ha : DE X C W a ta) (hb : DE X C W b tb) : DE X C W (.BinOp a .Mod b pos) (dOp pMod ta tb) := de_op op_mod (pI_ok fun _ _ => rfl) ha hb
theorem de_pow {a b ta tb pos} (ha : DE X C W a ta) (hb : DE X C W b tb) : DE X C W (.BinOp a .Pow b pos) (dOp pPow ta tb) := de_op op_pow (pI_ok fun _ _ => rfl) ha hb
theorem de_lt {a b ta tb pos} (ha : DE X C W a ta) (hb : DE X C W b tb) : DE X C W (.Compare a [.Lt] [b] pos) (dOp pLt ta tb) := de_cmp op_lt (pI0_ok fun _ _ => rfl) ha hb
theorem de_le {a b ta tb pos} (ha : DE X C W a ta) (hb : DE X C W b tb) : DE X C W (.Compare a [.LtE] [b] pos) (dOp pLe ta tb) := de_cmp op_le (pI0_ok fun _ _ => rfl) ha hb
theorem de_gt {a b ta tb pos} (ha : DE X C W a ta) (hb : DE X C W b tb) : DE X C W (.Compare a [.Gt] [b] pos) (dOp pGt ta tb) := de_cmp op_gt (pI0_ok fun _ _ => rfl) ha hb
theorem de_ge {a b ta tb pos} (ha : DE X C W a ta) (hb : DE X C W b tb) : DE X C W (.Compare a [.GtE] [b] pos) (dOp pGe ta tb) := de_cmp op_ge (pI0_ok fun _ _ => rfl) ha hb
theorem dt_lt {a b ta tb pos} (ha : DE X C W a ta) (hb : DE X C W b tb) : DT X C W (.Compare a [.Lt] [b] pos) (dB (dOp pLt ta tb)) := dt_cmp op_lt (pI0_ok fun _ _ => rfl) ha hb
theorem dt_le {a b ta tb pos} (ha : DE X C W a ta) (hb : DE X C W b tb) : DT X C W (.Compare a [.LtE] [b] pos) (dB (dOp pLe ta tb)) := dt_cmp op_le (pI0_ok fun _ _ => rfl) ha hb
theorem dt_gt {a b ta tb pos} (ha : DE X C W a ta) (hb : DE X C W b tb) : DT X C W (.Compare a [.Gt] [b] pos) (dB (dOp pGt ta tb)) := dt_cmp op_gt (pI0_ok fun _ _ => rfl) ha hb
theorem dt_ge {a b ta tb pos} (ha : DE X C W a ta) (hb : DE X C W b tb) : DT X C W (.Compare a [.GtE] [b] pos) (dB (dOp pGe ta tb)) := dt_cmp op_ge (pI0_ok fun _ _ => rfl) ha hb
theorem dt_lele {a b c ta tb tc pos} (ha : DE X C W a ta) (hb : DE X C W b tb) (hc : DE X C W c tc) (hm : lastMarks [.LtE, .LtE] [b, c] = false := by rfl) : DT X C W (.Compare a [.LtE, .LtE] [b, c] pos) (dB (dChain pLe pLe ta tb tc)) := dt_chain op_le op_le (pI0_ok fun _ _ => rfl) (pI0_ok fun _ _ => rfl) ha hb hc hm
theorem dt_lelt {a b c ta tb tc pos} (ha : DE X C W a ta) (hb : DE X C W b tb) (hc : DE X C W c tc) (hm : lastMarks [.LtE, .Lt] [b, c] = false := by rfl) : DT X C W (.Compare a [.LtE, .Lt] [b, c] pos) (dB (dChain pLe pLt ta tb tc)) := dt_chain op_le op_lt (pI0_ok fun _ _ => rfl) (pI0_ok fun _ _ => rfl) ha hb hc hm
theorem dt_ltlt {a b c ta tb tc pos} (ha : DE X C W a ta) (hb : DE X C W b tb) (hc : DE X C W c tc) (hm : lastMarks [.Lt, .Lt] [b, c] = false := by rfl) : DT X C W (.Compare a [.Lt, .Lt] [b, c] pos) (dB (dChain pLt pLt ta tb tc)) := dt_chain op_lt op_lt (pI0_ok fun _ _ => rfl) (pI0_ok fun _ _ => rfl) ha hb hc hm
theorem de_lele {a b c ta tb tc pos} (ha : DE X C W a ta) (hb : DE X C W b tb) (hc : DE X C W c tc) (hm : lastMarks [.LtE, .LtE] [b, c] = false := by rfl) : DE X C W (.Compare a [.LtE, .LtE] [b, c] pos) (dChain pLe pLe ta tb tc) := de_chain op_le op_le (pI0_ok fun _ _ => rfl) (pI0_ok fun _ _ => rfl) ha hb hc hm
def pNeg : P1 := fun x S Q => match x with
  | .int i => Q (.int (-i)) S
  | _ => False
theorem de_neg {a ta pos} (ha : DE X C W a ta) : DE X C W (.UnaryOp .USub a pos) (dUn pNeg ta) := de_un un_neg (fun F μ H S x dx R Q s rx hp hR => by
  cases dx <;> simp only [pNeg] at hp
  all_goals try exact hp.elim
  exact ⟨_, Rep.int_iff.mp rx, hR F μ H _ _ S (Ext.refl F μ H) s (Rep.int_iff.mpr rfl) hp⟩) ha

/-! ### + of ints, texts, tuples, lists -/
/-- a list: frozen or a cell -/
def seqL : D → Store → Option (List D)
  | .lst ds, _ => some ds
  | .own k, S => match S[k]? with
    | some (.lst ds) => some ds
    | _ => none
  | _, _ => none
theorem lstV_of {F : Hp} {μ : List Addr} {H : Hp} {S : Store} {d : D} {v : V} {ds : List D} (s : SR C F μ H S) (r : Rep C F μ d v) (h : seqL d S = some ds) : ∃ a vs, v = .ref a ∧ H a = some (.lst vs) ∧ Reps C F μ ds vs := by
  cases d <;> simp only [seqL] at h <;> try (cases h)
  · obtain ⟨a, vs, rfl, q, r2⟩ := Rep.lst_iff.mp r
    exact ⟨a, vs, rfl, s.sub _ _ q, r2⟩
  · rename_i k
    obtain ⟨a, rfl, q⟩ := Rep.own_iff.mp r
    split at h
    · rename_i ds' e
      cases h
      obtain ⟨_, vs, h1, h2⟩ := s.cell k _ a e q
      exact ⟨a, vs, rfl, h1, h2⟩
    · cases h
def pAdd (o : Bool) : P2 := fun x y S Q => match x, y with
  | .int i, .int j => Q (.int (i + j)) S
  | .str i, .str j => i.length + j.length ≤ sizeLine ∧ Q (.str (i ++ j)) S
  | .tup a, .tup b => a.length + b.length ≤ sizeLine ∧ Q (.tup (a ++ b)) S
  | x, y => ∃ a b, seqL x S = some a ∧ seqL y S = some b ∧ a.length + b.length ≤ sizeLine ∧ mkL o (a ++ b) S Q
theorem pAdd_lists {o : Bool} {x y : D} {S : Store} {Q : D → Store → Prop} (h : pAdd o x y S Q) (h1 : ∀ i j, ¬ (x = .int i ∧ y = .int j)) (h2 : ∀ i j, ¬ (x = .str i ∧ y = .str j)) (h3 : ∀ i j, ¬ (x = .tup i ∧ y = .tup j)) :
    ∃ a b, seqL x S = some a ∧ seqL y S = some b ∧ a.length + b.length ≤ sizeLine ∧ mkL o (a ++ b) S Q := by
  unfold pAdd at h
  split at h
  · exact absurd ⟨rfl, rfl⟩ (h1 _ _)
  · exact absurd ⟨rfl, rfl⟩ (h2 _ _)
  · exact absurd ⟨rfl, rfl⟩ (h3 _ _)
  · exact h
theorem tup_res {F : Hp} {μ : List Addr} {H : Hp} {S : Store} {xs : List D} {vs : List V} {p : Addr} {R : D → Store → Prop} {Q : V → Hp → Prop} (s : SR C F μ H S) (r : Reps C F μ xs vs) (hp : H p = none) (h : R (.tup xs) S)
    (hR : ∀ F' μ' H' v d S', Ext F μ H F' μ' H' → SR C F' μ' H' S' → Rep C F' μ' d v → R d S' → Q v H') : Q (.ref p) (upd H p (.tup vs)) := by
  obtain ⟨F1, x1, s1, r1⟩ := mk_tup s r hp
  exact hR _ _ _ _ _ _ x1 s1 r1 h
theorem pAdd_ok {K : PySem.W.Frag} (hK : K = C.K) (o : Bool) : Prim2 C (fun x y H Q => (rI0 (fun i j => .int (i + j))) x y H Q ∨ (∃ i j, x = .str i ∧ y = .str j ∧ i.length + j.length ≤ sizeLine ∧ Q (.str (i ++ j)) H) ∨ rCatA K x y H Q ∨ rCat x y H Q) (pAdd o) := fun F μ H S x y dx dy R Q s rx ry hp hR => by
  subst hK
  unfold pAdd at hp
  split at hp
  · exact .inl ⟨_, _, Rep.int_iff.mp rx, Rep.int_iff.mp ry, hR F μ H _ _ S (Ext.refl F μ H) s (Rep.int_iff.mpr rfl) hp⟩
  · exact .inr (.inl ⟨_, _, Rep.str_iff.mp rx, Rep.str_iff.mp ry, hp.1, hR F μ H _ _ S (Ext.refl F μ H) s (Rep.str_iff.mpr rfl) hp.2⟩)
  · obtain ⟨a, vs, rfl, qa, ra⟩ := Rep.tup_iff.mp rx
    obtain ⟨b, ws, rfl, qb, rb⟩ := Rep.tup_iff.mp ry
    refine .inr (.inr (.inl ⟨a, b, vs, ws, rfl, rfl, SqT.same s.sub qa, SqT.same s.sub qb, by rw [← ra.length, ← rb.length]; exact hp.1, fun e => ?_, fun e1 e2 => ?_, fun e1 e2 p hp' => tup_res s (ra.append rb) hp' hp.2 hR⟩))
    · subst e
      have := ra.length
      rw [List.length_nil, List.length_eq_zero_iff] at this
      rw [this] at hp
      exact hR F μ H _ _ S (Ext.refl F μ H) s ry hp.2
    · subst e2
      have := rb.length
      rw [List.length_nil, List.length_eq_zero_iff] at this
      rw [this, List.append_nil] at hp
      exact hR F μ H _ _ S (Ext.refl F μ H) s rx hp.2
  · obtain ⟨a, b, h1, h2, h3, h4⟩ := hp
    obtain ⟨p, vs, rfl, qa, ra⟩ := lstV_of s rx h1
    obtain ⟨q, ws, rfl, qb, rb⟩ := lstV_of s ry h2
    exact .inr (.inr (.inr ⟨p, q, vs, ws, rfl, rfl, qa, qb, by rw [← ra.length, ← rb.length]; exact h3, fun l hl => mk_lst s (ra.append rb) hl h4 hR⟩))
theorem de_add (o : Bool) {a b ta tb pos} (hK : X.K = C.K) (ha : DE X C W a ta) (hb : DE X C W b tb) : DE X C W (.BinOp a .Add b pos) (dOp (pAdd o) ta tb) :=
  de_op (OpR.or op_add (OpR.or op_add_str (OpR.or op_catA op_cat))) (pAdd_ok hK o) ha hb
theorem de_addI {a b ta tb pos} (ha : DE X C W a ta) (hb : DE X C W b tb) : DE X C W (.BinOp a .Add b pos) (dOp (pI0 fun i j => .int (i + j)) ta tb) := de_op op_add (pI0_ok fun _ _ => rfl) ha hb
/-! ### * of ints, of a list by an int -/
def pMul (o : Bool) : P2 := fun x y S Q => match x, y with
  | .int i, .int j => (CMul i j ∨ CMulW i j) ∧ Q (.int (i * j)) S
  | x, .int k => ∃ a, seqL x S = some a ∧ -(2 ^ 63) ≤ k ∧ k < 2 ^ 63 ∧ a.length * k.toNat ≤ sizeLine ∧ mkL o (List.replicate k.toNat a).flatten S Q
  | _, _ => False
theorem Reps.rep {F : Hp} {μ : List Addr} {ds : List D} {vs : List V} (h : Reps C F μ ds vs) : ∀ k : Nat, Reps C F μ (List.replicate k ds).flatten (List.replicate k vs).flatten
  | 0 => Reps.nil
  | k + 1 => by
    rw [List.replicate_succ, List.replicate_succ, List.flatten_cons, List.flatten_cons]
    exact h.append (Reps.rep h k)
theorem pMul_ok (o : Bool) : Prim2 C (fun x y H Q => ((rI CMul (fun i j => .int (i * j))) x y H Q ∨ (rI CMulW (fun i j => .int (i * j))) x y H Q) ∨ rRep x y H Q) (pMul o) := fun F μ H S x y dx dy R Q s rx ry hp hR => by
  unfold pMul at hp
  split at hp
  · rcases hp.1 with z | z
    · exact .inl (.inl ⟨_, _, Rep.int_iff.mp rx, Rep.int_iff.mp ry, z, hR F μ H _ _ S (Ext.refl F μ H) s (Rep.int_iff.mpr rfl) hp.2⟩)
    · exact .inl (.inr ⟨_, _, Rep.int_iff.mp rx, Rep.int_iff.mp ry, z, hR F μ H _ _ S (Ext.refl F μ H) s (Rep.int_iff.mpr rfl) hp.2⟩)
  · obtain ⟨a, h1, h2, h3, h4, h5⟩ := hp
    obtain ⟨p, vs, rfl, qa, ra⟩ := lstV_of s rx h1
    refine .inr ⟨p, _, vs, rfl, Rep.int_iff.mp ry, qa, h2, h3, by rw [← ra.length]; exact h4, fun l hl => mk_lst s (ra.rep _) hl h5 hR⟩
  · exact hp.elim
theorem de_mul (o : Bool) {a b ta tb pos} (ha : DE X C W a ta) (hb : DE X C W b tb) : DE X C W (.BinOp a .Mult b pos) (dOp (pMul o) ta tb) := de_op (OpR.or (OpR.or op_mul op_mulW) op_rep) (pMul_ok o) ha hb

/-! ### == -/
mutual
def toPy (S : Store) : D → Option PyData
  | .non => some .none
  | .bl b => some (.bool b)
  | .int i => some (.int i)
  | .str z => some (.str z)
  | .tup ds => (toPys S ds).map .tuple
  | .lst ds => (toPys S ds).map .list
  | _ => none
def toPys (S : Store) : List D → Option (List PyData)
  | [] => some []
  | d :: ds => match toPy S d, toPys S ds with
    | some x, some xs => some (x :: xs)
    | _, _ => none
end
mutual
theorem dp_of {F : Hp} {μ : List Addr} {H : Hp} {S : Store} (s : SR C F μ H S) : ∀ {d : D} {v : V} {p : PyData}, Rep C F μ d v → toPy S d = some p → Dp C.K H v p
  | .non, v, p, r, h => by
    simp only [toPy] at h; cases h; rw [Rep.non_iff.mp r]; exact .non
  | .bl b, v, p, r, h => by
    simp only [toPy] at h; cases h; rw [Rep.bl_iff.mp r]; exact .bl b
  | .int b, v, p, r, h => by
    simp only [toPy] at h; cases h; rw [Rep.int_iff.mp r]; exact .int b
  | .str b, v, p, r, h => by
    simp only [toPy] at h; cases h; rw [Rep.str_iff.mp r]; exact .str b
  | .tup ds, v, p, r, h => by
    simp only [toPy] at h
    obtain ⟨a, vs, rfl, q, r2⟩ := Rep.tup_iff.mp r
    cases e : toPys S ds with
    | none => rw [e] at h; cases h
    | some ps =>
      rw [e] at h; cases h
      exact .tup (SqT.same s.sub q) (dps_of s r2 e)
  | .lst ds, v, p, r, h => by
    simp only [toPy] at h
    obtain ⟨a, vs, rfl, q, r2⟩ := Rep.lst_iff.mp r
    cases e : toPys S ds with
    | none => rw [e] at h; cases h
    | some ps =>
      rw [e] at h; cases h
      exact .lst (SqL.of (s.sub _ _ q)) (dps_of s r2 e)
  | .scr _, _, _, _, h => by simp [toPy] at h
  | .obj _ _, _, _, _, h => by simp [toPy] at h
  | .own _, _, _, _, h => by simp [toPy] at h
  | .ty _, _, _, _, h => by simp [toPy] at h
  | .cls _, _, _, _, h => by simp [toPy] at h
  | .exc _ _, _, _, _, h => by simp [toPy] at h
theorem dps_of {F : Hp} {μ : List Addr} {H : Hp} {S : Store} (s : SR C F μ H S) : ∀ {d : List D} {v : List V} {p : List PyData}, Reps C F μ d v → toPys S d = some p → DpAll C.K H v p
  | [], v, p, r, h => by
    simp only [toPys] at h; cases h; rw [Reps.nil_iff.mp r]; exact .nil
  | d :: ds, v, p, r, h => by
    simp only [toPys] at h
    obtain ⟨x, xs, rfl, r1, r2⟩ := Reps.cons_iff.mp r
    split at h
    · rename_i y ys e1 e2
      cases h
      exact .cons (dp_of s r1 e1) (dps_of s r2 e2)
    · cases h
end
/-- the data at the top: a cell is read -/
def topPy (S : Store) (d : D) : Option PyData := match d with
  | .own k => match S[k]? with
    | some (.lst ds) => (toPys S ds).map .list
    | _ => none
  | d => toPy S d
theorem tdp_of {F : Hp} {μ : List Addr} {H : Hp} {S : Store} (s : SR C F μ H S) {d : D} {v : V} {p : PyData} (r : Rep C F μ d v) (h : topPy S d = some p) : Dp C.K H v p := by
  unfold topPy at h
  split at h
  · rename_i k
    obtain ⟨a, rfl, q⟩ := Rep.own_iff.mp r
    split at h
    · rename_i ds e
      obtain ⟨_, vs, h1, h2⟩ := s.cell k _ a e q
      cases e2 : toPys S ds with
      | none => rw [e2] at h; cases h
      | some ps =>
        rw [e2] at h; cases h
        exact .lst (SqL.of h1) (dps_of s h2 e2)
    · cases h
  · exact dp_of s r h
/-- == over D; g: what is handed on of the answer -/
def pEqG (g : Bool → Bool) : P2 := fun x y S Q => match x, y with
  | .int i, .int j => Q (.bl (g (decide (i = j)))) S
  | .str i, .str j => Q (.bl (g (decide (i = j)))) S
  | .bl i, .bl j => Q (.bl (g (decide (i = j)))) S
  | x, y => ∃ d e, topPy S x = some d ∧ topPy S y = some e ∧ SeqAt.shaped d = true ∧ SeqAt.shaped e = true ∧ Q (.bl (g (PyData.eqv d e))) S
abbrev pEq : P2 := pEqG fun b => b
abbrev pNe : P2 := pEqG fun b => !b
theorem pEq_ok {K : PySem.W.Frag} (hK : K = C.K) : Prim2 C (fun x y H Q => rEq x y H Q ∨ rEqD K x y H Q) pEq := fun F μ H S x y dx dy R Q s rx ry hp hR => by
  subst hK
  unfold pEq pEqG at hp
  split at hp
  · rw [Rep.int_iff.mp rx, Rep.int_iff.mp ry]
    refine .inl ⟨rfl, hR F μ H _ _ S (Ext.refl F μ H) s ?_ hp⟩
    simp [Rep.bl_iff]
  · rw [Rep.str_iff.mp rx, Rep.str_iff.mp ry]
    refine .inl ⟨rfl, hR F μ H _ _ S (Ext.refl F μ H) s ?_ hp⟩
    simp [Rep.bl_iff]
  · rw [Rep.bl_iff.mp rx, Rep.bl_iff.mp ry]
    refine .inl ⟨rfl, hR F μ H _ _ S (Ext.refl F μ H) s ?_ hp⟩
    simp [Rep.bl_iff]
  · obtain ⟨d, e, h1, h2, h3, h4, h5⟩ := hp
    exact .inr ⟨d, e, tdp_of s rx h1, tdp_of s ry h2, h3, h4, hR F μ H _ _ S (Ext.refl F μ H) s (Rep.bl_iff.mpr rfl) h5⟩
theorem pNe_ok {K : PySem.W.Frag} (hK : K = C.K) : Prim2 C (fun x y H Q => rNe x y H Q ∨ rNeD K x y H Q) pNe := fun F μ H S x y dx dy R Q s rx ry hp hR => by
  subst hK
  unfold pNe pEqG at hp
  split at hp
  · rw [Rep.int_iff.mp rx, Rep.int_iff.mp ry]
    refine .inl ⟨rfl, hR F μ H _ _ S (Ext.refl F μ H) s ?_ hp⟩
    simp [Rep.bl_iff]
  · rw [Rep.str_iff.mp rx, Rep.str_iff.mp ry]
    refine .inl ⟨rfl, hR F μ H _ _ S (Ext.refl F μ H) s ?_ hp⟩
    simp [Rep.bl_iff]
  · rw [Rep.bl_iff.mp rx, Rep.bl_iff.mp ry]
    refine .inl ⟨rfl, hR F μ H _ _ S (Ext.refl F μ H) s ?_ hp⟩
    simp [Rep.bl_iff]
  · obtain ⟨d, e, h1, h2, h3, h4, h5⟩ := hp
    exact .inr ⟨d, e, tdp_of s rx h1, tdp_of s ry h2, h3, h4, hR F μ H _ _ S (Ext.refl F μ H) s (Rep.bl_iff.mpr rfl) h5⟩
theorem hu64 {A : Around} {k : Nat} (hr : Room k A) : A.units + 64 < cLine := hr.units
theorem de_eq {a b ta tb pos} {k : Nat} (hK : X.K = C.K) (hr : Room k X.A) (ha : DE X C W a ta) (hb : DE X C W b tb) : DE X C W (.Compare a [.Eq] [b] pos) (dOp pEq ta tb) := de_cmp (OpR.or op_eq (op_eqD (hu64 hr))) (pEq_ok hK) ha hb
theorem dt_eq {a b ta tb pos} {k : Nat} (hK : X.K = C.K) (hr : Room k X.A) (ha : DE X C W a ta) (hb : DE X C W b tb) : DT X C W (.Compare a [.Eq] [b] pos) (dB (dOp pEq ta tb)) := dt_cmp (OpR.or op_eq (op_eqD (hu64 hr))) (pEq_ok hK) ha hb
theorem de_ne {a b ta tb pos} {k : Nat} (hK : X.K = C.K) (hr : Room k X.A) (ha : DE X C W a ta) (hb : DE X C W b tb) : DE X C W (.Compare a [.NotEq] [b] pos) (dOp pNe ta tb) := de_cmp (OpR.or op_ne (op_neD (hu64 hr))) (pNe_ok hK) ha hb
theorem dt_ne {a b ta tb pos} {k : Nat} (hK : X.K = C.K) (hr : Room k X.A) (ha : DE X C W a ta) (hb : DE X C W b tb) : DT X C W (.Compare a [.NotEq] [b] pos) (dB (dOp pNe ta tb)) := dt_cmp (OpR.or op_ne (op_neD (hu64 hr))) (pNe_ok hK) ha hb
/-- is None -/
def isNoneD : D → Bool
  | .non => true
  | _ => false
def pIs : P2 := fun x y S Q => y = .non ∧ Q (.bl (isNoneD x)) S
def pIsNot : P2 := fun x y S Q => y = .non ∧ Q (.bl (!isNoneD x)) S
theorem isNone_rep {F : Hp} {μ : List Addr} {d : D} {v : V} (r : Rep C F μ d v) : decide (v = V.non) = isNoneD d := by
  cases d with
  | non => rw [Rep.non_iff.mp r]; rfl
  | bl b => rw [Rep.bl_iff.mp r]; rfl
  | int b => rw [Rep.int_iff.mp r]; rfl
  | str b => rw [Rep.str_iff.mp r]; rfl
  | tup b => obtain ⟨a, vs, rfl, _⟩ := Rep.tup_iff.mp r; rfl
  | lst b => obtain ⟨a, vs, rfl, _⟩ := Rep.lst_iff.mp r; rfl
  | scr b => obtain ⟨a, rfl, _⟩ := Rep.scr_iff.mp r; rfl
  | obj c fs => obtain ⟨a, dx, gs, rfl, _⟩ := Rep.obj_iff.mp r; rfl
  | own b => obtain ⟨a, rfl, _⟩ := Rep.own_iff.mp r; rfl
  | ty b => rw [Rep.ty_iff.mp r]; rfl
  | cls b => rw [Rep.cls_iff.mp r]; rfl
  | exc c fs => obtain ⟨a, gs, rfl, _⟩ := Rep.exc_iff.mp r; rfl
theorem pIs_ok : Prim2 C (fun x y H Q => y = .non ∧ Q (.bl (decide (x = .non))) H) pIs := fun F μ H S x y dx dy R Q s rx ry ⟨h1, h2⟩ hR => by
  subst h1
  refine ⟨Rep.non_iff.mp ry, ?_⟩
  rw [isNone_rep rx]
  exact hR F μ H _ _ S (Ext.refl F μ H) s (Rep.bl_iff.mpr rfl) h2
theorem pIsNot_ok : Prim2 C (fun x y H Q => y = .non ∧ Q (.bl (!decide (x = .non))) H) pIsNot := fun F μ H S x y dx dy R Q s rx ry ⟨h1, h2⟩ hR => by
  subst h1
  refine ⟨Rep.non_iff.mp ry, ?_⟩
  rw [isNone_rep rx]
  exact hR F μ H _ _ S (Ext.refl F μ H) s (Rep.bl_iff.mpr rfl) h2
theorem de_is {a b ta tb pos} (ha : DE X C W a ta) (hb : DE X C W b tb) : DE X C W (.Compare a [.Is] [b] pos) (dOp pIs ta tb) := de_cmp op_isN pIs_ok ha hb
theorem dt_is {a b ta tb pos} (ha : DE X C W a ta) (hb : DE X C W b tb) : DT X C W (.Compare a [.Is] [b] pos) (dB (dOp pIs ta tb)) := dt_cmp op_isN pIs_ok ha hb
theorem de_isnot {a b ta tb pos} (ha : DE X C W a ta) (hb : DE X C W b tb) : DE X C W (.Compare a [.IsNot] [b] pos) (dOp pIsNot ta tb) := de_cmp op_notN pIsNot_ok ha hb
theorem dt_isnot {a b ta tb pos} (ha : DE X C W a ta) (hb : DE X C W b tb) : DT X C W (.Compare a [.IsNot] [b] pos) (dB (dOp pIsNot ta tb)) := dt_cmp op_notN pIsNot_ok ha hb

/-! ### subscripts -/
def pIx : P2 := fun x y S Q => match x, y with
  | .str z, .int i => ∃ c, z.length ≤ sizeLine ∧ atI z.cps.toList i = some c ∧ Q (.str ⟨#[c]⟩) S
  | x, .int i => ∃ ds d, seqD x S = some ds ∧ atI ds i = some d ∧ Q d S
  | _, _ => False
theorem Reps.atI {F : Hp} {μ : List Addr} {ds : List D} {vs : List V} {i : Int} {d : D} (r : Reps C F μ ds vs) (h : L2.atI ds i = some d) : ∃ v, L2.atI vs i = some v ∧ Rep C F μ d v := by
  unfold L2.atI at h ⊢
  rw [← r.length]
  cases e : ixN ds.length i with
  | none => rw [e] at h; cases h
  | some j =>
    rw [e] at h
    exact r.get h
theorem pIx_ok {K : PySem.W.Frag} (hK : K = C.K) : Prim2 C (rIx K) pIx := fun F μ H S x y dx dy R Q s rx ry hp hR => by
  subst hK
  unfold pIx at hp
  split at hp
  · obtain ⟨c, h1, h2, h3⟩ := hp
    exact .inr (.inr ⟨_, _, c, Rep.str_iff.mp rx, Rep.int_iff.mp ry, h1, h2, hR F μ H _ _ S (Ext.refl F μ H) s (Rep.str_iff.mpr rfl) h3⟩)
  · obtain ⟨ds, d, h1, h2, h3⟩ := hp
    obtain ⟨a, vs, rfl, q, r2⟩ := seqV_of s rx h1
    obtain ⟨v, h4, h5⟩ := r2.atI h2
    have fin := hR F μ H v d S (Ext.refl F μ H) s h5 h3
    rcases q with q | q
    · exact .inl ⟨a, vs, _, v, rfl, Rep.int_iff.mp ry, q, h4, fin⟩
    · exact .inr (.inl ⟨a, vs, _, v, rfl, Rep.int_iff.mp ry, q, h4, fin⟩)
  · exact hp.elim
theorem de_item {a b ta tb pos} (hK : X.K = C.K) (ha : DE X C W a ta) (hb : DE X C W b tb) (hs : PlainIx b := by exact fun _ _ => rfl) : DE X C W (.Subscript a b pos) (dOp pIx ta tb) := de_ix ix_seq (pIx_ok hK) ha hb hs

/-! ### built-in functions -/
def pLen : PN := fun xs S Q => match xs with
  | [.str z] => z.length ≤ sizeLine ∧ Q (.int z.length) S
  | [x] => ∃ ds, seqD x S = some ds ∧ Q (.int ds.length) S
  | _ => False
theorem pLen_ok {K : PySem.W.Frag} (hK : K = C.K) : PrimN C (fun xs H Q => ∃ x n, xs = [x] ∧ LenV K x H n ∧ Q (.int n) H) pLen := fun F μ H S xs ds R Q s r hp hR => by
  subst hK
  unfold pLen at hp
  split at hp
  · obtain ⟨v, r', rfl, h1, h2⟩ := Reps.cons_iff.mp r
    rw [Reps.nil_iff] at h2; subst h2
    rw [Rep.str_iff.mp h1]
    exact ⟨_, _, rfl, ⟨hp.1, rfl⟩, hR F μ H _ _ S (Ext.refl F μ H) s (Rep.int_iff.mpr rfl) hp.2⟩
  · obtain ⟨v, r', rfl, h1, h2⟩ := Reps.cons_iff.mp r
    rw [Reps.nil_iff] at h2; subst h2
    obtain ⟨ds, h3, h4⟩ := hp
    obtain ⟨a, vs, rfl, q, r2⟩ := seqV_of s h1 h3
    have fin := hR F μ H (.int ds.length) _ S (Ext.refl F μ H) s (Rep.int_iff.mpr rfl) h4
    rcases q with q | q
    · exact ⟨_, ds.length, rfl, .inl ⟨vs, q, r2.length⟩, fin⟩
    · exact ⟨_, ds.length, rfl, .inr ⟨vs, q, r2.length⟩, fin⟩
  · exact hp.elim
def pAbs : PN := fun xs S Q => match xs with
  | [.int i] => Q (.int (if i < 0 then -i else i)) S
  | _ => False
theorem pAbs_ok : PrimN C (fun xs H Q => ∃ i, xs = [.int i] ∧ Q (.int (if i < 0 then -i else i)) H) pAbs := fun F μ H S xs ds R Q s r hp hR => by
  unfold pAbs at hp
  split at hp
  · obtain ⟨v, r', rfl, h1, h2⟩ := Reps.cons_iff.mp r
    rw [Reps.nil_iff] at h2; subst h2
    rw [Rep.int_iff.mp h1]
    exact ⟨_, rfl, hR F μ H _ _ S (Ext.refl F μ H) s (Rep.int_iff.mpr rfl) hp⟩
  · exact hp.elim
/-- int(i) of an int, of a bool -/
def pInt : PN := fun xs S Q => match xs with
  | [.int i] => Q (.int i) S
  | [.bl b] => Q (.int (if b then 1 else 0)) S
  | _ => False
theorem pInt_ok : PrimN C (fun xs H Q => (∃ i, xs = [.int i] ∧ Q (.int i) H) ∨ ∃ k, xs = [.bl k] ∧ Q (.int (if k then 1 else 0)) H) pInt := fun F μ H S xs ds R Q s r hp hR => by
  unfold pInt at hp
  split at hp
  · obtain ⟨v, r', rfl, h1, h2⟩ := Reps.cons_iff.mp r
    rw [Reps.nil_iff] at h2; subst h2
    rw [Rep.int_iff.mp h1]
    exact .inl ⟨_, rfl, hR F μ H _ _ S (Ext.refl F μ H) s (Rep.int_iff.mpr rfl) hp⟩
  · obtain ⟨v, r', rfl, h1, h2⟩ := Reps.cons_iff.mp r
    rw [Reps.nil_iff] at h2; subst h2
    rw [Rep.bl_iff.mp h1]
    exact .inr ⟨_, rfl, hR F μ H _ _ S (Ext.refl F μ H) s (Rep.int_iff.mpr rfl) hp⟩
  · exact hp.elim
def pMax2 : PN := fun xs S Q => match xs with
  | [.int i, .int j] => Q (.int (if j > i then j else i)) S
  | _ => False
def pMin2 : PN := fun xs S Q => match xs with
  | [.int i, .int j] => Q (.int (if j < i then j else i)) S
  | _ => False
theorem pMax2_ok : PrimN C (fun xs H Q => ∃ i j, xs = [.int i, .int j] ∧ Q (.int (if j > i then j else i)) H) pMax2 := fun F μ H S xs ds R Q s r hp hR => by
  unfold pMax2 at hp
  split at hp
  · obtain ⟨v, r', rfl, h1, h2⟩ := Reps.cons_iff.mp r
    obtain ⟨v2, r', rfl, h3, h4⟩ := Reps.cons_iff.mp h2
    rw [Reps.nil_iff] at h4; subst h4
    rw [Rep.int_iff.mp h1, Rep.int_iff.mp h3]
    exact ⟨_, _, rfl, hR F μ H _ _ S (Ext.refl F μ H) s (Rep.int_iff.mpr rfl) hp⟩
  · exact hp.elim
theorem pMin2_ok : PrimN C (fun xs H Q => ∃ i j, xs = [.int i, .int j] ∧ Q (.int (if j < i then j else i)) H) pMin2 := fun F μ H S xs ds R Q s r hp hR => by
  unfold pMin2 at hp
  split at hp
  · obtain ⟨v, r', rfl, h1, h2⟩ := Reps.cons_iff.mp r
    obtain ⟨v2, r', rfl, h3, h4⟩ := Reps.cons_iff.mp h2
    rw [Reps.nil_iff] at h4; subst h4
    rw [Rep.int_iff.mp h1, Rep.int_iff.mp h3]
    exact ⟨_, _, rfl, hR F μ H _ _ S (Ext.refl F μ H) s (Rep.int_iff.mpr rfl) hp⟩
  · exact hp.elim
/-- list(x), x a list, a tuple, the script -/
def pList (o : Bool) : PN := fun xs S Q => match xs with
  | [.scr ns] => mkL o (ns.map D.int) S Q
  | [x] => ∃ ds, seqD x S = some ds ∧ mkL o ds S Q
  | _ => False
theorem pList_ok {K : PySem.W.Frag} (hK : K = C.K) (o : Bool) : PrimN C (fun xs H Q => ∃ p ys, xs = [.ref p] ∧ (SqL K H p ys ∨ SqT K H p ys) ∧ ∀ l, H l = none → Q (.ref l) (upd H l (.lst ys))) (pList o) := fun F μ H S xs ds R Q s r hp hR => by
  subst hK
  unfold pList at hp
  split at hp
  · obtain ⟨v, r', rfl, h1, h2⟩ := Reps.cons_iff.mp r
    rw [Reps.nil_iff] at h2; subst h2
    obtain ⟨a, rfl, q⟩ := Rep.scr_iff.mp h1
    exact ⟨a, _, rfl, .inl (s.sub.seq q), fun l hl => mk_lst s (Reps.ints _) hl hp hR⟩
  · obtain ⟨v, r', rfl, h1, h2⟩ := Reps.cons_iff.mp r
    rw [Reps.nil_iff] at h2; subst h2
    obtain ⟨ds, h3, h4⟩ := hp
    obtain ⟨a, vs, rfl, q, r2⟩ := seqV_of s h1 h3
    exact ⟨a, vs, rfl, q, fun l hl => mk_lst s r2 hl h4 hR⟩
  · exact hp.elim
/-- tuple(x) -/
def pTuple : PN := fun xs S Q => match xs with
  | [x] => ∃ ds, seqD x S = some ds ∧ Q (.tup ds) S
  | _ => False
theorem pTuple_ok {K : PySem.W.Frag} (hK : K = C.K) : PrimN C (fun xs H Q => ∃ p ys, xs = [.ref p] ∧ ((SqL K H p ys ∧ ∀ l, H l = none → Q (.ref l) (upd H l (.tup ys))) ∨ (SqT K H p ys ∧ Q (.ref p) H))) pTuple := fun F μ H S xs ds R Q s r hp hR => by
  subst hK
  unfold pTuple at hp
  split at hp
  · obtain ⟨v, r', rfl, h1, h2⟩ := Reps.cons_iff.mp r
    rw [Reps.nil_iff] at h2; subst h2
    obtain ⟨ds, h3, h4⟩ := hp
    rename_i x
    cases x <;> simp only [seqD] at h3 <;> try (cases h3)
    · obtain ⟨a, vs, rfl, q, r2⟩ := Rep.tup_iff.mp h1
      exact ⟨a, vs, rfl, .inr ⟨SqT.same s.sub q, hR F μ H _ _ S (Ext.refl F μ H) s h1 h4⟩⟩
    · obtain ⟨a, vs, rfl, q, r2⟩ := Rep.lst_iff.mp h1
      exact ⟨a, vs, rfl, .inl ⟨SqL.of (s.sub _ _ q), fun l hl => tup_res s r2 hl h4 hR⟩⟩
    · rename_i k
      obtain ⟨a, rfl, q⟩ := Rep.own_iff.mp h1
      split at h3
      · rename_i ds' e
        cases h3
        obtain ⟨_, vs, h5, h6⟩ := s.cell k _ a e q
        exact ⟨a, vs, rfl, .inl ⟨SqL.of h5, fun l hl => tup_res s h6 hl h4 hR⟩⟩
      · cases h3
  · exact hp.elim
variable {a : Expr} {es : List Expr} {u : TD (List D)} {pos q : Pos}
theorem de_len (hK : X.K = C.K) (hm : X.mg "len" = none) (ha : DA X C W (a :: es) u) (hg : Gl X "len" := by rfl) (he : starEach (a :: es) X.env = (false, eval a X.env) :: starEach es X.env := by rfl) (hpl : (backTo pos (starEach es X.env)).any (·.1) = false := by rfl) : DE X C W (.Call (.Name "len" q) (a :: es) [] pos) (dCB pLen u) :=
  de_callB call_len (pLen_ok hK) hm ha (hg := hg) (he := he) (hpl := hpl) (hv := boot_len)
theorem de_abs (hm : X.mg "abs" = none) (ha : DA X C W (a :: es) u) (hg : Gl X "abs" := by rfl) (he : starEach (a :: es) X.env = (false, eval a X.env) :: starEach es X.env := by rfl) (hpl : (backTo pos (starEach es X.env)).any (·.1) = false := by rfl) : DE X C W (.Call (.Name "abs" q) (a :: es) [] pos) (dCB pAbs u) :=
  de_callB call_abs pAbs_ok hm ha (hg := hg) (he := he) (hpl := hpl) (hv := by decide +kernel)
theorem de_intC (hm : X.mg "int" = none) (ha : DA X C W (a :: es) u) (hg : Gl X "int" := by rfl) (he : starEach (a :: es) X.env = (false, eval a X.env) :: starEach es X.env := by rfl) (hpl : (backTo pos (starEach es X.env)).any (·.1) = false := by rfl) : DE X C W (.Call (.Name "int" q) (a :: es) [] pos) (dCB pInt u) :=
  de_callTy call_int1 pInt_ok hm ha (hg := hg) (he := he) (hpl := hpl) (hv := by decide +kernel)
theorem de_max2 (hc : X.calm = true) (hm : X.mg "max" = none) (ha : DA X C W (a :: es) u) (hg : Gl X "max" := by rfl) (he : starEach (a :: es) X.env = (false, eval a X.env) :: starEach es X.env := by rfl) (hpl : (backTo pos (starEach es X.env)).any (·.1) = false := by rfl) : DE X C W (.Call (.Name "max" q) (a :: es) [] pos) (dCB pMax2 u) :=
  de_callB (call_max2 hc) pMax2_ok hm ha (hg := hg) (he := he) (hpl := hpl) (hv := by decide +kernel)
theorem de_min2 (hc : X.calm = true) (hm : X.mg "min" = none) (ha : DA X C W (a :: es) u) (hg : Gl X "min" := by rfl) (he : starEach (a :: es) X.env = (false, eval a X.env) :: starEach es X.env := by rfl) (hpl : (backTo pos (starEach es X.env)).any (·.1) = false := by rfl) : DE X C W (.Call (.Name "min" q) (a :: es) [] pos) (dCB pMin2 u) :=
  de_callB (call_min2 hc) pMin2_ok hm ha (hg := hg) (he := he) (hpl := hpl) (hv := by decide +kernel)
theorem de_list (o : Bool) (hK : X.K = C.K) (hm : X.mg "list" = none) (ha : DA X C W (a :: es) u) (hg : Gl X "list" := by rfl) (he : starEach (a :: es) X.env = (false, eval a X.env) :: starEach es X.env := by rfl) (hpl : (backTo pos (starEach es X.env)).any (·.1) = false := by rfl) : DE X C W (.Call (.Name "list" q) (a :: es) [] pos) (dCB (pList o) u) :=
  de_callTy call_list_of (pList_ok hK o) hm ha (hg := hg) (he := he) (hpl := hpl) (hv := by decide +kernel)
theorem de_tuple (hK : X.K = C.K) (hm : X.mg "tuple" = none) (ha : DA X C W (a :: es) u) (hg : Gl X "tuple" := by rfl) (he : starEach (a :: es) X.env = (false, eval a X.env) :: starEach es X.env := by rfl) (hpl : (backTo pos (starEach es X.env)).any (·.1) = false := by rfl) : DE X C W (.Call (.Name "tuple" q) (a :: es) [] pos) (dCB pTuple u) :=
  de_callTy call_tuple_of (pTuple_ok hK) hm ha (hg := hg) (he := he) (hpl := hpl) (hv := by decide +kernel)
end
end OD

/-! OD6: cells frozen, methods of lists, defs, instances. -/
namespace OD
open PySem PySem.Spec L2
open PyProof.Rows hiding St
/-! ### freezing -/
/-- a cell's value from now on -/
def frzD : D → Store → Option (D × Store)
  | .own k, S => match S[k]? with
    | some (.lst ds) => some (.lst ds, S.set k .gone)
    | some (.ins c fs) => some (.obj c fs, S.set k .gone)
    | _ => none
  | d, S => some (d, S)
section
variable {C : Ct} {F F1 : Hp} {μ μ1 : List Addr} {H H1 : Hp} {S : Store}
theorem SR.freeze (s : SR C F μ H S) {k : Nat} {a : Addr} {c : Cell} {o : HO} (e : S[k]? = some c) (q : μ[k]? = some a) (hF : F a = none) (hH : H a = some o) : SR C (upd F a o) μ H (S.set k .gone) ∧ Ext F μ H (upd F a o) μ H := by
  have sF : Same F (upd F a o) := fun b u eb => by rw [upd_ne (ne_of_none eb hF)]; exact eb
  refine ⟨⟨fun b u eb => ?_, by simp [s.len], s.nd, s.alive, fun j c2 b e1 e2 => ?_⟩, ⟨sF, List.prefix_refl μ, fun b u eb _ => eb, fun _ h n => absurd h n, fun b u eb n => ?_⟩⟩
  · by_cases hb : b = a
    · subst hb; rw [upd_same] at eb; rw [hH]; exact eb
    · rw [upd_ne hb] at eb; exact s.sub b u eb
  · by_cases hj : j = k
    · subst hj
      rw [List.getElem?_set_self (List.getElem?_eq_some_iff.mp e).1] at e1
      cases e1; trivial
    · rw [List.getElem?_set_ne (Ne.symm hj)] at e1
      have hb : b ≠ a := fun z => by subst z; exact hj (SR.put.nodup_get s.nd e2 q)
      exact (s.cell j c2 b e1 e2).mono sF (List.prefix_refl μ) (fun n _ => by rw [upd_ne hb]; exact n) fun u eu => eu
  · by_cases hb : b = a
    · subst hb; exact .inr (List.mem_of_getElem? q)
    · rw [upd_ne hb, n] at eb; cases eb
theorem frz_of (s : SR C F μ H S) {d d' : D} {S' : Store} {v : V} (r : Rep C F μ d v) (h : frzD d S = some (d', S')) : ∃ F', Ext F μ H F' μ H ∧ SR C F' μ H S' ∧ Rep C F' μ d' v := by
  cases d with
  | own k =>
    obtain ⟨a, rfl, q⟩ := Rep.own_iff.mp r
    simp only [frzD] at h
    split at h
    · rename_i ds e
      cases h
      obtain ⟨hF, vs, hH, rs⟩ := s.cell k _ a e q
      obtain ⟨s1, x1⟩ := s.freeze e q hF hH
      exact ⟨_, x1, s1, Rep.lst_iff.mpr ⟨a, vs, rfl, upd_same, rs.ext x1⟩⟩
    · rename_i c fs e
      cases h
      obtain ⟨hF, dx, gs, hH, rs⟩ := s.cell k _ a e q
      obtain ⟨s1, x1⟩ := s.freeze e q hF hH
      exact ⟨_, x1, s1, Rep.obj_iff.mpr ⟨a, dx, gs, rfl, upd_same, rs.ext x1⟩⟩
    · cases h
  | _ => simp only [frzD] at h; cases h; exact ⟨F, Ext.refl F μ H, s, r⟩
theorem frz_any (x : Ext F1 μ1 H1 F μ H) (s : SR C F μ H S) {D0 : Addr} {o : HO} (h1 : H1 D0 = none) (hF : F D0 = none) (hm : D0 ∉ μ) (hD : H D0 = some o) :
    Ext F1 μ1 H1 (upd F D0 o) μ H ∧ SR C (upd F D0 o) μ H S ∧ Same F (upd F D0 o) := by
  have sF : Same F (upd F D0 o) := fun b u e => by rw [upd_ne (ne_of_none e hF)]; exact e
  refine ⟨⟨x.f.trans sF, x.m, x.fr, x.new, fun a u e n => ?_⟩, ⟨fun b u e => ?_, s.len, s.nd, s.alive, fun k c a e1 e2 => ?_⟩, sF⟩
  · by_cases ha : a = D0
    · subst ha; exact .inl h1
    · rw [upd_ne ha] at e; exact x.newF a u e n
  · by_cases hb : b = D0
    · subst hb; rw [upd_same] at e; rw [hD]; exact e
    · rw [upd_ne hb] at e; exact s.sub b u e
  · have hap : a ≠ D0 := fun q => hm (q ▸ List.mem_of_getElem? e2)
    exact (s.cell k c a e1 e2).mono sF (List.prefix_refl μ) (fun n _ => by rw [upd_ne hap]; exact n) fun u e => e
end
def dFrz (t : TD D) : TD D := fun ρ S Q Xc => t ρ S (fun d S1 => ∃ d' S', frzD d S1 = some (d', S') ∧ Q d' S') Xc
section
variable {X : Cx} {C : Ct} {W : WX} {a b e o : Expr} {es : List Expr} {ta tb : TD D} {u : TD (List D)} {pos q apos cpos : Pos}
theorem de_frz (h : DE X C W a ta) : DE X C W a (dFrz ta) := PE.imp h fun σ H Q ⟨F, μ, ρ, S, R, Xc, e, s, h, hR, hX⟩ =>
  lift_of e s h (fun F1 μ1 H1 v d S1 x1 s1 r1 ⟨d', S', h1, h2⟩ => by
    obtain ⟨F2, x2, s2, r2⟩ := frz_of s1 r1 h1
    exact hR F2 μ1 H1 v d' S' (x1.trans x2) s2 r2 h2) hX
/-! ### methods of lists, of texts -/
def isLst (x : D) (S : Store) : Prop := ∃ ds, seqL x S = some ds
def dBM (ok : D → Store → Prop) (p : D → List D → Store → (D → Store → Prop) → Prop) (ta : TD D) (u : TD (List D)) : TD D := fun ρ S Q Xc => ta ρ S (fun x S1 => ok x S1 ∧ u ρ S1 (fun xs S2 => p x xs S2 Q) Xc) Xc
def TyOk (C : Ct) (K : PySem.W.Frag) (T : String) (ok : D → Store → Prop) : Prop := ∀ F μ H S d v, SR C F μ H S → Rep C F μ d v → ok d S → tyV K T v H
theorem isLst_ok {K : PySem.W.Frag} : TyOk C K "list" isLst := fun F μ H S d v s r ⟨ds, h⟩ => by
  obtain ⟨a, vs, rfl, h1, _⟩ := lstV_of s r h
  exact .inl ⟨rfl, vs, SqL.of h1⟩
def isStr (x : D) (_ : Store) : Prop := ∃ z, x = .str z
theorem isStr_ok {K : PySem.W.Frag} : TyOk C K "str" isStr := fun F μ H S d v s r ⟨z, h⟩ => by
  subst h
  rw [Rep.str_iff.mp r]; rfl
variable {name : Str} {T id : String} {r : V → List V → Hp → VK → Prop} {ok : D → Store → Prop} {p : D → List D → Store → (D → Store → Prop) → Prop}
theorem tBM_of {K : PySem.W.Frag} (hok : TyOk C K T ok) (hp : PrimM C r p) {σ : L2.St} {H : Hp} {Q : VK} (h : lift C W (rV C) (dBM ok p ta u) σ H Q) : tBM K T r (lift C W (rV C) ta) (lift C W (rVs C) u) σ H Q :=
  lift_bind (u := fun x ρ S Q Xc => ok x S ∧ u ρ S (fun xs S2 => p x xs S2 Q) Xc) (g := fun x H1 Q => tyV K T x H1 ∧ lift C W (rVs C) u σ H1 fun xs H2 => r x xs H2 Q) h fun F μ ρ H S x v R Xc e s rx hu hR hX =>
    ⟨hok F μ H S x v s rx hu.1, lift_of e s hu.2 (fun F1 μ1 H1 ws ys S1 x1 s1 r1 h1 => hp F1 μ1 H1 S1 v ws x ys R Q s1 (Rep.ext x1 rx) r1 h1 fun F2 μ2 H2 z dz S2 x2 s2 r2 h2 => hR F2 μ2 H2 z dz S2 (x1.trans x2) s2 r2 h2) hX⟩
theorem tBM0_of {K : PySem.W.Frag} (hok : TyOk C K T ok) (hp : PrimM C r p) {σ : L2.St} {H : Hp} {Q : VK} (h : lift C W (rV C) (dBM ok p ta dNil) σ H Q) : tBM0 K T r (lift C W (rV C) ta) σ H Q :=
  lift_bind (u := fun x ρ S Q Xc => ok x S ∧ p x [] S Q) (g := fun x H1 Q => tyV K T x H1 ∧ r x [] H1 Q) h fun F μ ρ H S x v R Xc e s rx hu hR hX => ⟨hok F μ H S x v s rx hu.1, hp F μ H S v [] x [] R Q s rx Reps.nil hu.2 hR⟩
theorem de_bm0 (pa : PlainAttrs T) (slot : Slot T name id) (hty : typeOf (.builtin id) = pure (.type "method_descriptor")) (hm : MtR X id r) (hok : TyOk C X.K T ok) (hp : PrimM C r p) (ho : DE X C W o ta)
    (hbase : attributeBase o name X.env (eval o X.env) = eval o X.env := by rfl) (hline : (apos.endLine == cpos.line) = true := by rfl) : DE X C W (.Call (.Attribute o name apos) [] [] cpos) (dBM ok p ta dNil) :=
  PE.imp (pe_bm0 pa slot hty hm ho hbase hline) fun _ _ _ h => tBM0_of hok hp h
theorem de_bm (pa : PlainAttrs T) (slot : Slot T name id) (hty : typeOf (.builtin id) = pure (.type "method_descriptor")) (hm : MtR X id r) (hok : TyOk C X.K T ok) (hp : PrimM C r p) (ho : DE X C W o ta) (ha : DA X C W (e :: es) u)
    (hbase : attributeBase o name X.env (eval o X.env) = eval o X.env := by rfl)
    (hfew : ((backTo cpos (starEach (e :: es) X.env)).all (fun x => !x.1) && (backToKw cpos (keywordEach [] X.env)).all (fun x => x.1.isSome)
      && decide ((e :: es).length + ([] : List Keyword).length + (if ([] : List Keyword).isEmpty then 0 else 1) < 30)) = true := by rfl)
    (hline : (apos.endLine == cpos.line) = true := by rfl) (hs : starEach (e :: es) X.env = (false, eval e X.env) :: starEach es X.env := by rfl) (hplain : (backTo cpos (starEach es X.env)).any (·.1) = false := by rfl) :
    DE X C W (.Call (.Attribute o name apos) (e :: es) [] cpos) (dBM ok p ta u) := PE.imp (pe_bm pa slot hty hm ho ha hbase hfew hline hs hplain) fun _ _ _ h => tBM_of hok hp h
/-- what a list's method does to the cell -/
def onCell (x : D) (S : Store) (f : Nat → List D → Prop) : Prop := ∃ k ds, x = .own k ∧ S[k]? = some (.lst ds) ∧ f k ds
abbrev PM := D → List D → Store → (D → Store → Prop) → Prop
def pAppend : PM := fun x xs S Q => match xs with
  | [y] => onCell x S fun k ds => ds.length < sizeLine ∧ Q .non (S.set k (.lst (ds ++ [y])))
  | _ => False
theorem cell_put {F : Hp} {μ : List Addr} {H : Hp} {S : Store} {k : Nat} {ds es : List D} {vs ws : List V} {a : Addr} {y : D} {w : V} {R : D → Store → Prop} {Q : VK} (s : SR C F μ H S) (q : μ[k]? = some a) (e : S[k]? = some (.lst ds)) (r : Reps C F μ es ws) (ry : Rep C F μ y w) (h : R y (S.set k (.lst es)))
    (hR : ∀ F' μ' H' v d S', Ext F μ H F' μ' H' → SR C F' μ' H' S' → Rep C F' μ' d v → R d S' → Q v H') : Q w (upd H a (.lst ws)) := by
  obtain ⟨s1, x1⟩ := s.put (o := .lst ws) (c' := .lst es) e q (by simp) fun hf => ⟨hf, ws, upd_same, r⟩
  exact hR F μ _ w y _ x1 s1 (Rep.ext x1 ry) h
theorem pAppend_ok : PrimM C rAppend pAppend := fun F μ H S x xs d ds R Q s rx rs hp hR => by
  unfold pAppend at hp
  split at hp
  · obtain ⟨k, es, rfl, e, h1, h2⟩ := hp
    obtain ⟨v, r', rfl, h3, h4⟩ := Reps.cons_iff.mp rs
    rw [Reps.nil_iff] at h4; subst h4
    obtain ⟨a, rfl, q⟩ := Rep.own_iff.mp rx
    obtain ⟨_, vs, h5, h6⟩ := s.cell k _ a e q
    exact ⟨a, vs, v, rfl, rfl, h5, by rw [← h6.length]; exact h1, cell_put s q e (vs := vs) (Reps.append h6 (Reps.cons h3 Reps.nil)) (Rep.non_iff.mpr rfl) h2 hR⟩
  · exact hp.elim
theorem de_append (ho : DE X C W o ta) (ha : DA X C W (e :: es) u) (hbase : attributeBase o "append" X.env (eval o X.env) = eval o X.env := by rfl)
    (hfew : ((backTo cpos (starEach (e :: es) X.env)).all (fun x => !x.1) && (backToKw cpos (keywordEach [] X.env)).all (fun x => x.1.isSome)
      && decide ((e :: es).length + ([] : List Keyword).length + (if ([] : List Keyword).isEmpty then 0 else 1) < 30)) = true := by rfl)
    (hline : (apos.endLine == cpos.line) = true := by rfl) (hs : starEach (e :: es) X.env = (false, eval e X.env) :: starEach es X.env := by rfl) (hplain : (backTo cpos (starEach es X.env)).any (·.1) = false := by rfl) :
    DE X C W (.Call (.Attribute o "append" apos) (e :: es) [] cpos) (dBM isLst pAppend ta u) := de_bm PySem.F.plainAttrs_list PySem.F.slot_list_append PySem.F.type_list_append mt_append isLst_ok pAppend_ok ho ha hbase hfew hline hs hplain
def pInsert : PM := fun x xs S Q => match xs with
  | [.int i, y] => onCell x S fun k ds => ds.length < sizeLine ∧ 0 ≤ i ∧ i < 2 ^ 63 ∧ Q .non (S.set k (.lst (ds.take i.toNat ++ [y] ++ ds.drop i.toNat)))
  | _ => False
theorem pInsert_ok : PrimM C (fun x vs H Q => ∃ (l : Addr) (xs : List V) (i : Int) (y : V), x = .ref l ∧ vs = [.int i, y] ∧ H l = some (.lst xs) ∧ xs.length < sizeLine ∧ 0 ≤ i ∧ i < 2 ^ 63 ∧
    Q .non (upd H l (.lst (xs.take i.toNat ++ [y] ++ xs.drop i.toNat)))) pInsert := fun F μ H S x xs d ds R Q s rx rs hp hR => by
  unfold pInsert at hp
  split at hp
  · obtain ⟨k, es, rfl, e, h1, h0, h01, h2⟩ := hp
    obtain ⟨v, r', rfl, h3, h4⟩ := Reps.cons_iff.mp rs
    obtain ⟨v2, r', rfl, h3', h4⟩ := Reps.cons_iff.mp h4
    rw [Reps.nil_iff] at h4; subst h4
    rw [Rep.int_iff.mp h3]
    obtain ⟨a, rfl, q⟩ := Rep.own_iff.mp rx
    obtain ⟨_, vs, h5, h6⟩ := s.cell k _ a e q
    exact ⟨a, vs, _, v2, rfl, rfl, h5, by rw [← h6.length]; exact h1, h0, h01, cell_put s q e (vs := vs) (Reps.append (Reps.append (h6.take _) (Reps.cons h3' Reps.nil)) (h6.drop _)) (Rep.non_iff.mpr rfl) h2 hR⟩
  · exact hp.elim
theorem de_insert (ho : DE X C W o ta) (ha : DA X C W (e :: es) u) (hbase : attributeBase o "insert" X.env (eval o X.env) = eval o X.env := by rfl)
    (hfew : ((backTo cpos (starEach (e :: es) X.env)).all (fun x => !x.1) && (backToKw cpos (keywordEach [] X.env)).all (fun x => x.1.isSome)
      && decide ((e :: es).length + ([] : List Keyword).length + (if ([] : List Keyword).isEmpty then 0 else 1) < 30)) = true := by rfl)
    (hline : (apos.endLine == cpos.line) = true := by rfl) (hs : starEach (e :: es) X.env = (false, eval e X.env) :: starEach es X.env := by rfl) (hplain : (backTo cpos (starEach es X.env)).any (·.1) = false := by rfl) :
    DE X C W (.Call (.Attribute o "insert" apos) (e :: es) [] cpos) (dBM isLst pInsert ta u) := de_bm PySem.F.plainAttrs_list PySem.F.slot_list_insert PySem.F.type_list_insert mt_insert isLst_ok pInsert_ok ho ha hbase hfew hline hs hplain
def pPop : PM := fun x xs S Q => match xs with
  | [] => onCell x S fun k ds => ∃ y, ds[ds.length - 1]? = some y ∧ Q y (S.set k (.lst ds.dropLast))
  | _ => False
theorem Reps.dropLast {F : Hp} {μ : List Addr} {ds : List D} {vs : List V} (h : Reps C F μ ds vs) : Reps C F μ ds.dropLast vs.dropLast := by
  rw [List.dropLast_eq_take, List.dropLast_eq_take, ← h.length]; exact h.take _
theorem pPop_ok : PrimM C rPop pPop := fun F μ H S x xs d ds R Q s rx rs hp hR => by
  unfold pPop at hp
  split at hp
  · obtain ⟨k, es, rfl, e, y, h1, h2⟩ := hp
    rw [Reps.nil_iff] at rs; subst rs
    obtain ⟨a, rfl, q⟩ := Rep.own_iff.mp rx
    obtain ⟨_, vs, h5, h6⟩ := s.cell k _ a e q
    obtain ⟨v, h7, h8⟩ := h6.get h1
    rw [h6.length] at h7
    exact ⟨a, vs, v, rfl, rfl, h5, h7, cell_put s q e (vs := vs) h6.dropLast h8 h2 hR⟩
  · exact hp.elim
theorem de_pop0 (ho : DE X C W o ta) (hbase : attributeBase o "pop" X.env (eval o X.env) = eval o X.env := by rfl) (hline : (apos.endLine == cpos.line) = true := by rfl) :
    DE X C W (.Call (.Attribute o "pop" apos) [] [] cpos) (dBM isLst pPop ta dNil) := de_bm0 PySem.F.plainAttrs_list PySem.F.slot_list_pop PySem.F.type_list_pop mt_pop isLst_ok pPop_ok ho hbase hline
def pPopAt : PM := fun x xs S Q => match xs with
  | [.int i] => onCell x S fun k ds => ∃ n y, -(2 ^ 63) ≤ i ∧ i < 2 ^ 63 ∧ seqIndex? i ds.length = some n ∧ ds[n]? = some y ∧ Q y (S.set k (.lst (ds.eraseIdx n)))
  | _ => False
theorem Reps.eraseIdx {F : Hp} {μ : List Addr} : ∀ {ds : List D} {vs : List V} (n : Nat), Reps C F μ ds vs → Reps C F μ (ds.eraseIdx n) (vs.eraseIdx n)
  | [], vs, n, h => by rw [Reps.nil_iff.mp h]; exact Reps.nil
  | d :: ds, vs, 0, h => by
    obtain ⟨v, r, rfl, h1, h2⟩ := Reps.cons_iff.mp h
    exact h2
  | d :: ds, vs, n + 1, h => by
    obtain ⟨v, r, rfl, h1, h2⟩ := Reps.cons_iff.mp h
    exact Reps.cons h1 (Reps.eraseIdx n h2)
theorem pPopAt_ok : PrimM C rPopAt pPopAt := fun F μ H S x xs d ds R Q s rx rs hp hR => by
  unfold pPopAt at hp
  split at hp
  · obtain ⟨k, es, rfl, e, n, y, h00, h01, h0, h1, h2⟩ := hp
    obtain ⟨v, r', rfl, h3, h4⟩ := Reps.cons_iff.mp rs
    rw [Reps.nil_iff] at h4; subst h4
    rw [Rep.int_iff.mp h3]
    obtain ⟨a, rfl, q⟩ := Rep.own_iff.mp rx
    obtain ⟨_, vs, h5, h6⟩ := s.cell k _ a e q
    obtain ⟨v, h7, h8⟩ := h6.get h1
    exact ⟨a, vs, _, n, v, rfl, rfl, h5, h00, h01, by rw [← h6.length]; exact h0, h7, cell_put s q e (vs := vs) (h6.eraseIdx n) h8 h2 hR⟩
  · exact hp.elim
theorem de_pop1 (ho : DE X C W o ta) (ha : DA X C W (e :: es) u) (hbase : attributeBase o "pop" X.env (eval o X.env) = eval o X.env := by rfl)
    (hfew : ((backTo cpos (starEach (e :: es) X.env)).all (fun x => !x.1) && (backToKw cpos (keywordEach [] X.env)).all (fun x => x.1.isSome)
      && decide ((e :: es).length + ([] : List Keyword).length + (if ([] : List Keyword).isEmpty then 0 else 1) < 30)) = true := by rfl)
    (hline : (apos.endLine == cpos.line) = true := by rfl) (hs : starEach (e :: es) X.env = (false, eval e X.env) :: starEach es X.env := by rfl) (hplain : (backTo cpos (starEach es X.env)).any (·.1) = false := by rfl) :
    DE X C W (.Call (.Attribute o "pop" apos) (e :: es) [] cpos) (dBM isLst pPopAt ta u) := de_bm PySem.F.plainAttrs_list PySem.F.slot_list_pop PySem.F.type_list_pop mt_popAt isLst_ok pPopAt_ok ho ha hbase hfew hline hs hplain

/-! ### a def -/
/-- a def at an address keeps its promise over D -/
structure FnA (P : Program) (w : World) (C : Ct) (mg : Str → Option Value) (base : Heap) (k : Nat) (f : Addr) (ps : List Str) (sp : SpD) : Prop where
  ex : ∃ fd, PySem.W.keepIn C.K (.ref f) = true ∧ Binds C.K fd ps [] ∧ FnOk P w C.K mg base (L2.CX P w) k f fd ps (liftP C sp)
theorem FnA.glob {P : Program} {w : World} {mg : Str → Option Value} {base : Heap} {k : Nat} {f : Addr} {ps : List Str} {sp : SpD} {x : Str} (F : FnA P w C mg base k f ps sp) (h : mg x = some (.ref f)) : FnD P w C mg base k x ps sp :=
  let ⟨fd, h1, h2, h3⟩ := F.ex; ⟨f, fd, h, h1, h2, h3⟩
/-- what a def's end is: the result, the caller's cells -/
def endsD (S : Store) (R : D → Store → Prop) (Xc : XcD) : EndsD where
  nx := fun _ S' => ∃ S'', Cut S S' S'' ∧ R .non S''
  rt := fun d S' => (R d S') ∨ ∃ S'', Cut S S' S'' ∧ ownLt S.length d = true ∧ R d S''
  ex := fun c fs _ S' => ∃ S'', Cut S S' S'' ∧ ownLtF S.length fs = true ∧ Xc c fs S''
theorem fnOk_of {P : Program} {w : World} {mg : Str → Option Value} {base : Heap} {k n : Nat} {f : Addr} {fd : FuncData} {x qual : Str} {params : Arguments} {body : List Stmt} {scope : Scope} {N ps : List Str} {sp : SpD} {t : TSD}
    (F : FunD C.K x qual params body scope [] [] f fd) (Sc : FnScope N ps scope) (hN : ps.length + n = N.length) (ar : Arity ps.length sp)
    (hbody : ∀ (cdv : Value) (A : Around) (outer : List Env) (s : Shared) (H : Hp) (E : XK), Room k (A.deeper (envOfC qual scope s.heap.objs.size f cdv)) → Takes (cxOf (L2.CX P w) P w C.K mg base N qual scope f cdv A outer s H E) (fun cls d _ H' => E cls d H') →
      PassesOwn (model P w) (A.deeper (envOfC qual scope s.heap.objs.size f cdv)) (envOfC qual scope s.heap.objs.size f cdv) (cxOf (L2.CX P w) P w C.K mg base N qual scope f cdv A outer s H E).xe →
      DSs (cxOf (L2.CX P w) P w C.K mg base N qual scope f cdv A outer s H E) C (fun cls d _ H' => E cls d H') body t)
    (pure : ∀ ds S R Xc, sp ds S R Xc → t (endsD S R Xc) (startD n ds) S) : FnOk P w C.K mg base (L2.CX P w) (k + 1) f fd ps (liftP C sp) := by
  refine F.ok Sc (fun vs H Q E ⟨F1, μ, ds, S, R, Xc, r, s, h, _⟩ => by rw [← r.length]; exact ar _ _ _ _ h) fun cdv A outer s H vs Q E hr ⟨F1, μ, ds, S, R, Xc, r, s1, h, hR, hX⟩ => ?_
  refine ⟨_, hbody cdv A outer s H E hr (takes_of rfl rfl rfl rfl) (passes_of rfl), F1, μ, startD n ds, S, endsD S R Xc, start_env r (by rw [ar _ _ _ _ h]; exact hN), s1, pure ds S R Xc h, ?_⟩
  refine ⟨fun F' μ' H' σ' ρ' S' x e' s' ⟨S2, hc, h2⟩ => ?_, fun F' μ' H' v d S' x s' r' h' => ?_, fun _ _ _ _ _ _ _ _ _ z => z.elim, fun _ _ _ _ _ _ _ _ _ z => z.elim, fun F' μ' H' σ' ρ' S' cls dd c fs x e' s' r' ⟨S2, hc, ho, h2⟩ => ?_⟩
  · obtain ⟨s2, x2⟩ := s1.cut x s' hc
    exact hR F' μ H' .non .non S2 x2 s2 (Rep.non_iff.mpr rfl) h2
  · rcases h' with h' | ⟨S2, hc, ho, h'⟩
    · exact hR F' μ' H' v d S' x s' r' h'
    · obtain ⟨s2, x2⟩ := s1.cut x s' hc
      exact hR F' μ H' v d S2 x2 s2 (r'.cut x.m (by rw [s1.len]; exact ho)) h'
  · obtain ⟨s2, x2⟩ := s1.cut x s' hc
    refine hX F' μ H' cls dd c fs S2 x2 s2 ?_ h2
    obtain ⟨z1, z2⟩ := r'
    refine ⟨z1, ?_⟩
    rcases z2 with z2 | ⟨d, gs, z2, z3, z4⟩
    · exact .inl z2
    · exact .inr ⟨d, gs, z2, z3, z4.cut x.m (by rw [s1.len]; exact ho)⟩
theorem fnA_of {P : Program} {w : World} {mg : Str → Option Value} {base : Heap} {k n : Nat} {f : Addr} {fd : FuncData} {x qual : Str} {params : Arguments} {body : List Stmt} {scope : Scope} {N ps : List Str} {sp : SpD} {t : TSD}
    (F : FunD C.K x qual params body scope [] [] f fd) (b : Binds C.K fd ps []) (Sc : FnScope N ps scope) (hN : ps.length + n = N.length) (ar : Arity ps.length sp)
    (hbody : ∀ (cdv : Value) (A : Around) (outer : List Env) (s : Shared) (H : Hp) (E : XK), Room k (A.deeper (envOfC qual scope s.heap.objs.size f cdv)) → Takes (cxOf (L2.CX P w) P w C.K mg base N qual scope f cdv A outer s H E) (fun cls d _ H' => E cls d H') →
      PassesOwn (model P w) (A.deeper (envOfC qual scope s.heap.objs.size f cdv)) (envOfC qual scope s.heap.objs.size f cdv) (cxOf (L2.CX P w) P w C.K mg base N qual scope f cdv A outer s H E).xe →
      DSs (cxOf (L2.CX P w) P w C.K mg base N qual scope f cdv A outer s H E) C (fun cls d _ H' => E cls d H') body t)
    (pure : ∀ ds S R Xc, sp ds S R Xc → t (endsD S R Xc) (startD n ds) S) : FnA P w C mg base (k + 1) f ps sp := ⟨fd, F.kp, b, fnOk_of F Sc hN ar hbody pure⟩
end
end OD

/-! OD7: steps through a D-reading. -/
namespace OD
open PySem PySem.Spec L2
open PyProof.Rows hiding St
section
variable {ρ : DEnv} {S S0 : Store} {Q : D → Store → Prop} {Qb : Bool → Store → Prop} {Ql : List D → Store → Prop} {Xc : XcD} {E : EndsD} {ta tb tc : TD D} {A B : TD Bool} {u : TD (List D)} {t v : TSD} {i k n : Nat} {d x y : D} {a b j : Int} {ds : List D} {z w : Str} {p q : P2} {P : Prop}
theorem st_var (h : ρ[i]? = some (some d)) (hq : Q d S) : dVar i ρ S Q Xc := ⟨d, h, hq⟩
theorem st_c (hq : Q d S) : dC d ρ S Q Xc := hq
theorem st_op (h : ta ρ S (fun x S1 => tb ρ S1 (fun y S2 => p x y S2 Q) Xc) Xc) : dOp p ta tb ρ S Q Xc := h
theorem st_un {p : P1} (h : ta ρ S (fun x S1 => p x S1 Q) Xc) : dUn p ta ρ S Q Xc := h
theorem st_b (h : ta ρ S (fun x S1 => ∃ k, x = .bl k ∧ Qb k S1) Xc) : dB ta ρ S Qb Xc := h
theorem st_bl {c : Bool} (h : Qb c S) : ∃ k, D.bl c = .bl k ∧ Qb k S := ⟨c, rfl, h⟩
theorem st_and (h : A ρ S (fun k S1 => if k = true then B ρ S1 Qb Xc else Qb false S1) Xc) : dAnd A B ρ S Qb Xc := h
theorem st_or (h : A ρ S (fun k S1 => if k = true then Qb true S1 else B ρ S1 Qb Xc) Xc) : dOr A B ρ S Qb Xc := h
theorem st_not (h : A ρ S (fun k S1 => Qb (!k) S1) Xc) : dNot A ρ S Qb Xc := h
theorem st_andV (h : ta ρ S (fun x S1 => ∃ k, x = .bl k ∧ if k = true then tb ρ S1 Q Xc else Q (.bl false) S1) Xc) : dAndV ta tb ρ S Q Xc := h
theorem st_orV (h : ta ρ S (fun x S1 => ∃ k, x = .bl k ∧ if k = true then Q (.bl true) S1 else tb ρ S1 Q Xc) Xc) : dOrV ta tb ρ S Q Xc := h
theorem st_notV (h : ta ρ S (fun x S1 => ∃ k, x = .bl k ∧ Q (.bl (!k)) S1) Xc) : dNotV ta ρ S Q Xc := h
theorem st_blV {c : Bool} {F : Bool → Prop} (h : F c) : ∃ k, D.bl c = .bl k ∧ F k := ⟨c, rfl, h⟩
theorem st_tru {c : Bool} (h : Qb c S) : ∃ k, truD (.bl c) S = some k ∧ Qb k S := ⟨c, rfl, h⟩
theorem st_truI (h : Qb (a != 0) S) : ∃ k, truD (.int a) S = some k ∧ Qb k S := ⟨_, rfl, h⟩
theorem st_truL (h : Qb (!ds.isEmpty) S) : ∃ k, truD (.lst ds) S = some k ∧ Qb k S := ⟨_, rfl, h⟩
theorem st_truT (h : Qb (!ds.isEmpty) S) : ∃ k, truD (.tup ds) S = some k ∧ Qb k S := ⟨_, rfl, h⟩
theorem st_truO (e : S[k]? = some (.lst ds)) (h : Qb (!ds.isEmpty) S) : ∃ k', truD (.own k) S = some k' ∧ Qb k' S := ⟨_, by simp only [truD, e], h⟩
theorem st_dTru (h : ta ρ S (fun x S1 => ∃ k, truD x S1 = some k ∧ Qb k S1) Xc) : dTru truD ta ρ S Qb Xc := h
theorem st_ifE (h : A ρ S (fun k S1 => if k = true then ta ρ S1 Q Xc else tb ρ S1 Q Xc) Xc) : dIfE A ta tb ρ S Q Xc := h
theorem st_chain {p q : P2} (h : ta ρ S (fun x S1 => tb ρ S1 (fun y S2 => p x y S2 fun z S3 => ∃ k, z = .bl k ∧ (if k = true then tc ρ S3 (fun w S4 => q y w S4 Q) Xc else Q (.bl false) S3)) Xc) Xc) : dChain p q ta tb tc ρ S Q Xc := h
theorem st_ite [Decidable P] {G H : Prop} (h1 : P → G) (h2 : ¬ P → H) : if decide P = true then G else H := by
  by_cases h : P
  · rw [decide_eq_true h]; exact h1 h
  · rw [decide_eq_false h]; exact h2 h
theorem st_iteN [Decidable P] {G H : Prop} (h1 : ¬ P → G) (h2 : P → H) : if (!decide P) = true then G else H := by
  by_cases h : P
  · rw [decide_eq_true h]; exact h2 h
  · rw [decide_eq_false h]; exact h1 h
theorem st_iteB {c : Bool} {G H : Prop} (h1 : c = true → G) (h2 : c = false → H) : if c = true then G else H := by
  cases c with
  | true => exact h1 rfl
  | false => exact h2 rfl
theorem st_iteNB {c : Bool} {G H : Prop} (h1 : c = false → G) (h2 : c = true → H) : if (!c) = true then G else H := by
  cases c with
  | true => exact h2 rfl
  | false => exact h1 rfl
theorem st_iteT {G H : Prop} (h : G) : if true = true then G else H := h
theorem st_iteF {G H : Prop} (h : H) : if false = true then G else H := h
theorem st_iteNT {G H : Prop} (h : H) : if (!true) = true then G else H := h
theorem st_iteNF {G H : Prop} (h : G) : if (!false) = true then G else H := h
/-! values -/
theorem st_addI {o : Bool} (h : Q (.int (a + b)) S) : pAdd o (.int a) (.int b) S Q := h
theorem st_addS {o : Bool} (hl : z.length + w.length ≤ sizeLine) (h : Q (.str (z ++ w)) S) : pAdd o (.str z) (.str w) S Q := ⟨hl, h⟩
theorem st_addT {o : Bool} {as bs : List D} (hl : as.length + bs.length ≤ sizeLine) (h : Q (.tup (as ++ bs)) S) : pAdd o (.tup as) (.tup bs) S Q := ⟨hl, h⟩
theorem st_addL {o : Bool} {as bs : List D} (hl : as.length + bs.length ≤ sizeLine) (h : mkL o (as ++ bs) S Q) : pAdd o (.lst as) (.lst bs) S Q := ⟨as, bs, rfl, rfl, hl, h⟩
theorem st_subI (h : Q (.int (a - b)) S) : pSub (.int a) (.int b) S Q := h
theorem st_mulI {o : Bool} (hm : CMul a b ∨ CMulW a b) (h : Q (.int (a * b)) S) : pMul o (.int a) (.int b) S Q := ⟨hm, h⟩
theorem st_mulL {o : Bool} (h1 : -(2 ^ 63) ≤ b) (h2 : b < 2 ^ 63) (h3 : ds.length * b.toNat ≤ sizeLine) (h : mkL o (List.replicate b.toNat ds).flatten S Q) : pMul o (.lst ds) (.int b) S Q := ⟨ds, rfl, h1, h2, h3, h⟩
theorem st_divI (hd : CDivW a b) (h : Q (.int (a / b)) S) : pDiv (.int a) (.int b) S Q := ⟨hd, h⟩
theorem st_modI (hd : 0 < b) (h : Q (.int (a % b)) S) : pMod (.int a) (.int b) S Q := ⟨hd, h⟩
theorem st_powI (hd : CPow a b) (h : Q (.int (a ^ b.toNat)) S) : pPow (.int a) (.int b) S Q := ⟨hd, h⟩
theorem st_pow8 (h : Q (.int 100000000) S) : pPow (.int 10) (.int 8) S Q := ⟨⟨by decide, by decide, by decide⟩, h⟩
theorem st_pow18 (h : Q (.int 1000000000000000000) S) : pPow (.int 10) (.int 18) S Q := ⟨⟨by decide, by decide, by decide⟩, h⟩
theorem st_pow20 (h : Q (.int 100000000000000000000) S) : pPow (.int 10) (.int 20) S Q := ⟨⟨by decide, by decide, by decide⟩, h⟩
theorem st_pow30 (h : Q (.int 1000000000000000000000000000000) S) : pPow (.int 10) (.int 30) S Q := ⟨⟨by decide, by decide, by decide⟩, h⟩
theorem st_pow31 (h : Q (.int 10000000000000000000000000000000) S) : pPow (.int 10) (.int 31) S Q := ⟨⟨by decide, by decide, by decide⟩, h⟩
theorem st_negI (h : Q (.int (-a)) S) : pNeg (.int a) S Q := h
theorem st_ltI (h : Q (.bl (decide (a < b))) S) : pLt (.int a) (.int b) S Q := h
theorem st_leI (h : Q (.bl (decide (a ≤ b))) S) : pLe (.int a) (.int b) S Q := h
theorem st_gtI (h : Q (.bl (decide (b < a))) S) : pGt (.int a) (.int b) S Q := h
theorem st_geI (h : Q (.bl (decide (b ≤ a))) S) : pGe (.int a) (.int b) S Q := h
theorem st_eqI (h : Q (.bl (decide (a = b))) S) : pEq (.int a) (.int b) S Q := h
theorem st_eqS (h : Q (.bl (decide (z = w))) S) : pEq (.str z) (.str w) S Q := h
theorem st_eqB {c e : Bool} (h : Q (.bl (decide (c = e))) S) : pEq (.bl c) (.bl e) S Q := h
theorem st_neI (h : Q (.bl (!decide (a = b))) S) : pNe (.int a) (.int b) S Q := h
theorem st_neS (h : Q (.bl (!decide (z = w))) S) : pNe (.str z) (.str w) S Q := h
theorem st_is (h : Q (.bl (isNoneD x)) S) : pIs x .non S Q := ⟨rfl, h⟩
theorem st_isNot (h : Q (.bl (!isNoneD x)) S) : pIsNot x .non S Q := ⟨rfl, h⟩
theorem st_ixL (hi : atI ds j = some d) (h : Q d S) : pIx (.lst ds) (.int j) S Q := ⟨ds, d, rfl, hi, h⟩
theorem st_ixT (hi : atI ds j = some d) (h : Q d S) : pIx (.tup ds) (.int j) S Q := ⟨ds, d, rfl, hi, h⟩
theorem st_ixO (e : S[k]? = some (.lst ds)) (hi : atI ds j = some d) (h : Q d S) : pIx (.own k) (.int j) S Q := ⟨ds, d, by simp only [seqD, e], hi, h⟩
theorem st_ixS {c : Nat} (hl : z.length ≤ sizeLine) (hi : atI z.cps.toList j = some c) (h : Q (.str ⟨#[c]⟩) S) : pIx (.str z) (.int j) S Q := ⟨c, hl, hi, h⟩
/-! arguments, calls -/
theorem st_nil (h : Ql [] S) : dNil ρ S Ql Xc := h
theorem st_cons (h : ta ρ S (fun x S1 => u ρ S1 (fun xs S2 => Ql (x :: xs) S2) Xc) Xc) : dCons ta u ρ S Ql Xc := h
theorem st_tup (h : u ρ S (fun xs S1 => xs.length ≤ sizeLine ∧ Q (.tup xs) S1) Xc) : dTup u ρ S Q Xc := h
theorem st_lst {o : Bool} (h : u ρ S (fun xs S1 => xs.length ≤ sizeLine ∧ mkL o xs S1 Q) Xc) : dLst o u ρ S Q Xc := h
theorem small_line {m : Nat} (h : m ≤ 1000) : m ≤ sizeLine := Nat.le_trans h (by decide)
theorem st_mkF (h : Q (.lst ds) S) : mkL false ds S Q := h
theorem st_mkO (h : Q (.own S.length) (S ++ [.lst ds])) : mkL true ds S Q := h
theorem st_cb {p : PN} (h : u ρ S (fun xs S1 => p xs S1 Q) Xc) : dCB p u ρ S Q Xc := h
theorem st_call {sp : SpD} (h : u ρ S (fun ds S1 => sp ds S1 Q Xc) Xc) : dCall sp u ρ S Q Xc := h
theorem st_frzV (hf : frzD d S = some (x, S0)) (h : Q x S0) : ∃ d' S', frzD d S = some (d', S') ∧ Q d' S' := ⟨x, S0, hf, h⟩
theorem st_frz (h : ta ρ S (fun d S1 => ∃ d' S', frzD d S1 = some (d', S') ∧ Q d' S') Xc) : dFrz ta ρ S Q Xc := h
theorem st_bm {ok : D → Store → Prop} {p : PM} (h : ta ρ S (fun x S1 => ok x S1 ∧ u ρ S1 (fun xs S2 => p x xs S2 Q) Xc) Xc) : dBM ok p ta u ρ S Q Xc := h
theorem st_isStr {G : Prop} (h : G) : isStr (.str z) S ∧ G := ⟨⟨z, rfl⟩, h⟩
theorem st_isLst {G : Prop} (e : S[k]? = some (.lst ds)) (h : G) : isLst (.own k) S ∧ G := ⟨⟨ds, by simp only [seqL, e]⟩, h⟩
theorem st_append (e : S[k]? = some (.lst ds)) (hl : ds.length < sizeLine) (h : Q .non (S.set k (.lst (ds ++ [y])))) : pAppend (.own k) [y] S Q := ⟨k, ds, rfl, e, hl, h⟩
theorem st_lenL (h : Q (.int ds.length) S) : pLen [.lst ds] S Q := ⟨ds, rfl, h⟩
theorem st_lenT (h : Q (.int ds.length) S) : pLen [.tup ds] S Q := ⟨ds, rfl, h⟩
theorem st_lenO (e : S[k]? = some (.lst ds)) (h : Q (.int ds.length) S) : pLen [.own k] S Q := ⟨ds, by simp only [seqD, e], h⟩
theorem st_lenS (hl : z.length ≤ sizeLine) (h : Q (.int z.length) S) : pLen [.str z] S Q := ⟨hl, h⟩
theorem st_abs (h : Q (.int (if a < 0 then -a else a)) S) : pAbs [.int a] S Q := h
theorem st_int (h : Q (.int a) S) : pInt [.int a] S Q := h
theorem st_max2 (h : Q (.int (if b > a then b else a)) S) : pMax2 [.int a, .int b] S Q := h
theorem st_min2 (h : Q (.int (if b < a then b else a)) S) : pMin2 [.int a, .int b] S Q := h
theorem st_listS {o : Bool} {ns : List Int} (h : mkL o (ns.map D.int) S Q) : pList o [.scr ns] S Q := h
theorem st_listL {o : Bool} (h : mkL o ds S Q) : pList o [.lst ds] S Q := ⟨ds, rfl, h⟩
theorem st_listT {o : Bool} (h : mkL o ds S Q) : pList o [.tup ds] S Q := ⟨ds, rfl, h⟩
theorem st_listO {o : Bool} (e : S[k]? = some (.lst ds)) (h : mkL o ds S Q) : pList o [.own k] S Q := ⟨ds, by simp only [seqD, e], h⟩
theorem st_tupleL (h : Q (.tup ds) S) : pTuple [.lst ds] S Q := ⟨ds, rfl, h⟩
theorem st_tupleT (h : Q (.tup ds) S) : pTuple [.tup ds] S Q := ⟨ds, rfl, h⟩
theorem st_tupleO (e : S[k]? = some (.lst ds)) (h : Q (.tup ds) S) : pTuple [.own k] S Q := ⟨ds, by simp only [seqD, e], h⟩
/-! statements -/
theorem st_seq (h : t (E.wn (v E)) ρ S) : dSeq t v E ρ S := ⟨v E, h, fun _ _ z => z⟩
theorem st_join (J : DEnv → Store → Prop) (h : t (E.wn J) ρ S) (k : ∀ ρ' S', J ρ' S' → v E ρ' S') : dSeq t v E ρ S := ⟨J, h, k⟩
theorem st_next (h : E.nx ρ S) : dNext E ρ S := h
theorem st_if (h : A ρ S (fun k S1 => if k = true then t E ρ S1 else v E ρ S1) fun c fs S1 => E.ex c fs ρ S1) : dIf A t v E ρ S := h
theorem st_asg {g : TGD} (h : ta ρ S (fun d S1 => g d ρ S1 E.nx fun c fs S2 => E.ex c fs ρ S2) fun c fs S1 => E.ex c fs ρ S1) : dAsg ta g E ρ S := h
theorem st_gN {R : DEnv → Store → Prop} (h : R (ρ.set i (some d)) S) : gN i d ρ S R Xc := h
theorem st_gS {R : DEnv → Store → Prop} (h : ta ρ S (fun o S1 => tb ρ S1 (fun i S2 => setD o i d S2 fun S3 => R ρ S3) Xc) Xc) : gS ta tb d ρ S R Xc := h
theorem st_set {R : Store → Prop} (e : S[k]? = some (.lst ds)) (hi : ixN ds.length j = some n) (h : R (S.set k (.lst (ds.set n d)))) : setD (.own k) (.int j) d S R := ⟨k, ds, j, n, rfl, e, rfl, hi, h⟩
theorem st_setS {R : Store → Prop} {c : Cell} (e : S0[k]? = some c) (hi : ixN ds.length j = some n) (h : R (S0.set k (.lst (ds.set n d)))) : setD (.own k) (.int j) d (S0.set k (.lst ds)) R :=
  ⟨k, ds, j, n, rfl, List.getElem?_set_self (List.getElem?_eq_some_iff.mp e).1, rfl, hi, by rw [List.set_set]; exact h⟩
theorem st_gT {R : DEnv → Store → Prop} {gs : TGsD} (e : seqD d S = some ds) (hl : ds.length = n) (h : gs ds ρ S R Xc) : gT n gs d ρ S R Xc := ⟨ds, e, hl, h⟩
theorem st_gC {R : DEnv → Store → Prop} {g : TGD} {gs : TGsD} (h : g d ρ S (fun ρ1 S1 => gs ds ρ1 S1 R Xc) Xc) : gCons g gs (d :: ds) ρ S R Xc := ⟨d, ds, rfl, h⟩
theorem st_gNil {R : DEnv → Store → Prop} (h : R ρ S) : gNil [] ρ S R Xc := ⟨rfl, h⟩
theorem st_ret (h : ta ρ S (fun d S1 => E.rt d S1) fun c fs S1 => E.ex c fs ρ S1) : dRet ta E ρ S := h
theorem st_retN (h : E.rt .non S) : dRetN E ρ S := h
theorem st_drop (h : ta ρ S (fun _ S1 => E.nx ρ S1) fun c fs S1 => E.ex c fs ρ S1) : dDrop ta E ρ S := h
theorem get_set {c c' : Cell} (e : S[k]? = some c) : (S.set k c')[k]? = some c' := List.getElem?_set_self (List.getElem?_eq_some_iff.mp e).1
theorem get_last {c : Cell} : (S ++ [c])[S.length]? = some c := by simp
theorem get_front {L : Store} {c : Cell} (e : S[k]? = some c) : (S ++ L)[k]? = some c := by
  rw [List.getElem?_append_left (List.getElem?_eq_some_iff.mp e).1]; exact e
theorem st_wnx {J : DEnv → Store → Prop} (h : J ρ S) : (E.wn J).nx ρ S := h
theorem st_wrt {J : DEnv → Store → Prop} (h : E.rt d S) : (E.wn J).rt d S := h
theorem st_wbk {J : DEnv → Store → Prop} (h : E.bk ρ S) : (E.wn J).bk ρ S := h
theorem st_wct {J : DEnv → Store → Prop} (h : E.ct ρ S) : (E.wn J).ct ρ S := h
theorem st_lnx {J : DEnv → Store → Prop} (h : J ρ S) : (E.lp J).nx ρ S := h
theorem st_lct {J : DEnv → Store → Prop} (h : J ρ S) : (E.lp J).ct ρ S := h
theorem st_lbk {J : DEnv → Store → Prop} (h : E.nx ρ S) : (E.lp J).bk ρ S := h
theorem st_lrt {J : DEnv → Store → Prop} (h : E.rt d S) : (E.lp J).rt d S := h
theorem st_wex {J : DEnv → Store → Prop} {c : Str} {fs : List (Str × D)} (h : E.ex c fs ρ S) : (E.wn J).ex c fs ρ S := h
theorem st_lex {J : DEnv → Store → Prop} {c : Str} {fs : List (Str × D)} (h : E.ex c fs ρ S) : (E.lp J).ex c fs ρ S := h
theorem st_end {R : D → Store → Prop} (h : R d S) : (endsD S0 R Xc).rt d S := .inl h
theorem st_endC {R : D → Store → Prop} {S' : Store} (hc : Cut S0 S S') (ho : ownLt S0.length d = true) (h : R d S') : (endsD S0 R Xc).rt d S := .inr ⟨S', hc, ho, h⟩
theorem st_endN {R : D → Store → Prop} {S' : Store} (hc : Cut S0 S S') (h : R .non S') : (endsD S0 R Xc).nx ρ S := ⟨S', hc, h⟩
theorem st_endX {R : D → Store → Prop} {S' : Store} {c : Str} {fs : List (Str × D)} (hc : Cut S0 S S') (ho : ownLtF S0.length fs = true) (h : Xc c fs S') : (endsD S0 R Xc).ex c fs ρ S := ⟨S', hc, ho, h⟩
/-! loops -/
theorem st_for {ti : TID} {g : TGD} (h : ti ρ S (fun it S1 => ∃ I : Nat → DEnv → Store → Prop, I 0 ρ S1 ∧ ∀ i ρ S, I i ρ S → it.2 S ∧ (i = it.1.length → E.nx ρ S) ∧
  ∀ d, it.1[i]? = some d → g d ρ S (fun ρ1 S1 => t (E.lp fun ρ2 S2 => ∃ ρ3 S3, Shr ρ S ρ2 S2 ρ3 S3 ∧ I (i + 1) ρ3 S3) ρ1 S1) fun c fs S1 => E.ex c fs ρ S1) fun c fs S1 => E.ex c fs ρ S1) : dFor ti g t E ρ S := h
theorem st_range1 {Qi : List D × (Store → Prop) → Store → Prop} (h : ta ρ S (fun x S1 => ∃ j, x = .int j ∧ j < 2 ^ 62 ∧ -(2 ^ 62) ≤ j ∧ Qi (intsFrom 0 j.toNat, fun _ => True) S1) Xc) : iRange1 ta ρ S Qi Xc := h
theorem st_range1I {Qi : List D × (Store → Prop) → Store → Prop} (h1 : a < 2 ^ 62) (h2 : -(2 ^ 62) ≤ a) (h : Qi (intsFrom 0 a.toNat, fun _ => True) S) : ∃ j, D.int a = .int j ∧ j < 2 ^ 62 ∧ -(2 ^ 62) ≤ j ∧ Qi (intsFrom 0 j.toNat, fun _ => True) S := ⟨a, rfl, h1, h2, h⟩
end
end OD

/-! OE7: own exceptions over D. -/
namespace OD
open PySem PySem.Spec L2
open PyProof.Rows hiding St

structure ExD (P : Program) (w : World) (C : Ct) (mg : Str → Option Value) (base : Heap) (k : Nat) (x : Str) (spx : Addr → Sp) : Prop where
  mgx : mg x = some (.ref (C.ca x))
  ex : ExF C.K (C.ca x)
  fn : ∃ fI fd ps, PySem.W.findIn C.K (.ref (C.ca x)) "__init__" = some (some (.ref fI)) ∧ PySem.W.typeIn C.K (.ref fI) = some (.type "function") ∧ FnOk P w C.K mg base (L2.CX P w) k fI fd ps (spx (C.ca x)) ∧ Binds C.K fd ps []

theorem RepF.cons_iff {C : Ct} {F : Hp} {μ : List Addr} {p : Str × D} {ds : List (Str × D)} {vs : List (Str × V)} : RepF C F μ (p :: ds) vs ↔ ∃ v r, vs = (p.1, v) :: r ∧ Rep C F μ p.2 v ∧ RepF C F μ ds r := by
  conv => lhs; unfold RepF
theorem RepF.nil_iff {C : Ct} {F : Hp} {μ : List Addr} {vs : List (Str × V)} : RepF C F μ [] vs ↔ vs = [] := by conv => lhs; unfold RepF
theorem RepF.lookup {C : Ct} {F : Hp} {μ : List Addr} {n : Str} {d : D} : ∀ {fs : List (Str × D)} {gs : List (Str × V)}, RepF C F μ fs gs → fs.lookup n = some d → ∃ v, gs.lookup n = some v ∧ Rep C F μ d v
  | [], gs, h, e => by cases e
  | (m, x) :: fs, gs, h, e => by
    obtain ⟨v, r, rfl, h1, h2⟩ := RepF.cons_iff.mp h
    unfold List.lookup at e ⊢
    cases hm : (n == m) with
    | true => rw [hm] at e; cases e; exact ⟨v, rfl, h1⟩
    | false => rw [hm] at e; exact RepF.lookup h2 e
theorem upd_over {H : Hp} {a : Addr} {o u : HO} : upd (upd H a o) a u = upd H a u := by
  funext b
  by_cases hb : b = a
  · rw [hb, upd_same, upd_same]
  · rw [upd_ne hb, upd_ne hb, upd_ne hb]
theorem upd_swap {H : Hp} {a c : Addr} {o u : HO} (h : a ≠ c) : upd (upd H a o) c u = upd (upd H c u) a o := by
  funext b
  by_cases hb : b = a
  · subst hb; rw [upd_ne h, upd_same, upd_same]
  · by_cases hc : b = c
    · subst hc; rw [upd_same, upd_ne hb, upd_same]
    · rw [upd_ne hc, upd_ne hb, upd_ne hb, upd_ne hc]
section
variable {C : Ct} {F : Hp} {μ : List Addr} {H : Hp} {S : Store}
/-- an exception with its dict is laid for good -/
theorem SR.exc (s : SR C F μ H S) {a dx : Addr} {A : Addr} {gs : List (Str × V)} (ha : H a = none) (hd : H dx = none) (ne : dx ≠ a) :
    ∃ F', SR C F' μ (upd (upd H dx (exd dx gs)) a (exo a A (some dx))) S ∧ Ext F μ H F' μ (upd (upd H dx (exd dx gs)) a (exo a A (some dx))) ∧ ExAt F' a A gs := by
  obtain ⟨s1, x1⟩ := s.frz (o := exd dx gs) hd
  have ha1 : upd H dx (exd dx gs) a = none := by rw [upd_ne (Ne.symm ne)]; exact ha
  obtain ⟨s2, x2⟩ := s1.frz (o := exo a A (some dx)) ha1
  exact ⟨_, s2, x1.trans x2, .inr ⟨dx, upd_same, by rw [upd_ne ne, upd_same]⟩⟩
end
section
variable {X : Cx} {C : Ct} {W : WX} {es : List Expr} {e : Expr} {u : TD (List D)} {te : TD D} {q pos : Pos} {x : Str}
def dMk2 (c f1 f2 : Str) (u : TD (List D)) : TD D := fun ρ S Q Xc => u ρ S (fun ds S1 => ∃ d1 d2, ds = [d1, d2] ∧ Q (.exc c [(f2, d2), (f1, d1)]) S1) Xc
def dMk1 (c f1 : Str) (u : TD (List D)) : TD D := fun ρ S Q Xc => u ρ S (fun ds S1 => ∃ d1, ds = [d1] ∧ Q (.exc c [(f1, d1)]) S1) Xc
def dMk0 (c : Str) : TD D := fun _ S Q _ => Q (.exc c []) S
theorem de_mk2 {k j : Nat} {f1 f2 : Str} (hK : X.K = C.K) (F : ExD X.prog X.w C X.mg X.base k x (fun a => sp2 a f1 f2)) (hr : Room j X.A) (tk : Takes X W) (ha : DA X C W (e :: es) u) (hkj : k + 1 ≤ j := by decide) (hg : Gl X x := by rfl)
    (hdb : (x == ("__debug__" : Str)) = false := by decide) (he : starEach (e :: es) X.env = (false, eval e X.env) :: starEach es X.env := by rfl) (hpl : (backTo pos (starEach es X.env)).any (·.1) = false := by rfl) :
    DE X C W (.Call (.Name x q) (e :: es) [] pos) (dMk2 x f1 f2 u) := by
  obtain ⟨fI, fd, ps, h1, h2, ok, hb⟩ := F.fn
  have T := F.ex.T
  rw [← hK] at h1 h2 ok hb T
  refine PE.imp (pe_mkx (CX := L2.CX X.prog X.w) T h1 h2 ok (hr.mono hkj) hb .nil (passes_call tk fun _ _ _ _ z => z.elim) hg F.mgx ha hdb he hpl) fun σ H Q ⟨F1, μ, ρ, S, R, Xc, e, s, h, hR, hX⟩ => ?_
  refine lift_of e s h (fun F2 μ2 H2 vs ds S2 x2 s2 r2 h2 => ?_) hX
  obtain ⟨d1, d2, rfl, h2⟩ := h2
  obtain ⟨v1, r, rfl, r1, r9⟩ := Reps.cons_iff.mp r2
  obtain ⟨v2, r, rfl, r4, r3⟩ := Reps.cons_iff.mp r9
  rw [Reps.nil_iff] at r3; subst r3
  refine ⟨by simp, fun a ea => ⟨a, v1, v2, rfl, upd_same, fun dx n ne => ⟨rfl, ?_⟩⟩⟩
  have hd : H2 dx = none := by rw [upd_ne ne] at n; exact n
  obtain ⟨F3, s3, x3, xa⟩ := s2.exc (A := C.ca x) (gs := [(f2, v2), (f1, v1)]) ea hd ne
  have eH : upd (upd (upd (upd H2 a (exo a (C.ca x) none)) dx (exd dx [(f1, v1)])) a (exo a (C.ca x) (some dx))) dx (exd dx [(f2, v2), (f1, v1)]) = upd (upd H2 dx (exd dx [(f2, v2), (f1, v1)])) a (exo a (C.ca x) (some dx)) := by
    funext b
    by_cases hb : b = dx
    · subst hb; rw [upd_same, upd_ne ne, upd_same]
    · by_cases hc : b = a
      · subst hc; rw [upd_ne hb, upd_same, upd_same]
      · rw [upd_ne hb, upd_ne hc, upd_ne hb, upd_ne hc, upd_ne hc, upd_ne hb]
  rw [eH]
  exact hR F3 μ2 _ _ _ S2 (x2.trans x3) s3 (Rep.exc_iff.mpr ⟨a, _, rfl, xa, RepF.cons_iff.mpr ⟨v2, _, rfl, Rep.ext x3 r4, RepF.cons_iff.mpr ⟨v1, _, rfl, Rep.ext x3 r1, RepF.nil_iff.mpr rfl⟩⟩⟩) h2
theorem de_mk1 {k j : Nat} {f1 : Str} (hK : X.K = C.K) (F : ExD X.prog X.w C X.mg X.base k x (fun a => sp1 a f1)) (hr : Room j X.A) (tk : Takes X W) (ha : DA X C W (e :: es) u) (hkj : k + 1 ≤ j := by decide) (hg : Gl X x := by rfl)
    (hdb : (x == ("__debug__" : Str)) = false := by decide) (he : starEach (e :: es) X.env = (false, eval e X.env) :: starEach es X.env := by rfl) (hpl : (backTo pos (starEach es X.env)).any (·.1) = false := by rfl) :
    DE X C W (.Call (.Name x q) (e :: es) [] pos) (dMk1 x f1 u) := by
  obtain ⟨fI, fd, ps, h1, h2, ok, hb⟩ := F.fn
  have T := F.ex.T
  rw [← hK] at h1 h2 ok hb T
  refine PE.imp (pe_mkx (CX := L2.CX X.prog X.w) T h1 h2 ok (hr.mono hkj) hb .nil (passes_call tk fun _ _ _ _ z => z.elim) hg F.mgx ha hdb he hpl) fun σ H Q ⟨F1, μ, ρ, S, R, Xc, e, s, h, hR, hX⟩ => ?_
  refine lift_of e s h (fun F2 μ2 H2 vs ds S2 x2 s2 r2 h2 => ?_) hX
  obtain ⟨d1, rfl, h2⟩ := h2
  obtain ⟨v1, r, rfl, r1, r3⟩ := Reps.cons_iff.mp r2
  rw [Reps.nil_iff] at r3; subst r3
  refine ⟨by simp, fun a ea => ⟨a, v1, rfl, upd_same, fun dx n ne => ⟨rfl, ?_⟩⟩⟩
  have hd : H2 dx = none := by rw [upd_ne ne] at n; exact n
  obtain ⟨F3, s3, x3, xa⟩ := s2.exc (A := C.ca x) (gs := [(f1, v1)]) ea hd ne
  have eH : upd (upd (upd H2 a (exo a (C.ca x) none)) dx (exd dx [(f1, v1)])) a (exo a (C.ca x) (some dx)) = upd (upd H2 dx (exd dx [(f1, v1)])) a (exo a (C.ca x) (some dx)) := by
    funext b
    by_cases hb : b = a
    · subst hb; rw [upd_same, upd_same]
    · by_cases hc : b = dx
      · subst hc; rw [upd_ne hb, upd_same, upd_ne hb, upd_same]
      · rw [upd_ne hb, upd_ne hc, upd_ne hb, upd_ne hb, upd_ne hc]
  rw [eH]
  exact hR F3 μ2 _ _ _ S2 (x2.trans x3) s3 (Rep.exc_iff.mpr ⟨a, _, rfl, xa, RepF.cons_iff.mpr ⟨v1, _, rfl, Rep.ext x3 r1, RepF.nil_iff.mpr rfl⟩⟩) h2
theorem de_mk0 {bmB : List Value} {B newId initId : String} (hK : X.K = C.K) (F : ExcBaseFacts B newId initId bmB) (hq : PySem.W.excIn C.K (C.ca x) bmB newId = true) (kC : PySem.W.keepIn C.K (.ref (C.ca x)) = true) (gC : X.mg x = some (.ref (C.ca x))) (hg : Gl X x := by rfl)
    (hdb : (x == ("__debug__" : Str)) = false := by decide) : DE X C W (.Call (.Name x q) [] [] pos) (dMk0 x) := by
  rw [← hK] at hq kC
  refine PE.imp (pe_mk0 F hq kC hg gC hdb) fun σ H Q ⟨F1, μ, ρ, S, R, Xc, e, s, h, hR, hX⟩ a ea => ?_
  obtain ⟨s2, x2⟩ := s.frz (o := exo a (C.ca x) none) ea
  exact hR _ μ _ _ _ S x2 s2 (Rep.exc_iff.mpr ⟨a, [], rfl, .inl ⟨rfl, upd_same⟩, RepF.nil_iff.mpr rfl⟩) h
/-- e.f of an exception -/
def XfD (C : Ct) (c n : Str) : Prop := XfC C.K (C.ca c) ∧ PySem.W.findIn C.K (.ref (C.ca c)) n = some none
def dXf (C : Ct) (n : Str) (te : TD D) : TD D := fun ρ S Q Xc => te ρ S (fun y S1 => ∃ c fs d, y = .exc c fs ∧ fs.lookup n = some d ∧ XfD C c n ∧ Q d S1) Xc
theorem de_xf {n : Str} (hK : X.K = C.K) (he : DE X C W e te) (hb : attributeBase e n X.env (eval e X.env) = eval e X.env := by rfl) : DE X C W (.Attribute e n pos) (dXf C n te) := by
  refine PE.imp (pe_xv he hb) fun σ H Q ⟨F1, μ, ρ, S, R, Xc, e, s, h, hR, hX⟩ => ?_
  refine lift_of e s h (fun F2 μ2 H2 v d S2 x2 s2 r2 h2 => ?_) hX
  obtain ⟨c, fs, y, rfl, l, ⟨T, hno⟩, h2⟩ := h2
  obtain ⟨a, gs, rfl, xa, rf⟩ := Rep.exc_iff.mp r2
  obtain ⟨v, l2, rv⟩ := rf.lookup l
  rcases xa with ⟨rfl, _⟩ | ⟨dx, e1, e2⟩
  · cases l2
  · exact ⟨a, C.ca c, dx, gs, v, rfl, s2.sub _ _ e1, s2.sub _ _ e2, by rw [hK]; exact T, by rw [hK]; exact hno, l2, hR F2 μ2 H2 v y S2 x2 s2 rv h2⟩
/-! ### isinstance -/
def tyD (C : Ct) : D → Store → Option Value
  | .non, _ => some (.type "NoneType")
  | .bl _, _ => some (.type "bool")
  | .int _, _ => some (.type "int")
  | .str _, _ => some (.type "str")
  | .tup _, _ => some (.type "tuple")
  | .lst _, _ => some (.type "list")
  | .scr _, _ => some (.type "list")
  | .own k, S => match S[k]? with
    | some (.lst _) => some (.type "list")
    | _ => none
  | _, _ => none
def clD (C : Ct) : D → Option Value
  | .ty n => some (.type n)
  | .cls c => some (.ref (C.ca c))
  | _ => none
def pIsi (C : Ct) : PN := fun ds S Q => ∃ x k u b, ds = [x, k] ∧ clD C k = some u ∧ ((∃ t, tyD C x S = some t ∧ PySem.W.kitOne C.K t u = some b) ∨ (∃ c fs, x = .exc c fs ∧ ExF C.K (C.ca c) ∧ PySem.W.kitOne C.K (.ref (C.ca c)) u = some b)) ∧ Q (.bl b) S
theorem call_isiD : CallR X (.builtin "isinstance") (fun xs H Q => rIsi X.K xs H Q ∨ rIsX X.K xs H Q) := fun pins s σ H xs us Q I r h => h.elim (fun h => call_isi pins s σ H xs us Q I r h) (fun h => call_isX pins s σ H xs us Q I r h)
theorem clD_rep {F : Hp} {μ : List Addr} {k : D} {v : V} {u : Value} (r : Rep C F μ k v) (h : clD C k = some u) : ClsV v u := by
  cases k with
  | ty n => rw [Rep.ty_iff.mp r]; cases h; exact .ty n
  | cls c => rw [Rep.cls_iff.mp r]; cases h; exact .own _
  | _ => cases h
theorem SqL.tyx {K : PySem.W.Frag} {H : Hp} {a : Addr} {xs : List V} (h : SqL K H a xs) : TyX K H (.ref a) (.type "list") := by
  rcases h with (h | ⟨o, h⟩) | ⟨o, its, n, h1, h2, _⟩
  · exact .base (.lst h)
  · exact .base (.frz h)
  · exact .kList h1 h2
theorem SqT.tyx {K : PySem.W.Frag} {H : Hp} {a : Addr} {xs : List V} (h : SqT K H a xs) : TyX K H (.ref a) (.type "tuple") := by
  rcases h with (h | ⟨o, h⟩) | ⟨o, its, n, h1, h2, _⟩
  · exact .base (.tup h)
  · exact .fTuple h
  · exact .kTuple h1 h2
theorem tyD_rep {F : Hp} {μ : List Addr} {H : Hp} {S : Store} {x : D} {v : V} {t : Value} (s : SR C F μ H S) (r : Rep C F μ x v) (h : tyD C x S = some t) : TyX C.K H v t := by
  cases x with
  | non => rw [Rep.non_iff.mp r]; cases h; exact .base .non
  | bl b => rw [Rep.bl_iff.mp r]; cases h; exact .base (.bl b)
  | int b => rw [Rep.int_iff.mp r]; cases h; exact .base (.int b)
  | str b => rw [Rep.str_iff.mp r]; cases h; exact .base (.str b)
  | tup ds => obtain ⟨a, vs, rfl, q, _⟩ := Rep.tup_iff.mp r; cases h; exact SqT.tyx (SqT.same s.sub q)
  | lst ds => obtain ⟨a, vs, rfl, q, _⟩ := Rep.lst_iff.mp r; cases h; exact SqL.tyx (SqL.of (s.sub _ _ q))
  | scr ns => obtain ⟨a, rfl, q⟩ := Rep.scr_iff.mp r; cases h; exact SqL.tyx (s.sub.seq q)
  | own k =>
    obtain ⟨a, rfl, q⟩ := Rep.own_iff.mp r
    simp only [tyD] at h
    split at h
    · rename_i ds e
      cases h
      obtain ⟨_, vs, h1, _⟩ := s.cell k _ a e q
      exact SqL.tyx (SqL.of h1)
    · cases h
  | _ => cases h
theorem pIsi_ok (hK : X.K = C.K) : PrimN C (fun xs H Q => rIsi X.K xs H Q ∨ rIsX X.K xs H Q) (pIsi C) := fun F μ H S xs ds R Q s rs ⟨x, k, u, b, e, hk, ht, h⟩ hR => by
  subst e
  obtain ⟨v1, r, rfl, r1, r9⟩ := Reps.cons_iff.mp rs
  obtain ⟨v2, r, rfl, r4, r3⟩ := Reps.cons_iff.mp r9
  rw [Reps.nil_iff] at r3; subst r3
  rw [hK]
  rcases ht with ⟨t, ht, e⟩ | ⟨c, fs, rfl, T, e⟩
  · exact .inl ⟨v1, v2, t, u, b, rfl, clD_rep r4 hk, tyD_rep s r1 ht, e, hR F μ H _ _ S (Ext.refl F μ H) s (Rep.bl_iff.mpr rfl) h⟩
  · obtain ⟨a, gs, rfl, xa, rf⟩ := Rep.exc_iff.mp r1
    exact .inr ⟨a, C.ca c, gs, v2, u, b, rfl, clD_rep r4 hk, xa.mono s.sub, T, e, hR F μ H _ _ S (Ext.refl F μ H) s (Rep.bl_iff.mpr rfl) h⟩
theorem de_isi (hK : X.K = C.K) (hm : X.mg "isinstance" = none) (ha : DA X C W (e :: es) u) (hg : Gl X "isinstance" := by rfl) (he : starEach (e :: es) X.env = (false, eval e X.env) :: starEach es X.env := by rfl) (hpl : (backTo pos (starEach es X.env)).any (·.1) = false := by rfl) : DE X C W (.Call (.Name "isinstance" q) (e :: es) [] pos) (dCB (pIsi C) u) :=
  de_callB call_isiD (pIsi_ok hK) hm ha (hg := hg) (he := he) (hpl := hpl) (hv := by decide +kernel)
end
end OD

/-! OE8: names of classes and types as values, join. -/
namespace OD
open PySem PySem.Spec L2
open PyProof.Rows hiding St
theorem Reps.of_strs {C : Ct} {F : Hp} {μ : List Addr} : ∀ {ns : List Str} {vs : List V}, Reps C F μ (ns.map D.str) vs → vs = ns.map V.str
  | [], vs, h => Reps.nil_iff.mp h
  | n :: ns, vs, h => by
    obtain ⟨v, r, rfl, h1, h2⟩ := Reps.cons_iff.mp h
    rw [Rep.str_iff.mp h1, Reps.of_strs h2]; rfl
section
variable {X : Cx} {C : Ct} {W : WX} {es : List Expr} {o e : Expr} {u : TD (List D)} {ta : TD D} {q pos apos cpos : Pos} {x : Str}
theorem de_cls (hm : X.mg x = some (.ref (C.ca x))) (hg : Gl X x := by rfl) (hd : (x == ("__debug__" : Str)) = false := by decide) : DE X C W (.Name x pos) (dC (.cls x)) :=
  PE.imp (pe_glob hg hm (v := .ref (C.ca x)) rfl hd) fun σ H Q ⟨F, μ, ρ, S, R, Xc, e, s, h, hR, hX⟩ => hR F μ H (.ref (C.ca x)) (.cls x) S (Ext.refl F μ H) s (Rep.cls_iff.mpr rfl) h
theorem de_ty {n : String} (hm : X.mg x = none) (hv : bootBuiltins x = some (.type n) := by decide +kernel) (hg : Gl X x := by rfl) (hn : x ≠ "__name__" := by decide) (hd : (x == ("__debug__" : Str)) = false := by decide) : DE X C W (.Name x pos) (dC (.ty n)) :=
  de_c (v := .ty n) (pe_bltn hg hm hv rfl hn hd) rfl
def pJoin : D → List D → Store → (D → Store → Prop) → Prop := fun x xs S Q => ∃ a l ys, x = .str a ∧ xs = [l] ∧ seqD l S = some (ys.map D.str) ∧ (ys.map (·.length)).sum + ys.length * a.length ≤ 16777216 ∧ Q (.str (Txt.join a ys)) S
theorem seqD_of {F : Hp} {μ : List Addr} {H : Hp} {S : Store} {d : D} {v : V} {ds : List D} {K : PySem.W.Frag} (hK : K = C.K) (s : SR C F μ H S) (r : Rep C F μ d v) (h : seqD d S = some ds) : ∃ a vs, v = .ref a ∧ (SqL K H a vs ∨ SqT K H a vs) ∧ Reps C F μ ds vs := by
  subst hK
  cases d with
  | tup es => obtain ⟨a, vs, rfl, q, r2⟩ := Rep.tup_iff.mp r; cases h; exact ⟨a, vs, rfl, .inr (SqT.same s.sub q), r2⟩
  | lst es => obtain ⟨a, vs, rfl, q, r2⟩ := Rep.lst_iff.mp r; cases h; exact ⟨a, vs, rfl, .inl (SqL.of (s.sub _ _ q)), r2⟩
  | own k =>
    obtain ⟨a, rfl, q⟩ := Rep.own_iff.mp r
    simp only [seqD] at h
    split at h
    · rename_i es e
      cases h
      obtain ⟨_, vs, h1, r2⟩ := s.cell k _ a e q
      exact ⟨a, vs, rfl, .inl (SqL.of h1), r2⟩
    · cases h
  | _ => simp only [seqD] at h; cases h
theorem pJoin_ok (hK : X.K = C.K) : PrimM C (fun x xs H Q => ∃ a p, ∃ ys : List Str, x = .str a ∧ xs = [.ref p] ∧ (SqL X.K H p (ys.map V.str) ∨ SqT X.K H p (ys.map V.str)) ∧
    (ys.map (·.length)).sum + ys.length * a.length ≤ 16777216 ∧ Q (.str (Txt.join a ys)) H) pJoin := fun F μ H S x xs d ds R Q s rx rs ⟨a, l, ys, e1, e2, hl, hz, h⟩ hR => by
  subst e1 e2
  obtain ⟨v1, r, rfl, r1, r3⟩ := Reps.cons_iff.mp rs
  rw [Reps.nil_iff] at r3; subst r3
  obtain ⟨p, vs, rfl, hs, r2⟩ := seqD_of hK s r1 hl
  obtain rfl := Reps.of_strs r2
  exact ⟨a, p, ys, Rep.str_iff.mp rx, rfl, hs, hz, hR F μ H _ _ S (Ext.refl F μ H) s (Rep.str_iff.mpr rfl) h⟩
theorem de_join (hK : X.K = C.K) (ho : DE X C W o ta) (ha : DA X C W (e :: es) u) (hbase : attributeBase o "join" X.env (eval o X.env) = eval o X.env := by rfl)
    (hfew : ((backTo cpos (starEach (e :: es) X.env)).all (fun x => !x.1) && (backToKw cpos (keywordEach [] X.env)).all (fun x => x.1.isSome)
      && decide ((e :: es).length + ([] : List Keyword).length + (if ([] : List Keyword).isEmpty then 0 else 1) < 30)) = true := by rfl)
    (hline : (apos.endLine == cpos.line) = true := by rfl) (hs : starEach (e :: es) X.env = (false, eval e X.env) :: starEach es X.env := by rfl) (hplain : (backTo cpos (starEach es X.env)).any (·.1) = false := by rfl) :
    DE X C W (.Call (.Attribute o "join" apos) (e :: es) [] cpos) (dBM isStr pJoin ta u) := de_bm PySem.F.plainAttrs_str PySem.F.slot_str_join PySem.F.type_str_join mt_join isStr_ok (pJoin_ok hK) ho ha hbase hfew hline hs hplain
theorem takesF {X : Cx} : Takes X noW := takes0
end
end OD
namespace OD
/-- an error class without an own __init__ -/
structure Ex0 (C : Ct) (mg : PySem.Str → Option PySem.Value) (x : PySem.Str) : Prop where
  q : PySem.W.excIn C.K (C.ca x) He.veBase "ValueError.__new__" = true
  k : PySem.W.keepIn C.K (.ref (C.ca x)) = true
  g : mg x = some (.ref (C.ca x))
end OD

/-! OE9: more steps. -/
namespace OD
open PySem PySem.Spec L2
open PyProof.Rows hiding St
section
variable {ρ : DEnv} {S S0 : Store} {Q : D → Store → Prop} {Xc : XcD} {C : Ct} {u : TD (List D)} {te : TD D}
theorem st_isI {a : Int} (h : Q (.bl false) S) : pIs (.int a) .non S Q := ⟨rfl, h⟩
theorem st_isS {a : Str} (h : Q (.bl false) S) : pIs (.str a) .non S Q := ⟨rfl, h⟩
theorem st_isT {a : List D} (h : Q (.bl false) S) : pIs (.tup a) .non S Q := ⟨rfl, h⟩
theorem st_isL {a : List D} (h : Q (.bl false) S) : pIs (.lst a) .non S Q := ⟨rfl, h⟩
theorem st_isB {a : Bool} (h : Q (.bl false) S) : pIs (.bl a) .non S Q := ⟨rfl, h⟩
theorem st_isN (h : Q (.bl true) S) : pIs .non .non S Q := ⟨rfl, h⟩
theorem st_isi_of {x : D} {n : String} {t : String} {b : Bool} (ht : tyD C x S = some (.type t)) (h : kitB t n = some b) (hq : Q (.bl b) S) : pIsi C [x, .ty n] S Q := ⟨x, .ty n, _, b, rfl, rfl, .inl ⟨_, ht, kit_ty h⟩, hq⟩
theorem st_isi_cls {c : Str} {fs : List (Str × D)} {n : Str} {b : Bool} (T : ExF C.K (C.ca c)) (h : PySem.W.kitOne C.K (.ref (C.ca c)) (.ref (C.ca n)) = some b) (hq : Q (.bl b) S) : pIsi C [.exc c fs, .cls n] S Q := ⟨_, _, _, b, rfl, rfl, .inr ⟨c, fs, rfl, T, h⟩, hq⟩
theorem st_isi_cty {c : Str} {fs : List (Str × D)} {n : String} {b : Bool} (T : ExF C.K (C.ca c)) (h : PySem.W.kitOne C.K (.ref (C.ca c)) (.type n) = some b) (hq : Q (.bl b) S) : pIsi C [.exc c fs, .ty n] S Q := ⟨_, _, _, b, rfl, rfl, .inr ⟨c, fs, rfl, T, h⟩, hq⟩
theorem st_mk2 {c f1 f2 : Str} (h : u ρ S (fun ds S1 => ∃ d1 d2, ds = [d1, d2] ∧ Q (.exc c [(f2, d2), (f1, d1)]) S1) Xc) : dMk2 c f1 f2 u ρ S Q Xc := h
theorem st_mk2e {d1 d2 : D} {G : D → D → Prop} (h : G d1 d2) : ∃ e1 e2, [d1, d2] = [e1, e2] ∧ G e1 e2 := ⟨d1, d2, rfl, h⟩
theorem st_mk1 {c f1 : Str} (h : u ρ S (fun ds S1 => ∃ d1, ds = [d1] ∧ Q (.exc c [(f1, d1)]) S1) Xc) : dMk1 c f1 u ρ S Q Xc := h
theorem st_mk1e {d1 : D} {G : D → Prop} (h : G d1) : ∃ e1, [d1] = [e1] ∧ G e1 := ⟨d1, rfl, h⟩
theorem st_mk0 {c : Str} (h : Q (.exc c []) S) : dMk0 c ρ S Q Xc := h
theorem st_xf {n : Str} (h : te ρ S (fun y S1 => ∃ c fs d, y = .exc c fs ∧ fs.lookup n = some d ∧ XfD C c n ∧ Q d S1) Xc) : dXf C n te ρ S Q Xc := h
theorem st_xfe {n c : Str} {fs : List (Str × D)} {d : D} {G : D → Prop} (hl : fs.lookup n = some d) (hx : XfD C c n) (h : G d) : ∃ c' fs' d', D.exc c fs = .exc c' fs' ∧ fs'.lookup n = some d' ∧ XfD C c' n ∧ G d' := ⟨c, fs, d, rfl, hl, hx, h⟩
theorem st_truF {c : Bool} {F : Bool → Prop} (h : F c) : ∃ k, truD (.bl c) S = some k ∧ F k := ⟨c, rfl, h⟩
theorem st_yes {Qb : Bool → Store → Prop} (h : Qb true S) : dYes ρ S Qb Xc := h
theorem st_lc {o : Bool} {ti : TID} {g : GD} {A : TD Bool} {vs : List Nat} (h : ti ρ S (fun it S1 => ∃ I : Nat → List D → Store → Prop, I 0 [] S1 ∧ ∀ i acc S, I i acc S → it.2 S ∧ (i = it.1.length → mkL o acc S Q) ∧
  ∀ d, it.1[i]? = some d → ∃ ρ1, g d (wipeD ρ vs) S = some ρ1 ∧ A ρ1 S (fun k S2 => if k = true then te ρ1 S2 (fun y S3 => acc.length < sizeLine ∧ I (i + 1) (acc ++ [y]) S3) noX else I (i + 1) acc S2) noX) Xc) : dLc o ti g A te vs ρ S Q Xc := h
theorem st_iteDT {P : Prop} [Decidable P] {G H : Prop} (h1 : P) (h : G) : if decide P = true then G else H := by
  rw [if_pos (decide_eq_true h1)]; exact h
theorem st_iteDF {P : Prop} [Decidable P] {G H : Prop} (h1 : ¬ P) (h : H) : if decide P = true then G else H := by
  rw [if_neg (fun z => h1 (of_decide_eq_true z))]; exact h
theorem st_iteNDT {P : Prop} [Decidable P] {G H : Prop} (h1 : ¬ P) (h : G) : if (!decide P) = true then G else H := by
  rw [decide_eq_false h1]; exact h
theorem st_iteNDF {P : Prop} [Decidable P] {G H : Prop} (h1 : P) (h : H) : if (!decide P) = true then G else H := by
  rw [decide_eq_true h1]; exact h
theorem intsFrom_inv {n i : Nat} {d : D} (h : (intsFrom 0 n)[i]? = some d) : i < n ∧ d = .int (i : Int) := by
  have hi : i < n := by have := (List.getElem?_eq_some_iff.mp h).1; rwa [intsFrom_len] at this
  rw [intsFrom_get hi] at h
  cases h
  exact ⟨hi, by rw [Int.zero_add]⟩
theorem atI_map_range {α : Type} {f : Nat → α} {n i : Nat} (h : i < n) : atI ((List.range n).map f) (i : Int) = some (f i) := atI_nat (by simp [h])

theorem st_isi_int_bool {a : Int} (h : Q (.bl false) S) : pIsi C [.int a, .ty "bool"] S Q := st_isi_of (t := "int") rfl (by decide +kernel) h
theorem st_isi_int_int {a : Int} (h : Q (.bl true) S) : pIsi C [.int a, .ty "int"] S Q := st_isi_of (t := "int") rfl (by decide +kernel) h
theorem st_isi_int_str {a : Int} (h : Q (.bl false) S) : pIsi C [.int a, .ty "str"] S Q := st_isi_of (t := "int") rfl (by decide +kernel) h
theorem st_isi_int_list {a : Int} (h : Q (.bl false) S) : pIsi C [.int a, .ty "list"] S Q := st_isi_of (t := "int") rfl (by decide +kernel) h
theorem st_isi_int_tuple {a : Int} (h : Q (.bl false) S) : pIsi C [.int a, .ty "tuple"] S Q := st_isi_of (t := "int") rfl (by decide +kernel) h
theorem st_isi_str_bool {z : Str} (h : Q (.bl false) S) : pIsi C [.str z, .ty "bool"] S Q := st_isi_of (t := "str") rfl (by decide +kernel) h
theorem st_isi_str_int {z : Str} (h : Q (.bl false) S) : pIsi C [.str z, .ty "int"] S Q := st_isi_of (t := "str") rfl (by decide +kernel) h
theorem st_isi_str_str {z : Str} (h : Q (.bl true) S) : pIsi C [.str z, .ty "str"] S Q := st_isi_of (t := "str") rfl (by decide +kernel) h
theorem st_isi_str_list {z : Str} (h : Q (.bl false) S) : pIsi C [.str z, .ty "list"] S Q := st_isi_of (t := "str") rfl (by decide +kernel) h
theorem st_isi_str_tuple {z : Str} (h : Q (.bl false) S) : pIsi C [.str z, .ty "tuple"] S Q := st_isi_of (t := "str") rfl (by decide +kernel) h
theorem st_isi_tuple_bool {ds : List D} (h : Q (.bl false) S) : pIsi C [.tup ds, .ty "bool"] S Q := st_isi_of (t := "tuple") rfl (by decide +kernel) h
theorem st_isi_tuple_int {ds : List D} (h : Q (.bl false) S) : pIsi C [.tup ds, .ty "int"] S Q := st_isi_of (t := "tuple") rfl (by decide +kernel) h
theorem st_isi_tuple_str {ds : List D} (h : Q (.bl false) S) : pIsi C [.tup ds, .ty "str"] S Q := st_isi_of (t := "tuple") rfl (by decide +kernel) h
theorem st_isi_tuple_list {ds : List D} (h : Q (.bl false) S) : pIsi C [.tup ds, .ty "list"] S Q := st_isi_of (t := "tuple") rfl (by decide +kernel) h
theorem st_isi_tuple_tuple {ds : List D} (h : Q (.bl true) S) : pIsi C [.tup ds, .ty "tuple"] S Q := st_isi_of (t := "tuple") rfl (by decide +kernel) h
theorem st_isi_list_bool {ds : List D} (h : Q (.bl false) S) : pIsi C [.lst ds, .ty "bool"] S Q := st_isi_of (t := "list") rfl (by decide +kernel) h
theorem st_isi_list_int {ds : List D} (h : Q (.bl false) S) : pIsi C [.lst ds, .ty "int"] S Q := st_isi_of (t := "list") rfl (by decide +kernel) h
theorem st_isi_list_str {ds : List D} (h : Q (.bl false) S) : pIsi C [.lst ds, .ty "str"] S Q := st_isi_of (t := "list") rfl (by decide +kernel) h
theorem st_isi_list_list {ds : List D} (h : Q (.bl true) S) : pIsi C [.lst ds, .ty "list"] S Q := st_isi_of (t := "list") rfl (by decide +kernel) h
theorem st_isi_list_tuple {ds : List D} (h : Q (.bl false) S) : pIsi C [.lst ds, .ty "tuple"] S Q := st_isi_of (t := "list") rfl (by decide +kernel) h
theorem st_isi_bool_bool {c : Bool} (h : Q (.bl true) S) : pIsi C [.bl c, .ty "bool"] S Q := st_isi_of (t := "bool") rfl (by decide +kernel) h
theorem st_isi_bool_int {c : Bool} (h : Q (.bl true) S) : pIsi C [.bl c, .ty "int"] S Q := st_isi_of (t := "bool") rfl (by decide +kernel) h
theorem st_isi_bool_str {c : Bool} (h : Q (.bl false) S) : pIsi C [.bl c, .ty "str"] S Q := st_isi_of (t := "bool") rfl (by decide +kernel) h
theorem st_isi_bool_list {c : Bool} (h : Q (.bl false) S) : pIsi C [.bl c, .ty "list"] S Q := st_isi_of (t := "bool") rfl (by decide +kernel) h
theorem st_isi_bool_tuple {c : Bool} (h : Q (.bl false) S) : pIsi C [.bl c, .ty "tuple"] S Q := st_isi_of (t := "bool") rfl (by decide +kernel) h
theorem st_isi_NoneType_bool  (h : Q (.bl false) S) : pIsi C [.non, .ty "bool"] S Q := st_isi_of (t := "NoneType") rfl (by decide +kernel) h
theorem st_isi_NoneType_int  (h : Q (.bl false) S) : pIsi C [.non, .ty "int"] S Q := st_isi_of (t := "NoneType") rfl (by decide +kernel) h
theorem st_isi_NoneType_str  (h : Q (.bl false) S) : pIsi C [.non, .ty "str"] S Q := st_isi_of (t := "NoneType") rfl (by decide +kernel) h
theorem st_isi_NoneType_list  (h : Q (.bl false) S) : pIsi C [.non, .ty "list"] S Q := st_isi_of (t := "NoneType") rfl (by decide +kernel) h
theorem st_isi_NoneType_tuple  (h : Q (.bl false) S) : pIsi C [.non, .ty "tuple"] S Q := st_isi_of (t := "NoneType") rfl (by decide +kernel) h
end
end OD

/-! OE10: the head's Hook: facts, defs, own exceptions' __init__, one check of one's own. -/
namespace OD
open PySem PySem.Spec PyProof.Rows L2 He
abbrev AlX : Type := Bool × List He.FnW × List SupW
structure HkX where
  file : Str
  fa : List Fa
  fn : List DefD
  sx : List SupD
  xb : PySem.W.Frag → Bool
def obsX (k : HkX) (K : PySem.W.Frag) : AlX := ((k.fa.all fun f => f.ok K) && ((k.fn.all fun d => d.ok K) && ((k.sx.all fun d => supB k.file K d) && k.xb K)), k.fn.map fun d => He.fnW K d.at_, k.sx.map fun d => supW K d.cls)
def valX (k : HkX) : AlX := (true, k.fn.map DefD.val, k.sx.map SupD.val)
def SaysX (k : HkX) (K : PySem.W.Frag) : Prop := obsX k K = valX k
def asX (g : Addr → Option Obj) (n : Nat) : List Addr := asD g n ++ [PySem.cStatics]
def obsXG (n : Nat) (k : HkX) (g : Addr → Option Obj) : AlX := obsX k (frG g (asX g n))
def hookX (n : Nat) (k : HkX) : PySem.W.Hook where
  α := AlX
  obs := fun s => obsXG n k s.heap.get?
  val := fun _ => valX k
  says := fun _ h => ∃ K : PySem.W.Frag, K.In h ∧ SaysX k K
  of := fun _ _ e => ⟨_, frG_in, e⟩
  keeps := fun _ _ _ ⟨K, hK, c⟩ k => ⟨K, PySem.W.Frag.In.keeps hK k, c⟩
theorem obsXG_eq {n : Nat} {k : HkX} {g : Addr → Option Obj} {s : Shared} (h : ∀ a, g a = s.heap.get? a) : obsXG n k g = (hookX n k).obs s := by
  have e : g = s.heap.get? := funext h
  rw [e] <;> rfl
section
variable {k : HkX} {K : PySem.W.Frag}
theorem SaysX.all (c : SaysX k K) : (∀ f ∈ k.fa, f.ok K = true) ∧ (∀ d ∈ k.fn, d.ok K = true) ∧ (∀ d ∈ k.sx, supB k.file K d = true) ∧ k.xb K = true := by
  have h : ((k.fa.all fun f => f.ok K) && ((k.fn.all fun d => d.ok K) && ((k.sx.all fun d => supB k.file K d) && k.xb K))) = true := congrArg (fun z : AlX => z.1) c
  simp only [Bool.and_eq_true, List.all_eq_true] at h
  exact h
theorem SaysX.fact (c : SaysX k K) (i : Nat) {f : Fa} (h : k.fa[i]? = some f := by rfl) : f.ok K = true := c.all.1 f (List.mem_of_getElem? h)
theorem SaysX.def_ (c : SaysX k K) (i : Nat) {d : DefD} (h : k.fn[i]? = some d := by rfl) : ∃ fd, FunD K d.name d.qual d.params d.body d.scope (d.dvs K) (d.kws K) (fAd K d.at_) fd := by
  have e : k.fn.map (fun d => He.fnW K d.at_) = k.fn.map DefD.val := congrArg (fun z : AlX => z.2.1) c
  have e2 : (k.fn.map fun d => He.fnW K d.at_)[i]? = (k.fn.map DefD.val)[i]? := by rw [e]
  rw [List.getElem?_map, List.getElem?_map, h] at e2
  exact DefD.funD (Option.some.inj e2) (c.all.2.1 d (List.mem_of_getElem? h))
theorem SaysX.sup (c : SaysX k K) (i : Nat) {d : SupD} (h : k.sx[i]? = some d := by rfl) : SupF k.file K d := by
  have e : k.sx.map (fun d => supW K d.cls) = k.sx.map SupD.val := congrArg (fun z : AlX => z.2.2) c
  have e2 : (k.sx.map fun d => supW K d.cls)[i]? = (k.sx.map SupD.val)[i]? := by rw [e]
  rw [List.getElem?_map, List.getElem?_map, h] at e2
  exact supB_ok (Option.some.inj e2) (c.all.2.2.1 d (List.mem_of_getElem? h))
theorem SaysX.own (c : SaysX k K) : k.xb K = true := c.all.2.2.2
end
theorem supScope_by {N ps : List Str} {sc : Scope} (k : sc.kind = .function) (co : sc.isCoroutine = false) (ge : sc.isGenerator = false) (nd : N.Nodup) (pre : N.take ps.length = ps) (par : ∀ x ∈ ps, sc.names.lookup x = some .local) (fr : ∀ y ∈ sc.names, y.2 = .free → y.1 = ("__class__" : Str)) (nc : ∀ y ∈ sc.names, y.2 ≠ .cell)
    (su : sc.names.lookup ("super" : Str) = some .globalImplicit) (cl : sc.names.lookup ("__class__" : Str) = some .free) : SupScope N ps sc := ⟨k, co, ge, nd, pre, par, fun _ h => fr _ (PySem.mem_of_lookup h) rfl, nc, su, cl⟩
/-- the i-th statement of a class, its __init__ -/
def supOf (cls qual : Str) (st : Stmt) : SupD := ⟨cls, qual, defArgs st, defBody st, defScope st⟩
theorem SupF.exd2 {P : Program} {w : World} {file : Str} {mg : Str → Option Value} {base : Heap} {C : Ct} {d : SupD} {q0 q1 q2 q3 q4 q5 q6 q7 q8 q9 q10 q11 q12 q13 : Pos} (hca : C.ca = He.ga C.K) (F : SupF file C.K d) (gm : mg d.cls = some (.ref (He.ga C.K d.cls)))
    (hbody : d.body = [superLine (.Name "code" q0) q1 q2 q3 q4 q5, setLine "self" "at" "at" q6 q7 q8 q9, setLine "self" "code" "code" q10 q11 q12 q13])
    (S : SupScope ["self", "at", "code"] ["self", "at", "code"] d.scope) {ar : Arg} (hp : (d.params.posonlyargs ++ d.params.args).head? = some ar) (hp0 : ar.arg = "self") (hfile : P.main.file = file) (hsuper : mg "super" = none)
    (htop : (P.main.scope.names.lookup ("super" : Str)).isSome = false) (n1 : PySem.W.findIn C.K (.ref (He.ga C.K d.cls)) "at" = some none) (n2 : PySem.W.findIn C.K (.ref (He.ga C.K d.cls)) "code" = some none)
    (hev : ∃ pl : Env → Sem Bool, ∀ env : Env, eval (.Call (.Attribute (.Call (.Name "super" q1) [] [] q2) "__init__" q3) [.Name "code" q0] [] q4) env = (do
          let ov ← attributeBase (.Call (.Name "super" q1) [] [] q2) "__init__" env (eval (.Call (.Name "super" q1) [] [] q2) env)
          standAt q3.atName
          let (f1, first) ← holding [ov] (getMethod ov "__init__" (pl env))
          callWith q4 f1 first (backTo q4 (starEach [.Name "code" q0] env)) []))
    (hb : ∀ (kV doc pm : Value) (an : Option Addr) (cda cc : Addr) (ct : Value) (us : List Value), us.length = 3 → bindArgs (PySem.W.ksFn "__init__" d.qual d.params d.body d.scope .none kV doc pm an (.ref cda) ct cc) ⟨us, []⟩ = pure (List.zip (["self", "at", "code"] : List Str) us)) :
    ExD P w C mg base 1 d.cls (fun a => sp2 a "at" "code") := by
  obtain ⟨fd, ok, b⟩ := F.ok2 (P := P) (w := w) (mg := mg) (base := base) (CX := L2.CX P w) (k := 0) hbody S hp hp0 hfile hsuper htop n1 n2 hev (fun kV doc pm an cda cc ct => .all (hb kV doc pm an cda cc ct))
  refine ⟨by rw [hca]; exact gm, by rw [hca]; exact F.ex, supAt C.K d.cls, fd, _, by rw [hca]; exact F.init, F.ty, by rw [hca]; exact ok, b⟩
theorem SupF.exd1 {P : Program} {w : World} {file : Str} {mg : Str → Option Value} {base : Heap} {C : Ct} {d : SupD} {z : Str} {j : Nat} {q0 q1 q2 q3 q4 q5 q6 q7 q8 q9 : Pos} (hca : C.ca = He.ga C.K) (F : SupF file C.K d) (gm : mg d.cls = some (.ref (He.ga C.K d.cls)))
    (hbody : d.body = [superLine (.Constant (.str z) j q0) q1 q2 q3 q4 q5, setLine "self" "reason" "reason" q6 q7 q8 q9])
    (S : SupScope ["self", "reason"] ["self", "reason"] d.scope) {ar : Arg} (hp : (d.params.posonlyargs ++ d.params.args).head? = some ar) (hp0 : ar.arg = "self") (hfile : P.main.file = file) (hsuper : mg "super" = none)
    (htop : (P.main.scope.names.lookup ("super" : Str)).isSome = false) (n1 : PySem.W.findIn C.K (.ref (He.ga C.K d.cls)) "reason" = some none)
    (hev : ∃ pl : Env → Sem Bool, ∀ env : Env, eval (.Call (.Attribute (.Call (.Name "super" q1) [] [] q2) "__init__" q3) [.Constant (.str z) j q0] [] q4) env = (do
          let ov ← attributeBase (.Call (.Name "super" q1) [] [] q2) "__init__" env (eval (.Call (.Name "super" q1) [] [] q2) env)
          standAt q3.atName
          let (f1, first) ← holding [ov] (getMethod ov "__init__" (pl env))
          callWith q4 f1 first (backTo q4 (starEach [.Constant (.str z) j q0] env)) []))
    (hb : ∀ (kV doc pm : Value) (an : Option Addr) (cda cc : Addr) (ct : Value) (us : List Value), us.length = 2 → bindArgs (PySem.W.ksFn "__init__" d.qual d.params d.body d.scope .none kV doc pm an (.ref cda) ct cc) ⟨us, []⟩ = pure (List.zip (["self", "reason"] : List Str) us)) :
    ExD P w C mg base 1 d.cls (fun a => sp1 a "reason") := by
  obtain ⟨fd, ok, b⟩ := F.ok1 (P := P) (w := w) (mg := mg) (base := base) (CX := L2.CX P w) (k := 0) hbody S hp hp0 hfile hsuper htop n1 hev (fun kV doc pm an cda cc ct => .all (hb kV doc pm an cda cc ct))
  refine ⟨by rw [hca]; exact gm, by rw [hca]; exact F.ex, supAt C.K d.cls, fd, _, by rw [hca]; exact F.init, F.ty, by rw [hca]; exact ok, b⟩
end OD

namespace K
open PySem PySem.Spec L2 OD
open PyProof.Rows hiding St
def top (i : Nat) : Stmt := PySem.Challenge.pw_outagain_k97_error_classes.main.body.getD i (.Pass ⟨0, 0, 0, 0⟩)
def IsPool (c : Cell) : Prop := ∃ (ns : List Int) (a b e d : Int), c = .lst [.int a, .int b, .int e, .int d, .lst (ns.map D.int)] ∧ 0 ≤ a ∧ 0 ≤ b ∧ b < 2147483647 ∧ 0 ≤ d
def sp_law_take : SpD := fun ds S Q X => match ds with
  | [.own k, .int m] => (∃ c, S[k]? = some c ∧ IsPool c) ∧ 0 < m ∧ m < 2 ^ 200 ∧ ∀ r c, 0 ≤ r → r < m → IsPool c → Q (.int r) (S.set k c)
  | _ => False
theorem ar_law_take : Arity 2 sp_law_take := fun ds S R Xc h => by
  unfold sp_law_take at h; split at h <;> first | rfl | exact h.elim
theorem to_take {S : Store} {Q : D → Store → Prop} {X : XcD} {k : Nat} {m : Int} {c : Cell} (hc : S[k]? = some c) (hp : IsPool c) (h1 : 0 < m) (h2 : m < 2 ^ 200) (h : ∀ r c, 0 ≤ r → r < m → IsPool c → Q (.int r) (S.set k c)) : sp_law_take [.own k, .int m] S Q X := ⟨⟨c, hc, hp⟩, h1, h2, h⟩
def sp_law_number : SpD := fun ds S Q X => match ds with
  | [.int n] => Q (.bl true) S
  | _ => False
theorem ar_law_number : Arity 1 sp_law_number := fun ds S R Xc h => by
  unfold sp_law_number at h; split at h <;> first | rfl | exact h.elim
def sp_same0 : SpD := fun ds S Q X => False
def flatD : D → Bool
  | .int _ => true
  | .str _ => true
  | _ => false
def sp_same1 : SpD := fun ds S Q X => ∃ x, ds = [x, x] ∧ flatD x = true ∧ Q (.bl true) S
def sp_same2 : SpD := fun ds S Q X => ∃ x, ds = [x, x] ∧ (flatD x = true ∨ ∃ xs, x = .tup xs ∧ xs.length ≤ 100 ∧ ∀ y ∈ xs, flatD y = true) ∧ Q (.bl true) S
def sp_law_pool : SpD := fun ds S Q X => match ds with
  | [.scr ns] => ∀ c, IsPool c → Q (.own S.length) (S ++ [c])
  | _ => False
theorem ar_law_pool : Arity 1 sp_law_pool := fun ds S R Xc h => by
  unfold sp_law_pool at h; split at h <;> first | rfl | exact h.elim
def sp_law_great : SpD := fun ds S Q X => match ds with
  | [.own k, .int m] => (∃ c, S[k]? = some c ∧ IsPool c) ∧ 0 ≤ m ∧ m < 2 ^ 199 ∧ ∀ r c, 0 ≤ r → r ≤ m → IsPool c → Q (.int r) (S.set k c)
  | _ => False
theorem ar_law_great : Arity 2 sp_law_great := fun ds S R Xc h => by
  unfold sp_law_great at h; split at h <;> first | rfl | exact h.elim
theorem to_great {S : Store} {Q : D → Store → Prop} {X : XcD} {k : Nat} {m : Int} {c : Cell} (hc : S[k]? = some c) (hp : IsPool c) (h1 : 0 ≤ m) (h2 : m < 2 ^ 199) (h : ∀ r c, 0 ≤ r → r ≤ m → IsPool c → Q (.int r) (S.set k c)) : sp_law_great [.own k, .int m] S Q X := ⟨⟨c, hc, hp⟩, h1, h2, h⟩
def sp_law_integer : SpD := fun ds S Q X => match ds with
  | [.own k] => (∃ c, S[k]? = some c ∧ IsPool c) ∧ ∀ r c, IsPool c → Q (.int r) (S.set k c)
  | _ => False
theorem ar_law_integer : Arity 1 sp_law_integer := fun ds S R Xc h => by
  unfold sp_law_integer at h; split at h <;> first | rfl | exact h.elim
theorem to_integer {S : Store} {Q : D → Store → Prop} {X : XcD} {k : Nat} {c : Cell} (hc : S[k]? = some c) (hp : IsPool c) (h : ∀ r c, IsPool c → Q (.int r) (S.set k c)) : sp_law_integer [.own k] S Q X := ⟨⟨c, hc, hp⟩, h⟩
def sp_law_text : SpD := fun ds S Q X => match ds with
  | [.own k] => (∃ c, S[k]? = some c ∧ IsPool c) ∧ ∀ z c, IsPool c → Q (.str z) (S.set k c)
  | _ => False
theorem ar_law_text : Arity 1 sp_law_text := fun ds S R Xc h => by
  unfold sp_law_text at h; split at h <;> first | rfl | exact h.elim
theorem to_text {S : Store} {Q : D → Store → Prop} {X : XcD} {k : Nat} {c : Cell} (hc : S[k]? = some c) (hp : IsPool c) (h : ∀ z c, IsPool c → Q (.str z) (S.set k c)) : sp_law_text [.own k] S Q X := ⟨⟨c, hc, hp⟩, h⟩
def Drawn (d : D) : Prop := ∃ (n : Int) (z y : Str) (ns : List Int), ns.length < 6 ∧ d = .lst [.int n, .str z, .tup (.str y :: ns.map D.int)]
def sp_law_drawn : SpD := fun ds S Q X => match ds with
  | [.own k] => (∃ c, S[k]? = some c ∧ IsPool c) ∧ ∀ d c, Drawn d → IsPool c → Q d (S.set k c)
  | _ => False
theorem ar_law_drawn : Arity 1 sp_law_drawn := fun ds S R Xc h => by
  unfold sp_law_drawn at h; split at h <;> first | rfl | exact h.elim
theorem to_drawn {S : Store} {Q : D → Store → Prop} {X : XcD} {k : Nat} {c : Cell} (hc : S[k]? = some c) (hp : IsPool c) (h : ∀ d c, Drawn d → IsPool c → Q d (S.set k c)) : sp_law_drawn [.own k] S Q X := ⟨⟨c, hc, hp⟩, h⟩
def nms : List Str := ["OutOfRange", "BadDepot", "BadBook", "BadLives", "BadPasses", "BadCrews", "BadWish", "BadBounds", "BadNotes", "BadLists", "BadLine", "NoBook", "GoalLost", "NothingLeft"]
def nmK (j : Nat) : Str := nms.getD j ""
def exK (j : Nat) (a c r : D) : D := if j < 11 then .exc (nmK j) [("code", c), ("at", a)] else if j < 13 then .exc (nmK j) [("reason", r)] else .exc (nmK j) []
def sp_law_made : SpD := fun ds S Q X => ∃ (j : Nat) (a c r : D), j < 14 ∧ ds = [.int j, a, c, r] ∧ Q (exK j a c r) S
theorem ar_law_made : Arity 4 sp_law_made := fun ds S R Xc h => by
  obtain ⟨j, a, c, r, _, rfl, _⟩ := h; rfl
def sp_law_kin : SpD := fun ds S Q X => ∃ (j : Nat) (fs : List (Str × D)), j < 14 ∧ ds = [.exc (nmK j) fs] ∧ Q (.lst ((List.range 14).map fun i => .bl (decide (i = j)))) S
theorem ar_law_kin : Arity 1 sp_law_kin := fun ds S R Xc h => by
  obtain ⟨j, fs, _, rfl, _⟩ := h; rfl
def sp_law_holds : SpD := fun ds S Q X => ∃ (j : Nat) (n : Int) (z y : Str) (ns : List Int), ns.length < 6 ∧ j < 14 ∧ ds = [.int j, exK j (.int n) (.str z) (.tup (.str y :: ns.map D.int)), .lst [.int n, .str z, .tup (.str y :: ns.map D.int)]] ∧ Q (.bl true) S
theorem ar_law_holds : Arity 3 sp_law_holds := fun ds S R Xc h => by
  obtain ⟨j, n, z, y, ns, _, _, rfl, _⟩ := h; rfl
def sp_law : SpD := fun ds S Q X => match ds with
  | [.scr ns] => Q (.bl true) S
  | _ => False
theorem ar_law : Arity 1 sp_law := fun ds S R Xc h => by
  unfold sp_law at h; split at h <;> first | rfl | exact h.elim
/-- what the classes' part of K says -/
structure ClsF (C : Ct) : Prop where
  kin : ∀ i j, i < 14 → j < 14 → PySem.W.kitOne C.K (.ref (C.ca (nmK j))) (.ref (C.ca (nmK i))) = some (decide (i = j))
  base : ∀ j, j < 14 → PySem.W.kitOne C.K (.ref (C.ca (nmK j))) (.ref (C.ca "OutagainError")) = some true
  ve : ∀ j, j < 14 → PySem.W.kitOne C.K (.ref (C.ca (nmK j))) (.type "ValueError") = some true
  ex : ∀ j, j < 14 → ExF C.K (C.ca (nmK j))
  no : ∀ j, j < 14 → PySem.W.findIn C.K (.ref (C.ca (nmK j))) "at" = some none ∧ PySem.W.findIn C.K (.ref (C.ca (nmK j))) "code" = some none ∧ PySem.W.findIn C.K (.ref (C.ca (nmK j))) "reason" = some none
theorem ar_same1 : Arity 2 sp_same1 := fun ds S R Xc h => by
  obtain ⟨x, rfl, _⟩ := h; rfl
theorem ar_same2 : Arity 2 sp_same2 := fun ds S R Xc h => by
  obtain ⟨x, rfl, _⟩ := h; rfl
theorem ok_same0 {P : Program} {w : World} {C : Ct} {mg : Str → Option Value} {base : Heap} {x qual : Str} {params : Arguments} {body : List Stmt} {scope : Scope} {f : Addr} {fd : FuncData} (F : FunD C.K x qual params body scope [] [] f fd) (gm : mg x = some (.ref f)) {ps : List Str} (b : Binds C.K fd ps []) :
    FnD P w C mg base 1 x ps sp_same0 :=
  ⟨f, fd, gm, F.kp, b, ⟨fun vs H Q E ⟨_, _, _, _, _, _, _, _, h, _⟩ => h.elim, fun _ _ _ _ _ _ _ _ _ _ _ _ _ ⟨_, _, _, _, _, _, _, _, h, _⟩ => h.elim⟩⟩
abbrev s_law_number : Stmt := top 17
def r_law_number (C : Ct) : TSD :=
  (dRet (dAndV (dCB (pIsi C) (dCons (dVar 0) (dCons (dC (.ty "int")) dNil))) (dNotV (dCB (pIsi C) (dCons (dVar 0) (dCons (dC (.ty "bool")) dNil))))))
theorem sc_law_number : FnScope ["got"] ["got"] (defScope s_law_number) := ⟨rfl, rfl, rfl, by decide +kernel, rfl, by decide +kernel, by decide +kernel⟩
abbrev s_law_same : Stmt := top 18
def r_law_same (C : Ct) (spS : SpD) : TSD :=
  (dSeq (dIf (dB (dOp pIs (dVar 1) (dC .non)))
  (dRet (dOp pIs (dVar 0) (dC .non)))
  dNext)
  (dSeq (dIf (dTru truD (dCB (pIsi C) (dCons (dVar 1) (dCons (dC (.ty "bool")) dNil))))
  (dRet (dAndV (dCB (pIsi C) (dCons (dVar 0) (dCons (dC (.ty "bool")) dNil))) (dOp pEq (dVar 0) (dVar 1))))
  dNext)
  (dSeq (dIf (dTru truD (dCB (pIsi C) (dCons (dVar 1) (dCons (dC (.ty "int")) dNil))))
  (dRet (dAndV (dCall sp_law_number (dCons (dVar 0) dNil)) (dOp pEq (dVar 0) (dVar 1))))
  dNext)
  (dSeq (dIf (dTru truD (dCB (pIsi C) (dCons (dVar 1) (dCons (dC (.ty "str")) dNil))))
  (dRet (dAndV (dCB (pIsi C) (dCons (dVar 0) (dCons (dC (.ty "str")) dNil))) (dOp pEq (dVar 0) (dVar 1))))
  dNext)
  (dSeq (dIf (dAnd (dTru truD (dCB (pIsi C) (dCons (dVar 1) (dCons (dC (.ty "list")) dNil)))) (dNot (dTru truD (dCB (pIsi C) (dCons (dVar 0) (dCons (dC (.ty "list")) dNil))))))
  (dRet (dC (.bl false)))
  dNext)
  (dSeq (dIf (dAnd (dTru truD (dCB (pIsi C) (dCons (dVar 1) (dCons (dC (.ty "tuple")) dNil)))) (dNot (dTru truD (dCB (pIsi C) (dCons (dVar 0) (dCons (dC (.ty "tuple")) dNil))))))
  (dRet (dC (.bl false)))
  dNext)
  (dSeq (dIf (dB (dOp pNe (dCB pLen (dCons (dVar 0) dNil)) (dCB pLen (dCons (dVar 1) dNil))))
  (dRet (dC (.bl false)))
  dNext)
  (dSeq (dFor (iRange1 (dCB pLen (dCons (dVar 1) dNil))) (gN 2)
  (dIf (dNot (dTru truD (dCall spS (dCons (dOp pIx (dVar 0) (dVar 2)) (dCons (dOp pIx (dVar 1) (dVar 2)) dNil)))))
  (dRet (dC (.bl false)))
  dNext))
  (dRet (dC (.bl true)))))))))))
theorem sc_law_same : FnScope ["got", "due", "k"] ["got", "due"] (defScope s_law_same) := ⟨rfl, rfl, rfl, by decide +kernel, rfl, by decide +kernel, by decide +kernel⟩
abbrev s_law_pool : Stmt := top 19
def r_law_pool (C : Ct) : TSD :=
  (dRet (dLst true (dCons (dC (.int 0)) (dCons (dC (.int 1)) (dCons (dC (.int 0)) (dCons (dC (.int 0)) (dCons (dCB (pList false) (dCons (dVar 0) dNil)) dNil)))))))
theorem sc_law_pool : FnScope ["script"] ["script"] (defScope s_law_pool) := ⟨rfl, rfl, rfl, by decide +kernel, rfl, by decide +kernel, by decide +kernel⟩
abbrev s_law_take : Stmt := top 20
def r_law_take (C : Ct) : TSD :=
  (dSeq (dIf (dAnd (dB (dOp pEq (dOp pIx (dVar 0) (dC (.int 0))) (dC (.int 0)))) (dB (dOp pLt (dOp pIx (dVar 0) (dC (.int 3))) (dCB pLen (dCons (dOp pIx (dVar 0) (dC (.int 4))) dNil)))))
  (dSeq (dAsg (dCB pAbs (dCons (dOp pIx (dOp pIx (dVar 0) (dC (.int 4))) (dOp pIx (dVar 0) (dC (.int 3)))) dNil)) (gN 4))
  (dSeq (dAsg (dOp (pAdd false) (dOp pIx (dVar 0) (dC (.int 3))) (dC (.int 1))) (gS (dVar 0) (dC (.int 3))))
  (dIf (dB (dOp pGe (dVar 4) (dOp pPow (dC (.int 10)) (dC (.int 18)))))
  (dAsg (dVar 4) (gS (dVar 0) (dC (.int 0))))
  (dAsg (dOp pMod (dCB pInt (dCons (dOp (pAdd false) (dOp (pAdd false) (dOp (pMul false) (dOp pIx (dVar 0) (dC (.int 1))) (dC (.int 48271))) (dVar 4)) (dC (.int 1))) dNil)) (dC (.int 2147483399))) (gS (dVar 0) (dC (.int 1)))))))
  dNext)
  (dSeq (dIf (dB (dOp pGt (dOp pIx (dVar 0) (dC (.int 0))) (dC (.int 0))))
  (dSeq (dAsg (dOp pMod (dCB pInt (dCons (dOp pIx (dVar 0) (dC (.int 0))) dNil)) (dVar 1)) (gN 5))
  (dSeq (dAsg (dOp pDiv (dOp pIx (dVar 0) (dC (.int 0))) (dVar 1)) (gS (dVar 0) (dC (.int 0))))
  (dRet (dVar 5))))
  dNext)
  (dSeq (dAsg (dOp (pAdd false) (dOp pIx (dVar 0) (dC (.int 2))) (dC (.int 1))) (gN 2))
  (dSeq (dAsg (dVar 2) (gS (dVar 0) (dC (.int 2))))
  (dSeq (dAsg (dOp pIx (dVar 0) (dC (.int 1))) (gN 3))
  (dSeq (dAsg (dOp pMod (dCB pInt (dCons (dOp (pAdd false) (dOp (pAdd false) (dOp (pMul false) (dVar 3) (dVar 3)) (dOp (pMul false) (dVar 2) (dC (.int 3571)))) (dC (.int 40692))) dNil)) (dC (.int 2147483399))) (gN 3))
  (dSeq (dAsg (dOp pMod (dCB pInt (dCons (dOp (pAdd false) (dOp (pMul false) (dVar 3) (dVar 3)) (dOp pDiv (dVar 3) (dC (.int 97)))) dNil)) (dC (.int 2147483629))) (gN 3))
  (dSeq (dAsg (dVar 3) (gS (dVar 0) (dC (.int 1))))
  (dRet (dOp pMod (dCB pInt (dCons (dOp pDiv (dVar 3) (dC (.int 8))) dNil)) (dVar 1)))))))))))
theorem sc_law_take : FnScope ["pool", "limit", "k", "mixed", "cell", "got"] ["pool", "limit"] (defScope s_law_take) := ⟨rfl, rfl, rfl, by decide +kernel, rfl, by decide +kernel, by decide +kernel⟩
abbrev s_law_great : Stmt := top 21
def r_law_great (C : Ct) : TSD :=
  (dSeq (dAsg (dCall sp_law_take (dCons (dVar 0) (dCons (dC (.int 4)) dNil))) (gN 2))
  (dSeq (dIf (dB (dOp pLt (dVar 2) (dC (.int 2))))
  (dRet (dCB pMin2 (dCons (dVar 1) (dCons (dCall sp_law_take (dCons (dVar 0) (dCons (dC (.int 40)) dNil))) dNil))))
  dNext)
  (dSeq (dIf (dB (dOp pEq (dVar 2) (dC (.int 2))))
  (dRet (dCB pMin2 (dCons (dVar 1) (dCons (dCall sp_law_take (dCons (dVar 0) (dCons (dC (.int 4000)) dNil))) dNil))))
  dNext)
  (dSeq (dIf (dB (dOp pGt (dOp pIx (dVar 0) (dC (.int 0))) (dVar 1)))
  (dRet (dCall sp_law_take (dCons (dVar 0) (dCons (dOp (pAdd false) (dVar 1) (dC (.int 1))) dNil))))
  dNext)
  (dSeq (dAsg (dC (.int 0)) (gN 3))
  (dSeq (dFor (iRange1 (dC (.int 4))) (gN 4)
  (dAsg (dOp (pAdd false) (dOp (pMul false) (dVar 3) (dOp pPow (dC (.int 10)) (dC (.int 8)))) (dCall sp_law_take (dCons (dVar 0) (dCons (dOp pPow (dC (.int 10)) (dC (.int 8))) dNil)))) (gN 3)))
  (dRet (dOp pMod (dCB pInt (dCons (dVar 3) dNil)) (dOp (pAdd false) (dVar 1) (dC (.int 1)))))))))))
theorem sc_law_great : FnScope ["pool", "most", "way", "got", "k"] ["pool", "most"] (defScope s_law_great) := ⟨rfl, rfl, rfl, by decide +kernel, rfl, by decide +kernel, by decide +kernel⟩
abbrev s_law_integer : Stmt := top 22
def r_law_integer (C : Ct) : TSD :=
  (dRet (dOp (pMul false) (dOp pIx (dLst false (dCons (dC (.int 1)) (dCons (dUn pNeg (dC (.int 1))) dNil))) (dCall sp_law_take (dCons (dVar 0) (dCons (dC (.int 2)) dNil)))) (dCall sp_law_great (dCons (dVar 0) (dCons (dOp pPow (dC (.int 10)) (dC (.int 31))) dNil)))))
theorem sc_law_integer : FnScope ["pool"] ["pool"] (defScope s_law_integer) := ⟨rfl, rfl, rfl, by decide +kernel, rfl, by decide +kernel, by decide +kernel⟩
abbrev s_law_text : Stmt := top 23
def r_law_text (C : Ct) : TSD :=
  (dSeq (dAsg (dC (.str "abcdefghijklmnopqrstuvwxyz ABCXYZ0189_-.,:;()#")) (gN 1))
  (dRet (dBM isStr pJoin (dC (.str "")) (dCons (dLc false (iRange1 (dCall sp_law_take (dCons (dVar 0) (dCons (dC (.int 13)) dNil)))) (g1 2) dYes (dOp pIx (dVar 1) (dCall sp_law_take (dCons (dVar 0) (dCons (dCB pLen (dCons (dVar 1) dNil)) dNil)))) [2]) dNil))))
theorem sc_law_text : FnScope ["pool", "signs", "k"] ["pool"] (defScope s_law_text) := ⟨rfl, rfl, rfl, by decide +kernel, rfl, by decide +kernel, by decide +kernel⟩
abbrev s_law_drawn : Stmt := top 24
def r_law_drawn (C : Ct) : TSD :=
  (dSeq (dAsg (dCall sp_law_integer (dCons (dVar 0) dNil)) (gN 1))
  (dSeq (dAsg (dCall sp_law_text (dCons (dVar 0) dNil)) (gN 2))
  (dSeq (dAsg (dOp (pAdd false) (dTup (dCons (dCall sp_law_text (dCons (dVar 0) dNil)) dNil)) (dCB pTuple (dCons (dLc false (iRange1 (dCall sp_law_take (dCons (dVar 0) (dCons (dC (.int 5)) dNil)))) (g1 4) dYes (dCall sp_law_integer (dCons (dVar 0) dNil)) [4]) dNil))) (gN 3))
  (dRet (dLst false (dCons (dVar 1) (dCons (dVar 2) (dCons (dVar 3) dNil))))))))
theorem sc_law_drawn : FnScope ["pool", "at", "code", "reason", "k"] ["pool"] (defScope s_law_drawn) := ⟨rfl, rfl, rfl, by decide +kernel, rfl, by decide +kernel, by decide +kernel⟩
abbrev s_law_made : Stmt := top 25
def r_law_made (C : Ct) : TSD :=
  (dSeq (dIf (dB (dOp pEq (dVar 0) (dC (.int 0))))
  (dRet (dMk2 "OutOfRange" "at" "code" (dCons (dVar 1) (dCons (dVar 2) dNil))))
  dNext)
  (dSeq (dIf (dB (dOp pEq (dVar 0) (dC (.int 1))))
  (dRet (dMk2 "BadDepot" "at" "code" (dCons (dVar 1) (dCons (dVar 2) dNil))))
  dNext)
  (dSeq (dIf (dB (dOp pEq (dVar 0) (dC (.int 2))))
  (dRet (dMk2 "BadBook" "at" "code" (dCons (dVar 1) (dCons (dVar 2) dNil))))
  dNext)
  (dSeq (dIf (dB (dOp pEq (dVar 0) (dC (.int 3))))
  (dRet (dMk2 "BadLives" "at" "code" (dCons (dVar 1) (dCons (dVar 2) dNil))))
  dNext)
  (dSeq (dIf (dB (dOp pEq (dVar 0) (dC (.int 4))))
  (dRet (dMk2 "BadPasses" "at" "code" (dCons (dVar 1) (dCons (dVar 2) dNil))))
  dNext)
  (dSeq (dIf (dB (dOp pEq (dVar 0) (dC (.int 5))))
  (dRet (dMk2 "BadCrews" "at" "code" (dCons (dVar 1) (dCons (dVar 2) dNil))))
  dNext)
  (dSeq (dIf (dB (dOp pEq (dVar 0) (dC (.int 6))))
  (dRet (dMk2 "BadWish" "at" "code" (dCons (dVar 1) (dCons (dVar 2) dNil))))
  dNext)
  (dSeq (dIf (dB (dOp pEq (dVar 0) (dC (.int 7))))
  (dRet (dMk2 "BadBounds" "at" "code" (dCons (dVar 1) (dCons (dVar 2) dNil))))
  dNext)
  (dSeq (dIf (dB (dOp pEq (dVar 0) (dC (.int 8))))
  (dRet (dMk2 "BadNotes" "at" "code" (dCons (dVar 1) (dCons (dVar 2) dNil))))
  dNext)
  (dSeq (dIf (dB (dOp pEq (dVar 0) (dC (.int 9))))
  (dRet (dMk2 "BadLists" "at" "code" (dCons (dVar 1) (dCons (dVar 2) dNil))))
  dNext)
  (dSeq (dIf (dB (dOp pEq (dVar 0) (dC (.int 10))))
  (dRet (dMk2 "BadLine" "at" "code" (dCons (dVar 1) (dCons (dVar 2) dNil))))
  dNext)
  (dSeq (dIf (dB (dOp pEq (dVar 0) (dC (.int 11))))
  (dRet (dMk1 "NoBook" "reason" (dCons (dVar 3) dNil)))
  dNext)
  (dSeq (dIf (dB (dOp pEq (dVar 0) (dC (.int 12))))
  (dRet (dMk1 "GoalLost" "reason" (dCons (dVar 3) dNil)))
  dNext)
  (dRet (dMk0 "NothingLeft")))))))))))))))
theorem sc_law_made : FnScope ["k", "at", "code", "reason"] ["k", "at", "code", "reason"] (defScope s_law_made) := ⟨rfl, rfl, rfl, by decide +kernel, rfl, by decide +kernel, by decide +kernel⟩
abbrev s_law_kin : Stmt := top 26
def r_law_kin (C : Ct) : TSD :=
  (dSeq (dAsg (dLst false (dCons (dCB (pIsi C) (dCons (dVar 0) (dCons (dC (.cls "OutOfRange")) dNil))) (dCons (dCB (pIsi C) (dCons (dVar 0) (dCons (dC (.cls "BadDepot")) dNil))) (dCons (dCB (pIsi C) (dCons (dVar 0) (dCons (dC (.cls "BadBook")) dNil))) (dCons (dCB (pIsi C) (dCons (dVar 0) (dCons (dC (.cls "BadLives")) dNil))) dNil))))) (gN 1))
  (dSeq (dAsg (dOp (pAdd false) (dVar 1) (dLst false (dCons (dCB (pIsi C) (dCons (dVar 0) (dCons (dC (.cls "BadPasses")) dNil))) (dCons (dCB (pIsi C) (dCons (dVar 0) (dCons (dC (.cls "BadCrews")) dNil))) (dCons (dCB (pIsi C) (dCons (dVar 0) (dCons (dC (.cls "BadWish")) dNil))) (dCons (dCB (pIsi C) (dCons (dVar 0) (dCons (dC (.cls "BadBounds")) dNil))) dNil)))))) (gN 1))
  (dSeq (dAsg (dOp (pAdd false) (dVar 1) (dLst false (dCons (dCB (pIsi C) (dCons (dVar 0) (dCons (dC (.cls "BadNotes")) dNil))) (dCons (dCB (pIsi C) (dCons (dVar 0) (dCons (dC (.cls "BadLists")) dNil))) (dCons (dCB (pIsi C) (dCons (dVar 0) (dCons (dC (.cls "BadLine")) dNil))) (dCons (dCB (pIsi C) (dCons (dVar 0) (dCons (dC (.cls "NoBook")) dNil))) dNil)))))) (gN 1))
  (dRet (dOp (pAdd false) (dVar 1) (dLst false (dCons (dCB (pIsi C) (dCons (dVar 0) (dCons (dC (.cls "GoalLost")) dNil))) (dCons (dCB (pIsi C) (dCons (dVar 0) (dCons (dC (.cls "NothingLeft")) dNil))) dNil))))))))
theorem sc_law_kin : FnScope ["e", "kin"] ["e"] (defScope s_law_kin) := ⟨rfl, rfl, rfl, by decide +kernel, rfl, by decide +kernel, by decide +kernel⟩
abbrev s_law_holds : Stmt := top 27
def r_law_holds (C : Ct) : TSD :=
  (dSeq (dIf (dOr (dNot (dTru truD (dCB (pIsi C) (dCons (dVar 1) (dCons (dC (.cls "OutagainError")) dNil))))) (dNot (dTru truD (dCB (pIsi C) (dCons (dVar 1) (dCons (dC (.ty "ValueError")) dNil))))))
  (dRet (dC (.bl false)))
  dNext)
  (dSeq (dIf (dB (dOp pNe (dCall sp_law_kin (dCons (dVar 1) dNil)) (dLc false (iRange1 (dC (.int 14))) (g1 3) dYes (dOp pEq (dVar 3) (dVar 0)) [3])))
  (dRet (dC (.bl false)))
  dNext)
  (dSeq (dIf (dB (dOp pLt (dVar 0) (dC (.int 11))))
  (dRet (dAndV (dCall sp_same2 (dCons (dXf C "at" (dVar 1)) (dCons (dOp pIx (dVar 2) (dC (.int 0))) dNil))) (dCall sp_same2 (dCons (dXf C "code" (dVar 1)) (dCons (dOp pIx (dVar 2) (dC (.int 1))) dNil)))))
  dNext)
  (dRet (dOrV (dOp pEq (dVar 0) (dC (.int 13))) (dCall sp_same2 (dCons (dXf C "reason" (dVar 1)) (dCons (dOp pIx (dVar 2) (dC (.int 2))) dNil))))))))
theorem sc_law_holds : FnScope ["k", "e", "drawn", "i"] ["k", "e", "drawn"] (defScope s_law_holds) := ⟨rfl, rfl, rfl, by decide +kernel, rfl, by decide +kernel, by decide +kernel⟩
abbrev s_law : Stmt := top 28
def r_law (C : Ct) : TSD :=
  (dSeq (dAsg (dCall sp_law_pool (dCons (dVar 0) dNil)) (gN 1))
  (dSeq (dAsg (dCall sp_law_drawn (dCons (dVar 1) dNil)) (gN 2))
  (dSeq (dAsg (dCall sp_law_drawn (dCons (dVar 1) dNil)) (gN 3))
  (dSeq (dAsg (dLc false (iRange1 (dC (.int 14))) (g1 5) dYes (dCall sp_law_made (dCons (dVar 5) (dCons (dOp pIx (dVar 2) (dC (.int 0))) (dCons (dOp pIx (dVar 2) (dC (.int 1))) (dCons (dOp pIx (dVar 2) (dC (.int 2))) dNil))))) [5]) (gN 4))
  (dSeq (dFor (iRange1 (dC (.int 14))) (gN 5)
  (dSeq (dIf (dNot (dTru truD (dCall sp_law_holds (dCons (dVar 5) (dCons (dOp pIx (dVar 4) (dVar 5)) (dCons (dVar 2) dNil))))))
  (dRet (dC (.bl false)))
  dNext)
  (dIf (dNot (dTru truD (dCall sp_law_holds (dCons (dVar 5) (dCons (dCall sp_law_made (dCons (dVar 5) (dCons (dOp pIx (dVar 3) (dC (.int 0))) (dCons (dOp pIx (dVar 3) (dC (.int 1))) (dCons (dOp pIx (dVar 3) (dC (.int 2))) dNil))))) (dCons (dVar 3) dNil))))))
  (dRet (dC (.bl false)))
  dNext)))
  (dSeq (dFor (iRange1 (dC (.int 14))) (gN 5)
  (dIf (dNot (dTru truD (dCall sp_law_holds (dCons (dVar 5) (dCons (dOp pIx (dVar 4) (dVar 5)) (dCons (dVar 2) dNil))))))
  (dRet (dC (.bl false)))
  dNext))
  (dRet (dC (.bl true)))))))))
theorem sc_law : FnScope ["script", "pool", "first", "second", "errors", "k"] ["script"] (defScope s_law) := ⟨rfl, rfl, rfl, by decide +kernel, rfl, by decide +kernel, by decide +kernel⟩
local macro_rules | `(tactic| walk_at "od1") => `(tactic| with_reducible first
  | refine st_seq ?_ | refine st_asg ?_ | refine st_if ?_ | refine st_ret ?_ | refine st_drop ?_ | refine st_next ?_ | refine st_retN ?_
  | refine st_wnx ?_ | refine st_wrt ?_ | refine st_lnx ?_ | refine st_lct ?_ | refine st_lbk ?_ | refine st_lrt ?_ | refine st_wbk ?_ | refine st_wct ?_ | refine st_wex ?_ | refine st_lex ?_
  | refine st_var rfl ?_ | refine st_c ?_ | refine st_op ?_ | refine st_un ?_ | refine st_cb ?_ | refine st_call ?_ | refine st_cons ?_ | refine st_nil ?_
  | refine st_b ?_ | refine st_bl ?_ | refine st_blV ?_ | refine st_and ?_ | refine st_or ?_ | refine st_not ?_ | refine st_andV ?_ | refine st_orV ?_ | refine st_notV ?_ | refine st_ifE ?_ | refine st_chain ?_
  | refine st_dTru ?_ | refine st_tru ?_ | refine st_gN ?_ | refine st_gS ?_ | refine st_gC ?_ | refine st_gNil ?_
  | refine st_iteT ?_ | refine st_iteF ?_ | refine st_iteNT ?_ | refine st_iteNF ?_
  | refine st_addI ?_ | refine st_subI ?_ | refine st_negI ?_ | refine st_ltI ?_ | refine st_leI ?_ | refine st_gtI ?_ | refine st_geI ?_ | refine st_eqI ?_ | refine st_neI ?_ | refine st_eqS ?_ | refine st_neS ?_ | refine st_eqB ?_ | refine st_isI ?_ | refine st_isS ?_ | refine st_isT ?_ | refine st_isL ?_ | refine st_isB ?_ | refine st_isN ?_ | refine st_isi_int_bool ?_ | refine st_isi_int_int ?_ | refine st_isi_int_str ?_ | refine st_isi_int_list ?_ | refine st_isi_int_tuple ?_ | refine st_isi_str_bool ?_ | refine st_isi_str_int ?_ | refine st_isi_str_str ?_ | refine st_isi_str_list ?_ | refine st_isi_str_tuple ?_ | refine st_isi_tuple_bool ?_ | refine st_isi_tuple_int ?_ | refine st_isi_tuple_str ?_ | refine st_isi_tuple_list ?_ | refine st_isi_tuple_tuple ?_ | refine st_isi_list_bool ?_ | refine st_isi_list_int ?_ | refine st_isi_list_str ?_ | refine st_isi_list_list ?_ | refine st_isi_list_tuple ?_ | refine st_isi_bool_bool ?_ | refine st_isi_bool_int ?_ | refine st_isi_bool_str ?_ | refine st_isi_bool_list ?_ | refine st_isi_bool_tuple ?_ | refine st_isi_NoneType_bool ?_ | refine st_isi_NoneType_int ?_ | refine st_isi_NoneType_str ?_ | refine st_isi_NoneType_list ?_ | refine st_isi_NoneType_tuple ?_ | refine st_is ?_ | refine st_isNot ?_
  | refine st_pow8 ?_ | refine st_pow18 ?_ | refine st_pow20 ?_ | refine st_pow30 ?_ | refine st_pow31 ?_
  | refine st_tup ?_ | refine st_lst ?_ | refine st_mkF ?_ | refine st_mkO ?_ | refine st_frz ?_ | refine st_bm ?_ | refine st_isStr ?_
  | refine st_lenL ?_ | refine st_lenT ?_ | refine st_abs ?_ | refine st_int ?_ | refine st_max2 ?_ | refine st_min2 ?_ | refine st_listS ?_ | refine st_listL ?_ | refine st_listT ?_ | refine st_tupleL ?_ | refine st_tupleT ?_
  | refine st_for ?_ | refine st_range1 ?_ | refine st_lc ?_ | refine st_truF ?_ | refine st_yes ?_ | refine st_mk2 ?_ | refine st_mk2e ?_ | refine st_mk1 ?_ | refine st_mk1e ?_ | refine st_mk0 ?_ | refine st_xf ?_)
local macro_rules | `(tactic| walk_at "od2") => `(tactic| first
  | ((with_reducible show dVar _ _ _ _ _); refine st_var rfl ?_)
  | ((with_reducible show pIx (.own _) (.int _) _ _); refine st_ixO (by assumption) (by first | rfl | assumption) ?_)
  | ((with_reducible show pIx (.lst _) (.int _) _ _); refine st_ixL (by first | rfl | assumption) ?_)
  | ((with_reducible show pIx (.tup _) (.int _) _ _); refine st_ixT (by first | rfl | assumption) ?_)
  | ((with_reducible show pLen [.own _] _ _); refine st_lenO (by assumption) ?_)
  | ((with_reducible show pTuple [.own _] _ _); refine st_tupleO (by assumption) ?_)
  | ((with_reducible show pList _ [.own _] _ _); refine st_listO (by assumption) ?_)
  | ((with_reducible show setD (.own _) (.int _) _ (List.set _ _ (.lst _)) _); refine st_setS (by assumption) (by first | rfl | assumption) ?_)
  | ((with_reducible show setD (.own _) (.int _) _ _ _); refine st_set (by assumption) (by first | rfl | assumption) ?_)
  | ((with_reducible show isLst (.own _) _ ∧ _); refine st_isLst (by assumption) ?_)
  | ((with_reducible show pMod (.int _) (.int _) _ _); refine st_modI (by first | assumption | decide | omega) ?_))
local macro_rules | `(tactic| walk_at "od") => `(tactic| repeat' (first | walk_at "od1" | walk_at "od2"))
local macro_rules | `(tactic| walk_at "odj") => `(tactic| repeat' (first | walk_at "od1" | walk_at "od2" | refine st_iteDT (by decide) ?_ | refine st_iteDF (by decide) ?_))
theorem set_self {S : Store} {k : Nat} {c : Cell} (h : S[k]? = some c) : S.set k c = S := by
  apply List.ext_getElem?
  intro j
  by_cases e : k = j
  · subst e
    rw [List.getElem?_set_self (List.getElem?_eq_some_iff.mp h).1, h]
  · rw [List.getElem?_set_ne e]
theorem atI_lt {α : Type} {xs : List α} {d : Int} (h0 : 0 ≤ d) (h1 : d < xs.length) : ∃ v, atI xs d = some v ∧ xs[d.toNat]? = some v := by
  obtain ⟨n, rfl⟩ : ∃ n : Nat, d = n := ⟨d.toNat, by omega⟩
  have hn : n < xs.length := by omega
  exact ⟨xs[n], atI_nat (by simp [hn]), by simp [hn]⟩
theorem atI_int {ns : List Int} {d : Int} (h0 : 0 ≤ d) (h1 : d < ns.length) : ∃ v, atI (ns.map D.int) d = some (.int v) := by
  obtain ⟨v, h2, h3⟩ := atI_lt (xs := ns.map D.int) h0 (by simpa using h1)
  rw [List.getElem?_map] at h3
  cases e : ns[d.toNat]? with
  | none => rw [e] at h3; cases h3
  | some z => rw [e] at h3; cases h3; exact ⟨z, h2⟩
theorem pure_law_take {C : Ct} : ∀ ds S R Xc, sp_law_take ds S R Xc → r_law_take C (endsD S R Xc) (startD 4 ds) S := by
  intro ds S R Xc h
  unfold sp_law_take at h
  split at h
  · rename_i k m
    obtain ⟨⟨c, hc, ns, a, b, e, d, rfl, h1, h2, h3, h4⟩, hm, hm2, hQ⟩ := h
    unfold r_law_take
    have key : ∀ ρ' S', (∃ x4, ρ' = [some (D.own k), some (.int m), none, none, x4, none] ∧ ∃ c', S' = S.set k c' ∧ IsPool c') → (dSeq (dIf (dB (dOp pGt (dOp pIx (dVar 0) (dC (.int 0))) (dC (.int 0))))
  (dSeq (dAsg (dOp pMod (dCB pInt (dCons (dOp pIx (dVar 0) (dC (.int 0))) dNil)) (dVar 1)) (gN 5))
  (dSeq (dAsg (dOp pDiv (dOp pIx (dVar 0) (dC (.int 0))) (dVar 1)) (gS (dVar 0) (dC (.int 0))))
  (dRet (dVar 5))))
  dNext)
  (dSeq (dAsg (dOp (pAdd false) (dOp pIx (dVar 0) (dC (.int 2))) (dC (.int 1))) (gN 2))
  (dSeq (dAsg (dVar 2) (gS (dVar 0) (dC (.int 2))))
  (dSeq (dAsg (dOp pIx (dVar 0) (dC (.int 1))) (gN 3))
  (dSeq (dAsg (dOp pMod (dCB pInt (dCons (dOp (pAdd false) (dOp (pAdd false) (dOp (pMul false) (dVar 3) (dVar 3)) (dOp (pMul false) (dVar 2) (dC (.int 3571)))) (dC (.int 40692))) dNil)) (dC (.int 2147483399))) (gN 3))
  (dSeq (dAsg (dOp pMod (dCB pInt (dCons (dOp (pAdd false) (dOp (pMul false) (dVar 3) (dVar 3)) (dOp pDiv (dVar 3) (dC (.int 97)))) dNil)) (dC (.int 2147483629))) (gN 3))
  (dSeq (dAsg (dVar 3) (gS (dVar 0) (dC (.int 1))))
  (dRet (dOp pMod (dCB pInt (dCons (dOp pDiv (dVar 3) (dC (.int 8))) dNil)) (dVar 1)))))))))) (endsD S R Xc) ρ' S' := by
      rintro ρ' S' ⟨x4, rfl, c', rfl, ns, a, b, e, d, rfl, h1, h2, h3, h4⟩
      have hS := get_set (c' := .lst [.int a, .int b, .int e, .int d, .lst (ns.map D.int)]) hc
      walk_at "od"
      refine st_ite (fun h5 => ?_) (fun h5 => ?_)
      · walk_at "od"
        refine st_divI ?_ ?_
        · exact wide_div hm (b := 200) (by omega) (by decide) (by decide)
        walk_at "od"
        refine st_end (hQ _ _ (Int.emod_nonneg _ (by omega)) (Int.emod_lt_of_pos _ hm) ⟨ns, a / m, b, e, d, rfl, Int.ediv_nonneg h1 (by omega), h2, h3, h4⟩)
      · walk_at "od"
        have hS2 := get_set (c' := .lst [.int a, .int b, .int (e + 1), .int d, .lst (ns.map D.int)]) hc
        walk_at "od"
        refine st_mulI (.inl (.inl ⟨by omega, by omega⟩)) ?_
        walk_at "od"
        refine st_mulI (.inl (.inr ⟨by omega, by omega⟩)) ?_
        walk_at "od"
        generalize hx : (b * b + (e + 1) * 3571 + 40692) % 2147483399 = x
        have hx0 : 0 ≤ x := by rw [← hx]; exact Int.emod_nonneg _ (by decide)
        have hx1 : x < 2147483399 := by rw [← hx]; exact Int.emod_lt_of_pos _ (by decide)
        refine st_mulI (.inl (.inl ⟨by omega, by omega⟩)) ?_
        walk_at "od"
        refine st_divI (wide_div (by decide) (b := 200) (by decide) (by decide) (by decide)) ?_
        walk_at "od"
        refine st_divI (wide_div (by decide) (b := 200) (by decide) (by decide) (by decide)) ?_
        walk_at "od"
        refine st_end (hQ _ _ (Int.emod_nonneg _ (by omega)) (Int.emod_lt_of_pos _ hm) ⟨ns, a, _, e + 1, d, rfl, h1, Int.emod_nonneg _ (by decide), Int.lt_of_lt_of_le (Int.emod_lt_of_pos _ (by decide)) (by decide), h4⟩)
    refine st_join (fun ρ' S' => ∃ x4, ρ' = [some (D.own k), some (.int m), none, none, x4, none] ∧ ∃ c', S' = S.set k c' ∧ IsPool c') ?_ key
    have same : ∃ c', S = S.set k c' ∧ IsPool c' := ⟨_, (set_self hc).symm, ns, a, b, e, d, rfl, h1, h2, h3, h4⟩
    walk_at "od"
    refine st_ite (fun h5 => ?_) (fun h5 => ?_)
    · walk_at "od"
      refine st_ite (fun h6 => ?_) (fun h6 => ?_)
      · walk_at "od"
        obtain ⟨v, hv⟩ := atI_int (ns := ns) h4 (by simpa using h6)
        walk_at "od"
        have hS1 := get_set (c' := .lst [.int a, .int b, .int e, .int (d + 1), .lst (ns.map D.int)]) hc
        have hv0 : (0 : Int) ≤ (if v < 0 then -v else v) := by split <;> omega
        generalize (if v < 0 then -v else v) = cell at hv0 ⊢
        refine st_ite (fun h7 => ?_) (fun h7 => ?_)
        · walk_at "od"
          exact ⟨_, rfl, _, rfl, ns, cell, b, e, d + 1, rfl, hv0, h2, h3, by omega⟩
        · walk_at "od"
          refine st_mulI (.inl (.inr ⟨by decide, by decide⟩)) ?_
          walk_at "od"
          exact ⟨_, rfl, _, rfl, ns, a, _, e, d + 1, rfl, h1, Int.emod_nonneg _ (by decide), Int.lt_trans (Int.emod_lt_of_pos _ (by decide)) (by decide), by omega⟩
      · walk_at "od"
        exact ⟨none, rfl, same⟩
    · walk_at "od"
      exact ⟨none, rfl, same⟩
  · exact h.elim

section
variable {C : Ct}
theorem pure_law_pool : ∀ ds S R Xc, sp_law_pool ds S R Xc → r_law_pool C (endsD S R Xc) (startD 0 ds) S := by
  intro ds S R Xc h
  unfold sp_law_pool at h
  split at h
  · rename_i ns
    unfold r_law_pool
    walk_at "od"
    refine ⟨small_line (by simp), ?_⟩
    walk_at "od"
    exact st_end (h _ ⟨ns, 0, 1, 0, 0, rfl, by decide, by decide, by decide, by decide⟩)
  · exact h.elim
theorem pure_law_number : ∀ ds S R Xc, sp_law_number ds S R Xc → r_law_number C (endsD S R Xc) (startD 0 ds) S := by
  intro ds S R Xc h
  unfold sp_law_number at h
  split at h
  · unfold r_law_number
    walk_at "od"
    exact st_end h
  · exact h.elim
theorem pure_law_great : ∀ ds S R Xc, sp_law_great ds S R Xc → r_law_great C (endsD S R Xc) (startD 3 ds) S := by
  intro ds S R Xc h
  unfold sp_law_great at h
  split at h
  · rename_i k m
    obtain ⟨⟨c, hc, hp⟩, hm, hm2, hQ⟩ := h
    unfold r_law_great
    walk_at "od"
    refine to_take hc hp (by decide) (by decide) fun w c1 hw0 hw1 hp1 => ?_
    have hc1 := get_set (c' := c1) hc
    walk_at "od"
    refine st_ite (fun h => ?_) (fun h => ?_)
    · walk_at "od"
      refine to_take hc1 hp1 (by decide) (by decide) fun r c2 h0 h1 hp2 => ?_
      rw [List.set_set]
      walk_at "od"
      exact st_end (hQ _ _ (by split <;> omega) (by split <;> omega) hp2)
    · walk_at "od"
      refine st_ite (fun h => ?_) (fun h => ?_)
      · walk_at "od"
        refine to_take hc1 hp1 (by decide) (by decide) fun r c2 h0 h1 hp2 => ?_
        rw [List.set_set]
        walk_at "od"
        exact st_end (hQ _ _ (by split <;> omega) (by split <;> omega) hp2)
      · walk_at "od"
        obtain ⟨ns, a, b, e, d, rfl, q1, q2, q3, q4⟩ := hp1
        walk_at "od"
        refine st_ite (fun h => ?_) (fun h => ?_)
        · walk_at "od"
          refine to_take hc1 ⟨ns, a, b, e, d, rfl, q1, q2, q3, q4⟩ (by omega) (by omega) fun r c2 h0 h1 hp2 => ?_
          rw [List.set_set]
          walk_at "od"
          exact st_end (hQ _ _ h0 (by omega) hp2)
        · walk_at "od"
          refine ⟨4, rfl, by decide, by decide, ?_⟩
          refine ⟨fun i ρ S' => ∃ g c' x4, ρ = [some (.own k), some (.int m), some (.int w), some (.int g), x4] ∧ S' = S.set k c' ∧ IsPool c', ⟨0, _, none, rfl, rfl, ns, a, b, e, d, rfl, q1, q2, q3, q4⟩, ?_⟩
          rintro i ρ S' ⟨g, c', x4, rfl, rfl, hp'⟩
          refine ⟨trivial, fun hi => ?_, fun y hy => ?_⟩
          · walk_at "od"
            exact st_end (hQ _ _ (Int.emod_nonneg _ (by omega)) (by have := Int.emod_lt_of_pos g (show 0 < m + 1 by omega); omega) hp')
          · walk_at "od"
            refine st_mulI (.inl (.inr ⟨by decide, by decide⟩)) ?_
            walk_at "od"
            refine to_take (get_set hc) hp' (by decide) (by decide) fun r c2 h0 h1 hp2 => ?_
            rw [List.set_set]
            walk_at "od"
            exact ⟨_, _, Shr.keep, _, _, _, rfl, rfl, hp2⟩
  · exact h.elim
theorem pure_law_integer : ∀ ds S R Xc, sp_law_integer ds S R Xc → r_law_integer C (endsD S R Xc) (startD 0 ds) S := by
  intro ds S R Xc h
  unfold sp_law_integer at h
  split at h
  · rename_i k
    obtain ⟨⟨c, hc, hp⟩, hQ⟩ := h
    unfold r_law_integer
    walk_at "od"
    refine ⟨small_line (by simp), ?_⟩
    walk_at "od"
    refine to_take hc hp (by decide) (by decide) fun w c1 hw0 hw1 hp1 => ?_
    have hc1 := get_set (c' := c1) hc
    have hw : w = 0 ∨ w = 1 := by omega
    have fin : ∀ s : Int, (-(2 ^ 64) < s ∧ s < 2 ^ 64) → dCall sp_law_great (dCons (dVar 0) (dCons (dOp pPow (dC (.int 10)) (dC (.int 31))) dNil)) [some (D.own k)] (S.set k c1) (fun y S2 => pMul false (.int s) y S2 fun d S1 => (endsD S R Xc).rt d S1) (fun c fs S1 => (endsD S R Xc).ex c fs [some (D.own k)] S1) := by
      intro s hs
      walk_at "od"
      refine to_great hc1 hp1 (by decide) (by decide) fun r c2 h0 h1 hp2 => ?_
      rw [List.set_set]
      refine st_mulI (.inl (.inl hs)) ?_
      exact st_end (hQ _ _ hp2)
    rcases hw with rfl | rfl
    · refine st_ixL rfl ?_
      exact fin 1 (by decide)
    · refine st_ixL rfl ?_
      exact fin (-1) (by decide)
  · exact h.elim
theorem sum_ones : ∀ {zs : List Str}, (∀ z ∈ zs, z.length = 1) → (zs.map (·.length)).sum = zs.length
  | [], _ => rfl
  | z :: zs, h => by
    simp only [List.map_cons, List.sum_cons, List.length_cons]
    rw [h z List.mem_cons_self, sum_ones fun y hy => h y (List.mem_cons_of_mem _ hy)]
    omega
theorem pure_law_text : ∀ ds S R Xc, sp_law_text ds S R Xc → r_law_text C (endsD S R Xc) (startD 2 ds) S := by
  intro ds S R Xc h
  unfold sp_law_text at h
  split at h
  · rename_i k
    obtain ⟨⟨c, hc, hp⟩, hQ⟩ := h
    unfold r_law_text
    have hl : (Str.ofString "abcdefghijklmnopqrstuvwxyz ABCXYZ0189_-.,:;()#").length = 46 := by decide +kernel
    generalize Str.ofString "abcdefghijklmnopqrstuvwxyz ABCXYZ0189_-.,:;()#" = z at hl
    walk_at "od"
    refine to_take hc hp (by decide) (by decide) fun w c1 hw0 hw1 hp1 => ?_
    walk_at "od"
    refine ⟨w, rfl, by omega, by omega, ?_⟩
    refine ⟨fun i acc S' => acc.length = i ∧ (∃ zs : List Str, acc = zs.map D.str ∧ ∀ z ∈ zs, z.length = 1) ∧ ∃ c', S' = S.set k c' ∧ IsPool c', ⟨rfl, ⟨[], rfl, by simp⟩, c1, rfl, hp1⟩, ?_⟩
    rintro i acc S' ⟨hi, ⟨zs, rfl, hz⟩, c', rfl, hp'⟩
    refine ⟨trivial, fun hlen => ?_, fun y hy => ?_⟩
    · walk_at "od"
      have hn : zs.length ≤ 13 := by
        rw [intsFrom_len] at hlen
        simp at hi
        omega
      refine ⟨_, _, zs, rfl, rfl, rfl, ?_, ?_⟩
      · rw [sum_ones hz]
        show zs.length + zs.length * 0 ≤ _
        omega
      · exact st_end (hQ _ _ hp')
    · refine ⟨_, rfl, ?_⟩
      walk_at "od"
      refine st_lenS (by rw [hl]; decide) ?_
      walk_at "od"
      rw [hl]
      refine to_take (get_set hc) hp' (by decide) (by decide) fun r c2 h0 h1 hp2 => ?_
      rw [List.set_set]
      have hcl : z.cps.toList.length = 46 := by rw [← hl]; simp [Str.length]
      obtain ⟨v, hv, _⟩ := atI_lt (xs := z.cps.toList) h0 (by rw [hcl]; exact h1)
      refine st_ixS (by rw [hl]; decide) hv ?_
      refine ⟨?_, by simp [hi], ⟨zs ++ [⟨#[v]⟩], by simp, ?_⟩, c2, rfl, hp2⟩
      · have h2 := (List.getElem?_eq_some_iff.mp hy).1
        rw [intsFrom_len] at h2
        exact Nat.lt_of_lt_of_le (show (zs.map D.str).length < 1000 by omega) (small_line (Nat.le_refl _))
      · intro x hx
        rcases List.mem_append.mp hx with hx | hx
        · exact hz x hx
        · simp at hx; subst hx; rfl
  · exact h.elim
end
section
variable {C : Ct}
theorem pure_law_drawn : ∀ ds S R Xc, sp_law_drawn ds S R Xc → r_law_drawn C (endsD S R Xc) (startD 4 ds) S := by
  intro ds S R Xc h
  unfold sp_law_drawn at h
  split at h
  · rename_i k
    obtain ⟨⟨c, hc, hp⟩, hQ⟩ := h
    unfold r_law_drawn
    walk_at "od"
    refine to_integer hc hp fun n c1 hp1 => ?_
    walk_at "od"
    refine to_text (get_set hc) hp1 fun z c2 hp2 => ?_
    rw [List.set_set]
    walk_at "od"
    refine to_text (get_set hc) hp2 fun y c3 hp3 => ?_
    rw [List.set_set]
    walk_at "od"
    refine ⟨small_line (by simp), ?_⟩
    walk_at "od"
    refine to_take (get_set hc) hp3 (by decide) (by decide) fun w c4 hw0 hw1 hp4 => ?_
    rw [List.set_set]
    walk_at "od"
    refine ⟨w, rfl, by omega, by omega, ?_⟩
    refine ⟨fun i acc S' => acc.length = i ∧ (∃ ns : List Int, acc = ns.map D.int) ∧ ∃ c', S' = S.set k c' ∧ IsPool c', ⟨rfl, ⟨[], rfl⟩, c4, rfl, hp4⟩, ?_⟩
    rintro i acc S' ⟨hi, ⟨ns, rfl⟩, c', rfl, hp'⟩
    refine ⟨trivial, fun hlen => ?_, fun x hx => ?_⟩
    · have hn : ns.length < 6 := by
        rw [intsFrom_len] at hlen
        simp at hi
        omega
      walk_at "od"
      refine st_addT (small_line (by simp; omega)) ?_
      walk_at "od"
      refine ⟨small_line (by simp), ?_⟩
      walk_at "od"
      exact st_end (hQ _ _ ⟨n, z, y, ns, hn, rfl⟩ hp')
    · refine ⟨_, rfl, ?_⟩
      walk_at "od"
      refine to_integer (get_set hc) hp' fun v c5 hp5 => ?_
      rw [List.set_set]
      refine ⟨?_, by simp [hi], ⟨ns ++ [v], by simp⟩, c5, rfl, hp5⟩
      have h2 := (List.getElem?_eq_some_iff.mp hx).1
      rw [intsFrom_len] at h2
      exact Nat.lt_of_lt_of_le (show (ns.map D.int).length < 1000 by omega) (small_line (Nat.le_refl _))
  · exact h.elim
theorem to_number {S : Store} {Q : D → Store → Prop} {X : XcD} {n : Int} (h : Q (.bl true) S) : sp_law_number [.int n] S Q X := h
theorem pure_same1 : ∀ ds S R Xc, sp_same1 ds S R Xc → r_law_same C sp_same0 (endsD S R Xc) (startD 1 ds) S := by
  rintro ds S R Xc ⟨x, rfl, hf, hQ⟩
  unfold r_law_same
  cases x with
  | int n =>
    walk_at "od"
    refine to_number ?_
    walk_at "od"
    exact st_end (by rw [decide_eq_true rfl]; exact hQ)
  | str z =>
    walk_at "od"
    exact st_end (by rw [decide_eq_true rfl]; exact hQ)
  | _ => cases hf
theorem to_same1 {S : Store} {Q : D → Store → Prop} {X : XcD} {x : D} (hx : flatD x = true) (h : Q (.bl true) S) : sp_same1 [x, x] S Q X := ⟨x, rfl, hx, h⟩
theorem pure_same2 : ∀ ds S R Xc, sp_same2 ds S R Xc → r_law_same C sp_same1 (endsD S R Xc) (startD 1 ds) S := by
  rintro ds S R Xc ⟨x, rfl, hf, hQ⟩
  unfold r_law_same
  cases x with
  | int n =>
    walk_at "od"
    refine to_number ?_
    walk_at "od"
    exact st_end (by rw [decide_eq_true rfl]; exact hQ)
  | str z =>
    walk_at "od"
    exact st_end (by rw [decide_eq_true rfl]; exact hQ)
  | tup xs =>
    rcases hf with hf | ⟨ys, e, hl, hf⟩
    · cases hf
    · cases e
      walk_at "od"
      refine st_iteNDF rfl ?_
      walk_at "od"
      refine ⟨_, rfl, by omega, by omega, ?_⟩
      refine ⟨fun i ρ S' => S' = S ∧ ∃ x4, ρ = [some (.tup xs), some (.tup xs), x4], ⟨rfl, none, rfl⟩, ?_⟩
      rintro i ρ S' ⟨rfl, x4, rfl⟩
      refine ⟨trivial, fun hi => ?_, fun y hy => ?_⟩
      · walk_at "od"
        exact st_end hQ
      · obtain ⟨hi, rfl⟩ := intsFrom_inv hy
        have hi' : i < xs.length := by simpa using hi
        have hx : atI xs (i : Int) = some xs[i] := atI_nat (by simp [hi'])
        walk_at "od"
        refine to_same1 (hf _ (List.getElem_mem hi')) ?_
        walk_at "od"
        exact ⟨_, _, Shr.keep, rfl, _, rfl⟩
  | _ =>
    rcases hf with hf | ⟨ys, e, hl, hf⟩
    · cases hf
    · cases e
theorem pure_law_made : ∀ ds S R Xc, sp_law_made ds S R Xc → r_law_made C (endsD S R Xc) (startD 0 ds) S := by
  rintro ds S R Xc ⟨j, a, c, r, hj, rfl, hQ⟩
  unfold r_law_made
  have hc : j = 0 ∨ j = 1 ∨ j = 2 ∨ j = 3 ∨ j = 4 ∨ j = 5 ∨ j = 6 ∨ j = 7 ∨ j = 8 ∨ j = 9 ∨ j = 10 ∨ j = 11 ∨ j = 12 ∨ j = 13 := by omega
  rcases hc with rfl | rfl | rfl | rfl | rfl | rfl | rfl | rfl | rfl | rfl | rfl | rfl | rfl | rfl <;> (walk_at "odj"; exact st_end hQ)
end
section
variable {C : Ct}
theorem st_kin {S : Store} {Q : D → Store → Prop} (hC : ClsF C) {j : Nat} {fs : List (Str × D)} (i : Nat) (hi : i < 14) (hj : j < 14) (h : Q (.bl (decide (i = j))) S) : pIsi C [.exc (nmK j) fs, .cls (nmK i)] S Q :=
  st_isi_cls (hC.ex j hj) (hC.kin i j hi hj) h
theorem pure_law_kin (hC : ClsF C) : ∀ ds S R Xc, sp_law_kin ds S R Xc → r_law_kin C (endsD S R Xc) (startD 1 ds) S := by
  rintro ds S R Xc ⟨j, fs, hj, rfl, hQ⟩
  unfold r_law_kin
  walk_at "od"
  refine st_kin hC 0 (by decide) hj ?_
  walk_at "od"
  refine st_kin hC 1 (by decide) hj ?_
  walk_at "od"
  refine st_kin hC 2 (by decide) hj ?_
  walk_at "od"
  refine st_kin hC 3 (by decide) hj ?_
  walk_at "od"
  refine ⟨small_line (by simp), ?_⟩
  walk_at "od"
  refine st_kin hC 4 (by decide) hj ?_
  walk_at "od"
  refine st_kin hC 5 (by decide) hj ?_
  walk_at "od"
  refine st_kin hC 6 (by decide) hj ?_
  walk_at "od"
  refine st_kin hC 7 (by decide) hj ?_
  walk_at "od"
  refine ⟨small_line (by simp), ?_⟩
  walk_at "od"
  refine st_addL (small_line (by simp)) ?_
  walk_at "od"
  refine st_kin hC 8 (by decide) hj ?_
  walk_at "od"
  refine st_kin hC 9 (by decide) hj ?_
  walk_at "od"
  refine st_kin hC 10 (by decide) hj ?_
  walk_at "od"
  refine st_kin hC 11 (by decide) hj ?_
  walk_at "od"
  refine ⟨small_line (by simp), ?_⟩
  walk_at "od"
  refine st_addL (small_line (by simp)) ?_
  walk_at "od"
  refine st_kin hC 12 (by decide) hj ?_
  walk_at "od"
  refine st_kin hC 13 (by decide) hj ?_
  walk_at "od"
  refine ⟨small_line (by simp), ?_⟩
  walk_at "od"
  refine st_addL (small_line (by simp)) ?_
  walk_at "od"
  exact st_end hQ
theorem to_kin {S : Store} {Q : D → Store → Prop} {X : XcD} {j : Nat} {fs : List (Str × D)} (hj : j < 14) (h : Q (.lst ((List.range 14).map fun i => .bl (decide (i = j)))) S) : sp_law_kin [.exc (nmK j) fs] S Q X := ⟨j, fs, hj, rfl, h⟩
theorem ne_same {S : Store} {Q : D → Store → Prop} {j : Nat} (hj : j < 14) (h : Q (.bl false) S) : pNe (.lst ((List.range 14).map fun i => .bl (decide (i = j)))) (.lst ((List.range 14).map fun i => .bl (decide (i = j)))) S Q := by
  have hc : j = 0 ∨ j = 1 ∨ j = 2 ∨ j = 3 ∨ j = 4 ∨ j = 5 ∨ j = 6 ∨ j = 7 ∨ j = 8 ∨ j = 9 ∨ j = 10 ∨ j = 11 ∨ j = 12 ∨ j = 13 := by omega
  rcases hc with rfl | rfl | rfl | rfl | rfl | rfl | rfl | rfl | rfl | rfl | rfl | rfl | rfl | rfl <;> exact ⟨_, _, rfl, rfl, by decide +kernel, by decide +kernel, h⟩
theorem to_same2 {S : Store} {Q : D → Store → Prop} {X : XcD} {x : D} (hx : flatD x = true ∨ ∃ xs, x = .tup xs ∧ xs.length ≤ 100 ∧ ∀ y ∈ xs, flatD y = true) (h : Q (.bl true) S) : sp_same2 [x, x] S Q X := ⟨x, rfl, hx, h⟩
theorem pure_law_holds (hC : ClsF C) : ∀ ds S R Xc, sp_law_holds ds S R Xc → r_law_holds C (endsD S R Xc) (startD 1 ds) S := by
  rintro ds S R Xc ⟨j, n, z, y, ns, hns, hj, rfl, hQ⟩
  obtain ⟨fs, he, l1, l2⟩ : ∃ fs, exK j (.int n) (.str z) (.tup (.str y :: ns.map D.int)) = .exc (nmK j) fs ∧ (j < 11 → fs.lookup ("at" : Str) = some (.int n) ∧ fs.lookup ("code" : Str) = some (.str z)) ∧ (11 ≤ j → j ≠ 13 → fs.lookup ("reason" : Str) = some (.tup (.str y :: ns.map D.int))) := by
    unfold exK
    by_cases h1 : j < 11
    · rw [if_pos h1]; exact ⟨_, rfl, fun _ => ⟨rfl, rfl⟩, fun h => absurd h (by omega)⟩
    · rw [if_neg h1]
      by_cases h2 : j < 13
      · rw [if_pos h2]; exact ⟨_, rfl, fun h => absurd h h1, fun _ _ => rfl⟩
      · rw [if_neg h2]; exact ⟨_, rfl, fun h => absurd h h1, fun _ h => absurd (show j = 13 by omega) h⟩
  rw [he]
  have X := hC.ex j hj
  have hno := hC.no j hj
  unfold r_law_holds
  walk_at "od"
  refine st_isi_cls X (hC.base j hj) ?_
  walk_at "od"
  refine st_isi_cty X (hC.ve j hj) ?_
  walk_at "od"
  refine to_kin hj ?_
  walk_at "od"
  refine ⟨14, rfl, by decide, by decide, ?_⟩
  refine ⟨fun i acc S' => S' = S ∧ acc = (List.range i).map fun i => .bl (decide (i = j)), ⟨rfl, rfl⟩, ?_⟩
  rintro i acc S' ⟨rfl, rfl⟩
  refine ⟨trivial, fun hlen => ?_, fun x hx => ?_⟩
  · have hlen' : i = 14 := hlen
    subst hlen'
    walk_at "od"
    refine ne_same hj ?_
    walk_at "od"
    refine st_ite (fun h => ?_) (fun h => ?_)
    · obtain ⟨m1, m2⟩ := l1 (by omega)
      walk_at "od"
      refine st_xfe m1 ⟨X.xf, hno.1⟩ ?_
      walk_at "od"
      refine to_same2 (.inl rfl) ?_
      walk_at "od"
      refine st_xfe m2 ⟨X.xf, hno.2.1⟩ ?_
      walk_at "od"
      refine to_same2 (.inl rfl) ?_
      walk_at "od"
      exact st_end hQ
    · walk_at "od"
      refine st_ite (fun h => ?_) (fun h => ?_)
      · walk_at "od"
        exact st_end hQ
      · walk_at "od"
        refine st_xfe (l2 (by omega) (by omega)) ⟨X.xf, hno.2.2⟩ ?_
        walk_at "od"
        refine to_same2 (.inr ⟨_, rfl, by simp; omega, ?_⟩) ?_
        · intro v hv
          rcases List.mem_cons.mp hv with rfl | hv
          · rfl
          · obtain ⟨m, _, rfl⟩ := List.mem_map.mp hv; rfl
        walk_at "od"
        exact st_end hQ
  · obtain ⟨hi, rfl⟩ := intsFrom_inv hx
    refine ⟨_, rfl, ?_⟩
    walk_at "od"
    refine ⟨?_, rfl, ?_⟩
    · exact Nat.lt_of_lt_of_le (show _ < 1000 by simp; have : i < 14 := hi; omega) (small_line (Nat.le_refl _))
    · rw [List.range_succ, List.map_append]
      have e : decide ((i : Int) = (j : Int)) = decide (i = j) := by
        by_cases h : i = j
        · rw [decide_eq_true h, decide_eq_true (by omega)]
        · rw [decide_eq_false h, decide_eq_false (by omega)]
      rw [e]; rfl
theorem to_pool {S : Store} {Q : D → Store → Prop} {X : XcD} {ns : List Int} (h : ∀ c, IsPool c → Q (.own S.length) (S ++ [c])) : sp_law_pool [.scr ns] S Q X := h
theorem to_made {S : Store} {Q : D → Store → Prop} {X : XcD} {j : Nat} {a c r : D} (hj : j < 14) (h : Q (exK j a c r) S) : sp_law_made [.int j, a, c, r] S Q X := ⟨j, a, c, r, hj, rfl, h⟩
theorem to_holds {S : Store} {Q : D → Store → Prop} {X : XcD} {j : Nat} {n : Int} {z y : Str} {ns : List Int} (hns : ns.length < 6) (hj : j < 14) (h : Q (.bl true) S) : sp_law_holds [.int j, exK j (.int n) (.str z) (.tup (.str y :: ns.map D.int)), .lst [.int n, .str z, .tup (.str y :: ns.map D.int)]] S Q X := ⟨j, n, z, y, ns, hns, hj, rfl, h⟩
theorem set_snoc {S : Store} {c c' : Cell} : (S ++ [c]).set S.length c' = S ++ [c'] := by simp
theorem pure_law : ∀ ds S R Xc, sp_law ds S R Xc → r_law C (endsD S R Xc) (startD 5 ds) S := by
  intro ds S R Xc h
  unfold sp_law at h
  split at h
  · rename_i ns0
    unfold r_law
    walk_at "od"
    refine to_pool fun c hp => ?_
    walk_at "od"
    refine to_drawn get_last hp fun d1 c1 hd1 hp1 => ?_
    rw [set_snoc]
    walk_at "od"
    refine to_drawn get_last hp1 fun d2 c2 hd2 hp2 => ?_
    rw [set_snoc]
    obtain ⟨n1, z1, y1, ns1, hn1, rfl⟩ := hd1
    obtain ⟨n2, z2, y2, ns2, hn2, rfl⟩ := hd2
    walk_at "od"
    refine ⟨14, rfl, by decide, by decide, ?_⟩
    refine ⟨fun i acc S' => S' = S ++ [c2] ∧ acc = (List.range i).map fun i => exK i (.int n1) (.str z1) (.tup (.str y1 :: ns1.map D.int)), ⟨rfl, rfl⟩, ?_⟩
    rintro i acc S' ⟨rfl, rfl⟩
    refine ⟨trivial, fun hlen => ?_, fun x hx => ?_⟩
    · have hlen' : i = 14 := hlen
      subst hlen'
      walk_at "od"
      refine ⟨14, rfl, by decide, by decide, ?_⟩
      refine ⟨fun i ρ S' => S' = S ++ [c2] ∧ ∃ x5, ρ = [some (.scr ns0), some (.own S.length), some (.lst [.int n1, .str z1, .tup (.str y1 :: ns1.map D.int)]), some (.lst [.int n2, .str z2, .tup (.str y2 :: ns2.map D.int)]), some (.lst ((List.range 14).map fun i => exK i (.int n1) (.str z1) (.tup (.str y1 :: ns1.map D.int)))), x5], ⟨rfl, _, rfl⟩, ?_⟩
      rintro i ρ S' ⟨rfl, x5, rfl⟩
      refine ⟨trivial, fun hi => ?_, fun x hx => ?_⟩
      · walk_at "od"
        refine ⟨14, rfl, by decide, by decide, ?_⟩
        refine ⟨fun i ρ S' => S' = S ++ [c2] ∧ ∃ x5, ρ = [some (.scr ns0), some (.own S.length), some (.lst [.int n1, .str z1, .tup (.str y1 :: ns1.map D.int)]), some (.lst [.int n2, .str z2, .tup (.str y2 :: ns2.map D.int)]), some (.lst ((List.range 14).map fun i => exK i (.int n1) (.str z1) (.tup (.str y1 :: ns1.map D.int)))), x5], ⟨rfl, _, rfl⟩, ?_⟩
        rintro i ρ S' ⟨rfl, x5, rfl⟩
        refine ⟨trivial, fun hi => ?_, fun x hx => ?_⟩
        · walk_at "od"
          exact st_endC (Cut.app S [c2]) rfl h
        · obtain ⟨hi, rfl⟩ := intsFrom_inv hx
          have hi' : i < 14 := hi
          walk_at "od"
          refine st_ixL (atI_map_range hi') ?_
          walk_at "od"
          refine to_holds hn1 hi' ?_
          walk_at "od"
          exact ⟨_, _, Shr.keep, rfl, _, rfl⟩
      · obtain ⟨hi, rfl⟩ := intsFrom_inv hx
        have hi' : i < 14 := hi
        walk_at "od"
        refine st_ixL (atI_map_range hi') ?_
        walk_at "od"
        refine to_holds hn1 hi' ?_
        walk_at "od"
        refine to_made hi' ?_
        walk_at "od"
        refine to_holds hn2 hi' ?_
        walk_at "od"
        exact ⟨_, _, Shr.keep, rfl, _, rfl⟩
    · obtain ⟨hi, rfl⟩ := intsFrom_inv hx
      have hi' : i < 14 := hi
      refine ⟨_, rfl, ?_⟩
      walk_at "od"
      refine to_made hi' ?_
      refine ⟨?_, rfl, ?_⟩
      · exact Nat.lt_of_lt_of_le (show _ < 1000 by simp; omega) (small_line (Nat.le_refl _))
      · rw [List.range_succ, List.map_append]; rfl
  · exact h.elim
end
section
variable {P : Program} {w : World} {C : Ct} {mg : Str → Option Value} {base : Heap}
theorem ok_law_number {f : Addr} {fd : FuncData} (F : FunD C.K "_law_number" "_law_number" (defArgs s_law_number) (defBody s_law_number) (defScope s_law_number) [] [] f fd) (gm : mg "_law_number" = some (.ref f)) (m_bool : mg "bool" = none) (m_int : mg "int" = none) (m_isinstance : mg "isinstance" = none) :
    FnD P w C mg base 1 "_law_number" ["got"] sp_law_number :=
  have nd := sc_law_number.nd
  (fnA_of (N := ["got"]) (n := 0) (t := r_law_number C) F (F.bindsN fun _ _ _ _ _ _ us hl => match us, hl with | [_], _ => rfl) sc_law_number rfl ar_law_number (fun cdv A outer s H E hr tk pw => by
    unfold r_law_number
    exact (dss_one (ds_ret (de_and (de_isi rfl m_isinstance (da_cons (de_var 0) (da_cons (de_ty m_int) da_nil))) (de_one (de_not (de_isi rfl m_isinstance (da_cons (de_var 0) (da_cons (de_ty m_bool) da_nil))))))))) pure_law_number).glob gm
theorem ok_law_same1 {f : Addr} {fd : FuncData} (F : FunD C.K "_law_same" "_law_same" (defArgs s_law_same) (defBody s_law_same) (defScope s_law_same) [] [] f fd) (gm : mg "_law_same" = some (.ref f)) (m_bool : mg "bool" = none) (m_int : mg "int" = none) (m_isinstance : mg "isinstance" = none) (m_len : mg "len" = none) (m_list : mg "list" = none) (m_range : mg "range" = none) (m_str : mg "str" = none) (m_tuple : mg "tuple" = none) (F_law_number : FnD P w C mg base 1 "_law_number" ["got"] sp_law_number) (F_law_same : FnD P w C mg base 1 "_law_same" ["got", "due"] sp_same0) :
    FnD P w C mg base 2 "_law_same" ["got", "due"] sp_same1 :=
  have nd := sc_law_same.nd
  (fnA_of (N := ["got", "due", "k"]) (n := 1) (t := r_law_same C sp_same0) F (F.bindsN fun _ _ _ _ _ _ us hl => match us, hl with | [_, _], _ => rfl) sc_law_same rfl ar_same1 (fun cdv A outer s H E hr tk pw => by
    unfold r_law_same
    exact (dss_cons (ds_if (dt_is (de_var 1) de_non)
  (dss_one (ds_ret (de_is (de_var 0) de_non)))
  dss_nil)
  (dss_cons (ds_if (dt_tru rfl (de_isi rfl m_isinstance (da_cons (de_var 1) (da_cons (de_ty m_bool) da_nil))))
  (dss_one (ds_ret (de_and (de_isi rfl m_isinstance (da_cons (de_var 0) (da_cons (de_ty m_bool) da_nil))) (de_one (de_eq rfl hr (de_var 0) (de_var 1))))))
  dss_nil)
  (dss_cons (ds_if (dt_tru rfl (de_isi rfl m_isinstance (da_cons (de_var 1) (da_cons (de_ty m_int) da_nil))))
  (dss_one (ds_ret (de_and (de_call rfl F_law_number hr tk (da_cons (de_var 0) da_nil)) (de_one (de_eq rfl hr (de_var 0) (de_var 1))))))
  dss_nil)
  (dss_cons (ds_if (dt_tru rfl (de_isi rfl m_isinstance (da_cons (de_var 1) (da_cons (de_ty m_str) da_nil))))
  (dss_one (ds_ret (de_and (de_isi rfl m_isinstance (da_cons (de_var 0) (da_cons (de_ty m_str) da_nil))) (de_one (de_eq rfl hr (de_var 0) (de_var 1))))))
  dss_nil)
  (dss_cons (ds_if (dt_w (dw_and (dt_tru rfl (de_isi rfl m_isinstance (da_cons (de_var 1) (da_cons (de_ty m_list) da_nil)))) (dw_and1 (dt_not (dt_tru rfl (de_isi rfl m_isinstance (da_cons (de_var 0) (da_cons (de_ty m_list) da_nil))))))))
  (dss_one (ds_ret de_bl))
  dss_nil)
  (dss_cons (ds_if (dt_w (dw_and (dt_tru rfl (de_isi rfl m_isinstance (da_cons (de_var 1) (da_cons (de_ty m_tuple) da_nil)))) (dw_and1 (dt_not (dt_tru rfl (de_isi rfl m_isinstance (da_cons (de_var 0) (da_cons (de_ty m_tuple) da_nil))))))))
  (dss_one (ds_ret de_bl))
  dss_nil)
  (dss_cons (ds_if (dt_ne rfl hr (de_len rfl m_len (da_cons (de_var 0) da_nil)) (de_len rfl m_len (da_cons (de_var 1) da_nil)))
  (dss_one (ds_ret de_bl))
  dss_nil)
  (dss_cons (ds_for pw rfl (di_range1 m_range (de_len rfl m_len (da_cons (de_var 1) da_nil))) (dg_name 2 nd)
  (dss_one (ds_if (dt_not (dt_tru rfl (de_call rfl F_law_same hr tk (da_cons (de_item rfl (de_var 0) (de_var 2)) (da_cons (de_item rfl (de_var 1) (de_var 2)) da_nil)))))
  (dss_one (ds_ret de_bl))
  dss_nil)))
  (dss_one (ds_ret de_bl))))))))))) pure_same1).glob gm
theorem ok_law_same2 {f : Addr} {fd : FuncData} (F : FunD C.K "_law_same" "_law_same" (defArgs s_law_same) (defBody s_law_same) (defScope s_law_same) [] [] f fd) (gm : mg "_law_same" = some (.ref f)) (m_bool : mg "bool" = none) (m_int : mg "int" = none) (m_isinstance : mg "isinstance" = none) (m_len : mg "len" = none) (m_list : mg "list" = none) (m_range : mg "range" = none) (m_str : mg "str" = none) (m_tuple : mg "tuple" = none) (F_law_number : FnD P w C mg base 1 "_law_number" ["got"] sp_law_number) (F_law_same : FnD P w C mg base 2 "_law_same" ["got", "due"] sp_same1) :
    FnD P w C mg base 3 "_law_same" ["got", "due"] sp_same2 :=
  have nd := sc_law_same.nd
  (fnA_of (N := ["got", "due", "k"]) (n := 1) (t := r_law_same C sp_same1) F (F.bindsN fun _ _ _ _ _ _ us hl => match us, hl with | [_, _], _ => rfl) sc_law_same rfl ar_same2 (fun cdv A outer s H E hr tk pw => by
    unfold r_law_same
    exact (dss_cons (ds_if (dt_is (de_var 1) de_non)
  (dss_one (ds_ret (de_is (de_var 0) de_non)))
  dss_nil)
  (dss_cons (ds_if (dt_tru rfl (de_isi rfl m_isinstance (da_cons (de_var 1) (da_cons (de_ty m_bool) da_nil))))
  (dss_one (ds_ret (de_and (de_isi rfl m_isinstance (da_cons (de_var 0) (da_cons (de_ty m_bool) da_nil))) (de_one (de_eq rfl hr (de_var 0) (de_var 1))))))
  dss_nil)
  (dss_cons (ds_if (dt_tru rfl (de_isi rfl m_isinstance (da_cons (de_var 1) (da_cons (de_ty m_int) da_nil))))
  (dss_one (ds_ret (de_and (de_call rfl F_law_number hr tk (da_cons (de_var 0) da_nil)) (de_one (de_eq rfl hr (de_var 0) (de_var 1))))))
  dss_nil)
  (dss_cons (ds_if (dt_tru rfl (de_isi rfl m_isinstance (da_cons (de_var 1) (da_cons (de_ty m_str) da_nil))))
  (dss_one (ds_ret (de_and (de_isi rfl m_isinstance (da_cons (de_var 0) (da_cons (de_ty m_str) da_nil))) (de_one (de_eq rfl hr (de_var 0) (de_var 1))))))
  dss_nil)
  (dss_cons (ds_if (dt_w (dw_and (dt_tru rfl (de_isi rfl m_isinstance (da_cons (de_var 1) (da_cons (de_ty m_list) da_nil)))) (dw_and1 (dt_not (dt_tru rfl (de_isi rfl m_isinstance (da_cons (de_var 0) (da_cons (de_ty m_list) da_nil))))))))
  (dss_one (ds_ret de_bl))
  dss_nil)
  (dss_cons (ds_if (dt_w (dw_and (dt_tru rfl (de_isi rfl m_isinstance (da_cons (de_var 1) (da_cons (de_ty m_tuple) da_nil)))) (dw_and1 (dt_not (dt_tru rfl (de_isi rfl m_isinstance (da_cons (de_var 0) (da_cons (de_ty m_tuple) da_nil))))))))
  (dss_one (ds_ret de_bl))
  dss_nil)
  (dss_cons (ds_if (dt_ne rfl hr (de_len rfl m_len (da_cons (de_var 0) da_nil)) (de_len rfl m_len (da_cons (de_var 1) da_nil)))
  (dss_one (ds_ret de_bl))
  dss_nil)
  (dss_cons (ds_for pw rfl (di_range1 m_range (de_len rfl m_len (da_cons (de_var 1) da_nil))) (dg_name 2 nd)
  (dss_one (ds_if (dt_not (dt_tru rfl (de_call rfl F_law_same hr tk (da_cons (de_item rfl (de_var 0) (de_var 2)) (da_cons (de_item rfl (de_var 1) (de_var 2)) da_nil)))))
  (dss_one (ds_ret de_bl))
  dss_nil)))
  (dss_one (ds_ret de_bl))))))))))) pure_same2).glob gm
theorem ok_law_pool {f : Addr} {fd : FuncData} (F : FunD C.K "_law_pool" "_law_pool" (defArgs s_law_pool) (defBody s_law_pool) (defScope s_law_pool) [] [] f fd) (gm : mg "_law_pool" = some (.ref f)) (m_list : mg "list" = none) :
    FnD P w C mg base 1 "_law_pool" ["script"] sp_law_pool :=
  have nd := sc_law_pool.nd
  (fnA_of (N := ["script"]) (n := 0) (t := r_law_pool C) F (F.bindsN fun _ _ _ _ _ _ us hl => match us, hl with | [_], _ => rfl) sc_law_pool rfl ar_law_pool (fun cdv A outer s H E hr tk pw => by
    unfold r_law_pool
    exact (dss_one (ds_ret (de_lst (o := true) (da_cons de_int (da_cons de_int (da_cons de_int (da_cons de_int (da_cons (de_list false rfl m_list (da_cons (de_var 0) da_nil)) da_nil))))))))) pure_law_pool).glob gm
theorem ok_law_take {f : Addr} {fd : FuncData} (F : FunD C.K "_law_take" "_law_take" (defArgs s_law_take) (defBody s_law_take) (defScope s_law_take) [] [] f fd) (gm : mg "_law_take" = some (.ref f)) (m_abs : mg "abs" = none) (m_int : mg "int" = none) (m_len : mg "len" = none) :
    FnD P w C mg base 1 "_law_take" ["pool", "limit"] sp_law_take :=
  have nd := sc_law_take.nd
  (fnA_of (N := ["pool", "limit", "k", "mixed", "cell", "got"]) (n := 4) (t := r_law_take C) F (F.bindsN fun _ _ _ _ _ _ us hl => match us, hl with | [_, _], _ => rfl) sc_law_take rfl ar_law_take (fun cdv A outer s H E hr tk pw => by
    unfold r_law_take
    exact (dss_cons (ds_if (dt_w (dw_and (dt_eq rfl hr (de_item rfl (de_var 0) de_int) de_int) (dw_and1 (dt_lt (de_item rfl (de_var 0) de_int) (de_len rfl m_len (da_cons (de_item rfl (de_var 0) de_int) da_nil))))))
  (dss_cons (ds_set 4 nd (de_abs m_abs (da_cons (de_item rfl (de_item rfl (de_var 0) de_int) (de_item rfl (de_var 0) de_int)) da_nil)))
  (dss_cons (ds_asg (de_add false rfl (de_item rfl (de_var 0) de_int) de_int) (dg_sub (de_var 0) de_int))
  (dss_one (ds_if (dt_ge (de_var 4) (de_pow de_int de_int))
  (dss_one (ds_asg (de_var 4) (dg_sub (de_var 0) de_int)))
  (dss_one (ds_asg (de_mod (de_intC m_int (da_cons (de_add false rfl (de_add false rfl (de_mul false (de_item rfl (de_var 0) de_int) de_int) (de_var 4)) de_int) da_nil)) de_int) (dg_sub (de_var 0) de_int)))))))
  dss_nil)
  (dss_cons (ds_if (dt_gt (de_item rfl (de_var 0) de_int) de_int)
  (dss_cons (ds_set 5 nd (de_mod (de_intC m_int (da_cons (de_item rfl (de_var 0) de_int) da_nil)) (de_var 1)))
  (dss_cons (ds_asg (de_div (de_item rfl (de_var 0) de_int) (de_var 1)) (dg_sub (de_var 0) de_int))
  (dss_one (ds_ret (de_var 5)))))
  dss_nil)
  (dss_cons (ds_set 2 nd (de_add false rfl (de_item rfl (de_var 0) de_int) de_int))
  (dss_cons (ds_asg (de_var 2) (dg_sub (de_var 0) de_int))
  (dss_cons (ds_set 3 nd (de_item rfl (de_var 0) de_int))
  (dss_cons (ds_set 3 nd (de_mod (de_intC m_int (da_cons (de_add false rfl (de_add false rfl (de_mul false (de_var 3) (de_var 3)) (de_mul false (de_var 2) de_int)) de_int) da_nil)) de_int))
  (dss_cons (ds_set 3 nd (de_mod (de_intC m_int (da_cons (de_add false rfl (de_mul false (de_var 3) (de_var 3)) (de_div (de_var 3) de_int)) da_nil)) de_int))
  (dss_cons (ds_asg (de_var 3) (dg_sub (de_var 0) de_int))
  (dss_one (ds_ret (de_mod (de_intC m_int (da_cons (de_div (de_var 3) de_int) da_nil)) (de_var 1))))))))))))) pure_law_take).glob gm
theorem ok_law_great {f : Addr} {fd : FuncData} (F : FunD C.K "_law_great" "_law_great" (defArgs s_law_great) (defBody s_law_great) (defScope s_law_great) [] [] f fd) (gm : mg "_law_great" = some (.ref f)) (m_int : mg "int" = none) (m_min : mg "min" = none) (m_range : mg "range" = none) (F_law_take : FnD P w C mg base 1 "_law_take" ["pool", "limit"] sp_law_take) :
    FnD P w C mg base 2 "_law_great" ["pool", "most"] sp_law_great :=
  have nd := sc_law_great.nd
  (fnA_of (N := ["pool", "most", "way", "got", "k"]) (n := 3) (t := r_law_great C) F (F.bindsN fun _ _ _ _ _ _ us hl => match us, hl with | [_, _], _ => rfl) sc_law_great rfl ar_law_great (fun cdv A outer s H E hr tk pw => by
    unfold r_law_great
    exact (dss_cons (ds_set 2 nd (de_call rfl F_law_take hr tk (da_cons (de_var 0) (da_cons de_int da_nil))))
  (dss_cons (ds_if (dt_lt (de_var 2) de_int)
  (dss_one (ds_ret (de_min2 rfl m_min (da_cons (de_var 1) (da_cons (de_call rfl F_law_take hr tk (da_cons (de_var 0) (da_cons de_int da_nil))) da_nil)))))
  dss_nil)
  (dss_cons (ds_if (dt_eq rfl hr (de_var 2) de_int)
  (dss_one (ds_ret (de_min2 rfl m_min (da_cons (de_var 1) (da_cons (de_call rfl F_law_take hr tk (da_cons (de_var 0) (da_cons de_int da_nil))) da_nil)))))
  dss_nil)
  (dss_cons (ds_if (dt_gt (de_item rfl (de_var 0) de_int) (de_var 1))
  (dss_one (ds_ret (de_call rfl F_law_take hr tk (da_cons (de_var 0) (da_cons (de_add false rfl (de_var 1) de_int) da_nil)))))
  dss_nil)
  (dss_cons (ds_set 3 nd de_int)
  (dss_cons (ds_for pw rfl (di_range1 m_range de_int) (dg_name 4 nd)
  (dss_one (ds_set 3 nd (de_add false rfl (de_mul false (de_var 3) (de_pow de_int de_int)) (de_call rfl F_law_take hr tk (da_cons (de_var 0) (da_cons (de_pow de_int de_int) da_nil)))))))
  (dss_one (ds_ret (de_mod (de_intC m_int (da_cons (de_var 3) da_nil)) (de_add false rfl (de_var 1) de_int))))))))))) pure_law_great).glob gm
theorem ok_law_integer {f : Addr} {fd : FuncData} (F : FunD C.K "_law_integer" "_law_integer" (defArgs s_law_integer) (defBody s_law_integer) (defScope s_law_integer) [] [] f fd) (gm : mg "_law_integer" = some (.ref f)) (F_law_great : FnD P w C mg base 2 "_law_great" ["pool", "most"] sp_law_great) (F_law_take : FnD P w C mg base 1 "_law_take" ["pool", "limit"] sp_law_take) :
    FnD P w C mg base 3 "_law_integer" ["pool"] sp_law_integer :=
  have nd := sc_law_integer.nd
  (fnA_of (N := ["pool"]) (n := 0) (t := r_law_integer C) F (F.bindsN fun _ _ _ _ _ _ us hl => match us, hl with | [_], _ => rfl) sc_law_integer rfl ar_law_integer (fun cdv A outer s H E hr tk pw => by
    unfold r_law_integer
    exact (dss_one (ds_ret (de_mul false (de_item rfl (de_lst (o := false) (da_cons de_int (da_cons (de_neg de_int) da_nil))) (de_call rfl F_law_take hr tk (da_cons (de_var 0) (da_cons de_int da_nil)))) (de_call rfl F_law_great hr tk (da_cons (de_var 0) (da_cons (de_pow de_int de_int) da_nil))))))) pure_law_integer).glob gm
theorem ok_law_text {f : Addr} {fd : FuncData} (F : FunD C.K "_law_text" "_law_text" (defArgs s_law_text) (defBody s_law_text) (defScope s_law_text) [] [] f fd) (gm : mg "_law_text" = some (.ref f)) (m_len : mg "len" = none) (m_range : mg "range" = none) (F_law_take : FnD P w C mg base 1 "_law_take" ["pool", "limit"] sp_law_take) :
    FnD P w C mg base 2 "_law_text" ["pool"] sp_law_text :=
  have nd := sc_law_text.nd
  (fnA_of (N := ["pool", "signs", "k"]) (n := 2) (t := r_law_text C) F (F.bindsN fun _ _ _ _ _ _ us hl => match us, hl with | [_], _ => rfl) sc_law_text rfl ar_law_text (fun cdv A outer s H E hr tk pw => by
    unfold r_law_text
    exact (dss_cons (ds_set 1 nd de_str)
  (dss_one (ds_ret (de_join rfl de_str (da_cons (de_lc1 (o := false) 2 rfl nd (di_range1 m_range (de_call rfl F_law_take hr tk (da_cons (de_var 0) (da_cons de_int da_nil)))) (blkOk_by (by kernel_rfl)) (fun _ _ _ _ _ => pg_name (i := 2) nd rfl (Or.inl rfl)) (fun _ _ _ _ _ => dts_nil) (fun _ _ _ _ _ => (de_item rfl (de_var 1) (de_call rfl F_law_take hr takesF (da_cons (de_var 0) (da_cons (de_len rfl m_len (da_cons (de_var 1) da_nil)) da_nil)))))) da_nil)))))) pure_law_text).glob gm
theorem ok_law_drawn {f : Addr} {fd : FuncData} (F : FunD C.K "_law_drawn" "_law_drawn" (defArgs s_law_drawn) (defBody s_law_drawn) (defScope s_law_drawn) [] [] f fd) (gm : mg "_law_drawn" = some (.ref f)) (m_range : mg "range" = none) (m_tuple : mg "tuple" = none) (F_law_integer : FnD P w C mg base 3 "_law_integer" ["pool"] sp_law_integer) (F_law_take : FnD P w C mg base 1 "_law_take" ["pool", "limit"] sp_law_take) (F_law_text : FnD P w C mg base 2 "_law_text" ["pool"] sp_law_text) :
    FnD P w C mg base 4 "_law_drawn" ["pool"] sp_law_drawn :=
  have nd := sc_law_drawn.nd
  (fnA_of (N := ["pool", "at", "code", "reason", "k"]) (n := 4) (t := r_law_drawn C) F (F.bindsN fun _ _ _ _ _ _ us hl => match us, hl with | [_], _ => rfl) sc_law_drawn rfl ar_law_drawn (fun cdv A outer s H E hr tk pw => by
    unfold r_law_drawn
    exact (dss_cons (ds_set 1 nd (de_call rfl F_law_integer hr tk (da_cons (de_var 0) da_nil)))
  (dss_cons (ds_set 2 nd (de_call rfl F_law_text hr tk (da_cons (de_var 0) da_nil)))
  (dss_cons (ds_set 3 nd (de_add false rfl (de_tup (da_cons (de_call rfl F_law_text hr tk (da_cons (de_var 0) da_nil)) da_nil)) (de_tuple rfl m_tuple (da_cons (de_lc1 (o := false) 4 rfl nd (di_range1 m_range (de_call rfl F_law_take hr tk (da_cons (de_var 0) (da_cons de_int da_nil)))) (blkOk_by (by kernel_rfl)) (fun _ _ _ _ _ => pg_name (i := 4) nd rfl (Or.inl rfl)) (fun _ _ _ _ _ => dts_nil) (fun _ _ _ _ _ => (de_call rfl F_law_integer hr takesF (da_cons (de_var 0) da_nil)))) da_nil))))
  (dss_one (ds_ret (de_lst (o := false) (da_cons (de_var 1) (da_cons (de_var 2) (da_cons (de_var 3) da_nil)))))))))) pure_law_drawn).glob gm
theorem ok_law_made {f : Addr} {fd : FuncData} (F : FunD C.K "_law_made" "_law_made" (defArgs s_law_made) (defBody s_law_made) (defScope s_law_made) [] [] f fd) (gm : mg "_law_made" = some (.ref f)) (X_BadBook : ExD P w C mg base 1 "BadBook" (fun a => sp2 a "at" "code")) (X_BadBounds : ExD P w C mg base 1 "BadBounds" (fun a => sp2 a "at" "code")) (X_BadCrews : ExD P w C mg base 1 "BadCrews" (fun a => sp2 a "at" "code")) (X_BadDepot : ExD P w C mg base 1 "BadDepot" (fun a => sp2 a "at" "code")) (X_BadLine : ExD P w C mg base 1 "BadLine" (fun a => sp2 a "at" "code")) (X_BadLists : ExD P w C mg base 1 "BadLists" (fun a => sp2 a "at" "code")) (X_BadLives : ExD P w C mg base 1 "BadLives" (fun a => sp2 a "at" "code")) (X_BadNotes : ExD P w C mg base 1 "BadNotes" (fun a => sp2 a "at" "code")) (X_BadPasses : ExD P w C mg base 1 "BadPasses" (fun a => sp2 a "at" "code")) (X_BadWish : ExD P w C mg base 1 "BadWish" (fun a => sp2 a "at" "code")) (X_GoalLost : ExD P w C mg base 1 "GoalLost" (fun a => sp1 a "reason")) (X_NoBook : ExD P w C mg base 1 "NoBook" (fun a => sp1 a "reason")) (X_NothingLeft : Ex0 C mg "NothingLeft") (X_OutOfRange : ExD P w C mg base 1 "OutOfRange" (fun a => sp2 a "at" "code")) :
    FnD P w C mg base 3 "_law_made" ["k", "at", "code", "reason"] sp_law_made :=
  have nd := sc_law_made.nd
  (fnA_of (N := ["k", "at", "code", "reason"]) (n := 0) (t := r_law_made C) F (F.bindsN fun _ _ _ _ _ _ us hl => match us, hl with | [_, _, _, _], _ => rfl) sc_law_made rfl ar_law_made (fun cdv A outer s H E hr tk pw => by
    unfold r_law_made
    exact (dss_cons (ds_if (dt_eq rfl hr (de_var 0) de_int)
  (dss_one (ds_ret (de_mk2 rfl X_OutOfRange hr tk (da_cons (de_var 1) (da_cons (de_var 2) da_nil)))))
  dss_nil)
  (dss_cons (ds_if (dt_eq rfl hr (de_var 0) de_int)
  (dss_one (ds_ret (de_mk2 rfl X_BadDepot hr tk (da_cons (de_var 1) (da_cons (de_var 2) da_nil)))))
  dss_nil)
  (dss_cons (ds_if (dt_eq rfl hr (de_var 0) de_int)
  (dss_one (ds_ret (de_mk2 rfl X_BadBook hr tk (da_cons (de_var 1) (da_cons (de_var 2) da_nil)))))
  dss_nil)
  (dss_cons (ds_if (dt_eq rfl hr (de_var 0) de_int)
  (dss_one (ds_ret (de_mk2 rfl X_BadLives hr tk (da_cons (de_var 1) (da_cons (de_var 2) da_nil)))))
  dss_nil)
  (dss_cons (ds_if (dt_eq rfl hr (de_var 0) de_int)
  (dss_one (ds_ret (de_mk2 rfl X_BadPasses hr tk (da_cons (de_var 1) (da_cons (de_var 2) da_nil)))))
  dss_nil)
  (dss_cons (ds_if (dt_eq rfl hr (de_var 0) de_int)
  (dss_one (ds_ret (de_mk2 rfl X_BadCrews hr tk (da_cons (de_var 1) (da_cons (de_var 2) da_nil)))))
  dss_nil)
  (dss_cons (ds_if (dt_eq rfl hr (de_var 0) de_int)
  (dss_one (ds_ret (de_mk2 rfl X_BadWish hr tk (da_cons (de_var 1) (da_cons (de_var 2) da_nil)))))
  dss_nil)
  (dss_cons (ds_if (dt_eq rfl hr (de_var 0) de_int)
  (dss_one (ds_ret (de_mk2 rfl X_BadBounds hr tk (da_cons (de_var 1) (da_cons (de_var 2) da_nil)))))
  dss_nil)
  (dss_cons (ds_if (dt_eq rfl hr (de_var 0) de_int)
  (dss_one (ds_ret (de_mk2 rfl X_BadNotes hr tk (da_cons (de_var 1) (da_cons (de_var 2) da_nil)))))
  dss_nil)
  (dss_cons (ds_if (dt_eq rfl hr (de_var 0) de_int)
  (dss_one (ds_ret (de_mk2 rfl X_BadLists hr tk (da_cons (de_var 1) (da_cons (de_var 2) da_nil)))))
  dss_nil)
  (dss_cons (ds_if (dt_eq rfl hr (de_var 0) de_int)
  (dss_one (ds_ret (de_mk2 rfl X_BadLine hr tk (da_cons (de_var 1) (da_cons (de_var 2) da_nil)))))
  dss_nil)
  (dss_cons (ds_if (dt_eq rfl hr (de_var 0) de_int)
  (dss_one (ds_ret (de_mk1 rfl X_NoBook hr tk (da_cons (de_var 3) da_nil))))
  dss_nil)
  (dss_cons (ds_if (dt_eq rfl hr (de_var 0) de_int)
  (dss_one (ds_ret (de_mk1 rfl X_GoalLost hr tk (da_cons (de_var 3) da_nil))))
  dss_nil)
  (dss_one (ds_ret (de_mk0 rfl PySem.F.excBase_ValueError X_NothingLeft.q X_NothingLeft.k X_NothingLeft.g))))))))))))))))) pure_law_made).glob gm
theorem ok_law_kin {f : Addr} {fd : FuncData} (F : FunD C.K "_law_kin" "_law_kin" (defArgs s_law_kin) (defBody s_law_kin) (defScope s_law_kin) [] [] f fd) (hC : ClsF C) (gm : mg "_law_kin" = some (.ref f)) (m_isinstance : mg "isinstance" = none) (g_BadBook : mg "BadBook" = some (.ref (C.ca "BadBook"))) (g_BadBounds : mg "BadBounds" = some (.ref (C.ca "BadBounds"))) (g_BadCrews : mg "BadCrews" = some (.ref (C.ca "BadCrews"))) (g_BadDepot : mg "BadDepot" = some (.ref (C.ca "BadDepot"))) (g_BadLine : mg "BadLine" = some (.ref (C.ca "BadLine"))) (g_BadLists : mg "BadLists" = some (.ref (C.ca "BadLists"))) (g_BadLives : mg "BadLives" = some (.ref (C.ca "BadLives"))) (g_BadNotes : mg "BadNotes" = some (.ref (C.ca "BadNotes"))) (g_BadPasses : mg "BadPasses" = some (.ref (C.ca "BadPasses"))) (g_BadWish : mg "BadWish" = some (.ref (C.ca "BadWish"))) (g_GoalLost : mg "GoalLost" = some (.ref (C.ca "GoalLost"))) (g_NoBook : mg "NoBook" = some (.ref (C.ca "NoBook"))) (g_NothingLeft : mg "NothingLeft" = some (.ref (C.ca "NothingLeft"))) (g_OutOfRange : mg "OutOfRange" = some (.ref (C.ca "OutOfRange"))) :
    FnD P w C mg base 1 "_law_kin" ["e"] sp_law_kin :=
  have nd := sc_law_kin.nd
  (fnA_of (N := ["e", "kin"]) (n := 1) (t := r_law_kin C) F (F.bindsN fun _ _ _ _ _ _ us hl => match us, hl with | [_], _ => rfl) sc_law_kin rfl ar_law_kin (fun cdv A outer s H E hr tk pw => by
    unfold r_law_kin
    exact (dss_cons (ds_set 1 nd (de_lst (o := false) (da_cons (de_isi rfl m_isinstance (da_cons (de_var 0) (da_cons (de_cls g_OutOfRange) da_nil))) (da_cons (de_isi rfl m_isinstance (da_cons (de_var 0) (da_cons (de_cls g_BadDepot) da_nil))) (da_cons (de_isi rfl m_isinstance (da_cons (de_var 0) (da_cons (de_cls g_BadBook) da_nil))) (da_cons (de_isi rfl m_isinstance (da_cons (de_var 0) (da_cons (de_cls g_BadLives) da_nil))) da_nil))))))
  (dss_cons (ds_set 1 nd (de_add false rfl (de_var 1) (de_lst (o := false) (da_cons (de_isi rfl m_isinstance (da_cons (de_var 0) (da_cons (de_cls g_BadPasses) da_nil))) (da_cons (de_isi rfl m_isinstance (da_cons (de_var 0) (da_cons (de_cls g_BadCrews) da_nil))) (da_cons (de_isi rfl m_isinstance (da_cons (de_var 0) (da_cons (de_cls g_BadWish) da_nil))) (da_cons (de_isi rfl m_isinstance (da_cons (de_var 0) (da_cons (de_cls g_BadBounds) da_nil))) da_nil)))))))
  (dss_cons (ds_set 1 nd (de_add false rfl (de_var 1) (de_lst (o := false) (da_cons (de_isi rfl m_isinstance (da_cons (de_var 0) (da_cons (de_cls g_BadNotes) da_nil))) (da_cons (de_isi rfl m_isinstance (da_cons (de_var 0) (da_cons (de_cls g_BadLists) da_nil))) (da_cons (de_isi rfl m_isinstance (da_cons (de_var 0) (da_cons (de_cls g_BadLine) da_nil))) (da_cons (de_isi rfl m_isinstance (da_cons (de_var 0) (da_cons (de_cls g_NoBook) da_nil))) da_nil)))))))
  (dss_one (ds_ret (de_add false rfl (de_var 1) (de_lst (o := false) (da_cons (de_isi rfl m_isinstance (da_cons (de_var 0) (da_cons (de_cls g_GoalLost) da_nil))) (da_cons (de_isi rfl m_isinstance (da_cons (de_var 0) (da_cons (de_cls g_NothingLeft) da_nil))) da_nil)))))))))) (pure_law_kin hC)).glob gm
theorem ok_law_holds {f : Addr} {fd : FuncData} (F : FunD C.K "_law_holds" "_law_holds" (defArgs s_law_holds) (defBody s_law_holds) (defScope s_law_holds) [] [] f fd) (hC : ClsF C) (gm : mg "_law_holds" = some (.ref f)) (m_ValueError : mg "ValueError" = none) (m_isinstance : mg "isinstance" = none) (m_range : mg "range" = none) (F_law_kin : FnD P w C mg base 1 "_law_kin" ["e"] sp_law_kin) (F_law_same : FnD P w C mg base 3 "_law_same" ["got", "due"] sp_same2) (g_OutagainError : mg "OutagainError" = some (.ref (C.ca "OutagainError"))) :
    FnD P w C mg base 4 "_law_holds" ["k", "e", "drawn"] sp_law_holds :=
  have nd := sc_law_holds.nd
  (fnA_of (N := ["k", "e", "drawn", "i"]) (n := 1) (t := r_law_holds C) F (F.bindsN fun _ _ _ _ _ _ us hl => match us, hl with | [_, _, _], _ => rfl) sc_law_holds rfl ar_law_holds (fun cdv A outer s H E hr tk pw => by
    unfold r_law_holds
    exact (dss_cons (ds_if (dt_w (dw_or (dt_not (dt_tru rfl (de_isi rfl m_isinstance (da_cons (de_var 1) (da_cons (de_cls g_OutagainError) da_nil))))) (dw_or1 (dt_not (dt_tru rfl (de_isi rfl m_isinstance (da_cons (de_var 1) (da_cons (de_ty m_ValueError) da_nil))))))))
  (dss_one (ds_ret de_bl))
  dss_nil)
  (dss_cons (ds_if (dt_ne rfl hr (de_call rfl F_law_kin hr tk (da_cons (de_var 1) da_nil)) (de_lc1 (o := false) 3 rfl nd (di_range1 m_range de_int) (blkOk_by (by kernel_rfl)) (fun _ _ _ _ _ => pg_name (i := 3) nd rfl (Or.inl rfl)) (fun _ _ _ _ _ => dts_nil) (fun _ _ _ _ _ => (de_eq rfl hr (de_var 3) (de_var 0)))))
  (dss_one (ds_ret de_bl))
  dss_nil)
  (dss_cons (ds_if (dt_lt (de_var 0) de_int)
  (dss_one (ds_ret (de_and (de_call rfl F_law_same hr tk (da_cons (de_xf rfl (de_var 1)) (da_cons (de_item rfl (de_var 2) de_int) da_nil))) (de_one (de_call rfl F_law_same hr tk (da_cons (de_xf rfl (de_var 1)) (da_cons (de_item rfl (de_var 2) de_int) da_nil)))))))
  dss_nil)
  (dss_one (ds_ret (de_or (de_eq rfl hr (de_var 0) de_int) (de_one (de_call rfl F_law_same hr tk (da_cons (de_xf rfl (de_var 1)) (da_cons (de_item rfl (de_var 2) de_int) da_nil))))))))))) (pure_law_holds hC)).glob gm
theorem ok_law {f : Addr} {fd : FuncData} (F : FunD C.K "law" "law" (defArgs s_law) (defBody s_law) (defScope s_law) [] [] f fd) (m_range : mg "range" = none) (F_law_drawn : FnD P w C mg base 4 "_law_drawn" ["pool"] sp_law_drawn) (F_law_holds : FnD P w C mg base 4 "_law_holds" ["k", "e", "drawn"] sp_law_holds) (F_law_made : FnD P w C mg base 3 "_law_made" ["k", "at", "code", "reason"] sp_law_made) (F_law_pool : FnD P w C mg base 1 "_law_pool" ["script"] sp_law_pool) :
    FnOk P w C.K mg base (L2.CX P w) 5 f fd ["script"] (liftP C sp_law) :=
  have nd := sc_law.nd
  (fnOk_of (N := ["script", "pool", "first", "second", "errors", "k"]) (n := 5) (t := r_law C) F sc_law rfl ar_law (fun cdv A outer s H E hr tk pw => by
    unfold r_law
    exact (dss_cons (ds_set 1 nd (de_call rfl F_law_pool hr tk (da_cons (de_var 0) da_nil)))
  (dss_cons (ds_set 2 nd (de_call rfl F_law_drawn hr tk (da_cons (de_var 1) da_nil)))
  (dss_cons (ds_set 3 nd (de_call rfl F_law_drawn hr tk (da_cons (de_var 1) da_nil)))
  (dss_cons (ds_setLc1 (o := false) 5 4 rfl nd rfl rfl (sw_true rfl rfl rfl (by decide +kernel)) (di_range1 m_range de_int) (blkOk_by (by kernel_rfl)) (fun _ _ _ _ _ => pg_name (i := 5) nd rfl (Or.inl rfl)) (fun _ _ _ _ _ => dts_nil) (fun _ _ _ _ _ => (de_call rfl F_law_made hr takesF (da_cons (de_var 5) (da_cons (de_item rfl (de_var 2) de_int) (da_cons (de_item rfl (de_var 2) de_int) (da_cons (de_item rfl (de_var 2) de_int) da_nil)))))))
  (dss_cons (ds_for pw rfl (di_range1 m_range de_int) (dg_name 5 nd)
  (dss_cons (ds_if (dt_not (dt_tru rfl (de_call rfl F_law_holds hr tk (da_cons (de_var 5) (da_cons (de_item rfl (de_var 4) (de_var 5)) (da_cons (de_var 2) da_nil))))))
  (dss_one (ds_ret de_bl))
  dss_nil)
  (dss_one (ds_if (dt_not (dt_tru rfl (de_call rfl F_law_holds hr tk (da_cons (de_var 5) (da_cons (de_call rfl F_law_made hr tk (da_cons (de_var 5) (da_cons (de_item rfl (de_var 3) de_int) (da_cons (de_item rfl (de_var 3) de_int) (da_cons (de_item rfl (de_var 3) de_int) da_nil))))) (da_cons (de_var 3) da_nil))))))
  (dss_one (ds_ret de_bl))
  dss_nil))))
  (dss_cons (ds_for pw rfl (di_range1 m_range de_int) (dg_name 5 nd)
  (dss_one (ds_if (dt_not (dt_tru rfl (de_call rfl F_law_holds hr tk (da_cons (de_var 5) (da_cons (de_item rfl (de_var 4) (de_var 5)) (da_cons (de_var 2) da_nil))))))
  (dss_one (ds_ret de_bl))
  dss_nil)))
  (dss_one (ds_ret de_bl))))))))) pure_law)
end
end K

namespace K
open PySem PySem.Spec L2 OD
open PyProof.Rows hiding St
section
open PySem.W PySem.Calls
abbrev R : OpenRow := OpenLaw.row PySem.Challenge.rw_outagain_k97_error_classes
def names : List PySem.Str := ["OutagainError", "OutOfRange", "BadDepot", "BadBook", "BadLives", "BadPasses", "BadCrews", "BadWish", "BadBounds", "BadNotes", "BadLists", "BadLine", "NoBook", "GoalLost", "NothingLeft", "_law_number", "_law_same", "_law_pool", "_law_take", "_law_great", "_law_integer", "_law_text", "_law_drawn", "_law_made", "_law_kin", "_law_holds"]

def d_law_number : He.DefD := ⟨("_law_number", none), "_law_number", "_law_number", defArgs s_law_number, defBody s_law_number, defScope s_law_number, [], []⟩
def d_law_same : He.DefD := ⟨("_law_same", none), "_law_same", "_law_same", defArgs s_law_same, defBody s_law_same, defScope s_law_same, [], []⟩
def d_law_pool : He.DefD := ⟨("_law_pool", none), "_law_pool", "_law_pool", defArgs s_law_pool, defBody s_law_pool, defScope s_law_pool, [], []⟩
def d_law_take : He.DefD := ⟨("_law_take", none), "_law_take", "_law_take", defArgs s_law_take, defBody s_law_take, defScope s_law_take, [], []⟩
def d_law_great : He.DefD := ⟨("_law_great", none), "_law_great", "_law_great", defArgs s_law_great, defBody s_law_great, defScope s_law_great, [], []⟩
def d_law_integer : He.DefD := ⟨("_law_integer", none), "_law_integer", "_law_integer", defArgs s_law_integer, defBody s_law_integer, defScope s_law_integer, [], []⟩
def d_law_text : He.DefD := ⟨("_law_text", none), "_law_text", "_law_text", defArgs s_law_text, defBody s_law_text, defScope s_law_text, [], []⟩
def d_law_drawn : He.DefD := ⟨("_law_drawn", none), "_law_drawn", "_law_drawn", defArgs s_law_drawn, defBody s_law_drawn, defScope s_law_drawn, [], []⟩
def d_law_made : He.DefD := ⟨("_law_made", none), "_law_made", "_law_made", defArgs s_law_made, defBody s_law_made, defScope s_law_made, [], []⟩
def d_law_kin : He.DefD := ⟨("_law_kin", none), "_law_kin", "_law_kin", defArgs s_law_kin, defBody s_law_kin, defScope s_law_kin, [], []⟩
def d_law_holds : He.DefD := ⟨("_law_holds", none), "_law_holds", "_law_holds", defArgs s_law_holds, defBody s_law_holds, defScope s_law_holds, [], []⟩
def d_law : He.DefD := ⟨("law", none), "law", "law", defArgs s_law, defBody s_law, defScope s_law, [], []⟩
def x_OutOfRange : SupD := supOf "OutOfRange" "OutOfRange.__init__" (inClass (top 2) 0)
def x_BadDepot : SupD := supOf "BadDepot" "BadDepot.__init__" (inClass (top 3) 0)
def x_BadBook : SupD := supOf "BadBook" "BadBook.__init__" (inClass (top 4) 0)
def x_BadLives : SupD := supOf "BadLives" "BadLives.__init__" (inClass (top 5) 0)
def x_BadPasses : SupD := supOf "BadPasses" "BadPasses.__init__" (inClass (top 6) 0)
def x_BadCrews : SupD := supOf "BadCrews" "BadCrews.__init__" (inClass (top 7) 0)
def x_BadWish : SupD := supOf "BadWish" "BadWish.__init__" (inClass (top 8) 0)
def x_BadBounds : SupD := supOf "BadBounds" "BadBounds.__init__" (inClass (top 9) 0)
def x_BadNotes : SupD := supOf "BadNotes" "BadNotes.__init__" (inClass (top 10) 0)
def x_BadLists : SupD := supOf "BadLists" "BadLists.__init__" (inClass (top 11) 0)
def x_BadLine : SupD := supOf "BadLine" "BadLine.__init__" (inClass (top 12) 0)
def x_NoBook : SupD := supOf "NoBook" "NoBook.__init__" (inClass (top 13) 0)
def x_GoalLost : SupD := supOf "GoalLost" "GoalLost.__init__" (inClass (top 14) 0)
def clsB (K : Frag) : Bool := (List.range 14).all fun j => (List.range 14).all (fun i => decide (kitOne K (.ref (He.ga K (nmK j))) (.ref (He.ga K (nmK i))) = some (decide (i = j)))) &&
  (decide (kitOne K (.ref (He.ga K (nmK j))) (.ref (He.ga K "OutagainError")) = some true) && (decide (kitOne K (.ref (He.ga K (nmK j))) (.type "ValueError") = some true) && (exfB K (He.ga K (nmK j)) &&
  (decide (findIn K (.ref (He.ga K (nmK j))) "at" = some none) && (decide (findIn K (.ref (He.ga K (nmK j))) "code" = some none) && decide (findIn K (.ref (He.ga K (nmK j))) "reason" = some none))))))
theorem clsF_of {K : Frag} (h : clsB K = true) : ClsF ⟨K, He.ga K⟩ := by
  unfold clsB at h
  simp only [List.all_eq_true, List.mem_range, Bool.and_eq_true, decide_eq_true_eq] at h
  exact ⟨fun i j hi hj => (h j hj).1 i hi, fun j hj => (h j hj).2.1, fun j hj => (h j hj).2.2.1, fun j hj => exfB_ok (h j hj).2.2.2.1, fun j hj => (h j hj).2.2.2.2⟩

def fas : List He.Fa := [.glo "_law_number", .glo "_law_same", .glo "_law_pool", .glo "_law_take", .glo "_law_great", .glo "_law_integer", .glo "_law_text", .glo "_law_drawn", .glo "_law_made", .glo "_law_kin", .glo "_law_holds", .glo "law", .glo "OutagainError", .glo "OutOfRange", .glo "BadDepot", .glo "BadBook", .glo "BadLives", .glo "BadPasses", .glo "BadCrews", .glo "BadWish", .glo "BadBounds", .glo "BadNotes", .glo "BadLists", .glo "BadLine", .glo "NoBook", .glo "GoalLost", .glo "NothingLeft", .free "ValueError", .free "abs", .free "bool", .free "int", .free "isinstance", .free "len", .free "list", .free "min", .free "range", .free "str", .free "super", .free "tuple", .noat "OutOfRange" "at", .noat "OutOfRange" "code", .noat "OutOfRange" "reason", .noat "BadDepot" "at", .noat "BadDepot" "code", .noat "BadDepot" "reason", .noat "BadBook" "at", .noat "BadBook" "code", .noat "BadBook" "reason", .noat "BadLives" "at", .noat "BadLives" "code", .noat "BadLives" "reason", .noat "BadPasses" "at", .noat "BadPasses" "code", .noat "BadPasses" "reason", .noat "BadCrews" "at", .noat "BadCrews" "code", .noat "BadCrews" "reason", .noat "BadWish" "at", .noat "BadWish" "code", .noat "BadWish" "reason", .noat "BadBounds" "at", .noat "BadBounds" "code", .noat "BadBounds" "reason", .noat "BadNotes" "at", .noat "BadNotes" "code", .noat "BadNotes" "reason", .noat "BadLists" "at", .noat "BadLists" "code", .noat "BadLists" "reason", .noat "BadLine" "at", .noat "BadLine" "code", .noat "BadLine" "reason", .noat "NoBook" "at", .noat "NoBook" "code", .noat "NoBook" "reason", .noat "GoalLost" "at", .noat "GoalLost" "code", .noat "GoalLost" "reason", .noat "NothingLeft" "at", .noat "NothingLeft" "code", .noat "NothingLeft" "reason", .exc "NothingLeft"]
def hkx : HkX := ⟨PySem.Challenge.pw_outagain_k97_error_classes.main.file, fas, [d_law_number, d_law_same, d_law_pool, d_law_take, d_law_great, d_law_integer, d_law_text, d_law_drawn, d_law_made, d_law_kin, d_law_holds, d_law], [x_OutOfRange, x_BadDepot, x_BadBook, x_BadLives, x_BadPasses, x_BadCrews, x_BadWish, x_BadBounds, x_BadNotes, x_BadLists, x_BadLine, x_NoBook, x_GoalLost], clsB⟩
abbrev hk : Hook := hookX 5 hkx
def ob (s : SharedT) : AlX := obsXG 5 hkx (HandSHeadRun.getT s)
theorem ob_eq (s : SharedT) : ob s = hk.obs s.abs := obsXG_eq (HandSHeadRun.getT_eq s)
theorem run (w : World) : HandSHeadRun.RunEq R (view R.prog [28]) hk ob 40000 names w := by
  intro os
  kernel_rfl
end
end K

namespace K
open PySem PySem.Spec L2 OD
open PyProof.Rows hiding St
theorem exc0_ok {K : PySem.W.Frag} {mg : Str → Option Value} {x : Str} (c : (He.Fa.exc x).ok K = true) (g : mg x = some (.ref (He.ga K x))) : Ex0 ⟨K, He.ga K⟩ mg x := by
  have c2 : (PySem.W.excIn K (He.ga K x) He.veBase "ValueError.__new__" && (PySem.W.keepIn K (.ref (He.ga K x)) && (decide (PySem.W.subIn K (.ref (He.ga K x)) (.type "BaseException") = some true) && decide (PySem.W.typeIn K (.ref (He.ga K x)) = some (.type "type"))))) = true := c
  simp only [Bool.and_eq_true] at c2
  exact ⟨c2.1, c2.2.1, g⟩
theorem facts {w : World} {K : PySem.W.Frag} {h : Heap} {mg : Str → Option Value} {f : Addr} (X : K.In h) (G : h.Ns mainGlobals mg) (hfa : mg ("law" : Str) = some (.ref f)) (c : SaysX hkx K) :
    ∃ fd : FuncData, (∀ (s : Shared) (v : Value), BindsTo s fd ⟨[v], []⟩ [("script", v)]) ∧ ∀ base : Heap, K.In base → base.Ns mainGlobals mg → FnOk PySem.Challenge.pw_outagain_k97_error_classes w K mg base (L2.CX PySem.Challenge.pw_outagain_k97_error_classes w) 5 f fd ["script"] (liftP ⟨K, He.ga K⟩ sp_law) := by
  have hC := clsF_of c.own
  obtain ⟨fd0, F0⟩ := c.def_ 0 (d := d_law_number) rfl
  obtain ⟨fd1, F1⟩ := c.def_ 1 (d := d_law_same) rfl
  obtain ⟨fd2, F2⟩ := c.def_ 2 (d := d_law_pool) rfl
  obtain ⟨fd3, F3⟩ := c.def_ 3 (d := d_law_take) rfl
  obtain ⟨fd4, F4⟩ := c.def_ 4 (d := d_law_great) rfl
  obtain ⟨fd5, F5⟩ := c.def_ 5 (d := d_law_integer) rfl
  obtain ⟨fd6, F6⟩ := c.def_ 6 (d := d_law_text) rfl
  obtain ⟨fd7, F7⟩ := c.def_ 7 (d := d_law_drawn) rfl
  obtain ⟨fd8, F8⟩ := c.def_ 8 (d := d_law_made) rfl
  obtain ⟨fd9, F9⟩ := c.def_ 9 (d := d_law_kin) rfl
  obtain ⟨fd10, F10⟩ := c.def_ 10 (d := d_law_holds) rfl
  obtain ⟨fd11, F11⟩ := c.def_ 11 (d := d_law) rfl
  have g_law_number := (He.glo_ok X G (c.fact 0 (f := .glo "_law_number") rfl))
  have g_law_same := (He.glo_ok X G (c.fact 1 (f := .glo "_law_same") rfl))
  have g_law_pool := (He.glo_ok X G (c.fact 2 (f := .glo "_law_pool") rfl))
  have g_law_take := (He.glo_ok X G (c.fact 3 (f := .glo "_law_take") rfl))
  have g_law_great := (He.glo_ok X G (c.fact 4 (f := .glo "_law_great") rfl))
  have g_law_integer := (He.glo_ok X G (c.fact 5 (f := .glo "_law_integer") rfl))
  have g_law_text := (He.glo_ok X G (c.fact 6 (f := .glo "_law_text") rfl))
  have g_law_drawn := (He.glo_ok X G (c.fact 7 (f := .glo "_law_drawn") rfl))
  have g_law_made := (He.glo_ok X G (c.fact 8 (f := .glo "_law_made") rfl))
  have g_law_kin := (He.glo_ok X G (c.fact 9 (f := .glo "_law_kin") rfl))
  have g_law_holds := (He.glo_ok X G (c.fact 10 (f := .glo "_law_holds") rfl))
  have g_law := (He.glo_ok X G (c.fact 11 (f := .glo "law") rfl))
  have g_OutagainError := (He.glo_ok X G (c.fact 12 (f := .glo "OutagainError") rfl))
  have g_OutOfRange := (He.glo_ok X G (c.fact 13 (f := .glo "OutOfRange") rfl))
  have g_BadDepot := (He.glo_ok X G (c.fact 14 (f := .glo "BadDepot") rfl))
  have g_BadBook := (He.glo_ok X G (c.fact 15 (f := .glo "BadBook") rfl))
  have g_BadLives := (He.glo_ok X G (c.fact 16 (f := .glo "BadLives") rfl))
  have g_BadPasses := (He.glo_ok X G (c.fact 17 (f := .glo "BadPasses") rfl))
  have g_BadCrews := (He.glo_ok X G (c.fact 18 (f := .glo "BadCrews") rfl))
  have g_BadWish := (He.glo_ok X G (c.fact 19 (f := .glo "BadWish") rfl))
  have g_BadBounds := (He.glo_ok X G (c.fact 20 (f := .glo "BadBounds") rfl))
  have g_BadNotes := (He.glo_ok X G (c.fact 21 (f := .glo "BadNotes") rfl))
  have g_BadLists := (He.glo_ok X G (c.fact 22 (f := .glo "BadLists") rfl))
  have g_BadLine := (He.glo_ok X G (c.fact 23 (f := .glo "BadLine") rfl))
  have g_NoBook := (He.glo_ok X G (c.fact 24 (f := .glo "NoBook") rfl))
  have g_GoalLost := (He.glo_ok X G (c.fact 25 (f := .glo "GoalLost") rfl))
  have g_NothingLeft := (He.glo_ok X G (c.fact 26 (f := .glo "NothingLeft") rfl))
  have m_ValueError := (He.free_ok X G (c.fact 27 (f := .free "ValueError") rfl))
  have m_abs := (He.free_ok X G (c.fact 28 (f := .free "abs") rfl))
  have m_bool := (He.free_ok X G (c.fact 29 (f := .free "bool") rfl))
  have m_int := (He.free_ok X G (c.fact 30 (f := .free "int") rfl))
  have m_isinstance := (He.free_ok X G (c.fact 31 (f := .free "isinstance") rfl))
  have m_len := (He.free_ok X G (c.fact 32 (f := .free "len") rfl))
  have m_list := (He.free_ok X G (c.fact 33 (f := .free "list") rfl))
  have m_min := (He.free_ok X G (c.fact 34 (f := .free "min") rfl))
  have m_range := (He.free_ok X G (c.fact 35 (f := .free "range") rfl))
  have m_str := (He.free_ok X G (c.fact 36 (f := .free "str") rfl))
  have m_super := (He.free_ok X G (c.fact 37 (f := .free "super") rfl))
  have m_tuple := (He.free_ok X G (c.fact 38 (f := .free "tuple") rfl))
  have e := hfa.symm.trans g_law
  cases e
  have b := FunD.bindsA (ps := ["script"]) F11 fun _ _ _ _ _ _ us hl => match us, hl with | [_], _ => rfl
  refine ⟨fd11, fun s v => b s [v] rfl, fun base _ _ => ?_⟩
  have X_OutOfRange := (c.sup 0 (d := x_OutOfRange) rfl).exd2 (P := PySem.Challenge.pw_outagain_k97_error_classes) (w := w) (mg := mg) (base := base) (C := ⟨K, He.ga K⟩) rfl g_OutOfRange rfl (supScope_by rfl rfl rfl (by decide +kernel) rfl (by decide +kernel) (by decide +kernel) (by decide +kernel) (by decide +kernel) (by decide +kernel)) rfl rfl rfl m_super (by decide +kernel) (He.noat_ok (c.fact 39 (f := .noat "OutOfRange" "at") rfl)) (He.noat_ok (c.fact 40 (f := .noat "OutOfRange" "code") rfl)) ⟨_, fun _ => rfl⟩ (fun _ _ _ _ _ _ _ us hl => match us, hl with | [_, _, _], _ => rfl)
  have X_BadDepot := (c.sup 1 (d := x_BadDepot) rfl).exd2 (P := PySem.Challenge.pw_outagain_k97_error_classes) (w := w) (mg := mg) (base := base) (C := ⟨K, He.ga K⟩) rfl g_BadDepot rfl (supScope_by rfl rfl rfl (by decide +kernel) rfl (by decide +kernel) (by decide +kernel) (by decide +kernel) (by decide +kernel) (by decide +kernel)) rfl rfl rfl m_super (by decide +kernel) (He.noat_ok (c.fact 42 (f := .noat "BadDepot" "at") rfl)) (He.noat_ok (c.fact 43 (f := .noat "BadDepot" "code") rfl)) ⟨_, fun _ => rfl⟩ (fun _ _ _ _ _ _ _ us hl => match us, hl with | [_, _, _], _ => rfl)
  have X_BadBook := (c.sup 2 (d := x_BadBook) rfl).exd2 (P := PySem.Challenge.pw_outagain_k97_error_classes) (w := w) (mg := mg) (base := base) (C := ⟨K, He.ga K⟩) rfl g_BadBook rfl (supScope_by rfl rfl rfl (by decide +kernel) rfl (by decide +kernel) (by decide +kernel) (by decide +kernel) (by decide +kernel) (by decide +kernel)) rfl rfl rfl m_super (by decide +kernel) (He.noat_ok (c.fact 45 (f := .noat "BadBook" "at") rfl)) (He.noat_ok (c.fact 46 (f := .noat "BadBook" "code") rfl)) ⟨_, fun _ => rfl⟩ (fun _ _ _ _ _ _ _ us hl => match us, hl with | [_, _, _], _ => rfl)
  have X_BadLives := (c.sup 3 (d := x_BadLives) rfl).exd2 (P := PySem.Challenge.pw_outagain_k97_error_classes) (w := w) (mg := mg) (base := base) (C := ⟨K, He.ga K⟩) rfl g_BadLives rfl (supScope_by rfl rfl rfl (by decide +kernel) rfl (by decide +kernel) (by decide +kernel) (by decide +kernel) (by decide +kernel) (by decide +kernel)) rfl rfl rfl m_super (by decide +kernel) (He.noat_ok (c.fact 48 (f := .noat "BadLives" "at") rfl)) (He.noat_ok (c.fact 49 (f := .noat "BadLives" "code") rfl)) ⟨_, fun _ => rfl⟩ (fun _ _ _ _ _ _ _ us hl => match us, hl with | [_, _, _], _ => rfl)
  have X_BadPasses := (c.sup 4 (d := x_BadPasses) rfl).exd2 (P := PySem.Challenge.pw_outagain_k97_error_classes) (w := w) (mg := mg) (base := base) (C := ⟨K, He.ga K⟩) rfl g_BadPasses rfl (supScope_by rfl rfl rfl (by decide +kernel) rfl (by decide +kernel) (by decide +kernel) (by decide +kernel) (by decide +kernel) (by decide +kernel)) rfl rfl rfl m_super (by decide +kernel) (He.noat_ok (c.fact 51 (f := .noat "BadPasses" "at") rfl)) (He.noat_ok (c.fact 52 (f := .noat "BadPasses" "code") rfl)) ⟨_, fun _ => rfl⟩ (fun _ _ _ _ _ _ _ us hl => match us, hl with | [_, _, _], _ => rfl)
  have X_BadCrews := (c.sup 5 (d := x_BadCrews) rfl).exd2 (P := PySem.Challenge.pw_outagain_k97_error_classes) (w := w) (mg := mg) (base := base) (C := ⟨K, He.ga K⟩) rfl g_BadCrews rfl (supScope_by rfl rfl rfl (by decide +kernel) rfl (by decide +kernel) (by decide +kernel) (by decide +kernel) (by decide +kernel) (by decide +kernel)) rfl rfl rfl m_super (by decide +kernel) (He.noat_ok (c.fact 54 (f := .noat "BadCrews" "at") rfl)) (He.noat_ok (c.fact 55 (f := .noat "BadCrews" "code") rfl)) ⟨_, fun _ => rfl⟩ (fun _ _ _ _ _ _ _ us hl => match us, hl with | [_, _, _], _ => rfl)
  have X_BadWish := (c.sup 6 (d := x_BadWish) rfl).exd2 (P := PySem.Challenge.pw_outagain_k97_error_classes) (w := w) (mg := mg) (base := base) (C := ⟨K, He.ga K⟩) rfl g_BadWish rfl (supScope_by rfl rfl rfl (by decide +kernel) rfl (by decide +kernel) (by decide +kernel) (by decide +kernel) (by decide +kernel) (by decide +kernel)) rfl rfl rfl m_super (by decide +kernel) (He.noat_ok (c.fact 57 (f := .noat "BadWish" "at") rfl)) (He.noat_ok (c.fact 58 (f := .noat "BadWish" "code") rfl)) ⟨_, fun _ => rfl⟩ (fun _ _ _ _ _ _ _ us hl => match us, hl with | [_, _, _], _ => rfl)
  have X_BadBounds := (c.sup 7 (d := x_BadBounds) rfl).exd2 (P := PySem.Challenge.pw_outagain_k97_error_classes) (w := w) (mg := mg) (base := base) (C := ⟨K, He.ga K⟩) rfl g_BadBounds rfl (supScope_by rfl rfl rfl (by decide +kernel) rfl (by decide +kernel) (by decide +kernel) (by decide +kernel) (by decide +kernel) (by decide +kernel)) rfl rfl rfl m_super (by decide +kernel) (He.noat_ok (c.fact 60 (f := .noat "BadBounds" "at") rfl)) (He.noat_ok (c.fact 61 (f := .noat "BadBounds" "code") rfl)) ⟨_, fun _ => rfl⟩ (fun _ _ _ _ _ _ _ us hl => match us, hl with | [_, _, _], _ => rfl)
  have X_BadNotes := (c.sup 8 (d := x_BadNotes) rfl).exd2 (P := PySem.Challenge.pw_outagain_k97_error_classes) (w := w) (mg := mg) (base := base) (C := ⟨K, He.ga K⟩) rfl g_BadNotes rfl (supScope_by rfl rfl rfl (by decide +kernel) rfl (by decide +kernel) (by decide +kernel) (by decide +kernel) (by decide +kernel) (by decide +kernel)) rfl rfl rfl m_super (by decide +kernel) (He.noat_ok (c.fact 63 (f := .noat "BadNotes" "at") rfl)) (He.noat_ok (c.fact 64 (f := .noat "BadNotes" "code") rfl)) ⟨_, fun _ => rfl⟩ (fun _ _ _ _ _ _ _ us hl => match us, hl with | [_, _, _], _ => rfl)
  have X_BadLists := (c.sup 9 (d := x_BadLists) rfl).exd2 (P := PySem.Challenge.pw_outagain_k97_error_classes) (w := w) (mg := mg) (base := base) (C := ⟨K, He.ga K⟩) rfl g_BadLists rfl (supScope_by rfl rfl rfl (by decide +kernel) rfl (by decide +kernel) (by decide +kernel) (by decide +kernel) (by decide +kernel) (by decide +kernel)) rfl rfl rfl m_super (by decide +kernel) (He.noat_ok (c.fact 66 (f := .noat "BadLists" "at") rfl)) (He.noat_ok (c.fact 67 (f := .noat "BadLists" "code") rfl)) ⟨_, fun _ => rfl⟩ (fun _ _ _ _ _ _ _ us hl => match us, hl with | [_, _, _], _ => rfl)
  have X_BadLine := (c.sup 10 (d := x_BadLine) rfl).exd2 (P := PySem.Challenge.pw_outagain_k97_error_classes) (w := w) (mg := mg) (base := base) (C := ⟨K, He.ga K⟩) rfl g_BadLine rfl (supScope_by rfl rfl rfl (by decide +kernel) rfl (by decide +kernel) (by decide +kernel) (by decide +kernel) (by decide +kernel) (by decide +kernel)) rfl rfl rfl m_super (by decide +kernel) (He.noat_ok (c.fact 69 (f := .noat "BadLine" "at") rfl)) (He.noat_ok (c.fact 70 (f := .noat "BadLine" "code") rfl)) ⟨_, fun _ => rfl⟩ (fun _ _ _ _ _ _ _ us hl => match us, hl with | [_, _, _], _ => rfl)
  have X_NoBook := (c.sup 11 (d := x_NoBook) rfl).exd1 (P := PySem.Challenge.pw_outagain_k97_error_classes) (w := w) (mg := mg) (base := base) (C := ⟨K, He.ga K⟩) rfl g_NoBook rfl (supScope_by rfl rfl rfl (by decide +kernel) rfl (by decide +kernel) (by decide +kernel) (by decide +kernel) (by decide +kernel) (by decide +kernel)) rfl rfl rfl m_super (by decide +kernel) (He.noat_ok (c.fact 74 (f := .noat "NoBook" "reason") rfl)) ⟨_, fun _ => rfl⟩ (fun _ _ _ _ _ _ _ us hl => match us, hl with | [_, _], _ => rfl)
  have X_GoalLost := (c.sup 12 (d := x_GoalLost) rfl).exd1 (P := PySem.Challenge.pw_outagain_k97_error_classes) (w := w) (mg := mg) (base := base) (C := ⟨K, He.ga K⟩) rfl g_GoalLost rfl (supScope_by rfl rfl rfl (by decide +kernel) rfl (by decide +kernel) (by decide +kernel) (by decide +kernel) (by decide +kernel) (by decide +kernel)) rfl rfl rfl m_super (by decide +kernel) (He.noat_ok (c.fact 77 (f := .noat "GoalLost" "reason") rfl)) ⟨_, fun _ => rfl⟩ (fun _ _ _ _ _ _ _ us hl => match us, hl with | [_, _], _ => rfl)
  have X_NothingLeft : Ex0 ⟨K, He.ga K⟩ mg "NothingLeft" := exc0_ok (c.fact 81 (f := .exc "NothingLeft") rfl) g_NothingLeft
  have F_law_same0 := ok_same0 (P := PySem.Challenge.pw_outagain_k97_error_classes) (w := w) (C := ⟨K, He.ga K⟩) (mg := mg) (base := base) F1 g_law_same (ps := ["got", "due"]) (F1.bindsN fun _ _ _ _ _ _ us hl => match us, hl with | [_, _], _ => rfl)
  have F_law_number := ok_law_number (P := PySem.Challenge.pw_outagain_k97_error_classes) (w := w) (C := ⟨K, He.ga K⟩) (mg := mg) (base := base) F0 g_law_number m_bool m_int m_isinstance
  have F_law_pool := ok_law_pool (P := PySem.Challenge.pw_outagain_k97_error_classes) (w := w) (C := ⟨K, He.ga K⟩) (mg := mg) (base := base) F2 g_law_pool m_list
  have F_law_take := ok_law_take (P := PySem.Challenge.pw_outagain_k97_error_classes) (w := w) (C := ⟨K, He.ga K⟩) (mg := mg) (base := base) F3 g_law_take m_abs m_int m_len
  have F_law_great := ok_law_great (P := PySem.Challenge.pw_outagain_k97_error_classes) (w := w) (C := ⟨K, He.ga K⟩) (mg := mg) (base := base) F4 g_law_great m_int m_min m_range F_law_take
  have F_law_integer := ok_law_integer (P := PySem.Challenge.pw_outagain_k97_error_classes) (w := w) (C := ⟨K, He.ga K⟩) (mg := mg) (base := base) F5 g_law_integer F_law_great F_law_take
  have F_law_text := ok_law_text (P := PySem.Challenge.pw_outagain_k97_error_classes) (w := w) (C := ⟨K, He.ga K⟩) (mg := mg) (base := base) F6 g_law_text m_len m_range F_law_take
  have F_law_drawn := ok_law_drawn (P := PySem.Challenge.pw_outagain_k97_error_classes) (w := w) (C := ⟨K, He.ga K⟩) (mg := mg) (base := base) F7 g_law_drawn m_range m_tuple F_law_integer F_law_take F_law_text
  have F_law_made := ok_law_made (P := PySem.Challenge.pw_outagain_k97_error_classes) (w := w) (C := ⟨K, He.ga K⟩) (mg := mg) (base := base) F8 g_law_made X_BadBook X_BadBounds X_BadCrews X_BadDepot X_BadLine X_BadLists X_BadLives X_BadNotes X_BadPasses X_BadWish X_GoalLost X_NoBook X_NothingLeft X_OutOfRange
  have F_law_kin := ok_law_kin (P := PySem.Challenge.pw_outagain_k97_error_classes) (w := w) (C := ⟨K, He.ga K⟩) (mg := mg) (base := base) F9 hC g_law_kin m_isinstance g_BadBook g_BadBounds g_BadCrews g_BadDepot g_BadLine g_BadLists g_BadLives g_BadNotes g_BadPasses g_BadWish g_GoalLost g_NoBook g_NothingLeft g_OutOfRange
  have F_law_same1 := ok_law_same1 (P := PySem.Challenge.pw_outagain_k97_error_classes) (w := w) (C := ⟨K, He.ga K⟩) (mg := mg) (base := base) F1 g_law_same m_bool m_int m_isinstance m_len m_list m_range m_str m_tuple F_law_number F_law_same0
  have F_law_same := ok_law_same2 (P := PySem.Challenge.pw_outagain_k97_error_classes) (w := w) (C := ⟨K, He.ga K⟩) (mg := mg) (base := base) F1 g_law_same m_bool m_int m_isinstance m_len m_list m_range m_str m_tuple F_law_number F_law_same1
  have F_law_holds := ok_law_holds (P := PySem.Challenge.pw_outagain_k97_error_classes) (w := w) (C := ⟨K, He.ga K⟩) (mg := mg) (base := base) F10 hC g_law_holds m_ValueError m_isinstance m_range F_law_kin F_law_same g_OutagainError
  exact ok_law (P := PySem.Challenge.pw_outagain_k97_error_classes) (w := w) (C := ⟨K, He.ga K⟩) (mg := mg) (base := base) F11 m_range F_law_drawn F_law_holds F_law_made F_law_pool
end K

open PySem PySem.W PySem.Calls PyProof.Rows
def K.CXe : L2.CXT := fun o H s E e s' => ∃ w, L2.CX PySem.Challenge.pw_outagain_k97_error_classes w o H s E e s'
theorem K.only_call (H : L2.Hp) (s : Shared) (e : Value) (s' : Shared) (h : K.CXe [] H s (fun _ _ _ => False) e s') : False := by
  obtain ⟨_, _, _, _, _, _, _, _, _, _, _, _, _, z⟩ := h
  exact z
theorem K.weak {P : Program} {w : World} {K : PySem.W.Frag} {mg : PySem.Str → Option Value} {base : Heap} {CX CX' : L2.CXT} {k : Nat} {f : Addr} {fd : FuncData} {ps : List PySem.Str} {sp : L2.Sp} (F : L2.FnOk P w K mg base CX k f fd ps sp) (h : ∀ o H s E e s', CX o H s E e s' → CX' o H s E e s') : L2.FnOk P w K mg base CX' k f fd ps sp :=
  ⟨F.len, fun A outer s H args us vs Q E hr he hb hv hs => codeAny_mono (F.run A outer s H args us vs Q E hr he hb hv hs) fun r s' z => match r, z with
    | .ok (.ret _), z => z
    | .ok .next, z => z
    | .ok .brk, z => z
    | .ok .cont, z => z
    | .error _, z => h _ _ _ _ _ _ z⟩
theorem K.law_entry {K : PySem.W.Frag} (H : L2.Hp) (a : Addr) (ns : List Int) (hS : L2.SqL K H a (ns.map L2.V.int)) : OD.liftP ⟨K, He.ga K⟩ sp_law [.ref a] H (fun v _ => v = .bl true) fun _ _ _ => False := by
  refine ⟨H, [], [.scr ns], [], fun d _ => d = .bl true, fun _ _ _ => False, ?_, ⟨fun _ _ h => h, rfl, List.nodup_nil, fun _ h => absurd h (by simp), fun k c a e _ => absurd e (by simp)⟩, rfl, fun F' μ' H' v d S' _ _ r hd => ?_, fun _ _ _ _ _ _ _ _ _ _ _ z => z.elim⟩
  · exact OD.Reps.cons (OD.Rep.scr_iff.mpr ⟨a, rfl, hS⟩) OD.Reps.nil
  · subst hd; exact OD.Rep.bl_iff.mp r
set_option maxRecDepth 100000 in
set_option maxHeartbeats 0 in
theorem PySem.Challenge.cw_outagain_k97_error_classes_holds : PySem.Challenge.rw_outagain_k97_error_classes.Holds := by
  w_on; o_law
  refine HandSHeadRun.head_any (r := OpenLaw.row PySem.Challenge.rw_outagain_k97_error_classes) (q := view (OpenLaw.row PySem.Challenge.rw_outagain_k97_error_classes).prog [28]) (H := K.hk) (ob := K.ob) (M := 40000) (loose := K.names) (d := HandSHeadRun.topDef (OpenLaw.row PySem.Challenge.rw_outagain_k97_error_classes).prog 28) (kwd := []) K.ob_eq
    (by kernel_rfl) (fun s => by kernel_rfl) K.run (by kernel_rfl) (by kernel_rfl) (by kernel_rfl) (by rfl) (by first | assumption | decide +kernel) (by decide +kernel) ⟨rfl, rfl, rfl, rfl, rfl, by decide +kernel⟩ ?hw ?hc
  case hw => w_witness2
  case hc =>
    refine L2.walk_ofE (l := PySem.Challenge.rw_outagain_k97_error_classes) (n := 63) (k := 5) (x := "script") (CX := K.CXe) rfl (by decide) (by kernel_rfl) ⟨rfl, by decide, by decide⟩ ?F K.only_call
    intro w mg fa h Y G hmg0
    obtain ⟨K1, KX, c⟩ := Y
    have hmg : mg ("law" : PySem.Str) = some (.ref fa) := by
      have e : (HandSHeadRun.topDef (OpenLaw.row PySem.Challenge.rw_outagain_k97_error_classes).prog 28).name = ("law" : PySem.Str) := by kernel_rfl
      rw [← e]
      exact hmg0
    obtain ⟨fd, hb, hF⟩ := K.facts (w := w) KX G hmg c
    exact ⟨K1, fd, OD.liftP ⟨K1, He.ga K1⟩ K.sp_law, KX, hb, fun H a ns hl _ hS => K.law_entry H a ns hS, fun base hK hG => K.weak (hF base hK hG) fun o H s E e s' z => ⟨w, z⟩⟩

