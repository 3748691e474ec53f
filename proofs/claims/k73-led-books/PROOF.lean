import PyProof.Rows.All
import Wide.All
import OpenK.AllK
import Wide.FinOn
import HandS.ForMost
import HandS.ForExc
import HandS.Walk
import HandS.IsInst
import HandS.TryMany
import HandS.SuiteRaise
import HandS.RaiseFrom
import HandS.ExcInit
import HandS.ExcField
import HandS.Property
import HandS.ClsMeth
import HandS.Wide
import HandS.Zip
import HandS.Rev
import HandS.Deep
import HandS.TupAny
import HandS.TupMul
import HandS.GenCall
import HandS.GenList
import HandS.SortInts
import HandS.Defaults
import HandS.ExcIs
import HandS.ExcValue
import KE.KExcSuper
import KE.KExcIs
import HandS.HeadHook2
import KE.KSuper
import HandS.Text
import HandS.WordsExc
import KE.GoesEnum
import PyProof.EnumMake
import HandS.Iter
import KE.GoesZip
import HandS.Conv
import HandS.HeadNt
import HandS.GenBody
import HandS.GenYield
import PyProof.GenComp
import KE.KStateDown
import Lean
import HandS.Head0
import HandS.Head1
import HandS.Head2
import HandS.HeadEnd
import HandS.HeadHook1
import PySem.Challenge.RW_outagain_k73_led_books
set_option Elab.async false
set_option linter.all false
set_option maxRecDepth 100000
set_option maxHeartbeats 8000000
/-! OE1: an own exception's __init__ that says super().__init__(..) ahead of its fields. -/
namespace OD
open PySem PySem.Spec L2
open PyProof.Rows hiding St

/-- super().__init__ called: the bound wrapper -/
theorem call_mw {prog : Program} {w : World} {A : Around} {E : Value → Shared → Prop} {h : Heap} {g : Array GenState} {d : Drawn} {t : Nat} {os : OsState} {B i newId : String} {bmB : List Value} (FB : ExcBaseFacts B newId i bmB)
    {nm q : Str} {C N : Addr} {bs bm : List Value} {hdct : Bool} {sn : List Str} {sub : List Value} {ab : Bool} {col : Option Bool} {dd : Option Addr} {k0 k1 k2 k3 k5 : Option Value}
    {u e t0 : Addr} {rest : List Value} {Q : Value → Shared → Prop}
    (hC : h.get? C = some (excClassObj nm q C N bs bm hdct sn sub ab col dd k0 k1 k2 k3 k5 newId)) (he : h.get? e = some (HandSPX.excO C t0)) (hu : h.get? u = some (PySem.W.kxs_mw i e)) (hrest : rest.length ≤ sizeLine)
    (hq : ∀ h' t1, (∀ b o, b ≠ e → h.get? b = some o → h'.get? b = some o) → h'.get? e = some (HandSPX.excO C t1) → Q .none ⟨h', g, d, t, os⟩) :
    wpAny (model prog w) A (call (.ref u) rest) Q E ⟨h, g, d, t, os⟩ := by
  refine wpAny_call (codeAny_of_tree ?_)
  show wpAny _ A.in1 (callAny (.ref u) ⟨rest, []⟩) _ _ _
  simp only [callAny]
  refine wpAny_bind (wpAny_load hu ?_)
  simp only [PySem.W.kxs_mw, show (Value.type "method-wrapper" == Value.type "method" || Value.type "method-wrapper" == Value.type "builtin_function_or_method" || Value.type "method-wrapper" == Value.type "method-wrapper") = true by decide, if_true]
  refine W.KFB.if_so (by decide) ?_
  refine wpAny_bind (PySem.W.check_bound_init FB.toExcCallFacts hC he rfl ?_)
  refine wpAny_bind (wpAny_pure (wpAny_pure ?_))
  refine ⟨PySem.plainId_quiet FB.init.plain _, codeAny_builtin FB.initEntry ?_⟩
  exact PySem.W.exc_init_tree (cls := .ref C) (t0 := t0) (dv := none) (c2 := .none) (c3 := .none) (b4 := .bool false) he hrest fun h' k e' _ => hq h' _ k e'

section
variable {X : Cx} {pins : List (Addr × Obj)} {σ : L2.St} {H : Hp} {s : Shared} {Q : VK} {body : List Stmt} {e : Expr} {es : List Expr} {ta : TA} {p0 p1 apos pos : Pos} {f cc cda C D a : Addr} {fd : FuncData} {ar : Arg} {vs : Array Value} {file : Str} {tf : Tok} {oc ccl cl : Value} {od cdd cld : Option Addr} {osl ccs csl : Array (Option Value)} {cdD : ClassData}
theorem wp_super (I : Inv X pins σ H s) (T : OexC X.K C) (hks : X.env.kindOf "super" = some .globalImplicit) (hkc : X.env.kindOf "__class__" = some .free) (hfu : X.env.func = some f) (hco : X.env.code = .ref cda) (hce : X.env.cells.lookup ("__class__" : Str) = some cc)
    (hf : X.K.lookup f = some ⟨oc, od, .func fd, osl⟩) (hp : (fd.params.posonlyargs ++ fd.params.args).head? = some ar)
    (hcode : X.K.lookup cda = some ⟨ccl, cdd, .fields vs, ccs⟩) (hvs : vs[2]? = some (.str file tf)) (hfile : ((X.prog.main.file : Str) == file) = true)
    (hcell : X.K.lookup cc = some ⟨cl, cld, .cell (some (.ref D)), csl⟩) (hD : PySem.W.clsIn X.K D = some cdD) (hsub : PySem.W.mroIn X.K C (.ref D) = some true) (hsuper : X.mg "super" = none)
    (hka : X.env.kindOf ar.arg = some .local) (hN : X.N[0]? = some ar.arg) (hσ : σ[0]? = some (some (.ref a))) (htop : (X.prog.main.scope.names.lookup ("super" : Str)).isSome = false)
    (ho : PySem.W.nsIn X.K PySem.cStatics "thirdparty.any" = some none) (hm : PySem.W.ks_superIn X.K C D "__init__" = some (some (.builtin "ValueError.__init__"))) (hB : PySem.W.subIn X.K (.ref C) (.type "ValueError") = some true)
    (ea : H a = some (exo a C none)) (ha : PA X (e :: es) ta) (h : ta σ H fun ws H1 => ws.length ≤ 1000 ∧ H1 a = some (exo a C none) ∧ Q .non H1)
    (he : starEach (e :: es) X.env = (false, eval e X.env) :: starEach es X.env) (hpl : (backTo pos (starEach es X.env)).any (·.1) = false) {pl : Sem Bool}
    (hev : eval (.Call (.Attribute (.Call (.Name "super" p0) [] [] p1) "__init__" apos) (e :: es) [] pos) X.env = (do
      let ov ← attributeBase (.Call (.Name "super" p0) [] [] p1) "__init__" X.env (eval (.Call (.Name "super" p0) [] [] p1) X.env)
      standAt apos.atName
      let (f, first) ← holding [ov] (getMethod ov "__init__" pl)
      callWith pos f first (backTo pos (starEach (e :: es) X.env)) [])) :
    PySem.wpAt (model X.prog X.w) X.A (.func body X.env) (eval (.Call (.Attribute (.Call (.Name "super" p0) [] [] p1) "__init__" apos) (e :: es) [] pos) X.env) (EP X pins σ Q) X.xe s := by
  have hka' : Vis X.env.scope ar.arg := .inl hka
  obtain ⟨nm, q, N, bs, bm, sn, sub, ab, col, dd, k0, k1, k2, k3, k5, hC, hbm⟩ := T.cls
  have XK := I.kIn
  obtain ⟨t1, hoe⟩ := exo_at I.hok ea
  obtain ⟨hh, g, d, t, os⟩ := s
  obtain ⟨m, hn, hl⟩ := I.loc
  obtain ⟨u0, ru, lk⟩ := hl 0 ar.arg (.ref a) hN hσ hka'
  obtain rfl : u0 = Value.ref a := ru
  have hmv : m ar.arg = some (.ref a) := by
    rcases lk with ⟨_, z⟩ | ⟨z, _⟩
    · exact z
    · rcases z with z | z <;> (rw [hka] at z; cases z)
  have J : PySem.W.InstAt hh a { cls := .ref C, dict := none, data := .fields #[.ref t1, .none, .none, .none, .bool false, .none] } C none := ⟨hoe, rfl, rfl, trivial⟩
  obtain ⟨oD, hD1, hD2⟩ : ∃ oD, hh.get? D = some oD ∧ oD.data = .cls cdD := by
    unfold PySem.W.clsIn at hD
    split at hD
    · rename_i c d cd' sl ho
      cases hD
      exact ⟨_, XK _ _ ho, rfl⟩
    · cases hD
  obtain ⟨mb, hb1, hb2⟩ := I.mod.blt
  have hboot : bootBuiltins ("super" : Str) = some (.type "super") := PyProof.Rows.Boot.super
  refine PySem.ks_wpAt_MethodCall (pl := pl) ?_ hev
  refine PySem.ks_wpAt_super_base hks hkc rfl hfu (XK _ _ hf) rfl hp hco (XK _ _ hcode) rfl hvs hfile htop ?_
  refine PySem.W.ks_loadName_global I.ok.kind hks (Calls.loadGlobal_builtin (by rw [I.ok.glob]; exact I.mod.glob.keeps I.bk) hsuper (by rw [I.ok.blt]; exact hb1.keeps I.bk) ((hb2 ("super" : Str) (by decide)).trans hboot) ⟨rfl, ?_⟩)
  refine wpAny_loadName_free I.ok.kind hkc hce ⟨_, XK _ _ hcell, rfl⟩ ?_
  refine wpAny_loadName_local I.ok.kind hka hn hmv ?_
  refine PySem.ks_wpAny_isType_cls hD1 hD2 ⟨rfl, ?_⟩
  refine PySem.ks_wpAny_call_super hD1 hD2 J.at_ J.cls (fun c e => by cases e) (PySem.W.looks_mroIn XK hsub) (fun h' e k => ?_)
  have I1 : Inv X pins σ H ⟨h', g, d, t, os⟩ := I.kept (t' := t) k
  have J1 : PySem.W.InstAt h' a { cls := .ref C, dict := none, data := .fields #[.ref t1, .none, .none, .none, .bool false, .none] } C none := ⟨k _ _ hoe, rfl, rfl, trivial⟩
  have XK1 := I1.kIn
  have hcl : PySem.W.clsIn X.K C = some { name := nm, bases := bs, mro := .ref C :: bm, ns := N, qualname := q, hasDict := true, slotNames := sn, subclasses := sub, abstract := ab, collection := col, hasDel := false } := by unfold PySem.W.clsIn; rw [hC] <;> rfl
  have hm' := hm
  unfold PySem.W.ks_superIn at hm'
  rw [hcl] at hm'
  have hI : PySem.W.Looks (model X.prog X.w) h' (isInstance (.ref a) (.type "ValueError")) true := J1.type.andThen (PySem.W.looks_subIn XK1 hB)
  refine PySem.W.kxs_getMethod PySem.W.kxs_ValueError e (PySem.W.looks_opaque XK1 ho) (l₀ := .ref C :: bm) ?_ rfl XK1 hm' hI (PySem.W.ks_ne XK1 J1 hcl) rfl ?_
  · exact fun A Q E s k q => wpAny_bind ((PySem.W.looks_clsIn XK1 hcl) A _ E s k (wpAny_pure q))
  have k2 : ∀ b o, h'.get? b = some o → (h'.push (PySem.W.kxs_mw "ValueError.__init__" a)).get? b = some o := fun b o z => Heap.get?_push_of_some _ z
  have I2 : Inv X pins σ H ⟨h'.push (PySem.W.kxs_mw "ValueError.__init__" a), g, d, t + 1, os⟩ := I1.kept (t' := t + 1) k2
  have I3 : Inv X ((h'.objs.size, PySem.W.kxs_mw "ValueError.__init__" a) :: pins) σ H ⟨h'.push (PySem.W.kxs_mw "ValueError.__init__" a), g, d, t + 1, os⟩ := I2.pins_of fun p hp => by
    rcases List.mem_cons.mp hp with rfl | hp
    · refine ⟨Heap.get?_push_at rfl rfl, I1.hok.fresh (Nat.le_refl _), fun z => ?_, I1.nofs (Nat.le_refl _), fun v z => by cases z⟩
      have := I1.lt
      exact absurd (show X.env.locals = h'.objs.size from z.symm) (Nat.ne_of_lt this)
    · exact I2.pin p (List.mem_append_right _ hp)
  rw [he]
  refine PySem.W.kxs_callWith (i := "ValueError.__init__") (x := a) (by show (false || (backTo pos (starEach es X.env)).any (·.1)) = false; rw [hpl]; rfl) ?_
  refine PySem.Calls.evalArgs_plain ?_
  have hr := ha.run pos _ _ σ H _ I3 h
  rw [he] at hr
  refine wpAny_mono hr (fun us s1 hq => ?_) fun _ _ z => z
  obtain ⟨ws, H1, I4, r1, hlen, ea1, q1⟩ := hq
  have hu := (I4.pin (h'.objs.size, PySem.W.kxs_mw "ValueError.__init__" a) (List.mem_append_right _ List.mem_cons_self)).1
  refine ⟨hu, ?_⟩
  have I5 : Inv X pins σ H1 s1 := I4.pins_of fun p hp => I4.pin p (List.mem_append_right _ (List.mem_cons_of_mem _ hp))
  obtain ⟨t2, hoe2⟩ := exo_at I5.hok ea1
  have hus : us.length ≤ sizeLine := by
    rw [← Paired.length r1, sizeLine_eq]
    omega
  obtain ⟨hp, g2, d2, tk2, os2⟩ := s1
  refine call_mw F.excBase_ValueError (I5.kIn _ _ hC) hoe2 hu hus fun h3 t3 k3 hx => ?_
  have J3 := I5.write (t' := tk2) (x := a) (e := a) (o := exo a C none) (by rw [ea1]; exact True.intro) (.inl rfl) k3 ⟨_, hx⟩ (exo_ok hx)
  have eu : upd H1 a (exo a C none) = H1 := by
    funext b
    by_cases hb : b = a
    · rw [hb, upd_same, ea1]
    · rw [upd_ne hb]
  rw [eu] at J3
  exact ⟨.non, H1, J3, rfl, q1⟩
end
end OD

/-! OE2: such an __init__ keeps its promise. -/
namespace OD
open PySem PySem.Spec L2
open PyProof.Rows hiding St

def cxS (CX : CXT) (P : Program) (w : World) (K : PySem.W.Frag) (mg : Str → Option Value) (base : Heap) (N : List Str) (qual : Str) (scope : Scope) (f cda cc : Addr) (A : Around) (outer : List Env) (s : Shared) (H : Hp) (E : XK) : Cx where
  prog := P
  w := w
  K := K
  mg := mg
  base := base
  A := A.deeper (PySem.W.ksEnv qual scope s.heap.objs.size f (.ref cda) cc)
  N := N
  s_0 := s
  H_0 := H
  env := PySem.W.ksEnv qual scope s.heap.objs.size f (.ref cda) cc
  outer := outer
  stack := PySem.W.ksEnv qual scope s.heap.objs.size f (.ref cda) cc :: outer
  ex := []
  calm := true
  fn := fun _ => false
  pn := []
  xe := fun e s' => wpAny (model P w) (A.deeper (PySem.W.ksEnv qual scope s.heap.objs.size f (.ref cda) cc)) (leaving (PySem.W.ksEnv qual scope s.heap.objs.size f (.ref cda) cc) e) (fun _ s'' => CX outer H s E e s'') (fun e' s'' => CX outer H s E e' s'') s'

structure SupScope (N ps : List Str) (sc : Scope) : Prop where
  kind : sc.kind = .function
  co : sc.isCoroutine = false
  gen : sc.isGenerator = false
  nd : N.Nodup
  pre : N.take ps.length = ps
  par : ∀ x ∈ ps, sc.names.lookup x = some .local
  free : ∀ x, sc.names.lookup x = some .free → x = ("__class__" : Str)
  nocell : ∀ x ∈ sc.names, x.2 ≠ .cell
  sup : sc.names.lookup ("super" : Str) = some .globalImplicit
  cls : sc.names.lookup ("__class__" : Str) = some .free

theorem lookup_nd {x : Str} {v : Value} : ∀ {l : List (Str × Value)}, (l.map (·.1)).Nodup → (x, v) ∈ l → l.lookup x = some v
  | [], _, h => by cases h
  | (y, u) :: l, nd, h => by
    rcases List.mem_cons.mp h with h | h
    · cases h; simp [List.lookup]
    · have hy : x ≠ y := fun q => (List.nodup_cons.mp nd).1 (List.mem_map.mpr ⟨(x, v), h, q⟩)
      have e : (x == y) = false := by simpa using hy
      simp only [List.lookup, e]
      exact lookup_nd (List.nodup_cons.mp nd).2 h

theorem zip_fst_nodup {ps : List Str} (nd : ps.Nodup) (us : List Value) : ((ps.zip us).map (·.1)).Nodup := by
  induction ps generalizing us with
  | nil => simp
  | cons p ps ih =>
    cases us with
    | nil => simp
    | cons u us =>
      simp only [List.zip_cons_cons, List.map_cons]
      refine List.nodup_cons.mpr ⟨fun h => ?_, ih (List.nodup_cons.mp nd).2 us⟩
      obtain ⟨q, hq, e⟩ := List.mem_map.mp h
      have := (List.of_mem_zip (a := q.1) (b := q.2) hq).1
      rw [e] at this
      exact (List.nodup_cons.mp nd).1 this

section
variable {CX : CXT} {P : Program} {w : World} {K : PySem.W.Frag} {mg : Str → Option Value} {base : Heap} {k : Nat} {f cc cda C : Addr} {name qual : Str} {params : Arguments} {scope : Scope} {dV kV doc pm ct oc ccl cl : Value} {an od cdd cld : Option Addr} {osl ccs csl : Array (Option Value)} {N ps : List Str} {sp : Sp} {e : Expr} {es : List Expr} {rest : List Stmt} {p0 p1 apos pos pos' : Pos} {ar : Arg} {vs : Array Value} {file : Str} {tf : Tok} {cdD : ClassData}

theorem inv_startS {A : Around} {outer : List Env} {s : Shared} {H : Hp} {E : XK} {us : List Value} {ws : List V} {h1 : Heap} {tk : Nat}
    (S : SupScope N ps scope) (hd : A.handled = none) (e0 : Env0 P w K mg base A outer s H) (hl : ws.length = ps.length) (r : Vals ws us)
    (hcell : K.lookup cc = some ⟨cl, cld, .cell (some (.ref C)), csl⟩)
    (hns : h1.Ns s.heap.objs.size (fun x => (ps.zip us).reverse.lookup x)) (hk : ∀ b o, s.heap.get? b = some o → h1.get? b = some o) :
    Inv (cxS CX P w K mg base N qual scope f cda cc A outer s H E) [] (L2.start N ws) H { s with heap := h1, toks := tk } := by
  have hpl : ps.length ≤ N.length := by have := congrArg List.length S.pre; rw [List.length_take] at this; omega
  have noA : ∀ b : Addr, b ∉ (cxS CX P w K mg base N qual scope f cda cc A outer s H E).ex := fun b z => absurd (show b ∈ ([] : List Addr) from z) (by simp)
  have KXb : ∀ b o, K.lookup b = some o → base.get? b = some o := fun b o z => e0.mod.kin _ _ z
  have cin : ∀ {x : Str} {c : Addr}, List.lookup x [(("__class__" : Str), cc)] = some c → c = cc ∧ x = ("__class__" : Str) := fun {x c} z => by
    by_cases hx : x = ("__class__" : Str)
    · subst hx; have z' : some cc = some c := z; cases z'; exact ⟨rfl, rfl⟩
    · have e : (x == ("__class__" : Str)) = false := by simpa using hx
      unfold List.lookup at z
      rw [e] at z
      cases z
  have hcc := KXb _ _ hcell
  have hcH : H cc = none := (e0.bs _ _ hcc).2
  have hcs : s.heap.get? cc = some ⟨cl, cld, .cell (some (.ref C)), csl⟩ := (e0.bs _ _ hcc).1
  refine ⟨⟨e0.mod, S.kind, rfl, rfl, Nat.le_refl _, fun y z c h1 h2 => ?_, fun y hy => ?_, fun y c h _ => ?_, fun _ => hd, Around.frames_deeper e0.frames, .inr ⟨rfl, rfl⟩, fun b z => absurd z (noA b), e0.bs, e0.bsz, fun b _ _ => noA b, fun b z => absurd z (noA b), e0.funs, e0.frf⟩,
    rfl, e0.bare, Un.kept hk, ⟨_, hns, fun i y v h1 h2 h3 => ?_⟩, fun y c h => ?_, e0.hok.fresh (Nat.le_refl _), fun y c h => ?_, fun p hp => absurd (show p ∈ ([] : List (Addr × Obj)) from hp) (by simp), e0.hok.kept hk, ?_⟩
  · exact (cin h1).2.trans (cin h2).2.symm
  · have hy : scope.names.lookup y = some .cell ∨ scope.names.lookup y = some .free := hy
    rcases hy with hy | hy
    · exact absurd rfl (S.nocell _ (PySem.mem_of_lookup hy))
    · rw [S.free y hy]; exact ⟨cc, rfl⟩
  · cases (show (false : Bool) = true from h)
  · have hi : i < ws.length := by
      unfold L2.start at h2
      by_cases hi : i < ws.length
      · exact hi
      · rw [List.getElem?_append_right (by simpa using hi)] at h2
        rw [List.getElem?_replicate] at h2
        split at h2 <;> cases h2
    have ha : ws[i]? = some v := by
      unfold L2.start at h2
      rw [List.getElem?_append_left (by simpa using hi), List.getElem?_map] at h2
      cases e : ws[i]? with
      | none => rw [e] at h2; cases h2
      | some a => rw [e] at h2; cases h2; rfl
    obtain ⟨u, hu, rv⟩ := r.get ha
    have hp : ps[i]? = some y := by
      rw [← S.pre, List.getElem?_take_of_lt (by omega)]; exact h1
    have ndP : ps.Nodup := by rw [← S.pre]; exact S.nd.sublist (List.take_sublist _ _)
    refine ⟨u, rv, .inl ⟨S.par y (List.mem_of_getElem? hp), lookup_nd ?_ ?_⟩⟩
    · rw [List.map_reverse]; exact (List.reverse_perm _).nodup_iff.mpr (zip_fst_nodup ndP us)
    · refine List.mem_reverse.mpr (List.mem_of_getElem? (i := i) ?_)
      rw [List.getElem?_zip_eq_some]; exact ⟨hp, hu⟩
  · obtain ⟨rfl, rfl⟩ := cin h
    exact ⟨_, _, hk _ _ hcs, rfl⟩
  · obtain ⟨rfl, rfl⟩ := cin h
    exact hcH
  · unfold L2.start
    show _ = N.length
    rw [List.length_append, List.length_map, List.length_replicate]
    omega

/-- THE RULE -/
theorem fn_super (T : OexC K C) (S : SupScope N ps scope) (len : ∀ vs H Q E, sp vs H Q E → vs.length = ps.length)
    (lk : K.lookup f = some ⟨oc, od, .func (PySem.W.ksFn name qual params (.Expr (.Call (.Attribute (.Call (.Name "super" p0) [] [] p1) "__init__" apos) (e :: es) [] pos) pos' :: rest) scope dV kV doc pm an (.ref cda) ct cc), osl⟩)
    (hcd : PySem.W.codeIn K (.ref cda) qual = true) (hp : (params.posonlyargs ++ params.args).head? = some ar) (hp0 : ps[0]? = some ar.arg)
    (hcode : K.lookup cda = some ⟨ccl, cdd, .fields vs, ccs⟩) (hvs : vs[2]? = some (.str file tf)) (hfile : ((P.main.file : Str) == file) = true)
    (hcell : K.lookup cc = some ⟨cl, cld, .cell (some (.ref C)), csl⟩) (hsub : PySem.W.mroIn K C (.ref C) = some true) (hsuper : mg "super" = none)
    (htop : (P.main.scope.names.lookup ("super" : Str)).isSome = false)
    (ho : PySem.W.nsIn K PySem.cStatics "thirdparty.any" = some none) (hm : PySem.W.ks_superIn K C C "__init__" = some (some (.builtin "ValueError.__init__"))) (hB : PySem.W.subIn K (.ref C) (.type "ValueError") = some true)
    (hbody : ∀ (A : Around) (outer : List Env) (s : Shared) (H : Hp) (ws : List V) (Q : VK) (E : XK), sp ws H Q E →
      ∃ (a : Addr) (ta : TA) (u : TS) (pl : Sem Bool), ws[0]? = some (.ref a) ∧ H a = some (exo a C none) ∧ PA (cxS CX P w K mg base N qual scope f cda cc A outer s H E) (e :: es) ta ∧ PSs (cxS CX P w K mg base N qual scope f cda cc A outer s H E) rest u ∧
        (ta (L2.start N ws) H fun zs H1 => zs.length ≤ 1000 ∧ H1 a = some (exo a C none) ∧ u { nx := fun _ H' => Q .non H', rt := Q } (L2.start N ws) H1) ∧
        (starEach (e :: es) (cxS CX P w K mg base N qual scope f cda cc A outer s H E).env = (false, eval e (cxS CX P w K mg base N qual scope f cda cc A outer s H E).env) :: starEach es (cxS CX P w K mg base N qual scope f cda cc A outer s H E).env) ∧
        (backTo pos (starEach es (cxS CX P w K mg base N qual scope f cda cc A outer s H E).env)).any (·.1) = false ∧
        (eval (.Call (.Attribute (.Call (.Name "super" p0) [] [] p1) "__init__" apos) (e :: es) [] pos) (cxS CX P w K mg base N qual scope f cda cc A outer s H E).env = (do
          let ov ← attributeBase (.Call (.Name "super" p0) [] [] p1) "__init__" (cxS CX P w K mg base N qual scope f cda cc A outer s H E).env (eval (.Call (.Name "super" p0) [] [] p1) (cxS CX P w K mg base N qual scope f cda cc A outer s H E).env)
          standAt apos.atName
          let (f1, first) ← holding [ov] (getMethod ov "__init__" pl)
          callWith pos f1 first (backTo pos (starEach (e :: es) (cxS CX P w K mg base N qual scope f cda cc A outer s H E).env)) [])) ∧
        interactive (cxS CX P w K mg base N qual scope f cda cc A outer s H E).env = false ∧
        swapsWith (.Call (.Attribute (.Call (.Name "super" p0) [] [] p1) "__init__" apos) (e :: es) [] pos) none pos'.line (cxS CX P w K mg base N qual scope f cda cc A outer s H E).env = pure false) :
    FnOk P w K mg base CX (k + 1) f (PySem.W.ksFn name qual params (.Expr (.Call (.Attribute (.Call (.Name "super" p0) [] [] p1) "__init__" apos) (e :: es) [] pos) pos' :: rest) scope dV kV doc pm an (.ref cda) ct cc) ps sp := by
  refine ⟨len, fun A outer s H args us ws Q E hr e0 hb r hsp => ?_⟩
  have hl := len _ _ _ _ hsp
  have KX : K.In s.heap := e0.mod.kin.keeps fun b o e => (e0.bs b o e).1
  have lim : s.heap.NoLimit := e0.mod.nolimit.keeps fun b o e => (e0.bs b o e).1
  obtain ⟨a, ta, u, pl, h0, ea, ha, hu, hq, he, hpl, hev, hi, hsw⟩ := hbody A outer s H ws Q E hsp
  refine PySem.ks_codeAny_call_defAt hr.depth (KX _ _ lk) rfl lim (PySem.W.codeRec_of KX hcd) rfl hb S.nocell (fun x hx => S.par x.1 (List.of_mem_zip (a := x.1) (b := x.2) hx).1) (fun h1 hns hk => ?_) S.co S.gen S.kind
  have I : Inv (cxS CX P w K mg base N qual scope f cda cc A outer s H E) [] (L2.start N ws) H { s with heap := h1, toks := s.toks + (ps.zip us).length } := inv_startS S hr.hd e0 hl r hcell hns hk
  have hcl : ∃ cdD, PySem.W.clsIn K C = some cdD := by
    obtain ⟨nm, q, N, bs, bm, sn, sub, ab, col, dd, k0, k1, k2, k3, k5, hC, hbm⟩ := T.cls
    exact ⟨_, by unfold PySem.W.clsIn; rw [hC] <;> rfl⟩
  obtain ⟨cdD, hcl⟩ := hcl
  have fin : ∀ {σ' : L2.St} {H' : Hp} {v : V} {u : Value} {s' : Shared}, Inv (cxS CX P w K mg base N qual scope f cda cc A outer s H E) [] σ' H' s' → L2.RelV v u → Q v H' → CE outer P w H s Q u s' :=
    fun {σ' H' v u s'} J rv q => ⟨v, H', J.os, J.bare, J.base, J.hok, rv, q⟩
  have hσ0 : (L2.start N ws)[0]? = some (some (.ref a)) := by
    unfold L2.start
    have hlen : 0 < (ws.map some).length := by
      have := (List.getElem?_eq_some_iff.mp h0).1; simpa using this
    rw [List.getElem?_append_left hlen, List.getElem?_map, h0]; rfl
  have hN0 : N[0]? = some ar.arg := by
    have h1 : (N.take ps.length)[0]? = some ar.arg := by rw [S.pre]; exact hp0
    have h2 := (List.getElem?_eq_some_iff.mp hp0).1
    rwa [List.getElem?_take_of_lt h2] at h1
  show PySem.wpAt (model P w) (A.deeper (PySem.W.ksEnv qual scope s.heap.objs.size f (.ref cda) cc)) _ (execs _ (PySem.W.ksEnv qual scope s.heap.objs.size f (.ref cda) cc)) _ _ _
  refine PySem.ks_wpAt_execs_cons (PySem.ks_wpAt_Expr_any ?_ hi hsw)
  refine PySem.ks_wpAt_mono (wp_super (X := cxS CX P w K mg base N qual scope f cda cc A outer s H E) (pins := []) (pl := pl) I T S.sup S.cls rfl rfl rfl lk hp hcode hvs hfile hcell hcl hsub hsuper (S.par _ (List.mem_of_getElem? hp0)) hN0 hσ0 htop ho hm hB ea ha
    (Q := fun _ H1 => u { nx := fun _ H' => Q .non H', rt := Q } (L2.start N ws) H1) hq he hpl hev) (fun v s1 hs => ?_) fun _ _ z => z
  obtain ⟨_, H1, I1, _, q1⟩ := hs
  refine wpAt_of_wpAny ?_
  refine wpAny_mono (hu.run [] s1 (L2.start N ws) H1 _ I1 q1) (fun fl s' hs => ?_) fun e s' hs => hs
  cases fl with
  | ret u =>
    obtain ⟨v, σ', H', J, rv, q⟩ := hs
    exact fin J rv q
  | next =>
    obtain ⟨σ', H', J, q⟩ := hs
    exact fin (v := V.non) (u := Value.none) J rfl q
  | brk =>
    obtain ⟨_, _, _, q⟩ := hs
    exact False.elim q
  | cont =>
    obtain ⟨_, _, _, q⟩ := hs
    exact False.elim q
end
end OD

/-! OE3: own exceptions as values: made, asked for their class, their fields read. -/
namespace OD
open PySem PySem.Spec L2
open PyProof.Rows hiding St

/-! ### what the written part says of such a class -/
structure ExF (K : PySem.W.Frag) (C : Addr) : Prop where
  T : OexC K C
  xf : XfC K C
  is : ExcC K C
  sV : PySem.W.subIn K (.ref C) (.type "ValueError") = some true
  mro : PySem.W.mroIn K C (.ref C) = some true
  keep : PySem.W.keepIn K (.ref C) = true
def oexB (K : PySem.W.Frag) (C : Addr) : Bool := match K.lookup C with
  | some ⟨.type "type", _, .cls cd, sl⟩ => (match cd.mro, sl.toList with
    | .ref C' :: bm, [_, _, _, _, some (.builtin n), _] => C' == C && (n == "ValueError.__new__" && (!cd.hasDel && (cd.hasDict && HandSPX.refsVE bm)))
    | _, _ => false)
  | _ => false
def exfB (K : PySem.W.Frag) (C : Addr) : Bool := oexB K C && (decide (PySem.W.findIn K (.ref C) "__setattr__" = some (some (.builtin "object.__setattr__"))) && (decide (PySem.W.subIn K (.ref C) (.type "BaseException") = some true) && (decide (PySem.W.typeIn K (.ref C) = some (.type "type")) && (PySem.W.keepIn K (.ref C) && (xfB K C &&
  (decide (PySem.W.findIn K (.ref C) "__class__" = some (some (.builtin "object.__class__"))) && (decide (PySem.W.specialIn K (.builtin "object.__class__") "__get__" = some (some (.builtin "getset_descriptor.__get__"))) && (decide (PySem.W.takesIn K (.builtin "object.__class__") = some true) && (decide (PySem.W.mroIn K C (.type "object") = some true) &&
  (decide (PySem.W.subIn K (.ref C) (.type "ValueError") = some true) && decide (PySem.W.mroIn K C (.ref C) = some true)))))))))))
theorem oexB_ok {K : PySem.W.Frag} {C : Addr} (q : oexB K C = true) : ∃ nm q N bs bm sn sub ab col dd k0 k1 k2 k3 k5, K.lookup C = some (excClassObj nm q C N bs bm true sn sub ab col dd k0 k1 k2 k3 k5 "ValueError.__new__") ∧ PySem.HandSPX.refsVE bm = true := by
  unfold oexB at q
  split at q
  · rename_i dd cd sl ho
    split at q
    · rename_i C' bm k0 k1 k2 k3 n k5 hm hs
      simp only [Bool.and_eq_true, beq_iff_eq, Bool.not_eq_true'] at q
      obtain ⟨rfl, rfl, hdel, hdict, ht⟩ := q
      obtain ⟨nm, bs, mro, ns, qn, hd, sn, sub, ab, col, del⟩ := cd
      dsimp only at hm hdel hdict
      subst hm hdel hdict
      have hsl : sl = #[k0, k1, k2, k3, some (.builtin "ValueError.__new__"), k5] := by
        obtain ⟨l⟩ := sl
        simp only at hs
        rw [hs]
      subst hsl
      exact ⟨nm, qn, ns, bs, bm, sn, sub, ab, col, dd, k0, k1, k2, k3, k5, ho, ht⟩
    · cases q
  · cases q
theorem exfB_ok {K : PySem.W.Frag} {C : Addr} (h : exfB K C = true) : ExF K C := by
  unfold exfB at h
  simp only [Bool.and_eq_true, decide_eq_true_eq] at h
  obtain ⟨h1, h2, h3, h4, h5, h6, h7, h8, h9, h10, h11, h12⟩ := h
  have x := xfB_ok h6
  exact ⟨⟨oexB_ok h1, h2, h3, h4, h5⟩, x, ⟨x.ga, x.gg, x.exC, x.hdC, h7, h8, h9, h10⟩, h11, h12, h5⟩

/-! ### an exception that stands as a value -/
/-- at a: an exception of the class at C that has been raised, its dict at d -/
def exk (a C : Addr) (d : Option Addr) : HO := .ext fun h => ∃ (o : Obj) (vs : Array Value), h.get? a = some o ∧ Zc (.ref C) d o ∧ o.data = .fields vs
theorem exk_ok {P : Program} {w : World} {H : Hp} {h : Heap} {a C : Addr} {d : Option Addr} {o : Obj} {vs : Array Value} (e : h.get? a = some o) (z : Zc (.ref C) d o) (q : o.data = .fields vs) : ObjOk P w H h a (exk a C d) :=
  ⟨⟨o, vs, e, z, q⟩, ⟨o, e⟩, fun _ _ ⟨o1, v1, x1, x2⟩ k => ⟨o1, v1, k o1 x1, x2⟩⟩
theorem exk_at {P : Program} {w : World} {H : Hp} {h : Heap} {a C : Addr} {d : Option Addr} (hok : HOk P w H h) (e : H a = some (exk a C d)) : ∃ (o : Obj) (vs : Array Value), h.get? a = some o ∧ Zc (.ref C) d o ∧ o.data = .fields vs := by
  have x : ObjOk P w H h a (.ext fun h => ∃ (o : Obj) (vs : Array Value), h.get? a = some o ∧ Zc (.ref C) d o ∧ o.data = .fields vs) := hok a _ e
  exact x.1
/-- at a: an exception of the class at C with the fields gs (no dict: no fields); made, or caught -/
def ExAt (H : Hp) (a C : Addr) (gs : List (Str × V)) : Prop := (gs = [] ∧ (H a = some (exo a C none) ∨ H a = some (exk a C none))) ∨ ∃ dx, (H a = some (exo a C (some dx)) ∧ H dx = some (exd dx gs)) ∨ (H a = some (exk a C (some dx)) ∧ H dx = some (.xd gs))
theorem ExAt.mono {H H' : Hp} {a C : Addr} {gs : List (Str × V)} (s : Same H H') (h : ExAt H a C gs) : ExAt H' a C gs := by
  rcases h with ⟨h1, h2 | h2⟩ | ⟨dx, ⟨h1, h2⟩ | ⟨h1, h2⟩⟩
  · exact .inl ⟨h1, .inl (s _ _ h2)⟩
  · exact .inl ⟨h1, .inr (s _ _ h2)⟩
  · exact .inr ⟨dx, .inl ⟨s _ _ h1, s _ _ h2⟩⟩
  · exact .inr ⟨dx, .inr ⟨s _ _ h1, s _ _ h2⟩⟩
/-- the object, its dict -/
theorem ExAt.inst {P : Program} {w : World} {H : Hp} {h : Heap} {a C : Addr} {gs : List (Str × V)} (hok : HOk P w H h) (e : ExAt H a C gs) :
    ∃ (ox : Obj) (od : Option Obj), PySem.W.InstAt h a ox C od ∧ ∀ n v, gs.lookup n = some v → ∃ (o : Obj) (mA : Str → Option Value) (u : Value), od = some o ∧ PySem.W.lookIn n o = some (mA n) ∧ mA n = some u ∧ RelV v u := by
  have key : ∀ {dx : Addr}, (∃ mA, h.Ns1 dx mA ∧ ∀ f, RelO (gs.lookup f) (mA f)) → ∃ od, h.get? dx = some od ∧ ∀ n v, gs.lookup n = some v → ∃ (o : Obj) (mA : Str → Option Value) (u : Value), some od = some o ∧ PySem.W.lookIn n o = some (mA n) ∧ mA n = some u ∧ RelV v u := by
    rintro dx ⟨mA, hns, hr⟩
    obtain ⟨od, ho, hl⟩ := lookIn_ns hns
    refine ⟨od, ho, fun n v l => ?_⟩
    obtain ⟨u, hu, ru⟩ := RelO.some_of (v := v) (o := mA n) (by rw [← l]; exact hr n)
    exact ⟨od, mA, u, rfl, hl n, hu, ru⟩
  rcases e with ⟨rfl, e | e⟩ | ⟨dx, ⟨e, ed⟩ | ⟨e, ed⟩⟩
  · obtain ⟨t1, ho⟩ := exo_at hok e
    exact ⟨_, none, ⟨ho, rfl, rfl, trivial⟩, fun n v z => by cases z⟩
  · obtain ⟨o, vs, ho, hz, hd⟩ := exk_at hok e
    exact ⟨o, none, ⟨ho, hz.1, by unfold PySem.W.notCls; rw [hd] <;> rfl, by rw [hz.2]; trivial⟩, fun n v z => by cases z⟩
  · obtain ⟨t1, ho⟩ := exo_at hok e
    obtain ⟨od, h1, h2⟩ := key (exd_at hok ed)
    exact ⟨_, some od, ⟨ho, rfl, rfl, h1⟩, h2⟩
  · obtain ⟨o, vs, ho, hz, hd⟩ := exk_at hok e
    have hx : ObjOk P w H h dx (.xd gs) := hok dx _ ed
    obtain ⟨od, h1, h2⟩ := key hx
    exact ⟨o, some od, ⟨ho, hz.1, by unfold PySem.W.notCls; rw [hd] <;> rfl, by rw [hz.2]; exact h1⟩, h2⟩
/-- C's __init__, two fields | one field behind super().__init__ -/
def sp2 (C : Addr) (f1 f2 : Str) : Sp := fun vs H Q E => ∃ (a : Addr) (v1 v2 : V), vs = [.ref a, v1, v2] ∧ H a = some (exo a C none) ∧
  ∀ dx, H dx = none → dx ≠ a → Q .non (upd (upd (upd H dx (exd dx [(f1, v1)])) a (exo a C (some dx))) dx (exd dx [(f2, v2), (f1, v1)]))
def sp1 (C : Addr) (f1 : Str) : Sp := fun vs H Q E => ∃ (a : Addr) (v1 : V), vs = [.ref a, v1] ∧ H a = some (exo a C none) ∧
  ∀ dx, H dx = none → dx ≠ a → Q .non (upd (upd H dx (exd dx [(f1, v1)])) a (exo a C (some dx)))

/-- C(e, ..) as a value -/
def tMkV (C : Addr) (sp : Sp) (dvs : List V) (ta : TA) : TE := fun σ H Q => ta σ H fun vs H1 => vs.length ≤ 1000 ∧ ∀ a, H1 a = none → sp (.ref a :: (vs ++ dvs)) (upd H1 a (exo a C none))
  (fun v H2 => v = .non ∧ Q (.ref a) H2) (fun _ _ _ => False)
theorem pe_mkx {X : Cx} {e : Expr} {es : List Expr} {ta : TA} {p pos : Pos} {CX : CXT} {x : Str} {C fI : Addr} {k : Nat} {fd : FuncData} {ps : List Str} {sp : Sp} {ds : List Value} {dvs : List V} (T : OexC X.K C) (iC : PySem.W.findIn X.K (.ref C) "__init__" = some (some (.ref fI))) (tI : PySem.W.typeIn X.K (.ref fI) = some (.type "function"))
    (F1 : FnOk X.prog X.w X.K X.mg X.base CX k fI fd ps sp) (hr : Room (k + 1) X.A) (hb : Binds X.K fd ps ds) (hd : Vals dvs ds) (hx : Passes CX X (fun _ _ _ => False)) (hg : Gl X x) (hm : X.mg x = some (.ref C)) (ha : PA X (e :: es) ta)
    (hdb : (x == ("__debug__" : Str)) = false := by decide) (he : starEach (e :: es) X.env = (false, eval e X.env) :: starEach es X.env := by rfl) (hpl : (backTo pos (starEach es X.env)).any (·.1) = false := by rfl) :
    PE X (.Call (.Name x p) (e :: es) [] pos) (tMkV C sp dvs ta) := by
  refine ⟨fun pins s σ H Q I h => ?_⟩
  obtain ⟨nm, q, N, bs, bm, sn, sub, ab, col, dd, k0, k1, k2, k3, k5, hC, hbm⟩ := T.cls
  refine wpAny_Call_Name_kw (ld_glob I hg hm ?_ hdb)
  refine PySem.W.callWith_K (h₀ := X.base) I.ok.mod.kin T.kC (thn (ha.run pos pins s σ H _ I h) fun us s1 ⟨vs, H1, I1, r1, hz, q1⟩ => ⟨I1.kIn, ?_⟩) he hpl
  show wpAny _ _ (call (.ref C) us) _ _ _
  obtain ⟨hp, g, dr, tk, os⟩ := s1
  have hsz : hp.objs.size ≤ hp.objs.size + 1 := Nat.le_succ _
  have hn : H1 (hp.objs.size + 1) = none := I1.hok.fresh hsz
  have hq := q1 (hp.objs.size + 1) hn
  have kk : ∀ b o, hp.get? b = some o → ((hp.push (PySem.W.kdv_tup us)).push (PySem.HandSPX.excO C hp.objs.size)).get? b = some o := fun b o e => Heap.get?_push_of_some _ (Heap.get?_push_of_some _ e)
  have hget : ((hp.push (PySem.W.kdv_tup us)).push (PySem.HandSPX.excO C hp.objs.size)).get? (hp.objs.size + 1) = some (PySem.HandSPX.excO C hp.objs.size) := by heap_get
  have I2 : Inv X pins σ (upd H1 (hp.objs.size + 1) (exo (hp.objs.size + 1) C none)) ⟨(hp.push (PySem.W.kdv_tup us)).push (PySem.HandSPX.excO C hp.objs.size), g, dr, tk, os⟩ :=
    I1.laid (t' := tk) (a := hp.objs.size + 1) (o := exo (hp.objs.size + 1) C none) (h' := (hp.push (PySem.W.kdv_tup us)).push (PySem.HandSPX.excO C hp.objs.size)) kk hsz (exo_ok hget)
  have r2 : Vals (V.ref (hp.objs.size + 1) :: (vs ++ dvs)) (Value.ref (hp.objs.size + 1) :: (us ++ ds)) := .cons rfl (r1.append hd)
  have hl : (Value.ref (hp.objs.size + 1) :: us ++ ds).length = ps.length := by
    have e := r2.length
    rw [F1.len _ _ _ _ hq] at e
    exact e.symm
  have hus : us.length ≤ sizeLine := by
    rw [← Paired.length r1, sizeLine_eq]
    omega
  refine wpAny_call (PySem.HandSPX.call_own F.excBase_ValueError (fun Y => PySem.HandSPX.refsVE_contains Y bm hbm) (I1.kIn _ _ hC) (PySem.W.looks_findIn I1.kIn iC) (fun self => PySem.W.bind_fn I1.kIn self tI) hus
    (codeAny_mono (F1.run _ X.stack _ _ ⟨Value.ref (hp.objs.size + 1) :: us, []⟩ (Value.ref (hp.objs.size + 1) :: (us ++ ds)) _ _ (fun _ _ _ => False) (hr.make C us []) (I2.env0.make C us []) (hb _ (Value.ref (hp.objs.size + 1) :: us) I2.kIn hl) r2 hq) fun r s' hq' => ?_))
  cases r with
  | error er => exact hx pins σ _ _ er s' I2 hq'
  | ok fl =>
    cases fl with
    | ret u =>
      obtain ⟨v, H3, I3, rv, ev, q2⟩ := I2.after hq'
      subst ev
      exact ⟨rv, .ref (hp.objs.size + 1), H3, I3, rfl, q2⟩
    | next => exact False.elim hq'
    | brk => exact False.elim hq'
    | cont => exact False.elim hq'

/-! ### e.f -/
def tXv (K : PySem.W.Frag) (f : Str) (te : TE) : TE := fun σ H Q => te σ H fun x H1 => ∃ (a C : Addr) (gs : List (Str × V)) (v : V), x = .ref a ∧ ExAt H1 a C gs ∧ XfC K C ∧ PySem.W.findIn K (.ref C) f = some none ∧ gs.lookup f = some v ∧ Q v H1
theorem pe_xv {X : Cx} {e : Expr} {te : TE} {pos : Pos} {n : Str} (he : PE X e te) (hb : attributeBase e n X.env (eval e X.env) = eval e X.env := by rfl) : PE X (.Attribute e n pos) (tXv X.K n te) := by
  refine ⟨fun pins s σ H Q I h => attr_of hb (thn (he.run pins s σ H _ I h) fun u s1 hh => ?_)⟩
  obtain ⟨x, H1, I1, rx, a, C, gs, v, ex, ea, T, hno, l, q⟩ := hh
  subst ex
  obtain rfl : u = Value.ref a := rx
  obtain ⟨ox, od, J, hl⟩ := ea.inst I1.hok
  obtain ⟨o, mA, u, rfl, h1, h2, ru⟩ := hl n v l
  exact HandSPX.exc_get I1.kIn J T.ga T.gg T.exC (PySem.W.findObj_own T.hdC hno rfl (by rw [h1, h2])) (handed_of ru) ⟨v, H1, I1.tok _, ru, q⟩
end OD

/-! OE4: isinstance of such a value. -/
namespace OD
open PySem PySem.Spec L2
open PyProof.Rows hiding St
/-- isinstance's questions of an exception that stands as a value -/
theorem ExF.kit {K : PySem.W.Frag} {x D : Addr} {ox : Obj} {od : Option Obj} (T : ExF K D) : PySem.W.KitX K (.ref x) (.ref D) (fun h => PySem.W.InstAt h x ox D od) := by
  have hcl : ∃ cd, PySem.W.clsIn K D = some cd := by
    obtain ⟨nm, q, N, bs, bm, sn, sub, ab, col, dd, k0, k1, k2, k3, k5, hC, _⟩ := T.T.cls
    exact ⟨_, by unfold PySem.W.clsIn; rw [hC] <;> rfl⟩
  have hk : PySem.W.kitCls K (.ref D) (.ref D) = some true := by
    have hb : ((PySem.W.clsIn K D).isSome && PySem.W.typeIn K (.ref D) == some (.type "type")) = true := by
      rw [T.T.tyC]
      obtain ⟨cd, e⟩ := hcl
      rw [e]; rfl
    show (if _ = true then PySem.W.subIn K (.ref D) (.ref D) else none) = some true
    rw [if_pos hb]; exact T.mro
  have hc : (PySem.W.clsIn K D).isSome = true := by
    obtain ⟨cd, e⟩ := hcl
    rw [e]; rfl
  refine ⟨fun _ _ _ I => I.type, fun M h X _ => (PySem.W.kit_cls X hk).2.1, fun h tp dd its n sl X htp => ?_, fun X I k => PySem.W.kx_classE X I T.xf.ga T.xf.gg T.xf.exC (PySem.W.findObj_dataE hc T.is.ha T.is.hn T.is.ht) T.is.hm k⟩
  cases hq : (Value.ref D == Value.ref tp) with
  | false => rfl
  | true =>
    have hD : D = tp := by
      have := eq_of_beq hq
      cases this; rfl
    obtain ⟨nm, q, N, bs, bm, sn, sub, ab, col, dd', k0, k1, k2, k3, k5, hC, _⟩ := T.T.cls
    have e2 := X _ _ hC
    rw [hD, htp] at e2
    have e4 := congrArg Obj.data (Option.some.inj e2)
    cases e4
/-- isinstance(e, c), e such a value -/
def rIsX (K : PySem.W.Frag) : List V → Hp → VK → Prop := fun xs H Q => ∃ (a C : Addr) (gs : List (Str × V)) (c : V) (u : Value) (b : Bool), xs = [.ref a, c] ∧ ClsV c u ∧ ExAt H a C gs ∧ ExF K C ∧ PySem.W.kitOne K (.ref C) u = some b ∧ Q (.bl b) H
theorem call_isX {X : Cx} : CallR X (.builtin "isinstance") (rIsX X.K) := by
  intro pins s σ H xs us Q I r h
  obtain ⟨a, C, gs, c, u, b, rfl, k, ex, T, e, q⟩ := h
  obtain ⟨u1, u2, rfl, r1, r2⟩ := vals2 r
  have e2 := k.eq r2
  subst e2
  obtain rfl : u1 = Value.ref a := r1
  have fin : ∀ {ox : Obj} {od : Option Obj}, PySem.W.InstAt s.heap a ox C od → wpAny (model X.prog X.w) X.A (call (.builtin "isinstance") [.ref a, u2]) (EP X pins σ Q) X.xe s := fun J =>
    PySem.W.kia_one T.kit I.kIn J e (fun z => nomatch z) fun tk => ⟨.bl b, H, I.kept (t' := tk) fun _ _ z => z, rfl, q⟩
  obtain ⟨ox, od, J, _⟩ := ex.inst I.hok
  exact fin J
end OD

/-! OE5: C() without an own __init__; the promises of the two kinds of __init__. -/
namespace OD
open PySem PySem.Spec L2
open PyProof.Rows hiding St

theorem pe_mk0 {X : Cx} {C : Addr} {bmB : List Value} {B newId initId : String} {x : Str} {p pos : Pos} (F : ExcBaseFacts B newId initId bmB) (q : PySem.W.excIn X.K C bmB newId = true) (kC : PySem.W.keepIn X.K (.ref C) = true) (hg : Gl X x) (gC : X.mg x = some (.ref C))
    (hdb : (x == ("__debug__" : Str)) = false := by decide) :
    PE X (.Call (.Name x p) [] [] pos) (fun σ H Q => ∀ a, H a = none → Q (.ref a) (upd H a (exo a C none))) := by
  refine ⟨fun pins s σ H Q I h => ?_⟩
  refine wpAny_Call_Name_kw (ld_glob I hg gC ?_ hdb)
  refine PySem.W.callWith_K0 I.kIn kC ?_
  show wpAny _ _ (call (.ref C) []) _ _ _
  obtain ⟨bm, N, nm, qn, bs, hdct, sn, sub, ab, col, dd, k0, k1, k2, k3, k5, mN, hC, hN, hni, T⟩ := exc_obj I.kIn q
  refine wpAny_call_exc_subT F T hC hN hni (fun h' a hm => ?_) (by show 0 ≤ sizeLine; omega)
  have hn : H a = none := I.hok.gone hm.new
  obtain ⟨t, ht, _, _⟩ := hm.there
  exact ⟨.ref a, upd H a (exo a C none), I.laidN hm.keeps hm.new hn (exo_ok ht), rfl, h a hn⟩

/-! ### the text of such an __init__ -/
def superLine (e : Expr) (p0 p1 apos pos pos' : Pos) : Stmt := .Expr (.Call (.Attribute (.Call (.Name "super" p0) [] [] p1) "__init__" apos) [e] [] pos) pos'
def setLine (s f v : Str) (p0 p1 p2 p3 : Pos) : Stmt := .Assign [.Attribute (.Name s p0) f p1] (.Name v p2) p3
/-- where such an __init__ stands, its text -/
structure SupD where
  cls : Str
  qual : Str
  params : Arguments
  body : List Stmt
  scope : Scope
def supAt (K : PySem.W.Frag) (x : Str) : Addr := match PySem.W.findIn K (.ref (He.ga K x)) "__init__" with
  | some (some (.ref f)) => f
  | _ => 0
abbrev SupW : Type := Option (Str × Str × Arguments × FuncBody × Scope × Addr × List Str × Addr)
def supW (K : PySem.W.Frag) (x : Str) : SupW := match K.lookup (supAt K x) with
  | some ⟨_, _, .func fd, _⟩ => some (fd.name, fd.qualname, fd.params, fd.body, fd.scope, fd.globals, fd.closure.map (·.1), fd.builtins)
  | _ => none
def SupD.val (d : SupD) : SupW := some ("__init__", d.qual, d.params, .stmts d.body, d.scope, mainGlobals, ["__class__"], builtinsNs)
def supB (file : Str) (K : PySem.W.Frag) (d : SupD) : Bool := exfB K (He.ga K d.cls) && (decide (PySem.W.findIn K (.ref (He.ga K d.cls)) "__init__" = some (some (.ref (supAt K d.cls)))) && (decide (PySem.W.typeIn K (.ref (supAt K d.cls)) = some (.type "function")) &&
  (decide (PySem.W.ks_superIn K (He.ga K d.cls) (He.ga K d.cls) "__init__" = some (some (.builtin "ValueError.__init__"))) && (decide (PySem.W.nsIn K PySem.cStatics "thirdparty.any" = some none) &&
  (match K.lookup (supAt K d.cls) with
  | some ⟨_, _, .func fd, _⟩ => (match fd.defaults with | .none => true | _ => false) && (PySem.W.codeIn K fd.code d.qual && ((match fd.closure with
    | [(_, cc)] => (match K.lookup cc with
      | some ⟨_, _, .cell (some (.ref D)), _⟩ => decide (D = He.ga K d.cls)
      | _ => false)
    | _ => false) && (match fd.code with
      | .ref cda => (match K.lookup cda with
        | some ⟨_, _, .fields vs, _⟩ => (match vs[2]? with
          | some (Value.str fl _) => (file : Str) == fl
          | _ => false)
        | _ => false)
      | _ => false)))
  | _ => false)))))
structure SupF (file : Str) (K : PySem.W.Frag) (d : SupD) : Prop where
  ex : ExF K (He.ga K d.cls)
  init : PySem.W.findIn K (.ref (He.ga K d.cls)) "__init__" = some (some (.ref (supAt K d.cls)))
  ty : PySem.W.typeIn K (.ref (supAt K d.cls)) = some (.type "function")
  sup : PySem.W.ks_superIn K (He.ga K d.cls) (He.ga K d.cls) "__init__" = some (some (.builtin "ValueError.__init__"))
  st : PySem.W.nsIn K PySem.cStatics "thirdparty.any" = some none
  fn : ∃ (oc : Value) (od : Option Addr) (kV doc pm : Value) (an : Option Addr) (cda cc : Addr) (ct : Value) (osl : Array (Option Value)) (ccl : Value) (cdd : Option Addr) (vs : Array Value) (ccs : Array (Option Value)) (fl : Str) (tf : Tok) (cl : Value) (cld : Option Addr) (csl : Array (Option Value)),
    K.lookup (supAt K d.cls) = some ⟨oc, od, .func (PySem.W.ksFn "__init__" d.qual d.params d.body d.scope .none kV doc pm an (.ref cda) ct cc), osl⟩ ∧ PySem.W.codeIn K (.ref cda) d.qual = true ∧ K.lookup cda = some ⟨ccl, cdd, .fields vs, ccs⟩ ∧ vs[2]? = some (.str fl tf) ∧ (file == fl) = true ∧
    K.lookup cc = some ⟨cl, cld, .cell (some (.ref (He.ga K d.cls))), csl⟩
theorem supB_ok {file : Str} {K : PySem.W.Frag} {d : SupD} (e : supW K d.cls = d.val) (h : supB file K d = true) : SupF file K d := by
  unfold supB at h
  simp only [Bool.and_eq_true, decide_eq_true_eq] at h
  obtain ⟨h1, h2, h3, h4, h5, h6⟩ := h
  refine ⟨exfB_ok h1, h2, h3, h4, h5, ?_⟩
  unfold supW SupD.val at e
  split at h6
  · rename_i oc od fd osl ho
    rw [ho] at e
    obtain ⟨n1, n2, n3, n4, n5, n6, n7, n8, n9, n10, n11, n12, n13, n14, n15⟩ := fd
    simp only [Option.some.injEq, Prod.mk.injEq] at e
    obtain ⟨e1, e2, e3, e4, e5, e6, e7, e8⟩ := e
    subst e1 e2 e3 e4 e5 e6 e8
    simp only [Bool.and_eq_true] at h6
    obtain ⟨k0, k1, k2, k3⟩ := h6
    split at k0
    · split at k2
      · rename_i _ nm cc
        simp only [List.map_cons, List.map_nil, List.cons.injEq, and_true] at e7
        subst e7
        split at k2
        · rename_i cl cld D csl hcell
          have hD := of_decide_eq_true k2
          subst hD
          split at k3
          · rename_i cda
            split at k3
            · rename_i ccl cdd vs ccs hcode
              split at k3
              · rename_i fl tf hv
                exact ⟨oc, od, _, _, _, _, cda, cc, _, osl, ccl, cdd, vs, ccs, fl, tf, cl, cld, csl, ho, k1, hcode, hv, k3, hcell⟩
              · cases k3
            · cases k3
          · cases k3
        · cases k2
      · cases k2
    · cases k0
  · cases h6
end OD

/-! OE6: the promises of the two kinds of __init__. -/
namespace OD
open PySem PySem.Spec L2
open PyProof.Rows hiding St
section
variable {P : Program} {w : World} {K : PySem.W.Frag} {mg : Str → Option Value} {base : Heap} {CX : CXT} {k : Nat} {file : Str} {d : SupD} {q0 q1 q2 q3 q4 q5 q6 q7 q8 q9 q10 q11 q12 q13 : Pos}
theorem SupF.ok2 (F : SupF file K d) (hbody : d.body = [superLine (.Name "code" q0) q1 q2 q3 q4 q5, setLine "self" "at" "at" q6 q7 q8 q9, setLine "self" "code" "code" q10 q11 q12 q13])
    (S : SupScope ["self", "at", "code"] ["self", "at", "code"] d.scope) {ar : Arg} (hp : (d.params.posonlyargs ++ d.params.args).head? = some ar) (hp0 : ar.arg = "self") (hfile : P.main.file = file) (hsuper : mg "super" = none)
    (htop : (P.main.scope.names.lookup ("super" : Str)).isSome = false) (n1 : PySem.W.findIn K (.ref (He.ga K d.cls)) "at" = some none) (n2 : PySem.W.findIn K (.ref (He.ga K d.cls)) "code" = some none)
    (hev : ∃ pl : Env → Sem Bool, ∀ env : Env, eval (.Call (.Attribute (.Call (.Name "super" q1) [] [] q2) "__init__" q3) [.Name "code" q0] [] q4) env = (do
          let ov ← attributeBase (.Call (.Name "super" q1) [] [] q2) "__init__" env (eval (.Call (.Name "super" q1) [] [] q2) env)
          standAt q3.atName
          let (f1, first) ← holding [ov] (getMethod ov "__init__" (pl env))
          callWith q4 f1 first (backTo q4 (starEach [.Name "code" q0] env)) []))
    (hb : ∀ (kV doc pm : Value) (an : Option Addr) (cda cc : Addr) (ct : Value), Binds K (PySem.W.ksFn "__init__" d.qual d.params d.body d.scope .none kV doc pm an (.ref cda) ct cc) ["self", "at", "code"] []) :
    ∃ fd, FnOk P w K mg base CX (k + 1) (supAt K d.cls) fd ["self", "at", "code"] (sp2 (He.ga K d.cls) "at" "code") ∧ Binds K fd ["self", "at", "code"] [] := by
  obtain ⟨oc, od, kV, doc, pm, an, cda, cc, ct, osl, ccl, cdd, vs, ccs, fl, tf, cl, cld, csl, lk, hcd, hcode, hvs, hfl, hcell⟩ := F.fn
  obtain ⟨pl, hev⟩ := hev
  refine ⟨_, ?_, hb kV doc pm an cda cc ct⟩
  rw [hbody] at lk ⊢
  refine fn_super (N := ["self", "at", "code"]) F.ex.T S (fun vs H Q E h => ?_) lk hcd hp (by rw [hp0]; rfl) hcode hvs (by rw [hfile]; exact hfl) hcell F.ex.mro hsuper htop F.st F.sup F.ex.sV fun A outer s H ws Q E h => ?_
  · obtain ⟨a, v1, v2, rfl, _⟩ := h; rfl
  · obtain ⟨a, v1, v2, rfl, ea, h⟩ := h
    refine ⟨a, tCons (tVar 2) tNil, tSeq (tOst K "at" (tVar 0) (tVar 1)) (tSeq (tOst K "code" (tVar 0) (tVar 2)) tNext), _, rfl, ea, ?_, ?_, ?_, rfl, rfl, hev _, (by show (d.scope.kind == .module && _) = false; rw [S.kind]; rfl), rfl⟩
    · exact pa_cons (pe_var rfl (.inl (S.par _ (by decide)))) pa_nil
    · exact pss_cons (ps_ost (pe_var rfl (.inl (S.par _ (by decide)))) (pe_var rfl (.inl (S.par _ (by decide))))) (pss_cons (ps_ost (pe_var rfl (.inl (S.par _ (by decide)))) (pe_var rfl (.inl (S.par _ (by decide))))) pss_nil)
    · refine ⟨v2, rfl, (by simp), ea, ?_⟩
      refine ⟨v1, rfl, .ref a, rfl, a, _, rfl, F.ex.T, n1, .inl ⟨ea, fun dx n ne => ?_⟩⟩
      refine ⟨v2, rfl, .ref a, rfl, a, _, rfl, F.ex.T, n2, .inr ⟨dx, [("at", v1)], ?_, ?_, (by simp), h dx n ne⟩⟩
      · rw [upd_same]
      · rw [upd_ne ne, upd_same]
theorem SupF.ok1 {z : Str} {j : Nat} (F : SupF file K d) (hbody : d.body = [superLine (.Constant (.str z) j q0) q1 q2 q3 q4 q5, setLine "self" "reason" "reason" q6 q7 q8 q9])
    (S : SupScope ["self", "reason"] ["self", "reason"] d.scope) {ar : Arg} (hp : (d.params.posonlyargs ++ d.params.args).head? = some ar) (hp0 : ar.arg = "self") (hfile : P.main.file = file) (hsuper : mg "super" = none)
    (htop : (P.main.scope.names.lookup ("super" : Str)).isSome = false) (n1 : PySem.W.findIn K (.ref (He.ga K d.cls)) "reason" = some none)
    (hev : ∃ pl : Env → Sem Bool, ∀ env : Env, eval (.Call (.Attribute (.Call (.Name "super" q1) [] [] q2) "__init__" q3) [.Constant (.str z) j q0] [] q4) env = (do
          let ov ← attributeBase (.Call (.Name "super" q1) [] [] q2) "__init__" env (eval (.Call (.Name "super" q1) [] [] q2) env)
          standAt q3.atName
          let (f1, first) ← holding [ov] (getMethod ov "__init__" (pl env))
          callWith q4 f1 first (backTo q4 (starEach [.Constant (.str z) j q0] env)) []))
    (hb : ∀ (kV doc pm : Value) (an : Option Addr) (cda cc : Addr) (ct : Value), Binds K (PySem.W.ksFn "__init__" d.qual d.params d.body d.scope .none kV doc pm an (.ref cda) ct cc) ["self", "reason"] []) :
    ∃ fd, FnOk P w K mg base CX (k + 1) (supAt K d.cls) fd ["self", "reason"] (sp1 (He.ga K d.cls) "reason") ∧ Binds K fd ["self", "reason"] [] := by
  obtain ⟨oc, od, kV, doc, pm, an, cda, cc, ct, osl, ccl, cdd, vs, ccs, fl, tf, cl, cld, csl, lk, hcd, hcode, hvs, hfl, hcell⟩ := F.fn
  obtain ⟨pl, hev⟩ := hev
  refine ⟨_, ?_, hb kV doc pm an cda cc ct⟩
  rw [hbody] at lk ⊢
  refine fn_super (N := ["self", "reason"]) F.ex.T S (fun vs H Q E h => ?_) lk hcd hp (by rw [hp0]; rfl) hcode hvs (by rw [hfile]; exact hfl) hcell F.ex.mro hsuper htop F.st F.sup F.ex.sV fun A outer s H ws Q E h => ?_
  · obtain ⟨a, v1, rfl, _⟩ := h; rfl
  · obtain ⟨a, v1, rfl, ea, h⟩ := h
    refine ⟨a, tCons (tC (.str z)) tNil, tSeq (tOst K "reason" (tVar 0) (tVar 1)) tNext, _, rfl, ea, ?_, ?_, ?_, rfl, rfl, hev _, (by show (d.scope.kind == .module && _) = false; rw [S.kind]; rfl), rfl⟩
    · exact pa_cons pe_str pa_nil
    · exact pss_cons (ps_ost (pe_var rfl (.inl (S.par _ (by decide)))) (pe_var rfl (.inl (S.par _ (by decide))))) pss_nil
    · refine ⟨(by simp), ea, ?_⟩
      exact ⟨v1, rfl, .ref a, rfl, a, _, rfl, F.ex.T, n1, .inl ⟨ea, fun dx n ne => h dx n ne⟩⟩
end
end OD

/-! OF1: a caught own exception is tracked while its suite runs; try with clauses that bind it. -/
namespace OD
open PySem PySem.Spec L2
open PyProof.Rows hiding St
section
variable {X : Cx} {pins : List (Addr × Obj)} {σ : L2.St} {H : Hp} {sI s' : Shared} {B : Heap}
/-- behind a catch, the caught object tracked -/
theorem landX {a : Addr} {o : HO} (I : Inv X pins σ H sI) (nb : ∀ b u, sI.heap.get? b = some u → b ∉ frs X.stack → B.get? b = some u) (st : B.StaysIn s'.heap) (up : sI.heap.UpToSlots s'.heap) (os : s'.os = sI.os) (ag : AllBare s'.gens)
    (n0 : sI.heap.get? a = none) (na : H a = none) (new : ObjOk X.prog X.w (upd H a o) s'.heap a o) : Inv X pins σ (upd H a o) s' := by
  have J0 : Inv X pins σ H s' := I.landed nb st up os ag
  have ne : ∀ {b : Addr} {u : Obj}, sI.heap.get? b = some u → b ≠ a := fun {b u} e z => by
    rw [z, n0] at e; cases e
  have neH : ∀ {b : Addr} {u : HO}, H b = some u → b ≠ a := fun {b u} e z => by
    rw [z, na] at e; cases e
  have nf : ∀ b ∈ frs X.stack, ∀ u, sI.heap.get? b = some u → ∃ sl, s'.heap.get? b = some { u with slots := sl } := by
    intro b hb u e
    obtain ⟨_, u', e', hd⟩ := I.stack.mem hb
    rw [e] at e'; cases e'
    exact up b u e hd
  have there : ∀ b u, sI.heap.get? b = some u → ∃ u', s'.heap.get? b = some u' := by
    intro b u e
    by_cases hb : b ∈ frs X.stack
    · obtain ⟨sl, q⟩ := nf b hb u e; exact ⟨_, q⟩
    · exact ⟨u, st b u (nb b u e hb)⟩
  have hok : HOk X.prog X.w (upd H a o) s'.heap := by
    intro b u e
    by_cases hb : b = a
    · subst hb
      rw [upd_same] at e; cases e
      exact new
    · rw [upd_ne hb] at e
      exact (J0.hok b u e).stay (fun _ _ _ q => q) (fun c q => by rw [upd_ne (neH q)]; exact q) (fun c xs q => by rw [upd_ne (neH q)]; exact q)
  have U : Un (frs X.stack) [] H (upd H a o) sI.heap s'.heap :=
    ⟨fun b u e _ hb _ => st b u (nb b u e hb), fun b u e _ hb _ => nf b hb u e, fun b u e n _ => (upd_ne (ne e)).trans n, fun b u e _ => there b u e,
      fun b xs e => (upd_ne (neH e)).trans e, fun b u xs e => (upd_ne (neH e)).trans e, fun b ps e => ⟨#[], by rw [upd_ne (neH e), e]; simp⟩⟩
  exact I.call' os U hok ag fun b z => nomatch z
end
/-- the clauses, one behind another: what is wished of an exception of the body; i: the slot of the name that is bound -/
def wManyA (K : PySem.W.Frag) (Wout : WX) (D : Ends) : List (Value × Option Nat × TS) → WX
  | [] => Wout
  | (c, i, ts) :: r => fun cls d σ H => ∃ b, PySem.W.exmOne K cls c = some b ∧
      (b = true → ∀ a, H a = none → ∃ C, cls = .ref C ∧ match i with
        | none => ts D σ (upd H a (exk a C d))
        | some i => ts { nx := fun σ' H' => D.nx (σ'.set i none) H', rt := D.rt, bk := fun σ' H' => D.bk (σ'.set i none) H', ct := fun σ' H' => D.ct (σ'.set i none) H' } (σ.set i (some (.ref a))) (upd H a (exk a C d))) ∧
      (b = false → wManyA K Wout D r cls d σ H)
/-- the context of such a suite -/
abbrev suiteA (X : Cx) (a : Addr) : Cx := { X with A := X.A.mark (some (.ref a)), calm := false, xe := fun _ _ => False }
theorem into_suiteA {X : Cx} {pins : List (Addr × Obj)} {σ : L2.St} {H : Hp} {s : Shared} (I : Inv X pins σ H s) (a : Addr) : Inv (suiteA X a) pins σ H s := by
  obtain ⟨q1, q2, q3, q4, q5, q6, q7, q8, q9, q10, q11⟩ := I
  have ok := q1.suite a X.pn
  exact ⟨ok, q2, q3, q4, q5, q6, q7, q8, q9, q10, q11⟩
theorem outof_suiteA {X : Cx} {pins : List (Addr × Obj)} {σ : L2.St} {H : Hp} {s : Shared} {a : Addr} (I : Inv (suiteA X a) pins σ H s) (ok : X.Ok) : Inv X pins σ H s := by
  obtain ⟨_, q2, q3, q4, q5, q6, q7, q8, q9, q10, q11⟩ := I
  exact ⟨ok, q2, q3, q4, q5, q6, q7, q8, q9, q10, q11⟩
inductive HdsA (X : Cx) : List ExceptHandler → List (Value × Option Nat × TS) → Prop
  | nil : HdsA X [] []
  | plain {x : Str} {c : Value} {ts : TS} {b₀ : Stmt} {suite : List Stmt} {np pos' : Pos} {hds : List ExceptHandler} {l : List (Value × Option Nat × TS)} (hc : Names X x c)
      (hsu : ∀ a : Addr, PSs (suiteA X a) (b₀ :: suite) ts) (r : HdsA X hds l) : HdsA X (.ExceptHandler (some (.Name x np)) none (b₀ :: suite) pos' :: hds) ((c, none, ts) :: l)
  | bind {x n : Str} {i : Nat} {c : Value} {ts : TS} {b₀ : Stmt} {suite : List Stmt} {np pos' : Pos} {hds : List ExceptHandler} {l : List (Value × Option Nat × TS)} (hc : Names X x c) (hN : X.N.Nodup) (hi : X.N[i]? = some n) (hln : X.env.kindOf n = some .local)
      (hsu : ∀ a : Addr, PSs (suiteA X a) (b₀ :: suite) ts) (r : HdsA X hds l) : HdsA X (.ExceptHandler (some (.Name x np)) (some n) (b₀ :: suite) pos' :: hds) ((c, some i, ts) :: l)
end OD

/-! OF2: try: body / except C as e: suite / .. -/
namespace OD
open PySem PySem.Spec L2
open PyProof.Rows hiding St
theorem ps_tryA {X : Cx} {body : List Stmt} {h₀ : ExceptHandler} {hds : List ExceptHandler} {l : List (Value × Option Nat × TS)} {pos : Pos} {tb : WX → TS} {Wout : WX} (hs : X.stack = X.env :: X.outer) (hf : X.env.frame = some X.env.locals) (tk : Takes X Wout)
    (hb : ∀ (W : WX) (pn : List (Addr × Obj)) (xe : Value → Shared → Prop), Takes (X.tr pn xe) W → PassesOwn (model X.prog X.w) X.A X.env xe → PSs (X.tr pn xe) body (tb W))
    (hh : HdsA X (h₀ :: hds) l) : PS X (.Try body (h₀ :: hds) [] [] pos) (fun D σ H => tb (wManyA X.K Wout D l) D σ H) := by
  refine ⟨fun pins s σ H D I h => wpAny_Try_except ?_⟩
  have ok := I.ok
  have hfr : X.A.frames = some (X.env :: X.outer) := by rw [ok.frames, hs]
  have catch_ : ∀ (u : Value) (s' : Shared), XE (X.tr (X.pn ++ pins) fun e s₁ => wpAny (model X.prog X.w) X.A (noteFrame e X.env) (fun _ s₂ => wpAny (model X.prog X.w) X.A (setFlight e none) (fun _ s₃ =>
      wpAny (model X.prog X.w) X.A (handleBy e X.env (h₀ :: hds)) (SP X pins D) X.xe s₃) X.xe s₂) X.xe s₁) (wManyA X.K Wout D l) u s' →
      wpAny (model X.prog X.w) X.A (noteFrame u X.env) (fun _ s₂ => wpAny (model X.prog X.w) X.A (setFlight u none) (fun _ s₃ => wpAny (model X.prog X.w) X.A (handleBy u X.env (h₀ :: hds)) (SP X pins D) X.xe s₃) X.xe s₂) X.xe s' := by
    rintro u s' ⟨a, B, sI, pins', σ', H', cls, d, rfl, J', nb, up, sky, na, os, ag, w⟩
    have J : Inv X pins σ' H' sI := J'.ofTry ok
    rw [show (X.tr (X.pn ++ pins) _).stack = X.env :: X.outer from hs] at sky
    refine Sky.land Zc.steady hfr hf sky fun h3 fl3 up3 => ?_
    have st3 := fl3.1
    have J3 : Inv X pins σ' H' { s' with heap := h3 } := J.landed nb st3 (up.trans up3) os ag
    obtain ⟨oe3, vs3, he3, hz3, hd3⟩ := fl3.there
    have nfr : a ∉ frs (X.env :: X.outer) := by
      intro hm
      obtain ⟨_, o', e', hnf⟩ := fl3.2.2.1.mem hm
      rw [he3] at e'
      cases e'
      exact hnf _ hd3
    have n0 : sI.heap.get? a = none := by
      cases e : sI.heap.get? a with
      | none => rfl
      | some o =>
        have z := nb a o e (by show a ∉ frs X.stack; rw [hs]; exact nfr)
        rw [fl3.2.1] at z
        cases z
    have go : ∀ {hds' : List ExceptHandler} {l' : List (Value × Option Nat × TS)}, HdsA X hds' l' → wManyA X.K Wout D l' cls d σ' H' → wpAny (model X.prog X.w) X.A (handleBy (.ref a) X.env hds') (SP X pins D) X.xe { s' with heap := h3 } := by
      have LT : PySem.W.Looks (model X.prog X.w) h3 (typeOf (.ref a)) cls := fun A Q E s k q => wpAny_typeOf_ref (k _ _ he3) (by rw [hz3.1]; exact q)
      have S3 := into_suiteA J3 a
      have test : ∀ {x : Str} {c : Value} {np : Pos} {Q : Value → Shared → Prop} {E : Value → Shared → Prop}, Names X x c → Q c { s' with heap := h3 } → wpAny (model X.prog X.w) (X.A.mark (some (.ref a))) (eval (.Name x np) X.env) Q E { s' with heap := h3 } := by
        rintro x c np Q E ⟨hg, hdbg, hm | ⟨hm, hv, hnn⟩⟩ q
        · exact ld_glob (X := suiteA X a) S3 hg hm q hdbg
        · exact ld_blt (X := suiteA X a) S3 hg hm hv q hnn hdbg
      have caught : ∀ (C : Addr), cls = .ref C → ∀ h4, HandSPX.FlyingZ B (X.env :: X.outer) a (Zc cls d) h4 → sI.heap.UpToSlots h4 → Inv X pins σ' (upd H' a (exk a C d)) { s' with heap := h4 } := by
        rintro C rfl h4 fl4 up4
        obtain ⟨oe4, vs4, he4, hz4, hd4⟩ := fl4.there
        exact landX J nb fl4.1 up4 os ag n0 na (exk_ok he4 hz4 hd4)
      intro hds' l' hk
      induction hk with
      | nil =>
        intro w
        refine wpAny_handleBy_nil ?_
        obtain ⟨k1, k2, k3, oe, vs, T, oT, ts', he, hz, hd, h1, hr⟩ := id fl3
        unfold PySem.passOn
        refine wpAny_bind (wpAny_field he hd h1 ?_)
        rw [if_neg (show ¬ ((Value.ref T == Value.none) = true) by simp)]
        have fin : wpAny (model X.prog X.w) X.A (setFlight (.ref a) X.env.frame) (fun _ s4 => wpAny (model X.prog X.w) X.A (throw (.ref a) : Sem Flow) (SP X pins D) X.xe s4) X.xe { s' with heap := h3 } := by
          rw [hf]
          exact HandSPX.setFlight_upZ fl3 fun h4 hh4 up4 => wpAny_throw (tk _ _ ⟨a, B, sI, pins, σ', H', cls, d, rfl, J, nb, (up.trans up3).trans up4, .inr (.inr (by rw [hs]; exact hh4)), na, os, ag, w⟩)
        first
          | exact wpAny_bind (wpAny_pure (wpAny_bind fin))
          | exact wpAny_bind fin
      | @plain x c ts b₀ suite np pos' hds2 l2 hc hsu r ih =>
        rintro ⟨b, hb1, hyes, hno⟩
        refine wpAny_handleBy_cons (codeAny_handlers_test (test hc ?_)) (fun q => nomatch q)
        refine (PySem.W.exm_one (M := model X.prog X.w) J3.kIn LT hb1).here ?_
        cases b with
        | false => exact ih (hno rfl)
        | true =>
          obtain ⟨C, hC, w2⟩ := hyes rfl a na
          refine codeAny_handlers_suite (HandSPX.lands_againZ fl3 fun h4 fl4 up4 => ?_)
          have J4 := caught C hC h4 fl4 ((up.trans up3).trans up4)
          refine wpAny_mono ((hsu a).run pins _ σ' _ _ (into_suiteA J4 a) w2) (fun f s6 hsp => ?_) fun _ _ z => False.elim z
          cases f with
          | next => obtain ⟨σ6, H6, S6, q6⟩ := hsp; exact ⟨_, _, outof_suiteA S6 ok, q6⟩
          | brk => obtain ⟨σ6, H6, S6, q6⟩ := hsp; exact ⟨_, _, outof_suiteA S6 ok, q6⟩
          | cont => obtain ⟨σ6, H6, S6, q6⟩ := hsp; exact ⟨_, _, outof_suiteA S6 ok, q6⟩
          | ret u => obtain ⟨v6, σ6, H6, S6, r6, q6⟩ := hsp; exact ⟨_, _, _, outof_suiteA S6 ok, r6, q6⟩
      | @bind x n i c ts b₀ suite np pos' hds2 l2 hc hN hi hln hsu r ih =>
        rintro ⟨b, hb1, hyes, hno⟩
        refine wpAny_handleBy_cons (codeAny_handlers_test (test hc ?_)) (fun q => nomatch q)
        refine (PySem.W.exm_one (M := model X.prog X.w) J3.kIn LT hb1).here ?_
        cases b with
        | false => exact ih (hno rfl)
        | true =>
          obtain ⟨C, hC, w2⟩ := hyes rfl a na
          refine codeAny_handlers_suite_as (HandSPX.lands_againZ fl3 fun h4 fl4 up4 => ?_)
          have J4 := caught C hC h4 fl4 ((up.trans up3).trans up4)
          refine store_ok (X := suiteA X a) (v := .ref a) (into_suiteA J4 a) hN hi (.inl hln) rfl (fun s5 S5 => ?_) (.inr hln)
          refine wpAny_mono ((hsu a).run pins s5 _ _ _ S5 w2) (fun f s6 hsp => ?_) fun _ _ z => False.elim z
          have end_ : ∀ {σ6 : L2.St} {H6 : Hp} {Q : Shared → Prop}, Inv (suiteA X a) pins σ6 H6 s6 → (∀ s7, Inv X pins (σ6.set i none) H6 s7 → Q s7) →
              wpAny (model X.prog X.w) X.A (do bindName X.env n .none; unbindBehindTheSuite X.env n pos') (fun _ s7 => Q s7) X.xe s6 := fun S6 hq => gone_ok (outof_suiteA S6 ok) hN hi hln hq
          cases f with
          | next => obtain ⟨σ6, H6, S6, q6⟩ := hsp; exact end_ S6 fun s7 J7 => ⟨_, _, J7, q6⟩
          | brk => obtain ⟨σ6, H6, S6, q6⟩ := hsp; exact end_ S6 fun s7 J7 => ⟨_, _, J7, q6⟩
          | cont => obtain ⟨σ6, H6, S6, q6⟩ := hsp; exact end_ S6 fun s7 J7 => ⟨_, _, J7, q6⟩
          | ret u => obtain ⟨v6, σ6, H6, S6, r6, q6⟩ := hsp; exact end_ S6 fun s7 J7 => ⟨_, _, _, J7, r6, q6⟩
    exact go hh w
  refine wpAny_mono ((hb (wManyA X.K Wout D l) (X.pn ++ pins) _ catch_ PassesOwn.looking).run [] s σ H D (I.toTry _) h) (fun f s1 hsp => ?_) fun e s1 he => he
  cases f with
  | next => obtain ⟨σ', H', J', q⟩ := hsp; exact wpAny_execs_nil ⟨σ', H', J'.ofTry ok, q⟩
  | brk => obtain ⟨σ', H', J', q⟩ := hsp; exact ⟨σ', H', J'.ofTry ok, q⟩
  | cont => obtain ⟨σ', H', J', q⟩ := hsp; exact ⟨σ', H', J'.ofTry ok, q⟩
  | ret u => obtain ⟨v, σ', H', J', r, q⟩ := hsp; exact ⟨v, σ', H', J'.ofTry ok, r, q⟩
end OD

/-! OD: values without a heap, a store of mutable cells, and what they stand for. -/
namespace OD
open PySem PySem.Spec L2
open PyProof.Rows hiding St

inductive D where
  | non | bl (b : Bool) | int (i : Int) | str (s : Str)
  | tup (ds : List D) | lst (ds : List D) | scr (ns : List Int)
  | obj (c : Str) (fs : List (Str × D))
  | own (k : Nat)
  | ty (n : String) | cls (c : Str)
  | exc (c : Str) (fs : List (Str × D))

inductive Cell where
  | lst (ds : List D) | ins (c : Str) (fs : List (Str × D)) | gone
  | dk (kvs : List (Key × D)) | dt (kvs : List (List Key × D))

abbrev Store := List Cell
abbrev DEnv := List (Option D)

/-- the addresses of classes, the written part -/
structure Ct where
  K : PySem.W.Frag
  ca : Str → Addr

section
variable (C : Ct) (F : Hp) (μ : List Addr)
mutual
def Rep : D → V → Prop
  | .non, v => v = .non
  | .bl b, v => v = .bl b
  | .int i, v => v = .int i
  | .str s, v => v = .str s
  | .tup ds, v => ∃ a vs, v = .ref a ∧ F a = some (.tup vs) ∧ Reps ds vs
  | .lst ds, v => ∃ a vs, v = .ref a ∧ F a = some (.lst vs) ∧ Reps ds vs
  | .scr ns, v => ∃ a, v = .ref a ∧ SqL C.K F a (ns.map V.int)
  | .obj c fs, v => ∃ a dx gs, v = .ref a ∧ F a = some (.ins (C.ca c) dx gs) ∧ RepF fs gs
  | .own k, v => ∃ a, v = .ref a ∧ μ[k]? = some a
  | .ty n, v => v = .ty n
  | .cls c, v => v = .ref (C.ca c)
  | .exc c fs, v => ∃ a gs, v = .ref a ∧ ExAt F a (C.ca c) gs ∧ RepF fs gs
def Reps : List D → List V → Prop
  | [], vs => vs = []
  | d :: ds, vs => ∃ v r, vs = v :: r ∧ Rep d v ∧ Reps ds r
def RepF : List (Str × D) → List (Str × V) → Prop
  | [], vs => vs = []
  | p :: ds, vs => ∃ v r, vs = (p.1, v) :: r ∧ Rep p.2 v ∧ RepF ds r
end
end

theorem tupS {K : PySem.W.Frag} {H H' : Hp} {a : Addr} {xs : List V} (e : Same H H') (h : H a = some (.tup xs)) : SqT K H' a xs := SqT.of (e _ _ h)
theorem SqT.same {K : PySem.W.Frag} {H H' : Hp} {a : Addr} {xs : List V} (e : Same H H') (h : SqT K H a xs) : SqT K H' a xs := by
  rcases h with (h | ⟨o, h⟩) | h
  · exact .inl (.inl (e _ _ h))
  · exact .inl (.inr ⟨o, e _ _ h⟩)
  · exact .inr h

section
variable {C : Ct} {F F' F'' : Hp} {μ μ' μ'' : List Addr}
theorem pre_get {α : Type} {l l' : List α} (h : l <+: l') {k : Nat} {a : α} (e : l[k]? = some a) : l'[k]? = some a := by
  obtain ⟨t, rfl⟩ := h
  have hk := (List.getElem?_eq_some_iff.mp e).1
  rw [List.getElem?_append_left hk]; exact e
mutual
theorem Rep.mono (hF : Same F F') (hm : μ <+: μ') : ∀ {d : D} {v : V}, Rep C F μ d v → Rep C F' μ' d v
  | .non, _, h => h
  | .bl _, _, h => h
  | .int _, _, h => h
  | .str _, _, h => h
  | .tup ds, v, h => by
    unfold Rep at h ⊢
    obtain ⟨a, vs, e, q, r⟩ := h
    exact ⟨a, vs, e, hF _ _ q, Reps.mono hF hm r⟩
  | .lst ds, v, h => by
    unfold Rep at h ⊢
    obtain ⟨a, vs, e, q, r⟩ := h
    exact ⟨a, vs, e, hF _ _ q, Reps.mono hF hm r⟩
  | .scr ns, v, h => by
    unfold Rep at h ⊢
    obtain ⟨a, e, q⟩ := h
    exact ⟨a, e, hF.seq q⟩
  | .obj c fs, v, h => by
    unfold Rep at h ⊢
    obtain ⟨a, dx, gs, e, q, r⟩ := h
    exact ⟨a, dx, gs, e, hF _ _ q, RepF.mono hF hm r⟩
  | .own k, v, h => by
    unfold Rep at h ⊢
    obtain ⟨a, e, q⟩ := h
    exact ⟨a, e, pre_get hm q⟩
  | .ty _, _, h => h
  | .cls _, _, h => h
  | .exc c fs, v, h => by
    unfold Rep at h ⊢
    obtain ⟨a, gs, e, q, r⟩ := h
    exact ⟨a, gs, e, ExAt.mono hF q, RepF.mono hF hm r⟩
theorem Reps.mono (hF : Same F F') (hm : μ <+: μ') : ∀ {ds : List D} {vs : List V}, Reps C F μ ds vs → Reps C F' μ' ds vs
  | [], _, h => h
  | d :: ds, vs, h => by
    unfold Reps at h ⊢
    obtain ⟨v, r, e, h1, h2⟩ := h
    exact ⟨v, r, e, Rep.mono hF hm h1, Reps.mono hF hm h2⟩
theorem RepF.mono (hF : Same F F') (hm : μ <+: μ') : ∀ {ds : List (Str × D)} {vs : List (Str × V)}, RepF C F μ ds vs → RepF C F' μ' ds vs
  | [], _, h => h
  | p :: ds, vs, h => by
    unfold RepF at h ⊢
    obtain ⟨v, r, e, h1, h2⟩ := h
    exact ⟨v, r, e, Rep.mono hF hm h1, RepF.mono hF hm h2⟩
end
theorem Reps.nil : Reps C F μ [] [] := by unfold Reps; rfl
theorem Reps.cons {d : D} {v : V} {ds : List D} {vs : List V} (h : Rep C F μ d v) (r : Reps C F μ ds vs) : Reps C F μ (d :: ds) (v :: vs) := by
  unfold Reps; exact ⟨v, vs, rfl, h, r⟩
theorem Reps.cons_iff {d : D} {ds : List D} {vs : List V} : Reps C F μ (d :: ds) vs ↔ ∃ v r, vs = v :: r ∧ Rep C F μ d v ∧ Reps C F μ ds r := by
  conv => lhs; unfold Reps
theorem Reps.nil_iff {vs : List V} : Reps C F μ [] vs ↔ vs = [] := by conv => lhs; unfold Reps
theorem Reps.length : ∀ {ds : List D} {vs : List V}, Reps C F μ ds vs → ds.length = vs.length
  | [], vs, h => by rw [Reps.nil_iff.mp h]; rfl
  | d :: ds, vs, h => by
    obtain ⟨v, r, rfl, h1, h2⟩ := Reps.cons_iff.mp h
    simp [Reps.length h2]
theorem Reps.get : ∀ {ds : List D} {vs : List V} {i : Nat} {d : D}, Reps C F μ ds vs → ds[i]? = some d → ∃ v, vs[i]? = some v ∧ Rep C F μ d v
  | [], _, _, _, _, e => by simp at e
  | d :: ds, vs, 0, x, h, e => by
    obtain ⟨v, r, rfl, h1, h2⟩ := Reps.cons_iff.mp h
    simp at e; subst e; exact ⟨v, rfl, h1⟩
  | d :: ds, vs, i + 1, x, h, e => by
    obtain ⟨v, r, rfl, h1, h2⟩ := Reps.cons_iff.mp h
    obtain ⟨u, h3, h4⟩ := Reps.get (i := i) h2 (by simpa using e)
    exact ⟨u, by simpa using h3, h4⟩
theorem Reps.getV : ∀ {ds : List D} {vs : List V} {i : Nat} {v : V}, Reps C F μ ds vs → vs[i]? = some v → ∃ d, ds[i]? = some d ∧ Rep C F μ d v
  | [], vs, _, _, h, e => by rw [Reps.nil_iff.mp h] at e; simp at e
  | d :: ds, vs, 0, x, h, e => by
    obtain ⟨v, r, rfl, h1, h2⟩ := Reps.cons_iff.mp h
    simp at e; subst e; exact ⟨d, rfl, h1⟩
  | d :: ds, vs, i + 1, x, h, e => by
    obtain ⟨v, r, rfl, h1, h2⟩ := Reps.cons_iff.mp h
    obtain ⟨u, h3, h4⟩ := Reps.getV (i := i) h2 (by simpa using e)
    exact ⟨u, by simpa using h3, h4⟩
theorem Reps.append : ∀ {ds es : List D} {vs ws : List V}, Reps C F μ ds vs → Reps C F μ es ws → Reps C F μ (ds ++ es) (vs ++ ws)
  | [], _, vs, _, h, k => by rw [Reps.nil_iff.mp h]; exact k
  | d :: ds, es, vs, ws, h, k => by
    obtain ⟨v, r, rfl, h1, h2⟩ := Reps.cons_iff.mp h
    exact Reps.cons h1 (Reps.append h2 k)
theorem Reps.set {d : D} {v : V} (q : Rep C F μ d v) : ∀ {ds : List D} {vs : List V} (i : Nat), Reps C F μ ds vs → Reps C F μ (ds.set i d) (vs.set i v)
  | [], vs, _, h => by rw [Reps.nil_iff.mp h]; exact Reps.nil
  | x :: ds, vs, 0, h => by
    obtain ⟨u, r, rfl, h1, h2⟩ := Reps.cons_iff.mp h
    exact Reps.cons q h2
  | x :: ds, vs, i + 1, h => by
    obtain ⟨u, r, rfl, h1, h2⟩ := Reps.cons_iff.mp h
    exact Reps.cons h1 (Reps.set q i h2)
theorem Reps.take : ∀ {ds : List D} {vs : List V} (n : Nat), Reps C F μ ds vs → Reps C F μ (ds.take n) (vs.take n)
  | [], vs, n, h => by rw [Reps.nil_iff.mp h]; simp [Reps.nil]
  | x :: ds, vs, 0, h => Reps.nil
  | x :: ds, vs, n + 1, h => by
    obtain ⟨u, r, rfl, h1, h2⟩ := Reps.cons_iff.mp h
    exact Reps.cons h1 (Reps.take n h2)
theorem Reps.drop : ∀ {ds : List D} {vs : List V} (n : Nat), Reps C F μ ds vs → Reps C F μ (ds.drop n) (vs.drop n)
  | [], vs, n, h => by rw [Reps.nil_iff.mp h]; simp [Reps.nil]
  | x :: ds, vs, 0, h => h
  | x :: ds, vs, n + 1, h => by
    obtain ⟨u, r, rfl, h1, h2⟩ := Reps.cons_iff.mp h
    exact Reps.drop n h2
theorem Reps.ints : ∀ (ns : List Int), Reps C F μ (ns.map D.int) (ns.map V.int)
  | [] => Reps.nil
  | n :: ns => Reps.cons (by unfold Rep; rfl) (Reps.ints ns)
theorem Reps.of_ints : ∀ {ns : List Int} {vs : List V}, Reps C F μ (ns.map D.int) vs → vs = ns.map V.int
  | [], vs, h => Reps.nil_iff.mp h
  | n :: ns, vs, h => by
    obtain ⟨v, r, rfl, h1, h2⟩ := Reps.cons_iff.mp h
    unfold Rep at h1
    rw [h1, Reps.of_ints h2]; rfl
theorem Rep.int_iff {i : Int} {v : V} : Rep C F μ (.int i) v ↔ v = .int i := by unfold Rep; exact Iff.rfl
theorem Rep.bl_iff {i : Bool} {v : V} : Rep C F μ (.bl i) v ↔ v = .bl i := by unfold Rep; exact Iff.rfl
theorem Rep.non_iff {v : V} : Rep C F μ .non v ↔ v = .non := by unfold Rep; exact Iff.rfl
theorem Rep.str_iff {i : Str} {v : V} : Rep C F μ (.str i) v ↔ v = .str i := by unfold Rep; exact Iff.rfl
theorem Rep.tup_iff {ds : List D} {v : V} : Rep C F μ (.tup ds) v ↔ ∃ a vs, v = .ref a ∧ F a = some (.tup vs) ∧ Reps C F μ ds vs := by conv => lhs; unfold Rep
theorem Rep.lst_iff {ds : List D} {v : V} : Rep C F μ (.lst ds) v ↔ ∃ a vs, v = .ref a ∧ F a = some (.lst vs) ∧ Reps C F μ ds vs := by conv => lhs; unfold Rep
theorem Rep.scr_iff {ds : List Int} {v : V} : Rep C F μ (.scr ds) v ↔ ∃ a, v = .ref a ∧ SqL C.K F a (ds.map V.int) := by conv => lhs; unfold Rep
theorem Rep.obj_iff {c : Str} {fs : List (Str × D)} {v : V} : Rep C F μ (.obj c fs) v ↔ ∃ a dx gs, v = .ref a ∧ F a = some (.ins (C.ca c) dx gs) ∧ RepF C F μ fs gs := by conv => lhs; unfold Rep
theorem Rep.exc_iff {c : Str} {fs : List (Str × D)} {v : V} : Rep C F μ (.exc c fs) v ↔ ∃ a gs, v = .ref a ∧ ExAt F a (C.ca c) gs ∧ RepF C F μ fs gs := by conv => lhs; unfold Rep
theorem Rep.own_iff {k : Nat} {v : V} : Rep C F μ (.own k) v ↔ ∃ a, v = .ref a ∧ μ[k]? = some a := by conv => lhs; unfold Rep
theorem Rep.ty_iff {n : String} {v : V} : Rep C F μ (.ty n) v ↔ v = .ty n := by unfold Rep; exact Iff.rfl
theorem Rep.cls_iff {c : Str} {v : V} : Rep C F μ (.cls c) v ↔ v = .ref (C.ca c) := by unfold Rep; exact Iff.rfl
end

/-! ### the state -/
/-- the entries of a dict -/
def RepK {κ : Type} (C : Ct) (F : Hp) (μ : List Addr) (kvs : List (κ × D)) (vs : List (κ × V)) : Prop := kvs.map (·.1) = vs.map (·.1) ∧ Reps C F μ (kvs.map (·.2)) (vs.map (·.2))
theorem RepK.mono {κ : Type} {C : Ct} {F F' : Hp} {μ μ' : List Addr} {kvs : List (κ × D)} {vs : List (κ × V)} (hF : Same F F') (hm : μ <+: μ') (h : RepK C F μ kvs vs) : RepK C F' μ' kvs vs := ⟨h.1, h.2.mono hF hm⟩
section
variable (C : Ct) (F : Hp) (μ : List Addr) (H : Hp)
def CellOk (a : Addr) : Cell → Prop
  | .gone => True
  | .lst ds => F a = none ∧ ∃ vs, H a = some (.lst vs) ∧ Reps C F μ ds vs
  | .ins c fs => F a = none ∧ ∃ dx gs, H a = some (.ins (C.ca c) dx gs) ∧ RepF C F μ fs gs
  | .dk kvs => F a = none ∧ ∃ vs, H a = some (.dK vs) ∧ RepK C F μ kvs vs
  | .dt kvs => F a = none ∧ ∃ vs, H a = some (.dT vs) ∧ RepK C F μ kvs vs
structure SR (S : Store) : Prop where
  sub : Same F H
  len : μ.length = S.length
  nd : μ.Nodup
  alive : ∀ a ∈ μ, (H a).isSome = true
  cell : ∀ (k : Nat) (c : Cell) (a : Addr), S[k]? = some c → μ[k]? = some a → CellOk C F μ H a c
end
/-- a later state -/
structure Ext (F : Hp) (μ : List Addr) (H : Hp) (F' : Hp) (μ' : List Addr) (H' : Hp) : Prop where
  f : Same F F'
  m : μ <+: μ'
  fr : ∀ a o, H a = some o → a ∉ μ → H' a = some o
  new : ∀ a, a ∈ μ' → a ∉ μ → H a = none
  newF : ∀ a o, F' a = some o → F a = none → H a = none ∨ a ∈ μ
theorem Ext.refl (F : Hp) (μ : List Addr) (H : Hp) : Ext F μ H F μ H := ⟨Same.refl F, List.prefix_refl μ, fun _ _ h _ => h, fun _ h k => absurd h k, fun _ _ h k => by rw [h] at k; cases k⟩
theorem Ext.trans {F F' F'' : Hp} {μ μ' μ'' : List Addr} {H H' H'' : Hp} (a : Ext F μ H F' μ' H') (b : Ext F' μ' H' F'' μ'' H'') : Ext F μ H F'' μ'' H'' where
  f := a.f.trans b.f
  m := a.m.trans b.m
  fr := fun c o h n => b.fr c o (a.fr c o h n) (fun q => by rw [a.new c q n] at h; cases h)
  new := fun c q n => by
    by_cases hc : c ∈ μ'
    · exact a.new c hc n
    · have h1 := b.new c q hc
      cases e : H c with
      | none => rfl
      | some o => rw [a.fr c o e n] at h1; cases h1
  newF := fun c o q n => by
    cases e : F' c with
    | some u => exact a.newF c u e n
    | none =>
      rcases b.newF c o q e with h1 | h1
      · by_cases hc : c ∈ μ
        · exact .inr hc
        · cases e2 : H c with
          | none => exact .inl rfl
          | some u => rw [a.fr c u e2 hc] at h1; cases h1
      · by_cases hc : c ∈ μ
        · exact .inr hc
        · exact .inl (a.new c h1 hc)
section
variable {C : Ct} {F F' F'' : Hp} {μ μ' μ'' : List Addr} {H H' H'' : Hp} {S S' : Store}
theorem Rep.ext (e : Ext F μ H F' μ' H') {d : D} {v : V} (h : Rep C F μ d v) : Rep C F' μ' d v := h.mono e.f e.m
theorem Reps.ext (e : Ext F μ H F' μ' H') {d : List D} {v : List V} (h : Reps C F μ d v) : Reps C F' μ' d v := h.mono e.f e.m
theorem RepF.ext (e : Ext F μ H F' μ' H') {d : List (Str × D)} {v : List (Str × V)} (h : RepF C F μ d v) : RepF C F' μ' d v := h.mono e.f e.m
def EnvR (C : Ct) (F : Hp) (μ : List Addr) (σ : St) (ρ : DEnv) : Prop := ρ.length = σ.length ∧ ∀ (i : Nat) (d : D), ρ[i]? = some (some d) → ∃ v, σ[i]? = some (some v) ∧ Rep C F μ d v
theorem EnvR.ext {σ : St} {ρ : DEnv} (e : Ext F μ H F' μ' H') (h : EnvR C F μ σ ρ) : EnvR C F' μ' σ ρ :=
  ⟨h.1, fun i d q => let ⟨v, h1, h2⟩ := h.2 i d q; ⟨v, h1, h2.ext e⟩⟩
theorem EnvR.set {σ : St} {ρ : DEnv} {d : D} {v : V} (h : EnvR C F μ σ ρ) (i : Nat) (r : Rep C F μ d v) : EnvR C F μ (σ.set i (some v)) (ρ.set i (some d)) := by
  refine ⟨by simp [h.1], fun j x q => ?_⟩
  by_cases hj : j = i
  · subst hj
    have hl : j < ρ.length := by
      have := (List.getElem?_eq_some_iff.mp q).1; simpa using this
    rw [List.getElem?_set_self hl] at q
    cases q
    exact ⟨v, List.getElem?_set_self (by rw [← h.1]; exact hl), r⟩
  · rw [List.getElem?_set_ne (Ne.symm hj)] at q
    obtain ⟨u, h1, h2⟩ := h.2 j x q
    exact ⟨u, by rw [List.getElem?_set_ne (Ne.symm hj)]; exact h1, h2⟩
theorem EnvR.unset {σ : St} {ρ : DEnv} (h : EnvR C F μ σ ρ) (i : Nat) : EnvR C F μ (σ.set i none) (ρ.set i none) := by
  refine ⟨by simp [h.1], fun j x q => ?_⟩
  by_cases hj : j = i
  · subst hj
    have hl : j < ρ.length := by
      have := (List.getElem?_eq_some_iff.mp q).1; simpa using this
    rw [List.getElem?_set_self hl] at q
    cases q
  · rw [List.getElem?_set_ne (Ne.symm hj)] at q
    obtain ⟨u, h1, h2⟩ := h.2 j x q
    exact ⟨u, by rw [List.getElem?_set_ne (Ne.symm hj)]; exact h1, h2⟩
theorem SR.notIn (s : SR C F μ H S) {a : Addr} (h : H a = none) : a ∉ μ := fun q => by
  have := s.alive a q; rw [h] at this; cases this
theorem SR.freeF (s : SR C F μ H S) {a : Addr} (h : H a = none) : F a = none := by
  cases e : F a with
  | none => rfl
  | some o => rw [s.sub a o e] at h; cases h
theorem CellOk.mono {a : Addr} {c : Cell} (hF : Same F F') (hm : μ <+: μ') (hn : F a = none → c ≠ .gone → F' a = none) (hH : ∀ o, H a = some o → H' a = some o) (k : CellOk C F μ H a c) : CellOk C F' μ' H' a c := by
  cases c with
  | gone => trivial
  | lst ds => obtain ⟨n, vs, h1, h2⟩ := k; exact ⟨hn n (by simp), vs, hH _ h1, h2.mono hF hm⟩
  | ins c fs => obtain ⟨n, dx, gs, h1, h2⟩ := k; exact ⟨hn n (by simp), dx, gs, hH _ h1, h2.mono hF hm⟩
  | dk kvs => obtain ⟨n, vs, h1, h2⟩ := k; exact ⟨hn n (by simp), vs, hH _ h1, h2.mono hF hm⟩
  | dt kvs => obtain ⟨n, vs, h1, h2⟩ := k; exact ⟨hn n (by simp), vs, hH _ h1, h2.mono hF hm⟩
/-- a new object that never changes -/
theorem SR.frz (s : SR C F μ H S) {p : Addr} {o : HO} (hp : H p = none) : SR C (upd F p o) μ (upd H p o) S ∧ Ext F μ H (upd F p o) μ (upd H p o) := by
  have hf := s.freeF hp
  have hm := s.notIn hp
  have sF : Same F (upd F p o) := fun b u e => by rw [upd_ne (ne_of_none e hf)]; exact e
  refine ⟨⟨fun b u e => ?_, s.len, s.nd, fun a ha => ?_, fun k c a e1 e2 => ?_⟩, ⟨sF, List.prefix_refl μ, fun a u e _ => by rw [upd_ne (ne_of_none e hp)]; exact e, fun _ h k => absurd h k, fun a u e n => by
    by_cases ha : a = p
    · subst ha; exact .inl hp
    · rw [upd_ne ha] at e; rw [e] at n; cases n⟩⟩
  · by_cases hb : b = p
    · subst hb; rw [upd_same] at e ⊢; exact e
    · rw [upd_ne hb] at e ⊢; exact s.sub b u e
  · have hap : a ≠ p := fun q => hm (q ▸ ha)
    rw [upd_ne hap]; exact s.alive a ha
  · have hap : a ≠ p := fun q => hm (q ▸ List.mem_of_getElem? e2)
    exact (s.cell k c a e1 e2).mono sF (List.prefix_refl μ) (fun n _ => by rw [upd_ne hap]; exact n) fun u e => by rw [upd_ne hap]; exact e
/-- other objects laid, that nobody looks at -/
theorem SR.junk (s : SR C F μ H S) {p : Addr} {o : HO} (hp : H p = none) : SR C F μ (upd H p o) S ∧ Ext F μ H F μ (upd H p o) := by
  have hm := s.notIn hp
  refine ⟨⟨fun b u e => ?_, s.len, s.nd, fun a ha => ?_, fun k c a e1 e2 => ?_⟩, ⟨Same.refl F, List.prefix_refl μ, fun a u e _ => by rw [upd_ne (ne_of_none e hp)]; exact e, fun _ h k => absurd h k, fun _ _ h k => by rw [h] at k; cases k⟩⟩
  · have := s.sub b u e
    rw [upd_ne (ne_of_none this hp)]; exact this
  · have hap : a ≠ p := fun q => hm (q ▸ ha)
    rw [upd_ne hap]; exact s.alive a ha
  · have hap : a ≠ p := fun q => hm (q ▸ List.mem_of_getElem? e2)
    exact (s.cell k c a e1 e2).mono (Same.refl F) (List.prefix_refl μ) (fun n _ => n) fun u e => by rw [upd_ne hap]; exact e
theorem get_snoc {α : Type} {l : List α} {a b : α} {k : Nat} (h : (l ++ [a])[k]? = some b) : (k < l.length ∧ l[k]? = some b) ∨ (k = l.length ∧ b = a) := by
  by_cases hk : k < l.length
  · rw [List.getElem?_append_left hk] at h; exact .inl ⟨hk, h⟩
  · rw [List.getElem?_append_right (by omega)] at h
    have := (List.getElem?_eq_some_iff.mp h).1
    simp at this
    have e : k = l.length := by omega
    subst e
    simp at h
    exact .inr ⟨rfl, h.symm⟩
/-- a new cell -/
theorem SR.cellNew (s : SR C F μ H S) {p : Addr} {o : HO} {c : Cell} (hp : H p = none) (hc : CellOk C F (μ ++ [p]) (upd H p o) p c) : SR C F (μ ++ [p]) (upd H p o) (S ++ [c]) ∧ Ext F μ H F (μ ++ [p]) (upd H p o) := by
  have hm := s.notIn hp
  have hf := s.freeF hp
  refine ⟨⟨fun b u e => ?_, by simp [s.len], ?_, fun a ha => ?_, fun k c' a e1 e2 => ?_⟩, ⟨Same.refl F, List.prefix_append μ [p], fun a u e _ => by rw [upd_ne (ne_of_none e hp)]; exact e, fun a h k => ?_, fun _ _ h k => by rw [h] at k; cases k⟩⟩
  · have := s.sub b u e
    rw [upd_ne (ne_of_none this hp)]; exact this
  · exact List.nodup_append.mpr ⟨s.nd, by simp, fun a ha b hb => by simp at hb; subst hb; exact fun q => hm (q ▸ ha)⟩
  · by_cases hap : a = p
    · subst hap; rw [upd_same]; rfl
    · rw [upd_ne hap]
      rcases List.mem_append.mp ha with q | q
      · exact s.alive a q
      · simp at q; exact absurd q hap
  · rcases get_snoc e1 with ⟨hk, e1⟩ | ⟨hk, rfl⟩
    · rcases get_snoc e2 with ⟨_, e2⟩ | ⟨hk2, _⟩
      · have hap : a ≠ p := fun q => hm (q ▸ List.mem_of_getElem? e2)
        exact (s.cell k c' a e1 e2).mono (Same.refl F) (List.prefix_append μ [p]) (fun n _ => n) fun u e => by rw [upd_ne hap]; exact e
      · rw [s.len] at hk2; omega
    · rcases get_snoc e2 with ⟨hk2, _⟩ | ⟨_, rfl⟩
      · rw [s.len] at hk2; omega
      · exact hc
  · rcases List.mem_append.mp h with q | q
    · exact absurd q k
    · simp at q; subst q; exact hp
/-- a cell's object is changed -/
theorem SR.put (s : SR C F μ H S) {k : Nat} {a : Addr} {o : HO} {c c' : Cell} (ek : S[k]? = some c) (ea : μ[k]? = some a) (hn : c ≠ .gone) (hc : F a = none → CellOk C F μ (upd H a o) a c') :
    SR C F μ (upd H a o) (S.set k c') ∧ Ext F μ H F μ (upd H a o) := by
  have k0 := s.cell k c a ek ea
  have fa : F a = none := by
    cases c with
    | gone => exact absurd rfl hn
    | lst ds => exact k0.1
    | ins c fs => exact k0.1
    | dk kvs => exact k0.1
    | dt kvs => exact k0.1
  have hmem := List.mem_of_getElem? ea
  refine ⟨⟨fun b u e => ?_, by simp [s.len], s.nd, fun b hb => ?_, fun j c2 b e1 e2 => ?_⟩, ⟨Same.refl F, List.prefix_refl μ, fun b u e n => ?_, fun _ h k => absurd h k, fun _ _ h k => by rw [h] at k; cases k⟩⟩
  · by_cases hb : b = a
    · subst hb; rw [fa] at e; cases e
    · rw [upd_ne hb]; exact s.sub b u e
  · by_cases hb' : b = a
    · subst hb'; rw [upd_same]; rfl
    · rw [upd_ne hb']; exact s.alive b hb
  · by_cases hj : j = k
    · subst hj
      rw [ea] at e2; cases e2
      have hl : j < S.length := (List.getElem?_eq_some_iff.mp ek).1
      rw [List.getElem?_set_self hl] at e1
      cases e1
      exact hc fa
    · rw [List.getElem?_set_ne (Ne.symm hj)] at e1
      have hb : b ≠ a := fun q => by
        subst q
        exact hj (nodup_get s.nd e2 ea)
      exact (s.cell j c2 b e1 e2).mono (Same.refl F) (List.prefix_refl μ) (fun n _ => n) fun u e => by rw [upd_ne hb]; exact e
  · have hb : b ≠ a := fun q => n (q ▸ hmem)
    rw [upd_ne hb]; exact e
where
  nodup_get {l : List Addr} (nd : l.Nodup) {i j : Nat} {a : Addr} (h1 : l[i]? = some a) (h2 : l[j]? = some a) : i = j := by
    obtain ⟨p1, q1⟩ := List.getElem?_eq_some_iff.mp h1
    obtain ⟨p2, q2⟩ := List.getElem?_eq_some_iff.mp h2
    exact (List.getElem_inj nd).mp (q1.trans q2.symm)
end
end OD

/-! OD2: the judgements over D, names, constants, operators, tests, displays, calls of built-ins. -/
namespace OD
open PySem PySem.Spec L2
open PyProof.Rows hiding St

theorem PE.imp {X : Cx} {e : Expr} {t t' : TE} (h : PE X e t) (k : ∀ σ H Q, t' σ H Q → t σ H Q) : PE X e t' := ⟨fun pins s σ H Q I q => h.run pins s σ H Q I (k σ H Q q)⟩
theorem PT.imp {X : Cx} {e : Expr} {t t' : TT} (h : PT X e t) (k : ∀ σ H Q, t' σ H Q → t σ H Q) : PT X e t' := ⟨fun pins s σ H Q I q => h.run pins s σ H Q I (k σ H Q q)⟩
theorem PW.imp {X : Cx} {e : Expr} {t t' : TT} (h : PW X e t) (k : ∀ σ H Q, t' σ H Q → t σ H Q) : PW X e t' := ⟨fun wh pins s σ H Q I q => h.run wh pins s σ H Q I (k σ H Q q)⟩
theorem PA.imp {X : Cx} {e : List Expr} {t t' : TA} (h : PA X e t) (k : ∀ σ H Q, t' σ H Q → t σ H Q) : PA X e t' := ⟨fun pos pins s σ H Q I q => h.run pos pins s σ H Q I (k σ H Q q)⟩
theorem PS.imp {X : Cx} {e : Stmt} {t t' : TS} (h : PS X e t) (k : ∀ D σ H, t' D σ H → t D σ H) : PS X e t' := ⟨fun pins s σ H D I q => h.run pins s σ H D I (k D σ H q)⟩
theorem PSs.imp {X : Cx} {e : List Stmt} {t t' : TS} (h : PSs X e t) (k : ∀ D σ H, t' D σ H → t D σ H) : PSs X e t' := ⟨fun pins s σ H D I q => h.run pins s σ H D I (k D σ H q)⟩

abbrev XcD := Str → List (Str × D) → Store → Prop
abbrev TD (B : Type) := DEnv → Store → (B → Store → Prop) → XcD → Prop
/-- an exception: its class, its own dict -/
def ExcR (C : Ct) (F : Hp) (μ : List Addr) (cls : Value) (dd : Option Addr) (c : Str) (fs : List (Str × D)) : Prop :=
  cls = .ref (C.ca c) ∧ ((dd = none ∧ fs = []) ∨ ∃ d gs, dd = some d ∧ F d = some (.xd gs) ∧ RepF C F μ fs gs)
theorem ExcR.ext {C : Ct} {F F' : Hp} {μ μ' : List Addr} {H H' : Hp} {cls : Value} {dd : Option Addr} {c : Str} {fs : List (Str × D)} (e : Ext F μ H F' μ' H') (h : ExcR C F μ cls dd c fs) : ExcR C F' μ' cls dd c fs := by
  obtain ⟨h1, h2⟩ := h
  refine ⟨h1, ?_⟩
  rcases h2 with h2 | ⟨d, gs, h2, h3, h4⟩
  · exact .inl h2
  · exact .inr ⟨d, gs, h2, e.f _ _ h3, h4.ext e⟩
/-- the reading of a D-reading -/
def lift {A B : Type} (C : Ct) (W : WX) (rel : Hp → List Addr → B → A → Prop) (t : TD B) : L2.St → Hp → (A → Hp → Prop) → Prop := fun σ H Q =>
  ∃ (F : Hp) (μ : List Addr) (ρ : DEnv) (S : Store) (R : B → Store → Prop) (Xc : XcD), EnvR C F μ σ ρ ∧ SR C F μ H S ∧ t ρ S R Xc ∧
    (∀ F' μ' H' v d S', Ext F μ H F' μ' H' → SR C F' μ' H' S' → rel F' μ' d v → R d S' → Q v H') ∧
    (∀ F' μ' H' cls dd c fs S', Ext F μ H F' μ' H' → SR C F' μ' H' S' → ExcR C F' μ' cls dd c fs → Xc c fs S' → W cls dd σ H')
abbrev rV (C : Ct) : Hp → List Addr → D → V → Prop := fun F μ d v => Rep C F μ d v
abbrev rVs (C : Ct) : Hp → List Addr → List D → List V → Prop := fun F μ d v => Reps C F μ d v
abbrev rB : Hp → List Addr → Bool → Bool → Prop := fun _ _ b c => b = c
abbrev rO : Hp → List Addr → Option Int → Option Int → Prop := fun _ _ b c => b = c
abbrev DE (X : Cx) (C : Ct) (W : WX) (e : Expr) (t : TD D) : Prop := PE X e (lift C W (rV C) t)
abbrev DT (X : Cx) (C : Ct) (W : WX) (e : Expr) (t : TD Bool) : Prop := PT X e (lift C W rB t)
abbrev DW (X : Cx) (C : Ct) (W : WX) (e : Expr) (t : TD Bool) : Prop := PW X e (lift C W rB t)
abbrev DA (X : Cx) (C : Ct) (W : WX) (e : List Expr) (t : TD (List D)) : Prop := PA X e (lift C W (rVs C) t)
abbrev DO (X : Cx) (C : Ct) (W : WX) (e : Option Expr) (t : TD (Option Int)) : Prop := PO X e (lift C W rO t)

section
variable {X : Cx} {C : Ct} {W : WX}
/-- one after another -/
theorem lift_bind {A B A' B' : Type} {rel : Hp → List Addr → B → A → Prop} {rel' : Hp → List Addr → B' → A' → Prop} {t : TD B} {u : B → TD B'} {σ : L2.St} {H : Hp} {Q : A' → Hp → Prop} {g : A → Hp → (A' → Hp → Prop) → Prop}
    (h : lift C W rel' (fun ρ S R Xc => t ρ S (fun d S1 => u d ρ S1 R Xc) Xc) σ H Q)
    (hg : ∀ F μ ρ H S d v R Xc, EnvR C F μ σ ρ → SR C F μ H S → rel F μ d v → u d ρ S R Xc →
      (∀ F' μ' H' v d S', Ext F μ H F' μ' H' → SR C F' μ' H' S' → rel' F' μ' d v → R d S' → Q v H') →
      (∀ F' μ' H' cls dd c fs S', Ext F μ H F' μ' H' → SR C F' μ' H' S' → ExcR C F' μ' cls dd c fs → Xc c fs S' → W cls dd σ H') → g v H Q) :
    lift C W rel t σ H fun v H1 => g v H1 Q := by
  obtain ⟨F, μ, ρ, S, R, Xc, e, s, h, hR, hX⟩ := h
  exact ⟨F, μ, ρ, S, _, Xc, e, s, h, fun F1 μ1 H1 v d S1 x1 s1 r1 h1 => hg F1 μ1 ρ H1 S1 d v R Xc (e.ext x1) s1 r1 h1
    (fun F2 μ2 H2 v2 d2 S2 x2 s2 r2 h2 => hR F2 μ2 H2 v2 d2 S2 (x1.trans x2) s2 r2 h2) (fun F2 μ2 H2 cls dd c fs S2 x2 s2 r2 h2 => hX F2 μ2 H2 cls dd c fs S2 (x1.trans x2) s2 r2 h2), hX⟩
theorem lift_of {A B : Type} {rel : Hp → List Addr → B → A → Prop} {t : TD B} {σ : L2.St} {H : Hp} {Q : A → Hp → Prop} {F : Hp} {μ : List Addr} {ρ : DEnv} {S : Store} {R : B → Store → Prop} {Xc : XcD}
    (e : EnvR C F μ σ ρ) (s : SR C F μ H S) (h : t ρ S R Xc) (hR : ∀ F' μ' H' v d S', Ext F μ H F' μ' H' → SR C F' μ' H' S' → rel F' μ' d v → R d S' → Q v H')
    (hX : ∀ F' μ' H' cls dd c fs S', Ext F μ H F' μ' H' → SR C F' μ' H' S' → ExcR C F' μ' cls dd c fs → Xc c fs S' → W cls dd σ H') : lift C W rel t σ H Q := ⟨F, μ, ρ, S, R, Xc, e, s, h, hR, hX⟩

/-! ### names, constants -/
def dVar (i : Nat) : TD D := fun ρ S Q _ => ∃ d, ρ[i]? = some (some d) ∧ Q d S
def dC (d : D) : TD D := fun _ S Q _ => Q d S
theorem de_var (i : Nat) {x : Str} {pos : Pos} (hN : X.N[i]? = some x := by rfl) (hv : Vis X.env.scope x := by first | exact Or.inl rfl | exact Or.inr (Or.inl rfl) | exact Or.inr (Or.inr rfl)) (hd : (x == ("__debug__" : Str)) = false := by decide)
    (hcd : (x == ("__classdict__" : Str)) = false := by decide) : DE X C W (.Name x pos) (dVar i) := PE.imp (pe_var hN hv hd hcd) fun σ H Q ⟨F, μ, ρ, S, R, Xc, e, s, ⟨d, h1, h⟩, hR, hX⟩ => by
  obtain ⟨v, h2, h3⟩ := e.2 i d h1
  exact ⟨v, h2, hR F μ H v d S (Ext.refl F μ H) s h3 h⟩
/-- a value that stands for itself -/
def Flat : D → V → Prop
  | .non, v => v = .non
  | .bl b, v => v = .bl b
  | .int b, v => v = .int b
  | .str b, v => v = .str b
  | .ty n, v => v = .ty n
  | _, _ => False
theorem Flat.rep {d : D} {v : V} (h : Flat d v) {F : Hp} {μ : List Addr} : Rep C F μ d v := by
  cases d <;> first | (exact False.elim h) | (unfold Rep; exact h)
theorem de_c {e : Expr} {d : D} {v : V} (h : PE X e (tC v)) (f : Flat d v) : DE X C W e (dC d) := PE.imp h fun σ H Q ⟨F, μ, ρ, S, R, Xc, e, s, h, hR, hX⟩ => hR F μ H v d S (Ext.refl F μ H) s f.rep h
theorem de_int {i j pos} : DE X C W (.Constant (.int i) j pos) (dC (.int i)) := de_c pe_int rfl
theorem de_bl {i j pos} : DE X C W (.Constant (.bool i) j pos) (dC (.bl i)) := de_c pe_bl rfl
theorem de_non {j pos} : DE X C W (.Constant .none j pos) (dC .non) := de_c pe_non rfl
theorem de_str {i j pos} : DE X C W (.Constant (.str i) j pos) (dC (.str i)) := de_c pe_str rfl
/-- a constant of the module -/
theorem de_glob {x : Str} {d : D} {v : V} {u : Value} {pos : Pos} (hm : X.mg x = some u) (r : RelV v u) (f : Flat d v) (hg : Gl X x := by rfl) (hd : (x == ("__debug__" : Str)) = false := by decide) : DE X C W (.Name x pos) (dC d) := de_c (pe_glob hg hm r hd) f

/-! ### operators by values -/
/-- what an operation on values does, over D -/
def Prim1 (C : Ct) (r : V → Hp → VK → Prop) (p : D → Store → (D → Store → Prop) → Prop) : Prop := ∀ F μ H S x dx R Q, SR C F μ H S → Rep C F μ dx x → p dx S R →
  (∀ F' μ' H' v d S', Ext F μ H F' μ' H' → SR C F' μ' H' S' → Rep C F' μ' d v → R d S' → Q v H') → r x H Q
def Prim2 (C : Ct) (r : R2) (p : D → D → Store → (D → Store → Prop) → Prop) : Prop := ∀ F μ H S x y dx dy R Q, SR C F μ H S → Rep C F μ dx x → Rep C F μ dy y → p dx dy S R →
  (∀ F' μ' H' v d S', Ext F μ H F' μ' H' → SR C F' μ' H' S' → Rep C F' μ' d v → R d S' → Q v H') → r x y H Q
def PrimN (C : Ct) (r : List V → Hp → VK → Prop) (p : List D → Store → (D → Store → Prop) → Prop) : Prop := ∀ F μ H S xs ds R Q, SR C F μ H S → Reps C F μ ds xs → p ds S R →
  (∀ F' μ' H' v d S', Ext F μ H F' μ' H' → SR C F' μ' H' S' → Rep C F' μ' d v → R d S' → Q v H') → r xs H Q
def PrimM (C : Ct) (r : V → List V → Hp → VK → Prop) (p : D → List D → Store → (D → Store → Prop) → Prop) : Prop := ∀ F μ H S x xs d ds R Q, SR C F μ H S → Rep C F μ d x → Reps C F μ ds xs → p d ds S R →
  (∀ F' μ' H' v d S', Ext F μ H F' μ' H' → SR C F' μ' H' S' → Rep C F' μ' d v → R d S' → Q v H') → r x xs H Q
abbrev P1 := D → Store → (D → Store → Prop) → Prop
abbrev P2 := D → D → Store → (D → Store → Prop) → Prop
abbrev PN := List D → Store → (D → Store → Prop) → Prop
def dOp (p : P2) (ta tb : TD D) : TD D := fun ρ S Q Xc => ta ρ S (fun x S1 => tb ρ S1 (fun y S2 => p x y S2 Q) Xc) Xc
def dUn (p : P1) (ta : TD D) : TD D := fun ρ S Q Xc => ta ρ S (fun x S1 => p x S1 Q) Xc
variable {a b c : Expr} {ta tb tc : TD D} {pos : Pos}
theorem tOp_of {r : R2} {p : P2} (hp : Prim2 C r p) {σ : L2.St} {H : Hp} {Q : VK} (h : lift C W (rV C) (dOp p ta tb) σ H Q) : tOp r (lift C W (rV C) ta) (lift C W (rV C) tb) σ H Q := by
  refine lift_bind (u := fun x ρ S Q Xc => tb ρ S (fun y S2 => p x y S2 Q) Xc) (g := fun x H1 Q => lift C W (rV C) tb σ H1 fun y H2 => r x y H2 Q) h fun F μ ρ H S x v R Xc e s rx hu hR hX => ?_
  exact lift_of e s hu (fun F1 μ1 H1 w y S1 x1 s1 r1 h1 => hp F1 μ1 H1 S1 v w x y R Q s1 (Rep.ext x1 rx) r1 h1 fun F2 μ2 H2 u z S2 x2 s2 r2 h2 => hR F2 μ2 H2 u z S2 (x1.trans x2) s2 r2 h2) hX
theorem de_op {op : Operator} {r : R2} {p : P2} (ho : OpR X (binaryOp op) r) (hp : Prim2 C r p) (ha : DE X C W a ta) (hb : DE X C W b tb) : DE X C W (.BinOp a op b pos) (dOp p ta tb) :=
  PE.imp (pe_op ho ha hb) fun _ _ _ h => tOp_of hp h
theorem de_cmp {op : CmpOp} {r : R2} {p : P2} (ho : OpR X (compareOp op) r) (hp : Prim2 C r p) (ha : DE X C W a ta) (hb : DE X C W b tb) (hm : behindInMarks op b = false := by first | exact nomark _ | rfl) : DE X C W (.Compare a [op] [b] pos) (dOp p ta tb) :=
  PE.imp (pe_cmpR ho ha hb hm) fun _ _ _ h => tOp_of hp h
theorem tUn_of {r : V → Hp → VK → Prop} {p : P1} (hp : Prim1 C r p) {σ : L2.St} {H : Hp} {Q : VK} (h : lift C W (rV C) (dUn p ta) σ H Q) : tUn r (lift C W (rV C) ta) σ H Q :=
  lift_bind (u := fun x _ S Q _ => p x S Q) (g := fun x H1 Q => r x H1 Q) h fun F μ ρ H S x v R Xc e s rx hu hR hX => hp F μ H S v x R Q s rx hu hR
theorem de_un {op : UnaryOp} {r : V → Hp → VK → Prop} {p : P1} (ho : UnR X (unaryOp op) r) (hp : Prim1 C r p) (ha : DE X C W a ta) : DE X C W (.UnaryOp op a pos) (dUn p ta) :=
  PE.imp (pe_un ho ha) fun _ _ _ h => tUn_of hp h
theorem de_ix {r : R2} {p : P2} (ho : IxR X r) (hp : Prim2 C r p) (ha : DE X C W a ta) (hb : DE X C W b tb) (hs : PlainIx b := by exact fun _ _ => rfl) : DE X C W (.Subscript a b pos) (dOp p ta tb) :=
  PE.imp (pe_ix ho ha hb hs) fun _ _ _ h => tOp_of hp h

/-! ### tests -/
/-- a bool, as a test -/
def dB (t : TD D) : TD Bool := fun ρ S Q Xc => t ρ S (fun x S1 => ∃ k, x = .bl k ∧ Q k S1) Xc
def dBack (t : TD Bool) : TD D := fun ρ S Q Xc => t ρ S (fun k S1 => Q (.bl k) S1) Xc
theorem lift_test {t : TD D} {σ : L2.St} {H : Hp} {Q : Bool → Hp → Prop} (h : lift C W rB (dB t) σ H Q) : lift C W (rV C) t σ H fun x H' => ∃ k, x = .bl k ∧ Q k H' := by
  refine lift_bind (u := fun (x : D) _ S Q _ => ∃ k, x = .bl k ∧ Q k S) (g := fun (x : V) H1 (Q : Bool → Hp → Prop) => ∃ k, x = .bl k ∧ Q k H1) h fun F μ ρ H S x v R Xc e s rx hu hR hX => ?_
  obtain ⟨k, rfl, hk⟩ := hu
  exact ⟨k, Rep.bl_iff.mp rx, hR F μ H k k S (Ext.refl F μ H) s rfl hk⟩
theorem dt_cmp {op : CmpOp} {r : R2} {p : P2} (ho : OpR X (compareOp op) r) (hp : Prim2 C r p) (ha : DE X C W a ta) (hb : DE X C W b tb) (hm : behindInMarks op b = false := by first | exact nomark _ | rfl) : DT X C W (.Compare a [op] [b] pos) (dB (dOp p ta tb)) := by
  refine PT.imp (pt_cmpR ho ha hb hm) fun σ H Q h => ?_
  show tOp r _ _ σ H fun x H' => ∃ k, x = .bl k ∧ Q k H'
  have h' := lift_test h
  exact tOp_of hp h'
def dChain (p p' : P2) (ta tb tc : TD D) : TD D := fun ρ S Q Xc => ta ρ S (fun x S1 => tb ρ S1 (fun y S2 => p x y S2 fun z S3 => ∃ k, z = .bl k ∧ (if k = true then tc ρ S3 (fun w S4 => p' y w S4 Q) Xc else Q (.bl false) S3)) Xc) Xc
theorem tChain_of {r r' : R2} {p p' : P2} (hp : Prim2 C r p) (hp' : Prim2 C r' p') {σ : L2.St} {H : Hp} {Q : VK} (h : lift C W (rV C) (dChain p p' ta tb tc) σ H Q) : tChain r r' (lift C W (rV C) ta) (lift C W (rV C) tb) (lift C W (rV C) tc) σ H Q := by
  refine lift_bind (u := fun x ρ S Q Xc => tb ρ S (fun y S2 => p x y S2 fun z S3 => ∃ k, z = .bl k ∧ (if k = true then tc ρ S3 (fun w S4 => p' y w S4 Q) Xc else Q (.bl false) S3)) Xc)
    (g := fun x H1 Q => lift C W (rV C) tb σ H1 fun y H2 => r x y H2 fun z H3 => ∃ k, z = .bl k ∧ (if k = true then lift C W (rV C) tc σ H3 fun w' H4 => r' y w' H4 Q else Q (.bl false) H3)) h fun F μ ρ H S x v R Xc e s rx hu hR hX => ?_
  refine lift_of e s hu (fun F1 μ1 H1 w y S1 x1 s1 r1 h1 => hp F1 μ1 H1 S1 v w x y _ _ s1 (Rep.ext x1 rx) r1 h1 fun F2 μ2 H2 u z S2 x2 s2 r2 h2 => ?_) hX
  obtain ⟨k, rfl, h2⟩ := h2
  refine ⟨k, Rep.bl_iff.mp r2, ?_⟩
  cases k with
  | false =>
    rw [if_neg Bool.false_ne_true] at h2 ⊢
    exact hR F2 μ2 H2 _ _ S2 (x1.trans x2) s2 (Rep.bl_iff.mpr rfl) h2
  | true =>
    rw [if_pos rfl] at h2 ⊢
    exact lift_of (e.ext (x1.trans x2)) s2 h2 (fun F3 μ3 H3 u3 z3 S3 x3 s3 r3 h3 => hp' F3 μ3 H3 S3 w u3 y z3 R Q s3 (Rep.ext (x2.trans x3) r1) r3 h3 fun F4 μ4 H4 u4 z4 S4 x4 s4 r4 h4 => hR F4 μ4 H4 u4 z4 S4 ((x1.trans x2).trans (x3.trans x4)) s4 r4 h4)
      fun F3 μ3 H3 cls dd c fs S3 x3 s3 r3 h3 => hX F3 μ3 H3 cls dd c fs S3 ((x1.trans x2).trans x3) s3 r3 h3
theorem de_chain {op op' : CmpOp} {r r' : R2} {p p' : P2} (ho : OpR X (compareOp op) r) (ho' : OpR X (compareOp op') r') (hp : Prim2 C r p) (hp' : Prim2 C r' p') (ha : DE X C W a ta) (hb : DE X C W b tb) (hc : DE X C W c tc) (hm : lastMarks [op, op'] [b, c] = false := by rfl) :
    DE X C W (.Compare a [op, op'] [b, c] pos) (dChain p p' ta tb tc) := PE.imp (pe_chain ho ho' ha hb hc hm) fun _ _ _ h => tChain_of hp hp' h
theorem dt_chain {op op' : CmpOp} {r r' : R2} {p p' : P2} (ho : OpR X (compareOp op) r) (ho' : OpR X (compareOp op') r') (hp : Prim2 C r p) (hp' : Prim2 C r' p') (ha : DE X C W a ta) (hb : DE X C W b tb) (hc : DE X C W c tc) (hm : lastMarks [op, op'] [b, c] = false := by rfl) :
    DT X C W (.Compare a [op, op'] [b, c] pos) (dB (dChain p p' ta tb tc)) := by
  refine PT.imp (pt_chain ho ho' ha hb hc hm) fun σ H Q h => ?_
  exact tChain_of hp hp' (lift_test h)
def dTru (p : D → Store → Option Bool) (ta : TD D) : TD Bool := fun ρ S Q Xc => ta ρ S (fun x S1 => ∃ k, p x S1 = some k ∧ Q k S1) Xc
/-- truth by kinds -/
def truD : D → Store → Option Bool
  | .non, _ => some false
  | .bl b, _ => some b
  | .int i, _ => some (i != 0)
  | .tup ds, _ => some (!ds.isEmpty)
  | .lst ds, _ => some (!ds.isEmpty)
  | .own k, S => match S[k]? with
    | some (.lst ds) => some (!ds.isEmpty)
    | _ => none
  | .str z, _ => if z.length ≤ sizeLine then some ((z.length : Int) != 0) else none
  | _, _ => none
theorem Reps.isEmpty {F : Hp} {μ : List Addr} {ds : List D} {vs : List V} (h : Reps C F μ ds vs) : vs.isEmpty = ds.isEmpty := by
  have := h.length
  cases ds <;> cases vs <;> simp_all
theorem truV_of {F : Hp} {μ : List Addr} {H : Hp} {S : Store} {d : D} {v : V} {k : Bool} (s : SR C F μ H S) (r : Rep C F μ d v) (h : truD d S = some k) : TruV C.K v H k := by
  cases d with
  | non => rw [Rep.non_iff] at r; subst r; have h := Option.some.inj h; subst h; rfl
  | bl b => rw [Rep.bl_iff] at r; subst r; have h := Option.some.inj h; subst h; rfl
  | int b => rw [Rep.int_iff] at r; subst r; have h := Option.some.inj h; subst h; rfl
  | str b =>
    rw [Rep.str_iff] at r; subst r; simp only [truD] at h
    split at h
    · rename_i hz; cases h; exact ⟨hz, rfl⟩
    · cases h
  | tup ds =>
    obtain ⟨a, vs, rfl, q, r2⟩ := Rep.tup_iff.mp r
    have h := Option.some.inj h; subst h
    exact .inr (.inl ⟨vs, tupS s.sub q, by rw [r2.isEmpty]⟩)
  | lst ds =>
    obtain ⟨a, vs, rfl, q, r2⟩ := Rep.lst_iff.mp r
    have h := Option.some.inj h; subst h
    exact .inl ⟨vs, SqL.of (s.sub _ _ q), by rw [r2.isEmpty]⟩
  | own j =>
    obtain ⟨a, rfl, q⟩ := Rep.own_iff.mp r
    simp only [truD] at h
    split at h
    · rename_i ds e
      cases h
      obtain ⟨_, vs, h1, h2⟩ := s.cell j _ a e q
      exact .inl ⟨vs, SqL.of h1, by rw [h2.isEmpty]⟩
    · cases h
  | scr ns => simp [truD] at h
  | obj c fs => simp [truD] at h
  | ty c => simp [truD] at h
  | cls c => simp [truD] at h
  | exc c fs => simp [truD] at h
theorem dt_tru (hK : X.K = C.K) (ha : DE X C W a ta) (he : ∀ whole, isTrue a X.env whole = (do let v ← whole; standAt a.pos; holding [v] (truthy v)) := by intro _; rfl) : DT X C W a (dTru truD ta) := by
  refine PT.imp (pt_truth ha he) fun σ H Q h => ?_
  refine lift_bind (u := fun x _ S Q _ => ∃ k, truD x S = some k ∧ Q k S) (g := fun x H1 (Q : Bool → Hp → Prop) => ∃ k, TruV X.K x H1 k ∧ Q k H1) h fun F μ ρ H S x v R Xc e s rx hu hR hX => ?_
  obtain ⟨k, h1, h2⟩ := hu
  exact ⟨k, by rw [hK]; exact truV_of s rx h1, hR F μ H k k S (Ext.refl F μ H) s rfl h2⟩
variable {A B : TD Bool} {rest : List Expr}
def dAnd (A B : TD Bool) : TD Bool := fun ρ S Q Xc => A ρ S (fun k S1 => if k = true then B ρ S1 Q Xc else Q false S1) Xc
def dOr (A B : TD Bool) : TD Bool := fun ρ S Q Xc => A ρ S (fun k S1 => if k = true then Q true S1 else B ρ S1 Q Xc) Xc
def dNot (A : TD Bool) : TD Bool := fun ρ S Q Xc => A ρ S (fun k S1 => Q (!k) S1) Xc
theorem dw_and1 (h : DT X C W a A) : DW X C W (.BoolOp .And [a] pos) A := pw_and1 h
theorem dw_or1 (h : DT X C W a A) : DW X C W (.BoolOp .Or [a] pos) A := pw_or1 h
theorem tAnd_of {σ : L2.St} {H : Hp} {Q : Bool → Hp → Prop} (h : lift C W rB (dAnd A B) σ H Q) : tAnd (lift C W rB A) (lift C W rB B) σ H Q := by
  refine lift_bind (u := fun k ρ S Q Xc => if k = true then B ρ S Q Xc else Q false S) (g := fun k H1 Q => if k = true then lift C W rB B σ H1 Q else Q false H1) h fun F μ ρ H S x v R Xc e s rx hu hR hX => ?_
  cases rx
  cases x with
  | true => exact lift_of e s hu hR hX
  | false => exact hR F μ H _ _ S (Ext.refl F μ H) s rfl hu
theorem tOr_of {σ : L2.St} {H : Hp} {Q : Bool → Hp → Prop} (h : lift C W rB (dOr A B) σ H Q) : tOr (lift C W rB A) (lift C W rB B) σ H Q := by
  refine lift_bind (u := fun k ρ S Q Xc => if k = true then Q true S else B ρ S Q Xc) (g := fun k H1 Q => if k = true then Q true H1 else lift C W rB B σ H1 Q) h fun F μ ρ H S x v R Xc e s rx hu hR hX => ?_
  cases rx
  cases x with
  | false => exact lift_of e s hu hR hX
  | true => exact hR F μ H _ _ S (Ext.refl F μ H) s rfl hu
theorem dw_and (ha : DT X C W a A) (hb : DW X C W (.BoolOp .And (b :: rest) pos) B) : DW X C W (.BoolOp .And (a :: b :: rest) pos) (dAnd A B) := PW.imp (pw_and ha hb) fun _ _ _ h => tAnd_of h
theorem dw_or (ha : DT X C W a A) (hb : DW X C W (.BoolOp .Or (b :: rest) pos) B) : DW X C W (.BoolOp .Or (a :: b :: rest) pos) (dOr A B) := PW.imp (pw_or ha hb) fun _ _ _ h => tOr_of h
theorem dt_w (h : DW X C W a A) : DT X C W a A := PW.pt h
theorem dt_not (h : DT X C W a A) : DT X C W (.UnaryOp .Not a pos) (dNot A) := PT.imp (pt_not h) fun σ H Q q => by
  refine lift_bind (u := fun k _ S Q _ => Q (!k) S) (g := fun k H1 (Q : Bool → Hp → Prop) => Q (!k) H1) q fun F μ ρ H S x v R Xc e s rx hu hR hX => ?_
  cases rx
  exact hR F μ H _ _ S (Ext.refl F μ H) s rfl hu
/-- and, or, not of bools, as values -/
def dAndV (ta tb : TD D) : TD D := fun ρ S Q Xc => ta ρ S (fun x S1 => ∃ k, x = .bl k ∧ if k = true then tb ρ S1 Q Xc else Q (.bl false) S1) Xc
def dOrV (ta tb : TD D) : TD D := fun ρ S Q Xc => ta ρ S (fun x S1 => ∃ k, x = .bl k ∧ if k = true then Q (.bl true) S1 else tb ρ S1 Q Xc) Xc
def dNotV (ta : TD D) : TD D := fun ρ S Q Xc => ta ρ S (fun x S1 => ∃ k, x = .bl k ∧ Q (.bl (!k)) S1) Xc
theorem de_one {op} (h : DE X C W a ta) : DE X C W (.BoolOp op [a] pos) ta := pe_one h
theorem de_and (ha : DE X C W a ta) (hb : DE X C W (.BoolOp .And (b :: rest) pos) tb) : DE X C W (.BoolOp .And (a :: b :: rest) pos) (dAndV ta tb) := PE.imp (pe_and ha hb) fun σ H Q h => by
  refine lift_bind (u := fun (x : D) ρ S Q Xc => ∃ k, x = .bl k ∧ if k = true then tb ρ S Q Xc else Q (.bl false) S) (g := fun (x : V) H1 Q => ∃ k, x = .bl k ∧ if k = true then lift C W (rV C) tb σ H1 Q else Q (.bl false) H1) h fun F μ ρ H S x v R Xc e s rx hu hR hX => ?_
  obtain ⟨k, rfl, hu⟩ := hu
  refine ⟨k, Rep.bl_iff.mp rx, ?_⟩
  cases k with
  | true => exact lift_of e s hu hR hX
  | false => exact hR F μ H _ _ S (Ext.refl F μ H) s (Rep.bl_iff.mpr rfl) hu
theorem de_or (ha : DE X C W a ta) (hb : DE X C W (.BoolOp .Or (b :: rest) pos) tb) : DE X C W (.BoolOp .Or (a :: b :: rest) pos) (dOrV ta tb) := PE.imp (pe_or ha hb) fun σ H Q h => by
  refine lift_bind (u := fun (x : D) ρ S Q Xc => ∃ k, x = .bl k ∧ if k = true then Q (.bl true) S else tb ρ S Q Xc) (g := fun (x : V) H1 Q => ∃ k, x = .bl k ∧ if k = true then Q (.bl true) H1 else lift C W (rV C) tb σ H1 Q) h fun F μ ρ H S x v R Xc e s rx hu hR hX => ?_
  obtain ⟨k, rfl, hu⟩ := hu
  refine ⟨k, Rep.bl_iff.mp rx, ?_⟩
  cases k with
  | false => exact lift_of e s hu hR hX
  | true => exact hR F μ H _ _ S (Ext.refl F μ H) s (Rep.bl_iff.mpr rfl) hu
theorem de_not (ha : DE X C W a ta) : DE X C W (.UnaryOp .Not a pos) (dNotV ta) := PE.imp (pe_not ha) fun σ H Q h => by
  refine lift_bind (u := fun (x : D) _ S Q _ => ∃ k, x = D.bl k ∧ Q (D.bl (!k)) S) (g := fun (x : V) H1 (Q : VK) => ∃ k, x = .bl k ∧ Q (.bl (!k)) H1) h fun F μ ρ H S x v R Xc e s rx hu hR hX => ?_
  obtain ⟨k, rfl, hu⟩ := hu
  exact ⟨k, Rep.bl_iff.mp rx, hR F μ H _ _ S (Ext.refl F μ H) s (Rep.bl_iff.mpr rfl) hu⟩
def dIfE (A : TD Bool) (ta tb : TD D) : TD D := fun ρ S Q Xc => A ρ S (fun k S1 => if k = true then ta ρ S1 Q Xc else tb ρ S1 Q Xc) Xc
theorem de_ife (hc : DT X C W c A) (ha : DE X C W a ta) (hb : DE X C W b tb) : DE X C W (.IfExp c a b pos) (dIfE A ta tb) := PE.imp (pe_ifExp hc ha hb) fun σ H Q h => by
  refine lift_bind (u := fun k ρ S Q Xc => if k = true then ta ρ S Q Xc else tb ρ S Q Xc) (g := fun k H1 Q => if k = true then lift C W (rV C) ta σ H1 Q else lift C W (rV C) tb σ H1 Q) h fun F μ ρ H S x v R Xc e s rx hu hR hX => ?_
  cases rx
  cases x with
  | true => exact lift_of e s hu hR hX
  | false => exact lift_of e s hu hR hX

/-! ### arguments, displays -/
def dNil : TD (List D) := fun _ S Q _ => Q [] S
def dCons (t : TD D) (u : TD (List D)) : TD (List D) := fun ρ S Q Xc => t ρ S (fun x S1 => u ρ S1 (fun xs S2 => Q (x :: xs) S2) Xc) Xc
variable {es : List Expr} {u : TD (List D)}
theorem da_nil : DA X C W [] dNil := PA.imp pa_nil fun σ H Q ⟨F, μ, ρ, S, R, Xc, e, s, h, hR, hX⟩ => hR F μ H [] [] S (Ext.refl F μ H) s Reps.nil h
theorem da_cons (ha : DE X C W a ta) (hr : DA X C W es u) (hs : starEach (a :: es) X.env = (false, eval a X.env) :: starEach es X.env := by rfl) : DA X C W (a :: es) (dCons ta u) := PA.imp (pa_cons ha hr hs) fun σ H Q h => by
  refine lift_bind (u := fun x ρ S Q Xc => u ρ S (fun xs S2 => Q (x :: xs) S2) Xc) (g := fun x H1 (Q : List V → Hp → Prop) => lift C W (rVs C) u σ H1 fun xs H2 => Q (x :: xs) H2) h fun F μ ρ H S x v R Xc e s rx hu hR hX => ?_
  exact lift_of e s hu (fun F1 μ1 H1 ws ys S1 x1 s1 r1 h1 => hR F1 μ1 H1 _ _ S1 x1 s1 (Reps.cons (Rep.ext x1 rx) r1) h1) hX
def dTup (u : TD (List D)) : TD D := fun ρ S Q Xc => u ρ S (fun xs S1 => xs.length ≤ sizeLine ∧ Q (.tup xs) S1) Xc
/-- a list, frozen or a cell -/
def mkL (o : Bool) (xs : List D) (S : Store) (Q : D → Store → Prop) : Prop := match o with
  | false => Q (.lst xs) S
  | true => Q (.own S.length) (S ++ [.lst xs])
def dLst (o : Bool) (u : TD (List D)) : TD D := fun ρ S Q Xc => u ρ S (fun xs S1 => xs.length ≤ sizeLine ∧ mkL o xs S1 Q) Xc
theorem mk_tup {F : Hp} {μ : List Addr} {H : Hp} {S : Store} {xs : List D} {vs : List V} {p : Addr} (s : SR C F μ H S) (r : Reps C F μ xs vs) (hp : H p = none) :
    ∃ F', Ext F μ H F' μ (upd H p (.tup vs)) ∧ SR C F' μ (upd H p (.tup vs)) S ∧ Rep C F' μ (.tup xs) (.ref p) := by
  obtain ⟨s1, x1⟩ := s.frz (p := p) (o := .tup vs) hp
  exact ⟨_, x1, s1, Rep.tup_iff.mpr ⟨p, vs, rfl, upd_same, r.ext x1⟩⟩
theorem mk_lst {o : Bool} {F : Hp} {μ : List Addr} {H : Hp} {S : Store} {xs : List D} {vs : List V} {p : Addr} {R : D → Store → Prop} {Q : V → Hp → Prop} (s : SR C F μ H S) (r : Reps C F μ xs vs) (hp : H p = none) (h : mkL o xs S R)
    (hR : ∀ F' μ' H' v d S', Ext F μ H F' μ' H' → SR C F' μ' H' S' → Rep C F' μ' d v → R d S' → Q v H') : Q (.ref p) (upd H p (.lst vs)) := by
  cases o with
  | false =>
    obtain ⟨s1, x1⟩ := s.frz (p := p) (o := .lst vs) hp
    exact hR _ μ _ _ _ S x1 s1 (Rep.lst_iff.mpr ⟨p, vs, rfl, upd_same, r.ext x1⟩) h
  | true =>
    obtain ⟨s1, x1⟩ := s.cellNew (p := p) (o := .lst vs) (c := .lst xs) hp ⟨s.freeF hp, vs, upd_same, r.mono (Same.refl F) (List.prefix_append μ [p])⟩
    exact hR F _ _ _ _ _ x1 s1 (Rep.own_iff.mpr ⟨p, rfl, by rw [← s.len]; simp⟩) h
theorem de_tup {k} (h : DA X C W es u) : DE X C W (.Tuple es k pos) (dTup u) := PE.imp (pe_tup h) fun σ H Q q => by
  refine lift_bind (u := fun (xs : List D) _ S Q _ => xs.length ≤ sizeLine ∧ Q (D.tup xs) S) (g := fun (xs : List V) H1 (Q : VK) => xs.length ≤ sizeLine ∧ ∀ p, H1 p = none → Q (.ref p) (upd H1 p (.tup xs))) q fun F μ ρ H S x v R Xc e s rx hu hR hX => ?_
  refine ⟨by rw [← rx.length]; exact hu.1, fun p hp => ?_⟩
  obtain ⟨F1, x1, s1, r1⟩ := mk_tup s rx hp
  exact hR _ _ _ _ _ _ x1 s1 r1 hu.2
theorem de_lst {o : Bool} (h : DA X C W es u) : DE X C W (.List es pos) (dLst o u) := PE.imp (pe_lst h) fun σ H Q q => by
  refine lift_bind (u := fun (xs : List D) _ S Q _ => xs.length ≤ sizeLine ∧ mkL o xs S Q) (g := fun (xs : List V) H1 (Q : VK) => xs.length ≤ sizeLine ∧ ∀ p, H1 p = none → Q (.ref p) (upd H1 p (.lst xs))) q fun F μ ρ H S x v R Xc e s rx hu hR hX => ?_
  exact ⟨by rw [← rx.length]; exact hu.1, fun p hp => mk_lst s rx hp hu.2 hR⟩

/-! ### calls of built-ins by their names -/
def dCB (p : PN) (u : TD (List D)) : TD D := fun ρ S Q Xc => u ρ S (fun xs S1 => p xs S1 Q) Xc
theorem tCB_of {r : List V → Hp → VK → Prop} {p : PN} (hp : PrimN C r p) {σ : L2.St} {H : Hp} {Q : VK} (h : lift C W (rV C) (dCB p u) σ H Q) : tCB r (lift C W (rVs C) u) σ H Q :=
  lift_bind (u := fun x _ S Q _ => p x S Q) (g := fun x H1 Q => r x H1 Q) h fun F μ ρ H S x v R Xc e s rx hu hR hX => hp F μ H S v x R Q s rx hu hR
variable {x : Str} {q : Pos} {id T : String} {r : List V → Hp → VK → Prop} {p : PN}
theorem de_callB (hc : CallR X (.builtin id) r) (hp : PrimN C r p) (hm : X.mg x = none) (ha : DA X C W (a :: es) u) (hv : bootBuiltins x = some (.builtin id) := by first | exact boot_len | decide +kernel) (hg : Gl X x := by rfl) (hn : x ≠ "__name__" := by decide) (hdb : (x == ("__debug__" : Str)) = false := by decide)
    (he : starEach (a :: es) X.env = (false, eval a X.env) :: starEach es X.env := by rfl) (hpl : (backTo pos (starEach es X.env)).any (·.1) = false := by rfl) : DE X C W (.Call (.Name x q) (a :: es) [] pos) (dCB p u) :=
  PE.imp (pe_callB hc hg hm hv ha hn hdb he hpl) fun _ _ _ h => tCB_of hp h
theorem de_callTy (hc : CallR X (.type T) r) (hp : PrimN C r p) (hm : X.mg x = none) (ha : DA X C W (a :: es) u) (hv : bootBuiltins x = some (.type T) := by decide +kernel) (hg : Gl X x := by rfl) (hn : x ≠ "__name__" := by decide) (hdb : (x == ("__debug__" : Str)) = false := by decide)
    (he : starEach (a :: es) X.env = (false, eval a X.env) :: starEach es X.env := by rfl) (hpl : (backTo pos (starEach es X.env)).any (·.1) = false := by rfl) : DE X C W (.Call (.Name x q) (a :: es) [] pos) (dCB p u) :=
  PE.imp (pe_callTy hc hg hm hv ha hn hdb he hpl) fun _ _ _ h => tCB_of hp h
end
end OD

/-! OD3: statements, targets, loops, comprehensions over D. -/
namespace OD
open PySem PySem.Spec L2
open PyProof.Rows hiding St

/-- what is wanted behind a statement, over D -/
structure EndsD where
  nx : DEnv → Store → Prop
  rt : D → Store → Prop
  bk : DEnv → Store → Prop := fun _ _ => False
  ct : DEnv → Store → Prop := fun _ _ => False
  ex : Str → List (Str × D) → DEnv → Store → Prop := fun _ _ _ _ => False
/-- another continuation; within a loop -/
def EndsD.wn (E : EndsD) (J : DEnv → Store → Prop) : EndsD := { E with nx := J }
def EndsD.lp (E : EndsD) (J : DEnv → Store → Prop) : EndsD := { E with nx := J, ct := J, bk := E.nx }
abbrev TSD := EndsD → DEnv → Store → Prop
structure EndOk (C : Ct) (W : WX) (F : Hp) (μ : List Addr) (H : Hp) (E : EndsD) (D : Ends) : Prop where
  nx : ∀ F' μ' H' σ' ρ' S', Ext F μ H F' μ' H' → EnvR C F' μ' σ' ρ' → SR C F' μ' H' S' → E.nx ρ' S' → D.nx σ' H'
  rt : ∀ F' μ' H' v d S', Ext F μ H F' μ' H' → SR C F' μ' H' S' → Rep C F' μ' d v → E.rt d S' → D.rt v H'
  bk : ∀ F' μ' H' σ' ρ' S', Ext F μ H F' μ' H' → EnvR C F' μ' σ' ρ' → SR C F' μ' H' S' → E.bk ρ' S' → D.bk σ' H'
  ct : ∀ F' μ' H' σ' ρ' S', Ext F μ H F' μ' H' → EnvR C F' μ' σ' ρ' → SR C F' μ' H' S' → E.ct ρ' S' → D.ct σ' H'
  ex : ∀ F' μ' H' σ' ρ' S' cls dd c fs, Ext F μ H F' μ' H' → EnvR C F' μ' σ' ρ' → SR C F' μ' H' S' → ExcR C F' μ' cls dd c fs → E.ex c fs ρ' S' → W cls dd σ' H'
theorem EndOk.ext {C : Ct} {W : WX} {F F1 : Hp} {μ μ1 : List Addr} {H H1 : Hp} {E : EndsD} {D : Ends} (k : EndOk C W F μ H E D) (x : Ext F μ H F1 μ1 H1) : EndOk C W F1 μ1 H1 E D :=
  ⟨fun F' μ' H' σ' ρ' S' y => k.nx F' μ' H' σ' ρ' S' (x.trans y), fun F' μ' H' v d S' y => k.rt F' μ' H' v d S' (x.trans y), fun F' μ' H' σ' ρ' S' y => k.bk F' μ' H' σ' ρ' S' (x.trans y), fun F' μ' H' σ' ρ' S' y => k.ct F' μ' H' σ' ρ' S' (x.trans y),
    fun F' μ' H' σ' ρ' S' cls dd c fs y => k.ex F' μ' H' σ' ρ' S' cls dd c fs (x.trans y)⟩
def liftS (C : Ct) (W : WX) (t : TSD) : TS := fun D σ H => ∃ (F : Hp) (μ : List Addr) (ρ : DEnv) (S : Store) (E : EndsD), EnvR C F μ σ ρ ∧ SR C F μ H S ∧ t E ρ S ∧ EndOk C W F μ H E D
abbrev DS (X : Cx) (C : Ct) (W : WX) (e : Stmt) (t : TSD) : Prop := PS X e (liftS C W t)
abbrev DSs (X : Cx) (C : Ct) (W : WX) (e : List Stmt) (t : TSD) : Prop := PSs X e (liftS C W t)
abbrev TGD := D → DEnv → Store → (DEnv → Store → Prop) → XcD → Prop
def liftG (C : Ct) (W : WX) (g : TGD) : TG := fun v σ H Q => ∃ (F : Hp) (μ : List Addr) (ρ : DEnv) (S : Store) (d : D) (R : DEnv → Store → Prop) (Xc : XcD), EnvR C F μ σ ρ ∧ SR C F μ H S ∧ Rep C F μ d v ∧ g d ρ S R Xc ∧
  (∀ F' μ' H' σ' ρ' S', Ext F μ H F' μ' H' → EnvR C F' μ' σ' ρ' → SR C F' μ' H' S' → R ρ' S' → Q σ' H') ∧
  (∀ F' μ' H' cls dd c fs S', Ext F μ H F' μ' H' → SR C F' μ' H' S' → ExcR C F' μ' cls dd c fs → Xc c fs S' → W cls dd σ H')
abbrev TGsD := List D → DEnv → Store → (DEnv → Store → Prop) → XcD → Prop
def liftGs (C : Ct) (W : WX) (g : TGsD) : TGs := fun v σ H Q => ∃ (F : Hp) (μ : List Addr) (ρ : DEnv) (S : Store) (d : List D) (R : DEnv → Store → Prop) (Xc : XcD), EnvR C F μ σ ρ ∧ SR C F μ H S ∧ Reps C F μ d v ∧ g d ρ S R Xc ∧
  (∀ F' μ' H' σ' ρ' S', Ext F μ H F' μ' H' → EnvR C F' μ' σ' ρ' → SR C F' μ' H' S' → R ρ' S' → Q σ' H') ∧
  (∀ F' μ' H' cls dd c fs S', Ext F μ H F' μ' H' → SR C F' μ' H' S' → ExcR C F' μ' cls dd c fs → Xc c fs S' → W cls dd σ H')
abbrev DG (X : Cx) (C : Ct) (W : WX) (e : Expr) (g : TGD) : Prop := PG X e (liftG C W g)
abbrev DGs (X : Cx) (C : Ct) (W : WX) (e : List Expr) (g : TGsD) : Prop := PGs X e (liftGs C W g)
theorem PG.imp {X : Cx} {e : Expr} {t t' : TG} (h : PG X e t) (k : ∀ v σ H Q, t' v σ H Q → t v σ H Q) : PG X e t' := ⟨fun pins s σ H v u Q I r q => h.run pins s σ H v u Q I r (k v σ H Q q)⟩
theorem PGs.imp {X : Cx} {e : List Expr} {t t' : TGs} (h : PGs X e t) (k : ∀ v σ H Q, t' v σ H Q → t v σ H Q) : PGs X e t' := ⟨fun pins s σ H v u Q I r q => h.run pins s σ H v u Q I r (k v σ H Q q)⟩
theorem PG.or {X : Cx} {e : Expr} {t t' : TG} (h : PG X e t) (h' : PG X e t') : PG X e (fun v σ H Q => t v σ H Q ∨ t' v σ H Q) := ⟨fun pins s σ H v u Q I r q => by
  rcases q with q | q
  · exact h.run pins s σ H v u Q I r q
  · exact h'.run pins s σ H v u Q I r q⟩

/-! ### cells that are no longer wanted -/
mutual
def ownLt (n : Nat) : D → Bool
  | .own k => decide (k < n)
  | .tup ds => ownLts n ds
  | .lst ds => ownLts n ds
  | .obj _ fs => ownLtF n fs
  | .exc _ fs => ownLtF n fs
  | _ => true
def ownLts (n : Nat) : List D → Bool
  | [] => true
  | d :: ds => ownLt n d && ownLts n ds
def ownLtF (n : Nat) : List (Str × D) → Bool
  | [] => true
  | p :: ds => ownLt n p.2 && ownLtF n ds
end
def cellLt (n : Nat) : Cell → Bool
  | .lst ds => ownLts n ds
  | .ins _ fs => ownLtF n fs
  | .gone => true
  | .dk kvs => ownLts n (kvs.map (·.2))
  | .dt kvs => ownLts n (kvs.map (·.2))
section
variable {C : Ct} {F F' F0 : Hp} {μ μ' μ0 : List Addr} {H H' H0 : Hp} {S S' S0 : Store}
mutual
theorem Rep.own : ∀ {d : D} {v : V}, Rep C F μ d v → ownLt μ.length d = true
  | .non, _, _ => by simp [ownLt]
  | .bl _, _, _ => by simp [ownLt]
  | .int _, _, _ => by simp [ownLt]
  | .str _, _, _ => by simp [ownLt]
  | .scr _, _, _ => by simp [ownLt]
  | .ty _, _, _ => by simp [ownLt]
  | .cls _, _, _ => by simp [ownLt]
  | .tup ds, v, h => by
    obtain ⟨a, vs, _, _, r⟩ := Rep.tup_iff.mp h
    simp only [ownLt]; exact Reps.own r
  | .lst ds, v, h => by
    obtain ⟨a, vs, _, _, r⟩ := Rep.lst_iff.mp h
    simp only [ownLt]; exact Reps.own r
  | .obj c fs, v, h => by
    obtain ⟨a, dx, gs, _, _, r⟩ := Rep.obj_iff.mp h
    simp only [ownLt]; exact RepF.own r
  | .exc c fs, v, h => by
    obtain ⟨a, gs, _, _, r⟩ := Rep.exc_iff.mp h
    simp only [ownLt]; exact RepF.own r
  | .own k, v, h => by
    obtain ⟨a, _, q⟩ := Rep.own_iff.mp h
    simp only [ownLt, decide_eq_true_eq]
    exact (List.getElem?_eq_some_iff.mp q).1
theorem Reps.own : ∀ {d : List D} {v : List V}, Reps C F μ d v → ownLts μ.length d = true
  | [], _, _ => by simp [ownLts]
  | d :: ds, v, h => by
    obtain ⟨x, r, rfl, h1, h2⟩ := Reps.cons_iff.mp h
    simp only [ownLts, Bool.and_eq_true]
    exact ⟨Rep.own h1, Reps.own h2⟩
theorem RepF.own : ∀ {d : List (Str × D)} {v : List (Str × V)}, RepF C F μ d v → ownLtF μ.length d = true
  | [], _, _ => by simp [ownLtF]
  | p :: ds, v, h => by
    unfold RepF at h
    obtain ⟨x, r, rfl, h1, h2⟩ := h
    simp only [ownLtF, Bool.and_eq_true]
    exact ⟨Rep.own h1, RepF.own h2⟩
end
mutual
theorem Rep.cut (hm : μ0 <+: μ) : ∀ {d : D} {v : V}, Rep C F μ d v → ownLt μ0.length d = true → Rep C F μ0 d v
  | .non, _, h, _ => by rw [Rep.non_iff] at h ⊢; exact h
  | .bl _, _, h, _ => by rw [Rep.bl_iff] at h ⊢; exact h
  | .int _, _, h, _ => by rw [Rep.int_iff] at h ⊢; exact h
  | .str _, _, h, _ => by rw [Rep.str_iff] at h ⊢; exact h
  | .scr _, _, h, _ => by rw [Rep.scr_iff] at h ⊢; exact h
  | .ty _, _, h, _ => by rw [Rep.ty_iff] at h ⊢; exact h
  | .cls _, _, h, _ => by rw [Rep.cls_iff] at h ⊢; exact h
  | .tup ds, v, h, k => by
    obtain ⟨a, vs, e, q, r⟩ := Rep.tup_iff.mp h
    simp only [ownLt] at k
    exact Rep.tup_iff.mpr ⟨a, vs, e, q, Reps.cut hm r k⟩
  | .lst ds, v, h, k => by
    obtain ⟨a, vs, e, q, r⟩ := Rep.lst_iff.mp h
    simp only [ownLt] at k
    exact Rep.lst_iff.mpr ⟨a, vs, e, q, Reps.cut hm r k⟩
  | .obj c fs, v, h, k => by
    obtain ⟨a, dx, gs, e, q, r⟩ := Rep.obj_iff.mp h
    simp only [ownLt] at k
    exact Rep.obj_iff.mpr ⟨a, dx, gs, e, q, RepF.cut hm r k⟩
  | .exc c fs, v, h, k => by
    obtain ⟨a, gs, e, q, r⟩ := Rep.exc_iff.mp h
    simp only [ownLt] at k
    exact Rep.exc_iff.mpr ⟨a, gs, e, q, RepF.cut hm r k⟩
  | .own j, v, h, k => by
    obtain ⟨a, e, q⟩ := Rep.own_iff.mp h
    simp only [ownLt, decide_eq_true_eq] at k
    obtain ⟨t, rfl⟩ := hm
    rw [List.getElem?_append_left k] at q
    exact Rep.own_iff.mpr ⟨a, e, q⟩
theorem Reps.cut (hm : μ0 <+: μ) : ∀ {d : List D} {v : List V}, Reps C F μ d v → ownLts μ0.length d = true → Reps C F μ0 d v
  | [], _, h, _ => by rw [Reps.nil_iff] at h ⊢; exact h
  | d :: ds, v, h, k => by
    obtain ⟨x, r, rfl, h1, h2⟩ := Reps.cons_iff.mp h
    simp only [ownLts, Bool.and_eq_true] at k
    exact Reps.cons (Rep.cut hm h1 k.1) (Reps.cut hm h2 k.2)
theorem RepF.cut (hm : μ0 <+: μ) : ∀ {d : List (Str × D)} {v : List (Str × V)}, RepF C F μ d v → ownLtF μ0.length d = true → RepF C F μ0 d v
  | [], _, h, _ => by unfold RepF at h ⊢; exact h
  | p :: ds, v, h, k => by
    unfold RepF at h ⊢
    obtain ⟨x, r, rfl, h1, h2⟩ := h
    simp only [ownLtF, Bool.and_eq_true] at k
    exact ⟨x, r, rfl, Rep.cut hm h1 k.1, RepF.cut hm h2 k.2⟩
end
/-- the cells behind those of S0 are let go -/
def Cut (S0 S S' : Store) : Prop := S' = S.take S0.length ∧ ∀ (k : Nat) (c : Cell), k < S0.length → S[k]? = some c → S0[k]? = some c ∨ cellLt S0.length c = true
theorem SR.cut (s0 : SR C F0 μ0 H0 S0) (x : Ext F0 μ0 H0 F μ H) (s : SR C F μ H S) (h : Cut S0 S S') : SR C F μ0 H S' ∧ Ext F0 μ0 H0 F μ0 H := by
  obtain ⟨rfl, h⟩ := h
  have hl : S0.length ≤ S.length := by rw [← s0.len, ← s.len]; exact x.m.length_le
  have hmem : ∀ a, a ∈ μ0 → a ∈ μ := fun a ha => x.m.subset ha
  refine ⟨⟨s.sub, by rw [s0.len, List.length_take]; exact (Nat.min_eq_left hl).symm, s0.nd, fun a ha => s.alive a (hmem a ha), fun k c a e1 e2 => ?_⟩, ⟨x.f, List.prefix_refl _, x.fr, fun a h1 h2 => absurd h1 h2, x.newF⟩⟩
  have hk : k < S0.length := by rw [← s0.len]; exact (List.getElem?_eq_some_iff.mp e2).1
  rw [List.getElem?_take, if_pos hk] at e1
  have ok := s.cell k c a e1 (pre_get x.m e2)
  have lt : cellLt μ0.length c = true := by
    rcases h k c hk e1 with z | z
    · have ok0 := s0.cell k c a z e2
      cases c with
      | gone => rfl
      | lst ds => obtain ⟨_, vs, _, r⟩ := ok0; exact r.own
      | ins c fs => obtain ⟨_, dx, gs, _, r⟩ := ok0; exact r.own
      | dk kvs => obtain ⟨_, vs, _, r⟩ := ok0; exact r.2.own
      | dt kvs => obtain ⟨_, vs, _, r⟩ := ok0; exact r.2.own
    · rw [s0.len]; exact z
  cases c with
  | gone => trivial
  | lst ds => obtain ⟨n, vs, h1, r⟩ := ok; exact ⟨n, vs, h1, r.cut x.m lt⟩
  | ins c fs => obtain ⟨n, dx, gs, h1, r⟩ := ok; exact ⟨n, dx, gs, h1, r.cut x.m lt⟩
  | dk kvs => obtain ⟨n, vs, h1, r⟩ := ok; exact ⟨n, vs, h1, r.1, r.2.cut x.m lt⟩
  | dt kvs => obtain ⟨n, vs, h1, r⟩ := ok; exact ⟨n, vs, h1, r.1, r.2.cut x.m lt⟩
theorem Cut.app (S0 L : Store) : Cut S0 (S0 ++ L) S0 := ⟨by simp, fun k c hk e => .inl (by rw [List.getElem?_append_left hk] at e; exact e)⟩
theorem Cut.refl (S0 : Store) : Cut S0 S0 S0 := ⟨by simp, fun k c hk e => .inl e⟩
theorem Cut.set (S0 L : Store) (j : Nat) (c : Cell) (h : cellLt S0.length c = true) : Cut S0 (S0.set j c ++ L) (S0.set j c) := ⟨by rw [List.take_append_of_le_length (by simp)]; rw [List.take_of_length_le (by simp)], fun k c' hk e => by
  rw [List.getElem?_append_left (by simpa using hk)] at e
  by_cases hj : j = k
  · subst hj
    rw [List.getElem?_set_self hk] at e
    cases e
    exact .inr h
  · rw [List.getElem?_set_ne hj] at e
    exact .inl e⟩
/-- at a turn's end: as it is, or with the turn's own cells let go -/
def Shr (ρ0 : DEnv) (S0 : Store) (ρ : DEnv) (S : Store) (ρ' : DEnv) (S' : Store) : Prop := (ρ' = ρ ∧ S' = S) ∨
  (Cut S0 S S' ∧ ρ'.length = ρ.length ∧ ∀ (i : Nat) (d : D), ρ'[i]? = some (some d) → ρ[i]? = some (some d) ∧ (ρ0[i]? = some (some d) ∨ ownLt S0.length d = true))
theorem Shr.keep {ρ0 : DEnv} {S0 : Store} {ρ : DEnv} {S : Store} : Shr ρ0 S0 ρ S ρ S := .inl ⟨rfl, rfl⟩
theorem shr_of {σ0 σ : L2.St} {ρ0 ρ ρ' : DEnv} (e0 : EnvR C F0 μ0 σ0 ρ0) (s0 : SR C F0 μ0 H0 S0) (x : Ext F0 μ0 H0 F μ H) (e : EnvR C F μ σ ρ) (s : SR C F μ H S) (h : Shr ρ0 S0 ρ S ρ' S') :
    ∃ μ1, Ext F0 μ0 H0 F μ1 H ∧ EnvR C F μ1 σ ρ' ∧ SR C F μ1 H S' := by
  rcases h with ⟨rfl, rfl⟩ | ⟨hc, hl, he⟩
  · exact ⟨μ, x, e, s⟩
  · obtain ⟨s1, x1⟩ := s0.cut x s hc
    refine ⟨μ0, x1, ⟨hl.trans e.1, fun i d q => ?_⟩, s1⟩
    obtain ⟨h1, h2⟩ := he i d q
    obtain ⟨v, h3, h4⟩ := e.2 i d h1
    refine ⟨v, h3, h4.cut x.m ?_⟩
    rcases h2 with z | z
    · obtain ⟨w, _, h6⟩ := e0.2 i d z
      exact h6.own
    · rw [s0.len]; exact z
end

section
variable {X : Cx} {C : Ct} {W : WX}
/-! ### targets -/
def gN (i : Nat) : TGD := fun d ρ S R _ => R (ρ.set i (some d)) S
theorem dg_name (i : Nat) {x : Str} {pos : Pos} (hN : X.N.Nodup) (hi : X.N[i]? = some x := by rfl) (hx : Loc X.env.scope x := by first | exact Or.inl rfl | exact Or.inr rfl) (hf : X.fn x = true ∨ X.env.scope.names.lookup x = some .local := by first | exact .inl rfl | exact .inr rfl | assumption) : DG X C W (.Name x pos) (gN i) :=
  PG.imp (pg_name hN hi hx hf) fun v σ H Q ⟨F, μ, ρ, S, d, R, Xc, e, s, r, h, hR, hX⟩ => hR F μ H _ _ S (Ext.refl F μ H) (e.set i r) s h
def gNil : TGsD := fun ds ρ S R _ => ds = [] ∧ R ρ S
def gCons (g : TGD) (gs : TGsD) : TGsD := fun ds ρ S R Xc => ∃ d r, ds = d :: r ∧ g d ρ S (fun ρ1 S1 => gs r ρ1 S1 R Xc) Xc
theorem dgs_nil : DGs X C W [] gNil := PGs.imp pgs_nil fun v σ H Q ⟨F, μ, ρ, S, d, R, Xc, e, s, r, ⟨h1, h⟩, hR, hX⟩ => by
  subst h1
  exact ⟨Reps.nil_iff.mp r, hR F μ H _ _ S (Ext.refl F μ H) e s h⟩
def gLook (g : TGD) : Prop := ∀ d ρ S R Xc Xc', g d ρ S R Xc → g d ρ S R Xc'
theorem dgs_cons {e : Expr} {es : List Expr} {g : TGD} {gs : TGsD} (hn : ∀ d ρ S R Xc, g d ρ S R Xc → g d ρ S R (fun _ _ _ => False)) (hns : ∀ d ρ S R Xc, gs d ρ S R Xc → gs d ρ S R (fun _ _ _ => False)) (h1 : DG X C W e g) (h2 : DGs X C W es gs)
    (hs : (assignEach (e :: es) X.env).map (·.2) = assign e X.env :: (assignEach es X.env).map (·.2) := by rfl) : DGs X C W (e :: es) (gCons g gs) :=
  PGs.imp (pgs_cons h1 h2 hs) fun v σ H Q ⟨F, μ, ρ, S, ds, R, Xc, e, s, r, ⟨d, tl, h0, h⟩, hR, hX⟩ => by
    subst h0
    obtain ⟨w, vs, rfl, r1, r2⟩ := Reps.cons_iff.mp r
    refine ⟨w, vs, rfl, F, μ, ρ, S, d, _, _, e, s, r1, hn _ _ _ _ _ h, fun F1 μ1 H1 σ1 ρ1 S1 x1 e1 s1 h1 => ?_, fun _ _ _ _ _ _ _ _ _ _ _ z => z.elim⟩
    exact ⟨F1, μ1, ρ1, S1, tl, R, _, e1, s1, Reps.ext x1 r2, hns _ _ _ _ _ h1, fun F2 μ2 H2 σ2 ρ2 S2 x2 e2 s2 h2 => hR F2 μ2 H2 σ2 ρ2 S2 (x1.trans x2) e2 s2 h2, fun _ _ _ _ _ _ _ _ _ _ _ z => z.elim⟩
/-- a tuple, or a list (frozen, or a cell) -/
def seqD : D → Store → Option (List D)
  | .tup ds, _ => some ds
  | .lst ds, _ => some ds
  | .own k, S => match S[k]? with
    | some (.lst ds) => some ds
    | _ => none
  | _, _ => none
theorem seqV_of {F : Hp} {μ : List Addr} {H : Hp} {S : Store} {d : D} {v : V} {ds : List D} (s : SR C F μ H S) (r : Rep C F μ d v) (h : seqD d S = some ds) : ∃ a vs, v = .ref a ∧ (SqL C.K H a vs ∨ SqT C.K H a vs) ∧ Reps C F μ ds vs := by
  cases d <;> simp only [seqD] at h <;> try (cases h)
  · obtain ⟨a, vs, rfl, q, r2⟩ := Rep.tup_iff.mp r
    exact ⟨a, vs, rfl, .inr (tupS s.sub q), r2⟩
  · obtain ⟨a, vs, rfl, q, r2⟩ := Rep.lst_iff.mp r
    exact ⟨a, vs, rfl, .inl (SqL.of (s.sub _ _ q)), r2⟩
  · rename_i k
    obtain ⟨a, rfl, q⟩ := Rep.own_iff.mp r
    split at h
    · rename_i ds' e
      cases h
      obtain ⟨_, vs, h1, h2⟩ := s.cell k _ a e q
      exact ⟨a, vs, rfl, .inl (SqL.of h1), h2⟩
    · cases h
def gT (n : Nat) (gs : TGsD) : TGD := fun d ρ S R Xc => ∃ ds, seqD d S = some ds ∧ ds.length = n ∧ gs ds ρ S R Xc
theorem dg_tup {es : List Expr} {k : Nat} {pos : Pos} {gs : TGsD} {n : Nat} (hK : X.K = C.K) (hc : X.calm = true) (h : DGs X C W es gs) (hn : (assignEach es X.env).length = n := by rfl) (hst : (assignEach es X.env).findIdx? (·.1) = none := by rfl) : DG X C W (.Tuple es k pos) (gT n gs) := by
  refine PG.imp (PG.or (pg_tup hc h hn hst) (pg_lst hc h hn hst)) fun v σ H Q ⟨F, μ, ρ, S, d, R, Xc, e, s, r, ⟨ds, h1, h2, hh⟩, hR, hX⟩ => ?_
  obtain ⟨a, vs, rfl, q, r2⟩ := seqV_of s r h1
  have hl : vs.length = n := by rw [← r2.length]; exact h2
  rcases q with q | q
  · exact .inr ⟨a, vs, rfl, by rw [hK]; exact q, hl, F, μ, ρ, S, ds, R, Xc, e, s, r2, hh, hR, hX⟩
  · exact .inl ⟨a, vs, rfl, by rw [hK]; exact q, hl, F, μ, ρ, S, ds, R, Xc, e, s, r2, hh, hR, hX⟩
/-- xs[i] = d, xs a cell -/
def setD (o i d : D) (S : Store) (Q : Store → Prop) : Prop := ∃ k ds j n, o = .own k ∧ S[k]? = some (.lst ds) ∧ i = .int j ∧ ixN ds.length j = some n ∧ Q (S.set k (.lst (ds.set n d)))
theorem set_of {F : Hp} {μ : List Addr} {H : Hp} {S : Store} {o i d : D} {vo vi v : V} {R : Store → Prop} {Q : Hp → Prop} (s : SR C F μ H S) (ro : Rep C F μ o vo) (ri : Rep C F μ i vi) (r : Rep C F μ d v) (h : setD o i d S R)
    (hR : ∀ H' S', Ext F μ H F μ H' → SR C F μ H' S' → R S' → Q H') : rSetL vo vi v H Q := by
  obtain ⟨k, ds, j, n, rfl, e, rfl, hn, h⟩ := h
  obtain ⟨a, rfl, q⟩ := Rep.own_iff.mp ro
  obtain ⟨_, vs, h1, h2⟩ := s.cell k _ a e q
  have hi := Rep.int_iff.mp ri
  subst hi
  refine ⟨a, vs, j, n, rfl, rfl, h1, by rw [← h2.length]; exact hn, ?_⟩
  obtain ⟨s1, x1⟩ := s.put (o := .lst (vs.set n v)) (c' := .lst (ds.set n d)) e q (by simp) fun hf => ⟨hf, _, upd_same, Reps.set r n h2⟩
  exact hR _ _ x1 s1 h
def gS (ta ti : TD D) : TGD := fun d ρ S R Xc => ta ρ S (fun o S1 => ti ρ S1 (fun i S2 => setD o i d S2 fun S3 => R ρ S3) Xc) Xc
theorem dg_sub {o i : Expr} {ta ti : TD D} {pos : Pos} (ho : DE X C W o ta) (hi : DE X C W i ti) (ha : ∀ v, assign (.Subscript o i pos) X.env v = (do
      let ov ← holding [v] (eval o X.env)
      let iv ← holding [v, ov] (eval i X.env)
      standAt pos
      holding [v, ov, iv] (setItem ov iv v)
      release [v, ov, iv] []) := by intro _; rfl) : DG X C W (.Subscript o i pos) (gS ta ti) :=
  PG.imp (pg_sub ho hi set_list ha) fun v σ H Q ⟨F, μ, ρ, S, d, R, Xc, e, s, r, h, hR, hX⟩ => by
    show lift C W (rV C) ta σ H fun o H1 => lift C W (rV C) ti σ H1 fun i H2 => rSetL o i v H2 fun H3 => Q σ H3
    refine lift_of e s h (fun F1 μ1 H1 vo o1 S1 x1 s1 r1 h1 => ?_) hX
    refine lift_of (e.ext x1) s1 h1 (fun F2 μ2 H2 vi i2 S2 x2 s2 r2 h2 => ?_) fun F2 μ2 H2 cls dd c fs S2 x2 s2 r2 h2 => hX F2 μ2 H2 cls dd c fs S2 (x1.trans x2) s2 r2 h2
    refine set_of s2 (Rep.ext x2 r1) r2 (Rep.ext (x1.trans x2) r) h2 fun H3 S3 x3 s3 h3 => hR F2 μ2 H3 σ ρ S3 ((x1.trans x2).trans x3) (e.ext ((x1.trans x2).trans x3)) s3 h3

/-! ### statements -/
def dNext : TSD := fun E ρ S => E.nx ρ S
def dSeq (t u : TSD) : TSD := fun E ρ S => ∃ J : DEnv → Store → Prop, t (E.wn J) ρ S ∧ ∀ ρ' S', J ρ' S' → u E ρ' S'
variable {st : Stmt} {rest : List Stmt} {t u : TSD} {a b c e : Expr} {ta tb : TD D} {pos : Pos}
theorem dss_nil : DSs X C W [] dNext := PSs.imp pss_nil fun D σ H ⟨F, μ, ρ, S, E, e, s, h, k⟩ => k.nx F μ H σ ρ S (Ext.refl F μ H) e s h
theorem dss_cons (h1 : DS X C W st t) (h2 : DSs X C W rest u) : DSs X C W (st :: rest) (dSeq t u) := PSs.imp (pss_cons h1 h2) fun D σ H ⟨F, μ, ρ, S, E, e, s, ⟨J, h, hJ⟩, k⟩ =>
  ⟨F, μ, ρ, S, _, e, s, h, ⟨fun F' μ' H' σ' ρ' S' x e' s' h' => ⟨F', μ', ρ', S', E, e', s', hJ ρ' S' h', k.ext x⟩, k.rt, k.bk, k.ct, k.ex⟩⟩
theorem dss_one (h1 : DS X C W st t) : DSs X C W [st] t := pss_one h1
theorem ds_pass : DS X C W (.Pass pos) dNext := PS.imp ps_pass fun D σ H ⟨F, μ, ρ, S, E, e, s, h, k⟩ => k.nx F μ H σ ρ S (Ext.refl F μ H) e s h
def dBreak : TSD := fun E ρ S => E.bk ρ S
def dCont : TSD := fun E ρ S => E.ct ρ S
theorem ds_break : DS X C W (.Break pos) dBreak := PS.imp ps_break fun D σ H ⟨F, μ, ρ, S, E, e, s, h, k⟩ => k.bk F μ H σ ρ S (Ext.refl F μ H) e s h
theorem ds_cont : DS X C W (.Continue pos) dCont := PS.imp ps_continue fun D σ H ⟨F, μ, ρ, S, E, e, s, h, k⟩ => k.ct F μ H σ ρ S (Ext.refl F μ H) e s h
theorem ds_doc {x j pos pos'} : DS X C W (.Expr (.Constant (.str x) j pos) pos') dNext := PS.imp ps_doc fun D σ H ⟨F, μ, ρ, S, E, e, s, h, k⟩ => k.nx F μ H σ ρ S (Ext.refl F μ H) e s h
/-- a way that is never taken -/
def dNever : TSD := fun _ _ _ => False
theorem ds_never : DS X C W st dNever := PS.imp ps_never fun D σ H ⟨F, μ, ρ, S, E, e, s, h, k⟩ => h
theorem dss_never {sts : List Stmt} : DSs X C W sts dNever := PSs.imp pss_never fun D σ H ⟨F, μ, ρ, S, E, e, s, h, k⟩ => h
theorem exOf {F : Hp} {μ : List Addr} {H : Hp} {E : EndsD} {D : Ends} {σ : L2.St} {ρ : DEnv} (k : EndOk C W F μ H E D) (e : EnvR C F μ σ ρ) :
    ∀ F' μ' H' cls dd c fs S', Ext F μ H F' μ' H' → SR C F' μ' H' S' → ExcR C F' μ' cls dd c fs → E.ex c fs ρ S' → W cls dd σ H' := fun F' μ' H' cls dd c fs S' x s' r' h' => k.ex F' μ' H' σ ρ S' cls dd c fs x (e.ext x) s' r' h'
def dDrop (ta : TD D) : TSD := fun E ρ S => ta ρ S (fun _ S1 => E.nx ρ S1) fun c fs S1 => E.ex c fs ρ S1
theorem ds_expr (he : DE X C W a ta) (hs : swapsWith a none pos.line X.env = pure false := by rfl) : DS X C W (.Expr a pos) (dDrop ta) := PS.imp (ps_expr he hs) fun D σ H ⟨F, μ, ρ, S, E, e, s, h, k⟩ =>
  lift_of e s h (fun F1 μ1 H1 v d S1 x1 s1 r1 h1 => k.nx F1 μ1 H1 σ ρ S1 x1 (e.ext x1) s1 h1) (exOf k e)
def dRet (ta : TD D) : TSD := fun E ρ S => ta ρ S (fun d S1 => E.rt d S1) fun c fs S1 => E.ex c fs ρ S1
theorem ds_ret (he : DE X C W a ta) : DS X C W (.Return (some a) pos) (dRet ta) := PS.imp (ps_ret he) fun D σ H ⟨F, μ, ρ, S, E, e, s, h, k⟩ =>
  lift_of e s h (fun F1 μ1 H1 v d S1 x1 s1 r1 h1 => k.rt F1 μ1 H1 v d S1 x1 s1 r1 h1) (exOf k e)
def dRetN : TSD := fun E ρ S => E.rt .non S
theorem ds_retN : DS X C W (.Return none pos) dRetN := PS.imp ps_retN fun D σ H ⟨F, μ, ρ, S, E, e, s, h, k⟩ => k.rt F μ H .non .non S (Ext.refl F μ H) s (Rep.non_iff.mpr rfl) h
def dAsg (ta : TD D) (g : TGD) : TSD := fun E ρ S => ta ρ S (fun d S1 => g d ρ S1 E.nx fun c fs S2 => E.ex c fs ρ S2) fun c fs S1 => E.ex c fs ρ S1
theorem tAsg_of {g : TGD} {D : Ends} {σ : L2.St} {H : Hp} (q : liftS C W (dAsg ta g) D σ H) : tAsg (lift C W (rV C) ta) (liftG C W g) D σ H := by
  obtain ⟨F, μ, ρ, S, E, e, s, h, k⟩ := q
  exact lift_of e s h (fun F1 μ1 H1 v d S1 x1 s1 r1 h1 => ⟨F1, μ1, ρ, S1, d, E.nx, _, e.ext x1, s1, r1, h1, fun F2 μ2 H2 σ2 ρ2 S2 x2 e2 s2 h2 => k.nx F2 μ2 H2 σ2 ρ2 S2 (x1.trans x2) e2 s2 h2, exOf (k.ext x1) (e.ext x1)⟩) (exOf k e)
theorem ds_asg {tg : Expr} {g : TGD} (he : DE X C W a ta) (hg : DG X C W tg g) (hs : swapsWithSole [tg] a pos.line X.env = pure false := by rfl) (hw : swappedStores [tg] a X.env = pure none := by rfl)
    (h1 : (assignEach [tg] X.env).map (·.2) = [assign tg X.env] := by rfl) : DS X C W (.Assign [tg] a pos) (dAsg ta g) := PS.imp (ps_asg he hg hs hw h1) fun D σ H q => tAsg_of q
theorem tAsgN_of {i : Nat} {D : Ends} {σ : L2.St} {H : Hp} (q : liftS C W (dAsg ta (gN i)) D σ H) : tAsg (lift C W (rV C) ta) (gName i) D σ H := by
  obtain ⟨F, μ, ρ, S, E, e, s, h, k⟩ := q
  exact lift_of e s h (fun F1 μ1 H1 v d S1 x1 s1 r1 h1 => k.nx F1 μ1 H1 _ _ S1 x1 ((e.ext x1).set i r1) s1 h1) (exOf k e)
theorem ds_set (i : Nat) {x : Str} {pos' : Pos} (hN : X.N.Nodup) (he : DE X C W a ta) (hi : X.N[i]? = some x := by rfl) (hx : Loc X.env.scope x := by first | exact Or.inl rfl | exact Or.inr rfl) (hs : swapsWith a (some (.Name x pos')) pos.line X.env = pure false := by rfl)
    (hf : X.fn x = true ∨ X.env.scope.names.lookup x = some .local := by first | exact .inl rfl | exact .inr rfl | assumption) : DS X C W (.Assign [.Name x pos'] a pos) (dAsg ta (gN i)) := PS.imp (ps_set hN hi hx he hs hf) fun D σ H q => tAsgN_of q
def dIf (A : TD Bool) (t u : TSD) : TSD := fun E ρ S => A ρ S (fun k S1 => if k = true then t E ρ S1 else u E ρ S1) fun c fs S1 => E.ex c fs ρ S1
theorem ds_if {A : TD Bool} {as bs : List Stmt} (hc : DT X C W c A) (ha : DSs X C W as t) (hb : DSs X C W bs u) : DS X C W (.If c as bs pos) (dIf A t u) := PS.imp (ps_if hc ha hb) fun D σ H ⟨F, μ, ρ, S, E, e, s, h, k⟩ =>
  lift_of e s h (fun F1 μ1 H1 b b' S1 x1 s1 r1 h1 => by
    cases r1
    cases b with
    | true => exact ⟨F1, μ1, ρ, S1, E, e.ext x1, s1, h1, k.ext x1⟩
    | false => exact ⟨F1, μ1, ρ, S1, E, e.ext x1, s1, h1, k.ext x1⟩) (exOf k e)
/-- x op= e -/
def dAug (i : Nat) (ta : TD D) (p : P2) : TSD := fun E ρ S => ∃ x, ρ[i]? = some (some x) ∧ ta ρ S (fun y S1 => p x y S1 fun z S2 => E.nx (ρ.set i (some z)) S2) fun c fs S1 => E.ex c fs ρ S1
theorem ds_aug (i : Nat) {x : Str} {op : Operator} {ti : TIp} {p : P2} {pos' : Pos} (hN : X.N.Nodup) (he : DE X C W a ta) (ho : PIp X op ti) (hp : Prim2 C ti p) (hi : X.N[i]? = some x := by rfl) (hx : Loc X.env.scope x := by first | exact Or.inl rfl | exact Or.inr rfl)
    (hf : X.fn x = true ∨ X.env.scope.names.lookup x = some .local := by first | exact .inl rfl | exact .inr rfl | assumption) : DS X C W (.AugAssign (.Name x pos') op a pos) (dAug i ta p) := PS.imp (ps_aug hN hi hx he ho hf) fun D σ H ⟨F, μ, ρ, S, E, e, s, ⟨x, h0, h⟩, k⟩ => by
  obtain ⟨v, h2, h3⟩ := e.2 i x h0
  refine ⟨v, h2, lift_of e s h (fun F1 μ1 H1 w d S1 x1 s1 r1 h1 => ?_) (exOf k e)⟩
  exact hp F1 μ1 H1 S1 v w x d _ _ s1 (Rep.ext x1 h3) r1 h1 fun F2 μ2 H2 z dz S2 x2 s2 r2 h2 => k.nx F2 μ2 H2 _ _ S2 (x1.trans x2) ((e.ext (x1.trans x2)).set i r2) s2 h2
/-- while, by an invariant with a measure -/
def dWhile (A : TD Bool) (t : TSD) : TSD := fun E ρ S => ∃ I : Nat → DEnv → Store → Prop, (∃ m, I m ρ S) ∧ ∀ m ρ S, I m ρ S →
  A ρ S (fun k S1 => if k = true then ∃ N : DEnv → Store → Prop, (∀ ρ' S', N ρ' S' → ∃ m' ρ3 S3, m' < m ∧ Shr ρ S ρ' S' ρ3 S3 ∧ I m' ρ3 S3) ∧ t (E.lp N) ρ S1 else E.nx ρ S1) fun c fs S1 => E.ex c fs ρ S1
theorem ds_while {A : TD Bool} {body : List Stmt} (hp : PassesOwn (model X.prog X.w) X.A X.env X.xe) (hc : DT X C W c A) (hb : DSs X C W body t) : DS X C W (.While c body [] pos) (dWhile A t) := PS.imp (ps_while hp hc hb) fun D σ H ⟨F, μ, ρ, S, E, e, s, ⟨I, ⟨m0, h0⟩, turn⟩, k⟩ => by
  refine ⟨fun m σ1 H1 => ∃ F1 μ1 ρ1 S1, Ext F μ H F1 μ1 H1 ∧ EnvR C F1 μ1 σ1 ρ1 ∧ SR C F1 μ1 H1 S1 ∧ I m ρ1 S1, ⟨m0, F, μ, ρ, S, Ext.refl F μ H, e, s, h0⟩, ?_⟩
  rintro m σ1 H1 ⟨F1, μ1, ρ1, S1, x1, e1, s1, i1⟩
  refine lift_of e1 s1 (turn m ρ1 S1 i1) (fun F2 μ2 H2 b b' S2 x2 s2 r2 h2 => ?_) (exOf (k.ext x1) e1)
  cases r2
  cases b with
  | false => exact k.nx F2 μ2 H2 σ1 ρ1 S2 (x1.trans x2) (e1.ext x2) s2 h2
  | true =>
    obtain ⟨N, hN, h2⟩ := h2
    rw [if_pos rfl]
    refine ⟨fun σ3 H3 => ∃ F3 μ3 ρ3 S3, Ext F1 μ1 H1 F3 μ3 H3 ∧ EnvR C F3 μ3 σ3 ρ3 ∧ SR C F3 μ3 H3 S3 ∧ N ρ3 S3, fun σ3 H3 ⟨F3, μ3, ρ3, S3, x3, e3, s3, n3⟩ => ?_, F2, μ2, ρ1, S2, _, e1.ext x2, s2, h2, ?_⟩
    · obtain ⟨m', ρ4, S4, hm, hs, i3⟩ := hN ρ3 S3 n3
      obtain ⟨μ4, x4, e4, s4⟩ := shr_of e1 s1 x3 e3 s3 hs
      exact ⟨m', hm, F3, μ4, ρ4, S4, x1.trans x4, e4, s4, i3⟩
    · have k2 := (k.ext (x1.trans x2))
      exact ⟨fun F3 μ3 H3 σ3 ρ3 S3 x3 e3 s3 h3 => ⟨F3, μ3, ρ3, S3, x2.trans x3, e3, s3, h3⟩, k2.rt, k2.nx, fun F3 μ3 H3 σ3 ρ3 S3 x3 e3 s3 h3 => ⟨F3, μ3, ρ3, S3, x2.trans x3, e3, s3, h3⟩, k2.ex⟩

/-! ### what is walked -/
/-- items, and what must hold of the store while they are walked -/
abbrev TID := TD (List D × (Store → Prop))
/-- an iterator gives these items -/
structure ItD (C : Ct) (F : Hp) (μ : List Addr) (J : It) (n : Nat) (items : List D) (G : Store → Prop) : Prop where
  go : ∀ i F' μ' H' S', i < n → Same F F' → μ <+: μ' → SR C F' μ' H' S' → G S' → J.go i H'
  stop : ∀ F' μ' H' S', Same F F' → μ <+: μ' → SR C F' μ' H' S' → G S' → J.stop n H'
  yld : ∀ i F' μ' H' S' x H2, i < n → Same F F' → μ <+: μ' → SR C F' μ' H' S' → G S' → J.yld i H' x H2 → ∃ F2 d, Ext F' μ' H' F2 μ' H2 ∧ SR C F2 μ' H2 S' ∧ items[i]? = some d ∧ Rep C F2 μ' d x
  len : items.length = n
def liftI (C : Ct) (W : WX) (t : TID) : TI := fun σ H Q =>
  ∃ (F : Hp) (μ : List Addr) (ρ : DEnv) (S : Store) (R : List D × (Store → Prop) → Store → Prop) (Xc : XcD), EnvR C F μ σ ρ ∧ SR C F μ H S ∧ t ρ S R Xc ∧
    (∀ F' μ' H' J items G S', Ext F μ H F' μ' H' → SR C F' μ' H' S' → ItD C F' μ' J items.length items G → R (items, G) S' → Q J H') ∧
    (∀ F' μ' H' cls dd c fs S', Ext F μ H F' μ' H' → SR C F' μ' H' S' → ExcR C F' μ' cls dd c fs → Xc c fs S' → W cls dd σ H')
abbrev DI (X : Cx) (C : Ct) (W : WX) (tg e : Expr) (t : TID) : Prop := PI X tg e (liftI C W t)
theorem PI.imp {X : Cx} {tg e : Expr} {t t' : TI} (h : PI X tg e t) (k : ∀ σ H Q, t' σ H Q → t σ H Q) : PI X tg e t' := ⟨fun pins s σ H Q I q => h.run pins s σ H Q I (k σ H Q q)⟩
def dFor (ti : TID) (g : TGD) (t : TSD) : TSD := fun E ρ S => ti ρ S (fun it S1 => ∃ I : Nat → DEnv → Store → Prop, I 0 ρ S1 ∧ ∀ i ρ S, I i ρ S → it.2 S ∧ (i = it.1.length → E.nx ρ S) ∧
  ∀ d, it.1[i]? = some d → g d ρ S (fun ρ1 S1 => t (E.lp fun ρ2 S2 => ∃ ρ3 S3, Shr ρ S ρ2 S2 ρ3 S3 ∧ I (i + 1) ρ3 S3) ρ1 S1) fun c fs S1 => E.ex c fs ρ S1) fun c fs S1 => E.ex c fs ρ S1
theorem tFor_of {wi : TI} {ti : TID} {g : TGD} (hw : ∀ σ H Q, liftI C W ti σ H Q → wi σ H Q) {D : Ends} {σ : L2.St} {H : Hp} (q : liftS C W (dFor ti g t) D σ H) : tFor wi (liftG C W g) (liftS C W t) D σ H := by
  obtain ⟨F, μ, ρ, S, E, e, s, h, k⟩ := q
  refine hw σ H _ ⟨F, μ, ρ, S, _, _, e, s, h, fun F1 μ1 H1 J items G S1 x1 s1 it h1 => ?_, exOf k e⟩
  obtain ⟨I, h0, hI⟩ := h1
  refine ⟨fun i m σ2 H2 => m = items.length - i ∧ i ≤ items.length ∧ ∃ F2 μ2 ρ2 S2, Ext F1 μ1 H1 F2 μ2 H2 ∧ EnvR C F2 μ2 σ2 ρ2 ∧ SR C F2 μ2 H2 S2 ∧ I i ρ2 S2, ⟨items.length, by simp, Nat.zero_le _, F1, μ1, ρ, S1, Ext.refl F1 μ1 H1, e.ext x1, s1, h0⟩, ?_⟩
  rintro i m σ2 H2 ⟨rfl, hi, F2, μ2, ρ2, S2, x2, e2, s2, i2⟩
  obtain ⟨hg, hend, hturn⟩ := hI i ρ2 S2 i2
  by_cases hlt : i < items.length
  · refine .inr ⟨it.go i F2 μ2 H2 S2 hlt x2.f x2.m s2 hg, fun σ3 H3 => ∃ F3 μ3 ρ3 S3, Ext F1 μ1 H1 F3 μ3 H3 ∧ EnvR C F3 μ3 σ3 ρ3 ∧ SR C F3 μ3 H3 S3 ∧ I (i + 1) ρ3 S3, fun σ3 H3 ⟨F3, μ3, ρ3, S3, x3, e3, s3, i3⟩ => ⟨items.length - (i + 1), by omega, rfl, hlt, F3, μ3, ρ3, S3, x3, e3, s3, i3⟩, fun x H3 hy => ?_⟩
    obtain ⟨F3, d, x3, s3, hd, r3⟩ := it.yld i F2 μ2 H2 S2 x H3 hlt x2.f x2.m s2 hg hy
    refine ⟨F3, μ2, ρ2, S2, d, _, _, e2.ext x3, s3, r3, hturn d hd, fun F4 μ4 H4 σ4 ρ4 S4 x4 e4 s4 h4 => ?_, exOf ((k.ext (x1.trans x2)).ext x3) (e2.ext x3)⟩
    have k4 := k.ext (((x1.trans x2).trans x3).trans x4)
    have fin : ∀ F5 μ5 H5 σ5 ρ5 S5, Ext F4 μ4 H4 F5 μ5 H5 → EnvR C F5 μ5 σ5 ρ5 → SR C F5 μ5 H5 S5 → (∃ ρ6 S6, Shr ρ2 S2 ρ5 S5 ρ6 S6 ∧ I (i + 1) ρ6 S6) → ∃ F6 μ6 ρ6 S6, Ext F1 μ1 H1 F6 μ6 H5 ∧ EnvR C F6 μ6 σ5 ρ6 ∧ SR C F6 μ6 H5 S6 ∧ I (i + 1) ρ6 S6 := fun F5 μ5 H5 σ5 ρ5 S5 x5 e5 s5 ⟨ρ6, S6, hs, h5⟩ => by
      obtain ⟨μ6, x6, e6, s6⟩ := shr_of e2 s2 (x3.trans (x4.trans x5)) e5 s5 hs
      exact ⟨F5, μ6, ρ6, S6, x2.trans x6, e6, s6, h5⟩
    exact ⟨F4, μ4, ρ4, S4, _, e4, s4, h4, ⟨fin, k4.rt, k4.nx, fin, k4.ex⟩⟩
  · have ei : i = items.length := by omega
    exact .inl ⟨by rw [ei]; exact it.stop F2 μ2 H2 S2 x2.f x2.m s2 hg, k.nx F2 μ2 H2 σ2 ρ2 S2 (x1.trans x2) e2 s2 (hend ei)⟩
theorem ds_for {tg iter : Expr} {body : List Stmt} {ti : TID} {g : TGD} (hp : PassesOwn (model X.prog X.w) X.A X.env X.xe) (hc : X.calm = true) (hi : DI X C W tg iter ti) (hg : DG X C W tg g) (hb : DSs X C W body t)
    (hs : ∀ x, foldedSetIterable iter X.env x = pure x := by intro _; rfl) : DS X C W (.For tg iter body [] pos) (dFor ti g t) := PS.imp (ps_for hp hc hi hg hb hs) fun D σ H q => tFor_of (fun _ _ _ z => z) q
/-- a sequence is walked -/
def iSeq (ta : TD D) : TID := fun ρ S Q Xc => ta ρ S (fun x S1 => ∃ ds, seqD x S1 = some ds ∧ Q (ds, fun S' => seqD x S' = some ds) S1) Xc
theorem pi_seq {X : Cx} {tg e : Expr} {ta : TE} (hl : PE X e ta) : PI X tg e (fun σ H R => ta σ H fun x H1 => ∃ a, x = .ref a ∧ (((∃ xs, SqL X.K H1 a xs) ∧ R (Itl X.K a) H1) ∨ ((∃ xs, SqT X.K H1 a xs) ∧ R (Itt X.K a) H1))) := by
  refine ⟨fun pins s σ H R I h => ?_⟩
  refine thn (hl.run pins s σ H _ I h) fun v s1 ⟨x, H1, I1, r1, q1⟩ => ?_
  obtain ⟨a, e, q⟩ := q1
  subst e
  cases r1
  rcases q with ⟨⟨xs, hq⟩, q⟩ | ⟨⟨xs, hq⟩, q⟩
  · obtain ⟨its, rv, p, hz⟩ := I1.list hq
    refine wpAny_pyIter_list p.isList ?_
    refine ⟨s1.heap.objs.size, [s1.heap.objs.size], _, _, H1, rfl, I1.kept (t' := s1.toks) fun b o e => Heap.get?_push_of_some _ e, turn_list a _, ⟨_, Heap.get?_push_size _ rfl, rfl, rfl⟩, fun b hb => ?_, q⟩
    have e : b = s1.heap.objs.size := by simpa using hb
    subst e
    exact I1.fpOk (Nat.le_refl _) (I1.hok.fresh (Nat.le_refl _))
  · obtain ⟨its, rv, p, hz⟩ := I1.tuple hq
    refine wpAny_pyIter_tuple (show s1.heap.IsTuple a its.toArray from p) ?_
    refine ⟨s1.heap.objs.size, [s1.heap.objs.size], _, _, H1, rfl, I1.kept (t' := s1.toks) fun b o e => Heap.get?_push_of_some _ e, turn_tuple a _, ⟨_, Heap.get?_push_size _ rfl, rfl, rfl⟩, fun b hb => ?_, q⟩
    have e : b = s1.heap.objs.size := by simpa using hb
    subst e
    exact I1.fpOk (Nat.le_refl _) (I1.hok.fresh (Nat.le_refl _))
theorem seq_at {F : Hp} {μ : List Addr} {H : Hp} {S : Store} {x : D} {v : V} {ds : List D} (s : SR C F μ H S) (r : Rep C F μ x v) (h : seqD x S = some ds) : ∃ a, v = .ref a ∧
    ((∀ F' μ' H' S', Same F F' → μ <+: μ' → SR C F' μ' H' S' → seqD x S' = some ds → ∃ vs, SqL C.K H' a vs ∧ Reps C F' μ' ds vs) ∨
     (∀ F' μ' H' S', Same F F' → μ <+: μ' → SR C F' μ' H' S' → seqD x S' = some ds → ∃ vs, SqT C.K H' a vs ∧ Reps C F' μ' ds vs)) := by
  cases x <;> simp only [seqD] at h <;> try (cases h)
  · obtain ⟨a, vs, rfl, q, r2⟩ := Rep.tup_iff.mp r
    exact ⟨a, rfl, .inr fun F' μ' H' S' hF hm s' _ => ⟨vs, tupS s'.sub (hF _ _ q), r2.mono hF hm⟩⟩
  · obtain ⟨a, vs, rfl, q, r2⟩ := Rep.lst_iff.mp r
    exact ⟨a, rfl, .inl fun F' μ' H' S' hF hm s' _ => ⟨vs, SqL.of (s'.sub _ _ (hF _ _ q)), r2.mono hF hm⟩⟩
  · rename_i k
    obtain ⟨a, rfl, q⟩ := Rep.own_iff.mp r
    refine ⟨a, rfl, .inl fun F' μ' H' S' hF hm s' h' => ?_⟩
    simp only [seqD] at h'
    split at h'
    · rename_i ds' e
      cases h'
      obtain ⟨_, vs, h1, h2⟩ := s'.cell k _ a e (pre_get hm q)
      exact ⟨vs, SqL.of h1, h2⟩
    · cases h'
theorem ItD.ofL {F : Hp} {μ : List Addr} {x : D} {ds : List D} {a : Addr} (h : ∀ F' μ' H' S', Same F F' → μ <+: μ' → SR C F' μ' H' S' → seqD x S' = some ds → ∃ vs, SqL C.K H' a vs ∧ Reps C F' μ' ds vs) : ItD C F μ (Itl C.K a) ds.length ds (fun S' => seqD x S' = some ds) := by
  refine ⟨fun i F' μ' H' S' hi hF hm s hg => ?_, fun F' μ' H' S' hF hm s hg => ?_, fun i F' μ' H' S' y H2 hi hF hm s hg hy => ?_, rfl⟩
  · obtain ⟨vs, q, r⟩ := h F' μ' H' S' hF hm s hg
    exact ⟨vs, vs[i]'(by rw [← r.length]; exact hi), q, by simp [r.length ▸ hi]⟩
  · obtain ⟨vs, q, r⟩ := h F' μ' H' S' hF hm s hg
    exact ⟨vs, q, by rw [r.length]; exact Nat.le_refl _⟩
  · obtain ⟨vs, q, r⟩ := h F' μ' H' S' hF hm s hg
    obtain ⟨rfl, hx⟩ := hy
    obtain ⟨d, h1, h2⟩ := r.getV (hx vs q)
    exact ⟨F', d, Ext.refl _ _ _, s, h1, h2⟩
theorem ItD.ofT {F : Hp} {μ : List Addr} {x : D} {ds : List D} {a : Addr} (h : ∀ F' μ' H' S', Same F F' → μ <+: μ' → SR C F' μ' H' S' → seqD x S' = some ds → ∃ vs, SqT C.K H' a vs ∧ Reps C F' μ' ds vs) : ItD C F μ (Itt C.K a) ds.length ds (fun S' => seqD x S' = some ds) := by
  refine ⟨fun i F' μ' H' S' hi hF hm s hg => ?_, fun F' μ' H' S' hF hm s hg => ?_, fun i F' μ' H' S' y H2 hi hF hm s hg hy => ?_, rfl⟩
  · obtain ⟨vs, q, r⟩ := h F' μ' H' S' hF hm s hg
    exact ⟨vs, vs[i]'(by rw [← r.length]; exact hi), q, by simp [r.length ▸ hi]⟩
  · obtain ⟨vs, q, r⟩ := h F' μ' H' S' hF hm s hg
    exact ⟨vs, q, by rw [r.length]; exact Nat.le_refl _⟩
  · obtain ⟨vs, q, r⟩ := h F' μ' H' S' hF hm s hg
    obtain ⟨rfl, hx⟩ := hy
    obtain ⟨d, h1, h2⟩ := r.getV (hx vs q)
    exact ⟨F', d, Ext.refl _ _ _, s, h1, h2⟩
theorem di_seq {tg : Expr} (hK : X.K = C.K) (ha : DE X C W a ta) : DI X C W tg a (iSeq ta) := PI.imp (pi_seq ha) fun σ H Q ⟨F, μ, ρ, S, R, Xc, e, s, h, hR, hX⟩ => by
  refine lift_of e s h (fun F1 μ1 H1 v x S1 x1 s1 r1 ⟨ds, h1, h2⟩ => ?_) hX
  obtain ⟨b, rfl, z⟩ := seq_at s1 r1 h1
  rw [hK]
  refine ⟨b, rfl, ?_⟩
  rcases z with z | z
  · obtain ⟨vs, q, r⟩ := z F1 μ1 H1 S1 (Same.refl _) (List.prefix_refl _) s1 h1
    exact .inl ⟨⟨vs, q⟩, hR F1 μ1 H1 _ ds _ S1 x1 s1 (ItD.ofL z) h2⟩
  · obtain ⟨vs, q, r⟩ := z F1 μ1 H1 S1 (Same.refl _) (List.prefix_refl _) s1 h1
    exact .inr ⟨⟨vs, q⟩, hR F1 μ1 H1 _ ds _ S1 x1 s1 (ItD.ofT z) h2⟩
/-- ranges -/
def intsFrom (lo : Int) (n : Nat) : List D := (List.range n).map fun i => D.int (lo + (i : Nat))
theorem intsFrom_get {lo : Int} {n i : Nat} (h : i < n) : (intsFrom lo n)[i]? = some (.int (lo + i)) := by
  unfold intsFrom; simp [h]
theorem intsFrom_len {lo : Int} {n : Nat} : (intsFrom lo n).length = n := by unfold intsFrom; simp
theorem ItD.rng {F : Hp} {μ : List Addr} {lo : Int} {n : Nat} : ItD C F μ (Itr lo n) (intsFrom lo n).length (intsFrom lo n) (fun _ => True) := by
  rw [intsFrom_len]
  exact ⟨fun i _ _ _ _ hi _ _ _ _ => hi, fun _ _ _ _ _ _ _ _ => Nat.le_refl _, fun i F' μ' H' S' y H2 hi hF hm s hg ⟨e1, e2⟩ => by subst e1; subst e2; exact ⟨F', _, Ext.refl _ _ _, s, intsFrom_get hi, Rep.int_iff.mpr rfl⟩, intsFrom_len⟩
def iRange1 (ta : TD D) : TID := fun ρ S Q Xc => ta ρ S (fun x S1 => ∃ j, x = .int j ∧ j < 2 ^ 62 ∧ -(2 ^ 62) ≤ j ∧ Q (intsFrom 0 j.toNat, fun _ => True) S1) Xc
theorem di_range1 {tg : Expr} {p : Pos} (hm : X.mg "range" = none) (ha : DE X C W a ta) (hs : starEach [a] X.env = [(false, eval a X.env)] := by rfl) (hg : Gl X "range" := by rfl) : DI X C W tg (.Call (.Name "range" p) [a] [] pos) (iRange1 ta) :=
  PI.imp (pi_range1 hg hm (pa_cons ha pa_nil hs) hs) fun σ H Q ⟨F, μ, ρ, S, R, Xc, e, s, h, hR, hX⟩ => by
    refine lift_of e s h (fun F1 μ1 H1 v x S1 x1 s1 r1 ⟨j, h1, h2, h3, h4⟩ => ?_) hX
    subst h1
    exact ⟨j, by rw [Rep.int_iff.mp r1], h3, h2, hR F1 μ1 H1 _ _ _ S1 x1 s1 ItD.rng h4⟩
def iRange2 (ta tb : TD D) : TID := fun ρ S Q Xc => ta ρ S (fun x S1 => tb ρ S1 (fun y S2 => ∃ i j, x = .int i ∧ y = .int j ∧ (-(2 ^ 62) ≤ i ∧ i < 2 ^ 62 ∧ -(2 ^ 62) ≤ j ∧ j < 2 ^ 62) ∧ Q (intsFrom i (j - i).toNat, fun _ => True) S2) Xc) Xc
theorem di_range2 {tg : Expr} {p : Pos} (hm : X.mg "range" = none) (ha : DE X C W a ta) (hb : DE X C W b tb) (hs : starEach [a, b] X.env = [(false, eval a X.env), (false, eval b X.env)] := by rfl) (hs2 : starEach [b] X.env = [(false, eval b X.env)] := by rfl) (hg : Gl X "range" := by rfl) :
    DI X C W tg (.Call (.Name "range" p) [a, b] [] pos) (iRange2 ta tb) :=
  PI.imp (pi_range2 hg hm (pa_cons ha (pa_cons hb pa_nil hs2) (by rw [hs, hs2])) hs hs2) fun σ H Q ⟨F, μ, ρ, S, R, Xc, e, s, h, hR, hX⟩ => by
    refine lift_of e s h (fun F1 μ1 H1 v x S1 x1 s1 r1 h1 => ?_) hX
    refine lift_of (e.ext x1) s1 h1 (fun F2 μ2 H2 w y S2 x2 s2 r2 ⟨i, j, h1, h2, h3, h4⟩ => ?_) fun F2 μ2 H2 cls dd c fs S2 x2 s2 r2 h2 => hX F2 μ2 H2 cls dd c fs S2 (x1.trans x2) s2 r2 h2
    subst h1; subst h2
    exact ⟨i, j, by rw [Rep.int_iff.mp r1, Rep.int_iff.mp r2], h3, hR F2 μ2 H2 _ _ _ S2 (x1.trans x2) s2 ItD.rng h4⟩
end
end OD

/-! OD4: comprehensions, defs and their calls over D. -/
namespace OD
open PySem PySem.Spec L2
open PyProof.Rows hiding St

/-! ### comprehensions -/
def wipeD (ρ : DEnv) : List Nat → DEnv
  | [] => ρ
  | v :: vs => (wipeD ρ vs).set v none
theorem EnvR.wipe {C : Ct} {F : Hp} {μ : List Addr} {σ : L2.St} {ρ : DEnv} (h : EnvR C F μ σ ρ) : ∀ vs : List Nat, EnvR C F μ (L2.wipe σ vs) (wipeD ρ vs)
  | [] => h
  | v :: vs => (EnvR.wipe h vs).unset v
theorem wipe_get {σ : L2.St} : ∀ {vs : List Nat} {i : Nat}, i ∉ vs → (L2.wipe σ vs)[i]? = σ[i]?
  | [], _, _ => rfl
  | v :: vs, i, h => by
    unfold L2.wipe
    rw [List.getElem?_set_ne (fun e => h (by simp [e]))]
    exact wipe_get fun z => h (by simp [z])
theorem wipe_at {σ : L2.St} : ∀ {vs : List Nat} {i : Nat}, i ∈ vs → i < σ.length → (L2.wipe σ vs)[i]? = some none
  | v :: vs, i, h, hl => by
    unfold L2.wipe
    by_cases e : v = i
    · subst e
      rw [List.getElem?_set_self (by rw [wipe_length]; exact hl)]
    · rw [List.getElem?_set_ne e]
      exact wipe_at (by rcases List.mem_cons.mp h with z | z; exact absurd z.symm e; exact z) hl
theorem wipe_set {σ : L2.St} {vs : List Nat} {i : Nat} {o : Option V} (h : i ∈ vs) : L2.wipe (σ.set i o) vs = L2.wipe σ vs := by
  apply List.ext_getElem?
  intro j
  by_cases hj : j ∈ vs
  · by_cases hl : j < σ.length
    · rw [wipe_at hj (by simpa using hl), wipe_at hj hl]
    · rw [List.getElem?_eq_none (by rw [wipe_length]; simp; omega), List.getElem?_eq_none (by rw [wipe_length]; omega)]
  · have hij : i ≠ j := fun e => hj (e ▸ h)
    rw [wipe_get hj, wipe_get hj, List.getElem?_set_ne hij]
theorem wipe_wipe {σ : L2.St} {vs : List Nat} : L2.wipe (L2.wipe σ vs) vs = L2.wipe σ vs := by
  apply List.ext_getElem?
  intro j
  by_cases hj : j ∈ vs
  · by_cases hl : j < σ.length
    · rw [wipe_at hj (by rw [wipe_length]; exact hl), wipe_at hj hl]
    · rw [List.getElem?_eq_none (by rw [wipe_length, wipe_length]; omega), List.getElem?_eq_none (by rw [wipe_length]; omega)]
  · rw [wipe_get hj]
/-- a comprehension's target over D: the new slots -/
abbrev GD := D → DEnv → Store → Option DEnv
def noX : XcD := fun _ _ _ => False
abbrev noW : WX := fun _ _ _ _ => False
def dLc (o : Bool) (ti : TID) (g : GD) (A : TD Bool) (te : TD D) (vs : List Nat) : TD D := fun ρ S Q Xc => ti ρ S (fun it S1 => ∃ I : Nat → List D → Store → Prop, I 0 [] S1 ∧ ∀ i acc S, I i acc S → it.2 S ∧ (i = it.1.length → mkL o acc S Q) ∧
  ∀ d, it.1[i]? = some d → ∃ ρ1, g d (wipeD ρ vs) S = some ρ1 ∧ A ρ1 S (fun k S2 => if k = true then te ρ1 S2 (fun y S3 => acc.length < sizeLine ∧ I (i + 1) (acc ++ [y]) S3) noX else I (i + 1) acc S2) noX) Xc
/-- what a target does: HandS's reading and ours -/
def TgOk (C : Ct) (vs : List Nat) (gh : TG) (g : GD) : Prop := ∀ F μ H S (σ : L2.St) ρ ρ1 x d (Q : L2.St → Hp → Prop), SR C F μ H S → EnvR C F μ (L2.wipe σ vs) ρ → Rep C F μ d x → g d ρ S = some ρ1 →
  (∀ σ2, EnvR C F μ σ2 ρ1 → L2.wipe σ2 vs = L2.wipe σ vs → Q σ2 H) → gh x (L2.wipe σ vs) H Q
theorem frz_late {C : Ct} {F F1 : Hp} {μ μ1 : List Addr} {H H1 : Hp} {S : Store} {D0 : Addr} {acc : List D} {vs : List V} (x : Ext F1 μ1 H1 F μ H) (s : SR C F μ H S) (h1 : H1 D0 = none) (hF : F D0 = none) (hm : D0 ∉ μ) (hD : H D0 = some (.lst vs)) (r : Reps C F μ acc vs) :
    Ext F1 μ1 H1 (upd F D0 (.lst vs)) μ H ∧ SR C (upd F D0 (.lst vs)) μ H S ∧ Rep C (upd F D0 (.lst vs)) μ (.lst acc) (.ref D0) := by
  have sF : Same F (upd F D0 (.lst vs)) := fun b u e => by rw [upd_ne (ne_of_none e hF)]; exact e
  refine ⟨⟨x.f.trans sF, x.m, x.fr, x.new, fun a u e n => ?_⟩, ⟨fun b u e => ?_, s.len, s.nd, s.alive, fun k c a e1 e2 => ?_⟩, Rep.lst_iff.mpr ⟨D0, vs, rfl, upd_same, r.mono sF (List.prefix_refl μ)⟩⟩
  · by_cases ha : a = D0
    · subst ha; exact .inl h1
    · rw [upd_ne ha] at e; exact x.newF a u e n
  · by_cases hb : b = D0
    · subst hb; rw [upd_same] at e; rw [hD]; exact e
    · rw [upd_ne hb] at e; exact s.sub b u e
  · have hap : a ≠ D0 := fun q => hm (q ▸ List.mem_of_getElem? e2)
    exact (s.cell k c a e1 e2).mono sF (List.prefix_refl μ) (fun n _ => by rw [upd_ne hap]; exact n) fun u e => e
theorem cell_late {C : Ct} {F F1 : Hp} {μ μ1 : List Addr} {H H1 : Hp} {S : Store} {D0 : Addr} {acc : List D} {vs : List V} (x : Ext F1 μ1 H1 F μ H) (s : SR C F μ H S) (h1 : H1 D0 = none) (hF : F D0 = none) (hm : D0 ∉ μ) (hD : H D0 = some (.lst vs)) (r : Reps C F μ acc vs) :
    Ext F1 μ1 H1 F (μ ++ [D0]) H ∧ SR C F (μ ++ [D0]) H (S ++ [.lst acc]) ∧ Rep C F (μ ++ [D0]) (.own S.length) (.ref D0) := by
  refine ⟨⟨x.f, x.m.trans (List.prefix_append μ [D0]), x.fr, fun a h n => ?_, x.newF⟩, ⟨s.sub, by simp [s.len], List.nodup_append.mpr ⟨s.nd, by simp, fun a ha b hb => by simp at hb; subst hb; exact fun q => hm (q ▸ ha)⟩, fun a ha => ?_, fun k c a e1 e2 => ?_⟩, Rep.own_iff.mpr ⟨D0, rfl, by rw [← s.len]; simp⟩⟩
  · rcases List.mem_append.mp h with q | q
    · exact x.new a q n
    · simp at q; subst q; exact h1
  · rcases List.mem_append.mp ha with q | q
    · exact s.alive a q
    · simp at q; subst q; rw [hD]; rfl
  · rcases get_snoc e1 with ⟨hk, e1⟩ | ⟨hk, rfl⟩
    · rcases get_snoc e2 with ⟨_, e2⟩ | ⟨hk2, _⟩
      · exact (s.cell k c a e1 e2).mono (Same.refl F) (List.prefix_append μ [D0]) (fun n _ => n) fun u e => e
      · rw [s.len] at hk2; omega
    · rcases get_snoc e2 with ⟨hk2, _⟩ | ⟨_, rfl⟩
      · rw [s.len] at hk2; omega
      · exact ⟨hF, vs, hD, r.mono (Same.refl F) (List.prefix_append μ [a])⟩
/-- an object that nobody looks at is changed -/
theorem SR.aside {C : Ct} {F : Hp} {μ : List Addr} {H : Hp} {S : Store} {D0 : Addr} {o : HO} (s : SR C F μ H S) (hF : F D0 = none) (hm : D0 ∉ μ) : SR C F μ (upd H D0 o) S := by
  refine ⟨fun b u e => ?_, s.len, s.nd, fun a ha => ?_, fun k c a e1 e2 => ?_⟩
  · rw [upd_ne (ne_of_none e hF)]; exact s.sub b u e
  · have hap : a ≠ D0 := fun q => hm (q ▸ ha)
    rw [upd_ne hap]; exact s.alive a ha
  · have hap : a ≠ D0 := fun q => hm (q ▸ List.mem_of_getElem? e2)
    exact (s.cell k c a e1 e2).mono (Same.refl F) (List.prefix_refl μ) (fun n _ => n) fun u e => by rw [upd_ne hap]; exact e
theorem Ext.aside {F F1 : Hp} {μ μ1 : List Addr} {H H1 : Hp} {D0 : Addr} {o : HO} (x : Ext F1 μ1 H1 F μ H) (h1 : H1 D0 = none) : Ext F1 μ1 H1 F μ (upd H D0 o) :=
  ⟨x.f, x.m, fun a u e n => by rw [upd_ne (ne_of_none e h1)]; exact x.fr a u e n, x.new, x.newF⟩
/-- it stays apart -/
theorem Ext.apart {F F1 : Hp} {μ μ1 : List Addr} {H H1 : Hp} {D0 : Addr} {o : HO} (x : Ext F1 μ1 H1 F μ H) (hD : H1 D0 = some o) (hF : F1 D0 = none) (hm : D0 ∉ μ1) : H D0 = some o ∧ F D0 = none ∧ D0 ∉ μ := by
  refine ⟨x.fr D0 o hD hm, ?_, fun z => ?_⟩
  · cases q : F D0 with
    | none => rfl
    | some u =>
      rcases x.newF D0 u q hF with z | z
      · rw [hD] at z; cases z
      · exact absurd z hm
  · have := x.new D0 z hm
    rw [hD] at this; cases this
section
variable {X : Cx} {C : Ct} {W : WX}
theorem tLc_of {o : Bool} {ti : TID} {g : GD} {gh : TG} {A : TD Bool} {te : TD D} {vs : List Nat} (hg : TgOk C vs gh g) {σ : L2.St} {H : Hp} {Q : VK} (q : lift C W (rV C) (dLc o ti g A te vs) σ H Q) :
    tLc (liftI C W ti) gh (lift C noW rB A) (lift C noW (rV C) te) vs σ H Q := by
  obtain ⟨F, μ, ρ, S, R, Xc, e, s, h, hR, hX⟩ := q
  refine ⟨F, μ, ρ, S, _, _, e, s, h, fun F1 μ1 H1 J items G S1 x1 s1 it h1 D0 hD => ?_, hX⟩
  obtain ⟨I, h0, hI⟩ := h1
  have hm1 : D0 ∉ μ1 := s1.notIn hD
  have hF1 : F1 D0 = none := s1.freeF hD
  refine ⟨fun i m H2 => m = items.length - i ∧ i ≤ items.length ∧ ∃ F2 μ2 S2 acc vacc, Ext F1 μ1 H1 F2 μ2 H2 ∧ SR C F2 μ2 H2 S2 ∧ I i acc S2 ∧ H2 D0 = some (.lst vacc) ∧ F2 D0 = none ∧ D0 ∉ μ2 ∧ Reps C F2 μ2 acc vacc,
    ⟨items.length, by simp, Nat.zero_le _, F1, μ1, S1, [], [], (Ext.refl _ _ _).aside hD, s1.aside hF1 hm1, h0, upd_same, hF1, hm1, Reps.nil⟩, ?_⟩
  rintro i m H2 ⟨rfl, hi, F2, μ2, S2, acc, vacc, x2, s2, i2, hD2, hF2, hm2, racc⟩
  obtain ⟨hg2, hend, hturn⟩ := hI i acc S2 i2
  by_cases hlt : i < items.length
  · refine .inr ⟨it.go i F2 μ2 H2 S2 hlt x2.f x2.m s2 hg2, fun H3 => ∃ F3 μ3 S3 acc' vacc', Ext F1 μ1 H1 F3 μ3 H3 ∧ SR C F3 μ3 H3 S3 ∧ I (i + 1) acc' S3 ∧ H3 D0 = some (.lst vacc') ∧ F3 D0 = none ∧ D0 ∉ μ3 ∧ Reps C F3 μ3 acc' vacc',
      fun H3 z => ⟨items.length - (i + 1), by omega, rfl, hlt, z⟩, fun x H3 hy => ?_⟩
    obtain ⟨F3, d, x3, s3, hd, r3⟩ := it.yld i F2 μ2 H2 S2 x H3 hlt x2.f x2.m s2 hg2 hy
    obtain ⟨ρ1, hρ, hA⟩ := hturn d hd
    have e3 : EnvR C F3 μ2 (L2.wipe σ vs) (wipeD ρ vs) := EnvR.ext (x1.trans (x2.trans x3)) (e.wipe vs)
    obtain ⟨hD3, hF3, hm3⟩ := x3.apart hD2 hF2 hm2
    refine hg F3 μ2 H3 S2 σ _ ρ1 x d _ s3 e3 r3 hρ fun σ2 e4 hw => ⟨hw, ?_⟩
    refine lift_of e4 s3 hA (fun F4 μ4 H4 b b' S4 x4 s4 r4 h4 => ?_) (fun _ _ _ _ _ _ _ _ _ _ _ z => z.elim)
    cases r4
    obtain ⟨hD4, hF4, hm4⟩ := x4.apart hD3 hF3 hm3
    cases b with
    | false => exact ⟨F4, μ4, S4, acc, vacc, (x2.trans x3).trans x4, s4, h4, hD4, hF4, hm4, racc.ext (x3.trans x4)⟩
    | true =>
      rw [if_pos rfl]
      refine lift_of (e4.ext x4) s4 h4 (fun F5 μ5 H5 w y S5 x5 s5 r5 ⟨h5, h6⟩ => ?_) (fun _ _ _ _ _ _ _ _ _ _ _ z => z.elim)
      obtain ⟨hD5, hF5, hm5⟩ := x5.apart hD4 hF4 hm4
      have rac5 : Reps C F5 μ5 acc vacc := racc.ext ((x3.trans x4).trans x5)
      exact ⟨vacc, hD5, by rw [← rac5.length]; exact h5, F5, μ5, S5, acc ++ [y], vacc ++ [w], ((x2.trans x3).trans (x4.trans x5)).aside hD, s5.aside hF5 hm5, h6, upd_same, hF5, hm5, Reps.append rac5 (Reps.cons r5 Reps.nil)⟩
  · have ei : i = items.length := by omega
    refine .inl ⟨by rw [ei]; exact it.stop F2 μ2 H2 S2 x2.f x2.m s2 hg2, ?_⟩
    have hend := hend ei
    cases o with
    | false =>
      obtain ⟨x6, s6, r6⟩ := frz_late x2 s2 hD hF2 hm2 hD2 racc
      exact hR _ _ _ _ _ _ (x1.trans x6) s6 r6 hend
    | true =>
      obtain ⟨x6, s6, r6⟩ := cell_late x2 s2 hD hF2 hm2 hD2 racc
      exact hR _ _ _ _ _ _ (x1.trans x6) s6 r6 hend
/-- for x in .. -/
def g1 (i : Nat) : GD := fun d ρ _ => some (ρ.set i (some d))
theorem tg1_ok {C : Ct} {i : Nat} : TgOk C [i] (gName i) (g1 i) := fun F μ H S σ ρ ρ1 x d Q s e r h k => by
  cases h
  exact k _ (e.set i r) (by rw [wipe_set (by simp)]; exact wipe_wipe)
/-- for x, y in .. -/
def g2 (i j : Nat) : GD := fun d ρ S => match seqD d S with
  | some [a, b] => some ((ρ.set i (some a)).set j (some b))
  | _ => none
def gh2 (K : PySem.W.Frag) (i j : Nat) : TG := fun v σ H Q => gTup K 2 (L2.gCons (gName i) (L2.gCons (gName j) L2.gNil)) v σ H Q ∨ gLst K 2 (L2.gCons (gName i) (L2.gCons (gName j) L2.gNil)) v σ H Q
theorem tg2_ok {C : Ct} {i j : Nat} : TgOk C [i, j] (gh2 C.K i j) (g2 i j) := fun F μ H S σ ρ ρ1 x d Q s e r h k => by
  unfold g2 at h
  split at h
  · rename_i a b hs
    cases h
    obtain ⟨p, vs, rfl, q, r2⟩ := seqV_of s r hs
    obtain ⟨v1, r', rfl, q1, r3⟩ := Reps.cons_iff.mp r2
    obtain ⟨v2, r', rfl, q2, r4⟩ := Reps.cons_iff.mp r3
    rw [Reps.nil_iff] at r4; subst r4
    have fin := k _ ((e.set i q1).set j q2) (by rw [wipe_set (by simp), wipe_set (by simp)]; exact wipe_wipe)
    rcases q with q | q
    · exact .inr ⟨p, _, rfl, q, rfl, v1, _, rfl, v2, _, rfl, rfl, fin⟩
    · exact .inl ⟨p, _, rfl, q, rfl, v1, _, rfl, v2, _, rfl, rfl, fin⟩
  · cases h
abbrev DTs (X : Cx) (C : Ct) (W : WX) (e : List Expr) (t : TD Bool) : Prop := PTs X e (lift C W rB t)
theorem PTs.imp {X : Cx} {e : List Expr} {t t' : TT} (h : PTs X e t) (k : ∀ σ H Q, t' σ H Q → t σ H Q) : PTs X e t' := ⟨fun pins s σ H Q I q => h.run pins s σ H Q I (k σ H Q q)⟩
def dYes : TD Bool := fun _ S Q _ => Q true S
theorem dts_nil : DTs X C W [] dYes := PTs.imp pts_nil fun σ H Q ⟨F, μ, ρ, S, R, Xc, e, s, h, hR, hX⟩ => hR F μ H true true S (Ext.refl F μ H) s rfl h
theorem dts_one {c : Expr} {A : TD Bool} (h : DT X C W c A) : DTs X C W [c] A := pts_one h
variable {elt iter : Expr} {ifs : List Expr} {scope : Scope} {pos : Pos} {ti : TID} {A : TD Bool} {te : TD D} {o : Bool} {x y : Str} {px py pt : Pos} {kt : Nat}
abbrev Blk (X : Cx) (scope : Scope) (P : Cx → Prop) : Prop := ∀ (s : Shared) (H : Hp) (Cc : Addr) (cl : List (Str × Addr)) (fp : List Addr), P (X.blk s H scope (compEnvC scope cl Cc X.env) fp)
theorem de_lc1 (i : Nat) (hc : X.calm = true) (hN : X.N.Nodup) (hi : DI X C W (.Name x px) iter ti) (ok : BlkOk X.N X.env.scope scope [(x, i)])
    (hg : Blk X scope fun Y => PG Y (.Name x px) (gName i)) (ht : Blk X scope fun Y => DTs Y C noW ifs A) (he : Blk X scope fun Y => DE Y C noW elt te) (hs : ∀ z, foldedSetIterable iter X.env z = pure z := by intro _; rfl) :
    DE X C W (.ListComp elt [⟨.Name x px, iter, ifs, 0⟩] scope pos) (dLc o ti (g1 i) A te [i]) :=
  PE.imp (pe_lc hc hN hi ok hg ht he hs) fun σ H Q q => tLc_of tg1_ok q
theorem PG.or' {Y : Cx} {e : Expr} {t t' : TG} (h : PG Y e t) (h' : PG Y e t') : PG Y e (fun v σ H Q => t v σ H Q ∨ t' v σ H Q) := PG.or h h'
theorem de_lc2 (i j : Nat) (hK : X.K = C.K) (hc : X.calm = true) (hN : X.N.Nodup) (hi : DI X C W (.Tuple [.Name x px, .Name y py] kt pt) iter ti) (ok : BlkOk X.N X.env.scope scope [(x, i), (y, j)])
    (hg : Blk X scope fun Y => PG Y (.Name x px) (gName i)) (hg' : Blk X scope fun Y => PG Y (.Name y py) (gName j)) (ht : Blk X scope fun Y => DTs Y C noW ifs A) (he : Blk X scope fun Y => DE Y C noW elt te) (hs : ∀ z, foldedSetIterable iter X.env z = pure z := by intro _; rfl) :
    DE X C W (.ListComp elt [⟨.Tuple [.Name x px, .Name y py] kt pt, iter, ifs, 0⟩] scope pos) (dLc o ti (g2 i j) A te [i, j]) :=
  PE.imp (pe_lc (own := [(x, i), (y, j)]) (g := gh2 C.K i j) hc hN hi ok (fun s H Cc cl fp => by
    rw [← hK]
    exact PG.or (pg_tup hc (pgs_cons (hg s H Cc cl fp) (pgs_cons (hg' s H Cc cl fp) pgs_nil)) rfl rfl) (pg_lst hc (pgs_cons (hg s H Cc cl fp) (pgs_cons (hg' s H Cc cl fp) pgs_nil)) rfl rfl)) ht he hs) fun σ H Q q => tLc_of tg2_ok q
/-- y = [..] on one line -/
theorem ds_setLc1 (i j : Nat) {v : Str} {pv spos : Pos} (hc : X.calm = true) (hN : X.N.Nodup) (hy : X.N[j]? = some v) (hyl : X.env.scope.names.lookup v = some .local)
    (hsw : swapsWith (.ListComp elt [⟨.Name x px, iter, ifs, 0⟩] scope pos) (some (.Name v pv)) spos.line X.env = pure true) (hi : DI X C W (.Name x px) iter ti) (ok : BlkOk X.N X.env.scope scope [(x, i)])
    (hg : Blk X scope fun Y => PG Y (.Name x px) (gName i)) (ht : Blk X scope fun Y => DTs Y C noW ifs A) (he : Blk X scope fun Y => DE Y C noW elt te) (hs : ∀ z, foldedSetIterable iter X.env z = pure z := by intro _; rfl) :
    DS X C W (.Assign [.Name v pv] (.ListComp elt [⟨.Name x px, iter, ifs, 0⟩] scope pos) spos) (dAsg (dLc o ti (g1 i) A te [i]) (gN j)) :=
  PS.imp (ps_setLc (i := j) hc hN hy hyl hsw hi ok hg ht he hs) fun Dd σ H ⟨F, μ, ρ, S, E, e, s, h, k⟩ => by
    exact tLc_of tg1_ok (lift_of e s h (fun F1 μ1 H1 v d S1 x1 s1 r1 h1 => k.nx F1 μ1 H1 _ _ S1 x1 ((e.ext x1).set j r1) s1 h1) (exOf k e))
theorem ds_setLc2 (i j l : Nat) {v : Str} {pv spos : Pos} (hK : X.K = C.K) (hc : X.calm = true) (hN : X.N.Nodup) (hy : X.N[l]? = some v) (hyl : X.env.scope.names.lookup v = some .local)
    (hsw : swapsWith (.ListComp elt [⟨.Tuple [.Name x px, .Name y py] kt pt, iter, ifs, 0⟩] scope pos) (some (.Name v pv)) spos.line X.env = pure true) (hi : DI X C W (.Tuple [.Name x px, .Name y py] kt pt) iter ti) (ok : BlkOk X.N X.env.scope scope [(x, i), (y, j)])
    (hg : Blk X scope fun Y => PG Y (.Name x px) (gName i)) (hg' : Blk X scope fun Y => PG Y (.Name y py) (gName j)) (ht : Blk X scope fun Y => DTs Y C noW ifs A) (he : Blk X scope fun Y => DE Y C noW elt te) (hs : ∀ z, foldedSetIterable iter X.env z = pure z := by intro _; rfl) :
    DS X C W (.Assign [.Name v pv] (.ListComp elt [⟨.Tuple [.Name x px, .Name y py] kt pt, iter, ifs, 0⟩] scope pos) spos) (dAsg (dLc o ti (g2 i j) A te [i, j]) (gN l)) :=
  PS.imp (ps_setLc (i := l) (own := [(x, i), (y, j)]) (g := gh2 C.K i j) hc hN hy hyl hsw hi ok (fun s H Cc cl fp => by
    rw [← hK]
    exact PG.or (pg_tup hc (pgs_cons (hg s H Cc cl fp) (pgs_cons (hg' s H Cc cl fp) pgs_nil)) rfl rfl) (pg_lst hc (pgs_cons (hg s H Cc cl fp) (pgs_cons (hg' s H Cc cl fp) pgs_nil)) rfl rfl)) ht he hs) fun Dd σ H ⟨F, μ, ρ, S, E, e, s, h, k⟩ => by
    exact tLc_of tg2_ok (lift_of e s h (fun F1 μ1 H1 v d S1 x1 s1 r1 h1 => k.nx F1 μ1 H1 _ _ S1 x1 ((e.ext x1).set l r1) s1 h1) (exOf k e))

/-! ### defs -/
abbrev SpD := List D → Store → (D → Store → Prop) → XcD → Prop
def liftP (C : Ct) (sp : SpD) : Sp := fun vs H Q E => ∃ (F : Hp) (μ : List Addr) (ds : List D) (S : Store) (R : D → Store → Prop) (Xc : XcD), Reps C F μ ds vs ∧ SR C F μ H S ∧ sp ds S R Xc ∧
  (∀ F' μ' H' v d S', Ext F μ H F' μ' H' → SR C F' μ' H' S' → Rep C F' μ' d v → R d S' → Q v H') ∧
  (∀ F' μ' H' cls dd c fs S', Ext F μ H F' μ' H' → SR C F' μ' H' S' → ExcR C F' μ' cls dd c fs → Xc c fs S' → E cls dd H')
/-- the number of arguments -/
def Arity (n : Nat) (sp : SpD) : Prop := ∀ ds S R Xc, sp ds S R Xc → ds.length = n
/-- a def keeps its promise over D -/
structure FnD (P : Program) (w : World) (C : Ct) (mg : Str → Option Value) (base : Heap) (k : Nat) (x : Str) (ps : List Str) (sp : SpD) : Prop where
  ex : ∃ f fd, mg x = some (.ref f) ∧ PySem.W.keepIn C.K (.ref f) = true ∧ Binds C.K fd ps [] ∧ FnOk P w C.K mg base (L2.CX P w) k f fd ps (liftP C sp)
def dCall (sp : SpD) (u : TD (List D)) : TD D := fun ρ S Q Xc => u ρ S (fun ds S1 => sp ds S1 Q Xc) Xc
theorem tCallS_of {sp : SpD} {u : TD (List D)} {σ : L2.St} {H : Hp} {Q : VK} (q : lift C W (rV C) (dCall sp u) σ H Q) : tCallS (liftP C sp) (WE W) (lift C W (rVs C) u) σ H Q :=
  lift_bind (u := fun ds _ S Q Xc => sp ds S Q Xc) (g := fun vs H1 Q => liftP C sp vs H1 Q (WE W σ)) q fun F μ ρ H S x v R Xc e s rx hu hR hX => ⟨F, μ, x, S, R, Xc, rx, s, hu, hR, hX⟩
theorem de_call {k j : Nat} {ps : List Str} {sp : SpD} {a : Expr} {es : List Expr} {u : TD (List D)} {q : Pos} (hK : X.K = C.K) (F : FnD X.prog X.w C X.mg X.base k x ps sp) (hr : Room j X.A) (tk : Takes X W) (ha : DA X C W (a :: es) u) (hkj : k ≤ j := by decide) (hg : Gl X x := by rfl)
    (hdb : (x == ("__debug__" : Str)) = false := by decide) (he : starEach (a :: es) X.env = (false, eval a X.env) :: starEach es X.env := by rfl) (hpl : (backTo pos (starEach es X.env)).any (·.1) = false := by rfl) :
    DE X C W (.Call (.Name x q) (a :: es) [] pos) (dCall sp u) := by
  obtain ⟨f, fd, hm, hk, hb, ok⟩ := F.ex
  rw [← hK] at hk hb ok
  exact PE.imp (pe_callS ok (hr.mono hkj) hg hm hk hb (fun σ => passAt tk σ) ha hdb he hpl) fun σ H Q z => tCallS_of z
/-- the slots at a def's start -/
def startD (n : Nat) (ds : List D) : DEnv := ds.map some ++ List.replicate n none
theorem start_env {F : Hp} {μ : List Addr} {N : List Str} {ds : List D} {vs : List V} {n : Nat} (r : Reps C F μ ds vs) (hN : ds.length + n = N.length) : EnvR C F μ (L2.start N vs) (startD n ds) := by
  have hl := r.length
  refine ⟨?_, fun i d h => ?_⟩
  · unfold startD L2.start; simp; omega
  · unfold startD at h
    by_cases hi : i < ds.length
    · rw [List.getElem?_append_left (by simpa using hi), List.getElem?_map] at h
      cases e : ds[i]? with
      | none => rw [e] at h; cases h
      | some z =>
        rw [e] at h; cases h
        obtain ⟨v, h1, h2⟩ := r.get e
        refine ⟨v, ?_, h2⟩
        unfold L2.start
        rw [List.getElem?_append_left (by simp; omega), List.getElem?_map, h1]; rfl
    · rw [List.getElem?_append_right (by simp; omega), List.getElem?_replicate] at h
      split at h <;> cases h
end
end OD

/-! OD5: the operations by values. -/
namespace OD
open PySem PySem.Spec L2
open PyProof.Rows hiding St
section
variable {X : Cx} {C : Ct} {W : WX}
/-! ### whole numbers -/
/-- two ints -/
def pI (c : Int → Int → Prop) (g : Int → Int → D) : P2 := fun x y S Q => match x, y with
  | .int i, .int j => c i j ∧ Q (g i j) S
  | _, _ => False
def pI0 (g : Int → Int → D) : P2 := fun x y S Q => match x, y with
  | .int i, .int j => Q (g i j) S
  | _, _ => False
theorem pI_ok {c : Int → Int → Prop} {g : Int → Int → D} {g' : Int → Int → V} (h : ∀ i j, Flat (g i j) (g' i j)) : Prim2 C (rI c g') (pI c g) := fun F μ H S x y dx dy R Q s rx ry hp hR => by
  cases dx <;> cases dy <;> simp only [pI] at hp
  all_goals try exact hp.elim
  exact ⟨_, _, Rep.int_iff.mp rx, Rep.int_iff.mp ry, hp.1, hR F μ H _ _ S (Ext.refl F μ H) s (h _ _).rep hp.2⟩
theorem pI0_ok {g : Int → Int → D} {g' : Int → Int → V} (h : ∀ i j, Flat (g i j) (g' i j)) : Prim2 C (rI0 g') (pI0 g) := fun F μ H S x y dx dy R Q s rx ry hp hR => by
  cases dx <;> cases dy <;> simp only [pI0] at hp
  all_goals try exact hp.elim
  exact ⟨_, _, Rep.int_iff.mp rx, Rep.int_iff.mp ry, hR F μ H _ _ S (Ext.refl F μ H) s (h _ _).rep hp⟩
def pSub : P2 := pI0 fun i j => .int (i - j)
def pDiv : P2 := pI CDivW fun i j => .int (i / j)
def pMod : P2 := pI (fun _ j => 0 < j) fun i j => .int (i % j)
def pPow : P2 := pI CPow fun i j => .int (i ^ j.toNat)
def pLt : P2 := pI0 fun i j => .bl (decide (i < j))
def pLe : P2 := pI0 fun i j => .bl (decide (i ≤ j))
def pGt : P2 := pI0 fun i j => .bl (decide (j < i))
def pGe : P2 := pI0 fun i j => .bl (decide (j ≤ i))
theorem de_sub {a b ta tb pos} (ha : DE X C W a ta) (hb : DE X C W b tb) : DE X C W (.BinOp a .Sub b pos) (dOp pSub ta tb) := de_op op_sub (pI0_ok fun _ _ => rfl) ha hb
theorem de_div {a b ta tb pos} (ha : DE X C W a ta) (hb : DE X C W b tb) : DE X C W (.BinOp a .FloorDiv b pos) (dOp pDiv ta tb) := de_op op_fdivW (pI_ok fun _ _ => rfl) ha hb
theorem de_mod {a b ta tb pos} (ha : DE X C W a ta) (hb : DE X C W b tb) : DE X C W (.BinOp a .Mod b pos) (dOp pMod ta tb) := de_op op_mod (pI_ok fun _ _ => rfl) ha hb
theorem de_pow {a b ta tb pos} (ha : DE X C W a ta) (hb : DE X C W b tb) : DE X C W (.BinOp a .Pow b pos) (dOp pPow ta tb) := de_op op_pow (pI_ok fun _ _ => rfl) ha hb
theorem de_lt {a b ta tb pos} (ha : DE X C W a ta) (hb : DE X C W b tb) : DE X C W (.Compare a [.Lt] [b] pos) (dOp pLt ta tb) := de_cmp op_lt (pI0_ok fun _ _ => rfl) ha hb
theorem de_le {a b ta tb pos} (ha : DE X C W a ta) (hb : DE X C W b tb) : DE X C W (.Compare a [.LtE] [b] pos) (dOp pLe ta tb) := de_cmp op_le (pI0_ok fun _ _ => rfl) ha hb
theorem de_gt {a b ta tb pos} (ha : DE X C W a ta) (hb : DE X C W b tb) : DE X C W (.Compare a [.Gt] [b] pos) (dOp pGt ta tb) := de_cmp op_gt (pI0_ok fun _ _ => rfl) ha hb
theorem de_ge {a b ta tb pos} (ha : DE X C W a ta) (hb : DE X C W b tb) : DE X C W (.Compare a [.GtE] [b] pos) (dOp pGe ta tb) := de_cmp op_ge (pI0_ok fun _ _ => rfl) ha hb
theorem dt_lt {a b ta tb pos} (ha : DE X C W a ta) (hb : DE X C W b tb) : DT X C W (.Compare a [.Lt] [b] pos) (dB (dOp pLt ta tb)) := dt_cmp op_lt (pI0_ok fun _ _ => rfl) ha hb
theorem dt_le {a b ta tb pos} (ha : DE X C W a ta) (hb : DE X C W b tb) : DT X C W (.Compare a [.LtE] [b] pos) (dB (dOp pLe ta tb)) := dt_cmp op_le (pI0_ok fun _ _ => rfl) ha hb
theorem dt_gt {a b ta tb pos} (ha : DE X C W a ta) (hb : DE X C W b tb) : DT X C W (.Compare a [.Gt] [b] pos) (dB (dOp pGt ta tb)) := dt_cmp op_gt (pI0_ok fun _ _ => rfl) ha hb
theorem dt_ge {a b ta tb pos} (ha : DE X C W a ta) (hb : DE X C W b tb) : DT X C W (.Compare a [.GtE] [b] pos) (dB (dOp pGe ta tb)) := dt_cmp op_ge (pI0_ok fun _ _ => rfl) ha hb
theorem dt_lele {a b c ta tb tc pos} (ha : DE X C W a ta) (hb : DE X C W b tb) (hc : DE X C W c tc) (hm : lastMarks [.LtE, .LtE] [b, c] = false := by rfl) : DT X C W (.Compare a [.LtE, .LtE] [b, c] pos) (dB (dChain pLe pLe ta tb tc)) := dt_chain op_le op_le (pI0_ok fun _ _ => rfl) (pI0_ok fun _ _ => rfl) ha hb hc hm
theorem dt_lelt {a b c ta tb tc pos} (ha : DE X C W a ta) (hb : DE X C W b tb) (hc : DE X C W c tc) (hm : lastMarks [.LtE, .Lt] [b, c] = false := by rfl) : DT X C W (.Compare a [.LtE, .Lt] [b, c] pos) (dB (dChain pLe pLt ta tb tc)) := dt_chain op_le op_lt (pI0_ok fun _ _ => rfl) (pI0_ok fun _ _ => rfl) ha hb hc hm
theorem dt_ltlt {a b c ta tb tc pos} (ha : DE X C W a ta) (hb : DE X C W b tb) (hc : DE X C W c tc) (hm : lastMarks [.Lt, .Lt] [b, c] = false := by rfl) : DT X C W (.Compare a [.Lt, .Lt] [b, c] pos) (dB (dChain pLt pLt ta tb tc)) := dt_chain op_lt op_lt (pI0_ok fun _ _ => rfl) (pI0_ok fun _ _ => rfl) ha hb hc hm
theorem de_lele {a b c ta tb tc pos} (ha : DE X C W a ta) (hb : DE X C W b tb) (hc : DE X C W c tc) (hm : lastMarks [.LtE, .LtE] [b, c] = false := by rfl) : DE X C W (.Compare a [.LtE, .LtE] [b, c] pos) (dChain pLe pLe ta tb tc) := de_chain op_le op_le (pI0_ok fun _ _ => rfl) (pI0_ok fun _ _ => rfl) ha hb hc hm
def pNeg : P1 := fun x S Q => match x with
  | .int i => Q (.int (-i)) S
  | _ => False
theorem de_neg {a ta pos} (ha : DE X C W a ta) : DE X C W (.UnaryOp .USub a pos) (dUn pNeg ta) := de_un un_neg (fun F μ H S x dx R Q s rx hp hR => by
  cases dx <;> simp only [pNeg] at hp
  all_goals try exact hp.elim
  exact ⟨_, Rep.int_iff.mp rx, hR F μ H _ _ S (Ext.refl F μ H) s (Rep.int_iff.mpr rfl) hp⟩) ha

/-! ### + of ints, texts, tuples, lists -/
/-- a list: frozen or a cell -/
def seqL : D → Store → Option (List D)
  | .lst ds, _ => some ds
  | .own k, S => match S[k]? with
    | some (.lst ds) => some ds
    | _ => none
  | _, _ => none
theorem lstV_of {F : Hp} {μ : List Addr} {H : Hp} {S : Store} {d : D} {v : V} {ds : List D} (s : SR C F μ H S) (r : Rep C F μ d v) (h : seqL d S = some ds) : ∃ a vs, v = .ref a ∧ H a = some (.lst vs) ∧ Reps C F μ ds vs := by
  cases d <;> simp only [seqL] at h <;> try (cases h)
  · obtain ⟨a, vs, rfl, q, r2⟩ := Rep.lst_iff.mp r
    exact ⟨a, vs, rfl, s.sub _ _ q, r2⟩
  · rename_i k
    obtain ⟨a, rfl, q⟩ := Rep.own_iff.mp r
    split at h
    · rename_i ds' e
      cases h
      obtain ⟨_, vs, h1, h2⟩ := s.cell k _ a e q
      exact ⟨a, vs, rfl, h1, h2⟩
    · cases h
def pAdd (o : Bool) : P2 := fun x y S Q => match x, y with
  | .int i, .int j => Q (.int (i + j)) S
  | .str i, .str j => i.length + j.length ≤ sizeLine ∧ Q (.str (i ++ j)) S
  | .tup a, .tup b => a.length + b.length ≤ sizeLine ∧ Q (.tup (a ++ b)) S
  | x, y => ∃ a b, seqL x S = some a ∧ seqL y S = some b ∧ a.length + b.length ≤ sizeLine ∧ mkL o (a ++ b) S Q
theorem pAdd_lists {o : Bool} {x y : D} {S : Store} {Q : D → Store → Prop} (h : pAdd o x y S Q) (h1 : ∀ i j, ¬ (x = .int i ∧ y = .int j)) (h2 : ∀ i j, ¬ (x = .str i ∧ y = .str j)) (h3 : ∀ i j, ¬ (x = .tup i ∧ y = .tup j)) :
    ∃ a b, seqL x S = some a ∧ seqL y S = some b ∧ a.length + b.length ≤ sizeLine ∧ mkL o (a ++ b) S Q := by
  unfold pAdd at h
  split at h
  · exact absurd ⟨rfl, rfl⟩ (h1 _ _)
  · exact absurd ⟨rfl, rfl⟩ (h2 _ _)
  · exact absurd ⟨rfl, rfl⟩ (h3 _ _)
  · exact h
theorem tup_res {F : Hp} {μ : List Addr} {H : Hp} {S : Store} {xs : List D} {vs : List V} {p : Addr} {R : D → Store → Prop} {Q : V → Hp → Prop} (s : SR C F μ H S) (r : Reps C F μ xs vs) (hp : H p = none) (h : R (.tup xs) S)
    (hR : ∀ F' μ' H' v d S', Ext F μ H F' μ' H' → SR C F' μ' H' S' → Rep C F' μ' d v → R d S' → Q v H') : Q (.ref p) (upd H p (.tup vs)) := by
  obtain ⟨F1, x1, s1, r1⟩ := mk_tup s r hp
  exact hR _ _ _ _ _ _ x1 s1 r1 h
theorem pAdd_ok {K : PySem.W.Frag} (hK : K = C.K) (o : Bool) : Prim2 C (fun x y H Q => (rI0 (fun i j => .int (i + j))) x y H Q ∨ (∃ i j, x = .str i ∧ y = .str j ∧ i.length + j.length ≤ sizeLine ∧ Q (.str (i ++ j)) H) ∨ rCatA K x y H Q ∨ rCat x y H Q) (pAdd o) := fun F μ H S x y dx dy R Q s rx ry hp hR => by
  subst hK
  unfold pAdd at hp
  split at hp
  · exact .inl ⟨_, _, Rep.int_iff.mp rx, Rep.int_iff.mp ry, hR F μ H _ _ S (Ext.refl F μ H) s (Rep.int_iff.mpr rfl) hp⟩
  · exact .inr (.inl ⟨_, _, Rep.str_iff.mp rx, Rep.str_iff.mp ry, hp.1, hR F μ H _ _ S (Ext.refl F μ H) s (Rep.str_iff.mpr rfl) hp.2⟩)
  · obtain ⟨a, vs, rfl, qa, ra⟩ := Rep.tup_iff.mp rx
    obtain ⟨b, ws, rfl, qb, rb⟩ := Rep.tup_iff.mp ry
    refine .inr (.inr (.inl ⟨a, b, vs, ws, rfl, rfl, tupS s.sub qa, tupS s.sub qb, by rw [← ra.length, ← rb.length]; exact hp.1, fun e => ?_, fun e1 e2 => ?_, fun e1 e2 p hp' => tup_res s (ra.append rb) hp' hp.2 hR⟩))
    · subst e
      have := ra.length
      rw [List.length_nil, List.length_eq_zero_iff] at this
      rw [this] at hp
      exact hR F μ H _ _ S (Ext.refl F μ H) s ry hp.2
    · subst e2
      have := rb.length
      rw [List.length_nil, List.length_eq_zero_iff] at this
      rw [this, List.append_nil] at hp
      exact hR F μ H _ _ S (Ext.refl F μ H) s rx hp.2
  · obtain ⟨a, b, h1, h2, h3, h4⟩ := hp
    obtain ⟨p, vs, rfl, qa, ra⟩ := lstV_of s rx h1
    obtain ⟨q, ws, rfl, qb, rb⟩ := lstV_of s ry h2
    exact .inr (.inr (.inr ⟨p, q, vs, ws, rfl, rfl, qa, qb, by rw [← ra.length, ← rb.length]; exact h3, fun l hl => mk_lst s (ra.append rb) hl h4 hR⟩))
theorem de_add (o : Bool) {a b ta tb pos} (hK : X.K = C.K) (ha : DE X C W a ta) (hb : DE X C W b tb) : DE X C W (.BinOp a .Add b pos) (dOp (pAdd o) ta tb) :=
  de_op (OpR.or op_add (OpR.or op_add_str (OpR.or op_catA op_cat))) (pAdd_ok hK o) ha hb
theorem de_addI {a b ta tb pos} (ha : DE X C W a ta) (hb : DE X C W b tb) : DE X C W (.BinOp a .Add b pos) (dOp (pI0 fun i j => .int (i + j)) ta tb) := de_op op_add (pI0_ok fun _ _ => rfl) ha hb
/-! ### * of ints, of a list by an int -/
def pMul (o : Bool) : P2 := fun x y S Q => match x, y with
  | .int i, .int j => (CMul i j ∨ CMulW i j) ∧ Q (.int (i * j)) S
  | x, .int k => ∃ a, seqL x S = some a ∧ -(2 ^ 63) ≤ k ∧ k < 2 ^ 63 ∧ a.length * k.toNat ≤ sizeLine ∧ mkL o (List.replicate k.toNat a).flatten S Q
  | _, _ => False
theorem Reps.rep {F : Hp} {μ : List Addr} {ds : List D} {vs : List V} (h : Reps C F μ ds vs) : ∀ k : Nat, Reps C F μ (List.replicate k ds).flatten (List.replicate k vs).flatten
  | 0 => Reps.nil
  | k + 1 => by
    rw [List.replicate_succ, List.replicate_succ, List.flatten_cons, List.flatten_cons]
    exact h.append (Reps.rep h k)
theorem pMul_ok (o : Bool) : Prim2 C (fun x y H Q => ((rI CMul (fun i j => .int (i * j))) x y H Q ∨ (rI CMulW (fun i j => .int (i * j))) x y H Q) ∨ rRep x y H Q) (pMul o) := fun F μ H S x y dx dy R Q s rx ry hp hR => by
  unfold pMul at hp
  split at hp
  · rcases hp.1 with z | z
    · exact .inl (.inl ⟨_, _, Rep.int_iff.mp rx, Rep.int_iff.mp ry, z, hR F μ H _ _ S (Ext.refl F μ H) s (Rep.int_iff.mpr rfl) hp.2⟩)
    · exact .inl (.inr ⟨_, _, Rep.int_iff.mp rx, Rep.int_iff.mp ry, z, hR F μ H _ _ S (Ext.refl F μ H) s (Rep.int_iff.mpr rfl) hp.2⟩)
  · obtain ⟨a, h1, h2, h3, h4, h5⟩ := hp
    obtain ⟨p, vs, rfl, qa, ra⟩ := lstV_of s rx h1
    refine .inr ⟨p, _, vs, rfl, Rep.int_iff.mp ry, qa, h2, h3, by rw [← ra.length]; exact h4, fun l hl => mk_lst s (ra.rep _) hl h5 hR⟩
  · exact hp.elim
theorem de_mul (o : Bool) {a b ta tb pos} (ha : DE X C W a ta) (hb : DE X C W b tb) : DE X C W (.BinOp a .Mult b pos) (dOp (pMul o) ta tb) := de_op (OpR.or (OpR.or op_mul op_mulW) op_rep) (pMul_ok o) ha hb

/-! ### == -/
mutual
def toPyW (rd : Nat → Option PyData) : D → Option PyData
  | .non => some .none
  | .bl b => some (.bool b)
  | .int i => some (.int i)
  | .str z => some (.str z)
  | .tup ds => (toPysW rd ds).map .tuple
  | .lst ds => (toPysW rd ds).map .list
  | .own k => rd k
  | _ => none
def toPysW (rd : Nat → Option PyData) : List D → Option (List PyData)
  | [] => some []
  | d :: ds => match toPyW rd d, toPysW rd ds with
    | some x, some xs => some (x :: xs)
    | _, _ => none
end
mutual
theorem dp_of {F : Hp} {μ : List Addr} {H : Hp} {S : Store} {rd : Nat → Option PyData} (s : SR C F μ H S) (hrd : ∀ k a p, μ[k]? = some a → rd k = some p → Dp C.K H (.ref a) p) : ∀ {d : D} {v : V} {p : PyData}, Rep C F μ d v → toPyW rd d = some p → Dp C.K H v p
  | .non, v, p, r, h => by
    simp only [toPyW] at h; cases h; rw [Rep.non_iff.mp r]; exact .non
  | .bl b, v, p, r, h => by
    simp only [toPyW] at h; cases h; rw [Rep.bl_iff.mp r]; exact .bl b
  | .int b, v, p, r, h => by
    simp only [toPyW] at h; cases h; rw [Rep.int_iff.mp r]; exact .int b
  | .str b, v, p, r, h => by
    simp only [toPyW] at h; cases h; rw [Rep.str_iff.mp r]; exact .str b
  | .tup ds, v, p, r, h => by
    simp only [toPyW] at h
    obtain ⟨a, vs, rfl, q, r2⟩ := Rep.tup_iff.mp r
    cases e : toPysW rd ds with
    | none => rw [e] at h; cases h
    | some ps =>
      rw [e] at h; cases h
      exact .tup (tupS s.sub q) (dps_of s hrd r2 e)
  | .lst ds, v, p, r, h => by
    simp only [toPyW] at h
    obtain ⟨a, vs, rfl, q, r2⟩ := Rep.lst_iff.mp r
    cases e : toPysW rd ds with
    | none => rw [e] at h; cases h
    | some ps =>
      rw [e] at h; cases h
      exact .lst (SqL.of (s.sub _ _ q)) (dps_of s hrd r2 e)
  | .scr _, _, _, _, h => by simp [toPyW] at h
  | .obj _ _, _, _, _, h => by simp [toPyW] at h
  | .own k, v, p, r, h => by
    simp only [toPyW] at h
    obtain ⟨a, rfl, q⟩ := Rep.own_iff.mp r
    exact hrd k a p q h
  | .ty _, _, _, _, h => by simp [toPyW] at h
  | .cls _, _, _, _, h => by simp [toPyW] at h
  | .exc _ _, _, _, _, h => by simp [toPyW] at h
theorem dps_of {F : Hp} {μ : List Addr} {H : Hp} {S : Store} {rd : Nat → Option PyData} (s : SR C F μ H S) (hrd : ∀ k a p, μ[k]? = some a → rd k = some p → Dp C.K H (.ref a) p) : ∀ {d : List D} {v : List V} {p : List PyData}, Reps C F μ d v → toPysW rd d = some p → DpAll C.K H v p
  | [], v, p, r, h => by
    simp only [toPysW] at h; cases h; rw [Reps.nil_iff.mp r]; exact .nil
  | d :: ds, v, p, r, h => by
    simp only [toPysW] at h
    obtain ⟨x, xs, rfl, r1, r2⟩ := Reps.cons_iff.mp r
    split at h
    · rename_i y ys e1 e2
      cases h
      exact .cons (dp_of s hrd r1 e1) (dps_of s hrd r2 e2)
    · cases h
end
/-- cells are read, so many levels deep -/
def rdPy (S : Store) : Nat → Nat → Option PyData
  | 0, _ => none
  | n + 1, k => match S[k]? with
    | some (.lst ds) => (toPysW (rdPy S n) ds).map .list
    | _ => none
theorem rdPy_of {F : Hp} {μ : List Addr} {H : Hp} {S : Store} (s : SR C F μ H S) : ∀ (n k : Nat) (a : Addr) (p : PyData), μ[k]? = some a → rdPy S n k = some p → Dp C.K H (.ref a) p
  | 0, k, a, p, _, h => by cases h
  | n + 1, k, a, p, q, h => by
    simp only [rdPy] at h
    split at h
    · rename_i ds e
      obtain ⟨_, vs, h1, h2⟩ := s.cell k _ a e q
      cases e2 : toPysW (rdPy S n) ds with
      | none => rw [e2] at h; cases h
      | some ps =>
        rw [e2] at h; cases h
        exact .lst (SqL.of h1) (dps_of s (rdPy_of s n) h2 e2)
    · cases h
/-- the data: cells are read -/
def topPy (S : Store) (d : D) : Option PyData := toPyW (rdPy S 3) d
theorem tdp_of {F : Hp} {μ : List Addr} {H : Hp} {S : Store} (s : SR C F μ H S) {d : D} {v : V} {p : PyData} (r : Rep C F μ d v) (h : topPy S d = some p) : Dp C.K H v p := dp_of s (rdPy_of s 3) r h
/-- == over D; g: what is handed on of the answer -/
def pEqG (g : Bool → Bool) : P2 := fun x y S Q => match x, y with
  | .int i, .int j => Q (.bl (g (decide (i = j)))) S
  | .str i, .str j => Q (.bl (g (decide (i = j)))) S
  | .bl i, .bl j => Q (.bl (g (decide (i = j)))) S
  | x, y => ∃ d e, topPy S x = some d ∧ topPy S y = some e ∧ SeqAt.shaped d = true ∧ SeqAt.shaped e = true ∧ Q (.bl (g (PyData.eqv d e))) S
abbrev pEq : P2 := pEqG fun b => b
abbrev pNe : P2 := pEqG fun b => !b
theorem pEq_ok {K : PySem.W.Frag} (hK : K = C.K) : Prim2 C (fun x y H Q => rEq x y H Q ∨ rEqD K x y H Q) pEq := fun F μ H S x y dx dy R Q s rx ry hp hR => by
  subst hK
  unfold pEq pEqG at hp
  split at hp
  · rw [Rep.int_iff.mp rx, Rep.int_iff.mp ry]
    refine .inl ⟨rfl, hR F μ H _ _ S (Ext.refl F μ H) s ?_ hp⟩
    simp [Rep.bl_iff]
  · rw [Rep.str_iff.mp rx, Rep.str_iff.mp ry]
    refine .inl ⟨rfl, hR F μ H _ _ S (Ext.refl F μ H) s ?_ hp⟩
    simp [Rep.bl_iff]
  · rw [Rep.bl_iff.mp rx, Rep.bl_iff.mp ry]
    refine .inl ⟨rfl, hR F μ H _ _ S (Ext.refl F μ H) s ?_ hp⟩
    simp [Rep.bl_iff]
  · obtain ⟨d, e, h1, h2, h3, h4, h5⟩ := hp
    exact .inr ⟨d, e, tdp_of s rx h1, tdp_of s ry h2, h3, h4, hR F μ H _ _ S (Ext.refl F μ H) s (Rep.bl_iff.mpr rfl) h5⟩
theorem pNe_ok {K : PySem.W.Frag} (hK : K = C.K) : Prim2 C (fun x y H Q => rNe x y H Q ∨ rNeD K x y H Q) pNe := fun F μ H S x y dx dy R Q s rx ry hp hR => by
  subst hK
  unfold pNe pEqG at hp
  split at hp
  · rw [Rep.int_iff.mp rx, Rep.int_iff.mp ry]
    refine .inl ⟨rfl, hR F μ H _ _ S (Ext.refl F μ H) s ?_ hp⟩
    simp [Rep.bl_iff]
  · rw [Rep.str_iff.mp rx, Rep.str_iff.mp ry]
    refine .inl ⟨rfl, hR F μ H _ _ S (Ext.refl F μ H) s ?_ hp⟩
    simp [Rep.bl_iff]
  · rw [Rep.bl_iff.mp rx, Rep.bl_iff.mp ry]
    refine .inl ⟨rfl, hR F μ H _ _ S (Ext.refl F μ H) s ?_ hp⟩
    simp [Rep.bl_iff]
  · obtain ⟨d, e, h1, h2, h3, h4, h5⟩ := hp
    exact .inr ⟨d, e, tdp_of s rx h1, tdp_of s ry h2, h3, h4, hR F μ H _ _ S (Ext.refl F μ H) s (Rep.bl_iff.mpr rfl) h5⟩
theorem hu64 {A : Around} {k : Nat} (hr : Room k A) : A.units + 64 < cLine := hr.units
theorem de_eq {a b ta tb pos} {k : Nat} (hK : X.K = C.K) (hr : Room k X.A) (ha : DE X C W a ta) (hb : DE X C W b tb) : DE X C W (.Compare a [.Eq] [b] pos) (dOp pEq ta tb) := de_cmp (OpR.or op_eq (op_eqD (hu64 hr))) (pEq_ok hK) ha hb
theorem dt_eq {a b ta tb pos} {k : Nat} (hK : X.K = C.K) (hr : Room k X.A) (ha : DE X C W a ta) (hb : DE X C W b tb) : DT X C W (.Compare a [.Eq] [b] pos) (dB (dOp pEq ta tb)) := dt_cmp (OpR.or op_eq (op_eqD (hu64 hr))) (pEq_ok hK) ha hb
theorem de_ne {a b ta tb pos} {k : Nat} (hK : X.K = C.K) (hr : Room k X.A) (ha : DE X C W a ta) (hb : DE X C W b tb) : DE X C W (.Compare a [.NotEq] [b] pos) (dOp pNe ta tb) := de_cmp (OpR.or op_ne (op_neD (hu64 hr))) (pNe_ok hK) ha hb
theorem dt_ne {a b ta tb pos} {k : Nat} (hK : X.K = C.K) (hr : Room k X.A) (ha : DE X C W a ta) (hb : DE X C W b tb) : DT X C W (.Compare a [.NotEq] [b] pos) (dB (dOp pNe ta tb)) := dt_cmp (OpR.or op_ne (op_neD (hu64 hr))) (pNe_ok hK) ha hb
/-- is None -/
def isNoneD : D → Bool
  | .non => true
  | _ => false
def pIs : P2 := fun x y S Q => y = .non ∧ Q (.bl (isNoneD x)) S
def pIsNot : P2 := fun x y S Q => y = .non ∧ Q (.bl (!isNoneD x)) S
theorem isNone_rep {F : Hp} {μ : List Addr} {d : D} {v : V} (r : Rep C F μ d v) : decide (v = V.non) = isNoneD d := by
  cases d with
  | non => rw [Rep.non_iff.mp r]; rfl
  | bl b => rw [Rep.bl_iff.mp r]; rfl
  | int b => rw [Rep.int_iff.mp r]; rfl
  | str b => rw [Rep.str_iff.mp r]; rfl
  | tup b => obtain ⟨a, vs, rfl, _⟩ := Rep.tup_iff.mp r; rfl
  | lst b => obtain ⟨a, vs, rfl, _⟩ := Rep.lst_iff.mp r; rfl
  | scr b => obtain ⟨a, rfl, _⟩ := Rep.scr_iff.mp r; rfl
  | obj c fs => obtain ⟨a, dx, gs, rfl, _⟩ := Rep.obj_iff.mp r; rfl
  | own b => obtain ⟨a, rfl, _⟩ := Rep.own_iff.mp r; rfl
  | ty b => rw [Rep.ty_iff.mp r]; rfl
  | cls b => rw [Rep.cls_iff.mp r]; rfl
  | exc c fs => obtain ⟨a, gs, rfl, _⟩ := Rep.exc_iff.mp r; rfl
theorem pIs_ok : Prim2 C (fun x y H Q => y = .non ∧ Q (.bl (decide (x = .non))) H) pIs := fun F μ H S x y dx dy R Q s rx ry ⟨h1, h2⟩ hR => by
  subst h1
  refine ⟨Rep.non_iff.mp ry, ?_⟩
  rw [isNone_rep rx]
  exact hR F μ H _ _ S (Ext.refl F μ H) s (Rep.bl_iff.mpr rfl) h2
theorem pIsNot_ok : Prim2 C (fun x y H Q => y = .non ∧ Q (.bl (!decide (x = .non))) H) pIsNot := fun F μ H S x y dx dy R Q s rx ry ⟨h1, h2⟩ hR => by
  subst h1
  refine ⟨Rep.non_iff.mp ry, ?_⟩
  rw [isNone_rep rx]
  exact hR F μ H _ _ S (Ext.refl F μ H) s (Rep.bl_iff.mpr rfl) h2
theorem de_is {a b ta tb pos} (ha : DE X C W a ta) (hb : DE X C W b tb) : DE X C W (.Compare a [.Is] [b] pos) (dOp pIs ta tb) := de_cmp op_isN pIs_ok ha hb
theorem dt_is {a b ta tb pos} (ha : DE X C W a ta) (hb : DE X C W b tb) : DT X C W (.Compare a [.Is] [b] pos) (dB (dOp pIs ta tb)) := dt_cmp op_isN pIs_ok ha hb
theorem de_isnot {a b ta tb pos} (ha : DE X C W a ta) (hb : DE X C W b tb) : DE X C W (.Compare a [.IsNot] [b] pos) (dOp pIsNot ta tb) := de_cmp op_notN pIsNot_ok ha hb
theorem dt_isnot {a b ta tb pos} (ha : DE X C W a ta) (hb : DE X C W b tb) : DT X C W (.Compare a [.IsNot] [b] pos) (dB (dOp pIsNot ta tb)) := dt_cmp op_notN pIsNot_ok ha hb

/-! ### subscripts -/
def pIx : P2 := fun x y S Q => match x, y with
  | .str z, .int i => ∃ c, z.length ≤ sizeLine ∧ atI z.cps.toList i = some c ∧ Q (.str ⟨#[c]⟩) S
  | x, .int i => ∃ ds d, seqD x S = some ds ∧ atI ds i = some d ∧ Q d S
  | _, _ => False
theorem Reps.atI {F : Hp} {μ : List Addr} {ds : List D} {vs : List V} {i : Int} {d : D} (r : Reps C F μ ds vs) (h : L2.atI ds i = some d) : ∃ v, L2.atI vs i = some v ∧ Rep C F μ d v := by
  unfold L2.atI at h ⊢
  rw [← r.length]
  cases e : ixN ds.length i with
  | none => rw [e] at h; cases h
  | some j =>
    rw [e] at h
    exact r.get h
theorem pIx_ok {K : PySem.W.Frag} (hK : K = C.K) : Prim2 C (rIx K) pIx := fun F μ H S x y dx dy R Q s rx ry hp hR => by
  subst hK
  unfold pIx at hp
  split at hp
  · obtain ⟨c, h1, h2, h3⟩ := hp
    exact .inr (.inr ⟨_, _, c, Rep.str_iff.mp rx, Rep.int_iff.mp ry, h1, h2, hR F μ H _ _ S (Ext.refl F μ H) s (Rep.str_iff.mpr rfl) h3⟩)
  · obtain ⟨ds, d, h1, h2, h3⟩ := hp
    obtain ⟨a, vs, rfl, q, r2⟩ := seqV_of s rx h1
    obtain ⟨v, h4, h5⟩ := r2.atI h2
    have fin := hR F μ H v d S (Ext.refl F μ H) s h5 h3
    rcases q with q | q
    · exact .inl ⟨a, vs, _, v, rfl, Rep.int_iff.mp ry, q, h4, fin⟩
    · exact .inr (.inl ⟨a, vs, _, v, rfl, Rep.int_iff.mp ry, q, h4, fin⟩)
  · exact hp.elim
theorem de_item {a b ta tb pos} (hK : X.K = C.K) (ha : DE X C W a ta) (hb : DE X C W b tb) (hs : PlainIx b := by exact fun _ _ => rfl) : DE X C W (.Subscript a b pos) (dOp pIx ta tb) := de_ix ix_seq (pIx_ok hK) ha hb hs

/-! ### built-in functions -/
def pLen : PN := fun xs S Q => match xs with
  | [.str z] => z.length ≤ sizeLine ∧ Q (.int z.length) S
  | [x] => ∃ ds, seqD x S = some ds ∧ Q (.int ds.length) S
  | _ => False
theorem pLen_ok {K : PySem.W.Frag} (hK : K = C.K) : PrimN C (fun xs H Q => ∃ x n, xs = [x] ∧ LenV K x H n ∧ Q (.int n) H) pLen := fun F μ H S xs ds R Q s r hp hR => by
  subst hK
  unfold pLen at hp
  split at hp
  · obtain ⟨v, r', rfl, h1, h2⟩ := Reps.cons_iff.mp r
    rw [Reps.nil_iff] at h2; subst h2
    rw [Rep.str_iff.mp h1]
    exact ⟨_, _, rfl, ⟨hp.1, rfl⟩, hR F μ H _ _ S (Ext.refl F μ H) s (Rep.int_iff.mpr rfl) hp.2⟩
  · obtain ⟨v, r', rfl, h1, h2⟩ := Reps.cons_iff.mp r
    rw [Reps.nil_iff] at h2; subst h2
    obtain ⟨ds, h3, h4⟩ := hp
    obtain ⟨a, vs, rfl, q, r2⟩ := seqV_of s h1 h3
    have fin := hR F μ H (.int ds.length) _ S (Ext.refl F μ H) s (Rep.int_iff.mpr rfl) h4
    rcases q with q | q
    · exact ⟨_, ds.length, rfl, .inl ⟨vs, q, r2.length⟩, fin⟩
    · exact ⟨_, ds.length, rfl, .inr ⟨vs, q, r2.length⟩, fin⟩
  · exact hp.elim
def pAbs : PN := fun xs S Q => match xs with
  | [.int i] => Q (.int (if i < 0 then -i else i)) S
  | _ => False
theorem pAbs_ok : PrimN C (fun xs H Q => ∃ i, xs = [.int i] ∧ Q (.int (if i < 0 then -i else i)) H) pAbs := fun F μ H S xs ds R Q s r hp hR => by
  unfold pAbs at hp
  split at hp
  · obtain ⟨v, r', rfl, h1, h2⟩ := Reps.cons_iff.mp r
    rw [Reps.nil_iff] at h2; subst h2
    rw [Rep.int_iff.mp h1]
    exact ⟨_, rfl, hR F μ H _ _ S (Ext.refl F μ H) s (Rep.int_iff.mpr rfl) hp⟩
  · exact hp.elim
/-- int(i) of an int, of a bool -/
def pInt : PN := fun xs S Q => match xs with
  | [.int i] => Q (.int i) S
  | [.bl b] => Q (.int (if b then 1 else 0)) S
  | _ => False
theorem pInt_ok : PrimN C (fun xs H Q => (∃ i, xs = [.int i] ∧ Q (.int i) H) ∨ ∃ k, xs = [.bl k] ∧ Q (.int (if k then 1 else 0)) H) pInt := fun F μ H S xs ds R Q s r hp hR => by
  unfold pInt at hp
  split at hp
  · obtain ⟨v, r', rfl, h1, h2⟩ := Reps.cons_iff.mp r
    rw [Reps.nil_iff] at h2; subst h2
    rw [Rep.int_iff.mp h1]
    exact .inl ⟨_, rfl, hR F μ H _ _ S (Ext.refl F μ H) s (Rep.int_iff.mpr rfl) hp⟩
  · obtain ⟨v, r', rfl, h1, h2⟩ := Reps.cons_iff.mp r
    rw [Reps.nil_iff] at h2; subst h2
    rw [Rep.bl_iff.mp h1]
    exact .inr ⟨_, rfl, hR F μ H _ _ S (Ext.refl F μ H) s (Rep.int_iff.mpr rfl) hp⟩
  · exact hp.elim
def pMax2 : PN := fun xs S Q => match xs with
  | [.int i, .int j] => Q (.int (if j > i then j else i)) S
  | _ => False
def pMin2 : PN := fun xs S Q => match xs with
  | [.int i, .int j] => Q (.int (if j < i then j else i)) S
  | _ => False
theorem pMax2_ok : PrimN C (fun xs H Q => ∃ i j, xs = [.int i, .int j] ∧ Q (.int (if j > i then j else i)) H) pMax2 := fun F μ H S xs ds R Q s r hp hR => by
  unfold pMax2 at hp
  split at hp
  · obtain ⟨v, r', rfl, h1, h2⟩ := Reps.cons_iff.mp r
    obtain ⟨v2, r', rfl, h3, h4⟩ := Reps.cons_iff.mp h2
    rw [Reps.nil_iff] at h4; subst h4
    rw [Rep.int_iff.mp h1, Rep.int_iff.mp h3]
    exact ⟨_, _, rfl, hR F μ H _ _ S (Ext.refl F μ H) s (Rep.int_iff.mpr rfl) hp⟩
  · exact hp.elim
theorem pMin2_ok : PrimN C (fun xs H Q => ∃ i j, xs = [.int i, .int j] ∧ Q (.int (if j < i then j else i)) H) pMin2 := fun F μ H S xs ds R Q s r hp hR => by
  unfold pMin2 at hp
  split at hp
  · obtain ⟨v, r', rfl, h1, h2⟩ := Reps.cons_iff.mp r
    obtain ⟨v2, r', rfl, h3, h4⟩ := Reps.cons_iff.mp h2
    rw [Reps.nil_iff] at h4; subst h4
    rw [Rep.int_iff.mp h1, Rep.int_iff.mp h3]
    exact ⟨_, _, rfl, hR F μ H _ _ S (Ext.refl F μ H) s (Rep.int_iff.mpr rfl) hp⟩
  · exact hp.elim
/-- list(x), x a list, a tuple, the script -/
def pList (o : Bool) : PN := fun xs S Q => match xs with
  | [.scr ns] => mkL o (ns.map D.int) S Q
  | [x] => ∃ ds, seqD x S = some ds ∧ mkL o ds S Q
  | _ => False
theorem pList_ok {K : PySem.W.Frag} (hK : K = C.K) (o : Bool) : PrimN C (fun xs H Q => ∃ p ys, xs = [.ref p] ∧ (SqL K H p ys ∨ SqT K H p ys) ∧ ∀ l, H l = none → Q (.ref l) (upd H l (.lst ys))) (pList o) := fun F μ H S xs ds R Q s r hp hR => by
  subst hK
  unfold pList at hp
  split at hp
  · obtain ⟨v, r', rfl, h1, h2⟩ := Reps.cons_iff.mp r
    rw [Reps.nil_iff] at h2; subst h2
    obtain ⟨a, rfl, q⟩ := Rep.scr_iff.mp h1
    exact ⟨a, _, rfl, .inl (s.sub.seq q), fun l hl => mk_lst s (Reps.ints _) hl hp hR⟩
  · obtain ⟨v, r', rfl, h1, h2⟩ := Reps.cons_iff.mp r
    rw [Reps.nil_iff] at h2; subst h2
    obtain ⟨ds, h3, h4⟩ := hp
    obtain ⟨a, vs, rfl, q, r2⟩ := seqV_of s h1 h3
    exact ⟨a, vs, rfl, q, fun l hl => mk_lst s r2 hl h4 hR⟩
  · exact hp.elim
/-- tuple(x) -/
def pTuple : PN := fun xs S Q => match xs with
  | [x] => ∃ ds, seqD x S = some ds ∧ Q (.tup ds) S
  | _ => False
theorem pTuple_ok {K : PySem.W.Frag} (hK : K = C.K) : PrimN C (fun xs H Q => ∃ p ys, xs = [.ref p] ∧ ((SqL K H p ys ∧ ∀ l, H l = none → Q (.ref l) (upd H l (.tup ys))) ∨ (SqT K H p ys ∧ Q (.ref p) H))) pTuple := fun F μ H S xs ds R Q s r hp hR => by
  subst hK
  unfold pTuple at hp
  split at hp
  · obtain ⟨v, r', rfl, h1, h2⟩ := Reps.cons_iff.mp r
    rw [Reps.nil_iff] at h2; subst h2
    obtain ⟨ds, h3, h4⟩ := hp
    rename_i x
    cases x <;> simp only [seqD] at h3 <;> try (cases h3)
    · obtain ⟨a, vs, rfl, q, r2⟩ := Rep.tup_iff.mp h1
      exact ⟨a, vs, rfl, .inr ⟨tupS s.sub q, hR F μ H _ _ S (Ext.refl F μ H) s h1 h4⟩⟩
    · obtain ⟨a, vs, rfl, q, r2⟩ := Rep.lst_iff.mp h1
      exact ⟨a, vs, rfl, .inl ⟨SqL.of (s.sub _ _ q), fun l hl => tup_res s r2 hl h4 hR⟩⟩
    · rename_i k
      obtain ⟨a, rfl, q⟩ := Rep.own_iff.mp h1
      split at h3
      · rename_i ds' e
        cases h3
        obtain ⟨_, vs, h5, h6⟩ := s.cell k _ a e q
        exact ⟨a, vs, rfl, .inl ⟨SqL.of h5, fun l hl => tup_res s h6 hl h4 hR⟩⟩
      · cases h3
  · exact hp.elim
variable {a : Expr} {es : List Expr} {u : TD (List D)} {pos q : Pos}
theorem de_len (hK : X.K = C.K) (hm : X.mg "len" = none) (ha : DA X C W (a :: es) u) (hg : Gl X "len" := by rfl) (he : starEach (a :: es) X.env = (false, eval a X.env) :: starEach es X.env := by rfl) (hpl : (backTo pos (starEach es X.env)).any (·.1) = false := by rfl) : DE X C W (.Call (.Name "len" q) (a :: es) [] pos) (dCB pLen u) :=
  de_callB call_len (pLen_ok hK) hm ha (hg := hg) (he := he) (hpl := hpl) (hv := boot_len)
theorem de_abs (hm : X.mg "abs" = none) (ha : DA X C W (a :: es) u) (hg : Gl X "abs" := by rfl) (he : starEach (a :: es) X.env = (false, eval a X.env) :: starEach es X.env := by rfl) (hpl : (backTo pos (starEach es X.env)).any (·.1) = false := by rfl) : DE X C W (.Call (.Name "abs" q) (a :: es) [] pos) (dCB pAbs u) :=
  de_callB call_abs pAbs_ok hm ha (hg := hg) (he := he) (hpl := hpl) (hv := by decide +kernel)
theorem de_intC (hm : X.mg "int" = none) (ha : DA X C W (a :: es) u) (hg : Gl X "int" := by rfl) (he : starEach (a :: es) X.env = (false, eval a X.env) :: starEach es X.env := by rfl) (hpl : (backTo pos (starEach es X.env)).any (·.1) = false := by rfl) : DE X C W (.Call (.Name "int" q) (a :: es) [] pos) (dCB pInt u) :=
  de_callTy call_int1 pInt_ok hm ha (hg := hg) (he := he) (hpl := hpl) (hv := by decide +kernel)
theorem de_max2 (hc : X.calm = true) (hm : X.mg "max" = none) (ha : DA X C W (a :: es) u) (hg : Gl X "max" := by rfl) (he : starEach (a :: es) X.env = (false, eval a X.env) :: starEach es X.env := by rfl) (hpl : (backTo pos (starEach es X.env)).any (·.1) = false := by rfl) : DE X C W (.Call (.Name "max" q) (a :: es) [] pos) (dCB pMax2 u) :=
  de_callB (call_max2 hc) pMax2_ok hm ha (hg := hg) (he := he) (hpl := hpl) (hv := by decide +kernel)
theorem de_min2 (hc : X.calm = true) (hm : X.mg "min" = none) (ha : DA X C W (a :: es) u) (hg : Gl X "min" := by rfl) (he : starEach (a :: es) X.env = (false, eval a X.env) :: starEach es X.env := by rfl) (hpl : (backTo pos (starEach es X.env)).any (·.1) = false := by rfl) : DE X C W (.Call (.Name "min" q) (a :: es) [] pos) (dCB pMin2 u) :=
  de_callB (call_min2 hc) pMin2_ok hm ha (hg := hg) (he := he) (hpl := hpl) (hv := by decide +kernel)
theorem de_list (o : Bool) (hK : X.K = C.K) (hm : X.mg "list" = none) (ha : DA X C W (a :: es) u) (hg : Gl X "list" := by rfl) (he : starEach (a :: es) X.env = (false, eval a X.env) :: starEach es X.env := by rfl) (hpl : (backTo pos (starEach es X.env)).any (·.1) = false := by rfl) : DE X C W (.Call (.Name "list" q) (a :: es) [] pos) (dCB (pList o) u) :=
  de_callTy call_list_of (pList_ok hK o) hm ha (hg := hg) (he := he) (hpl := hpl) (hv := by decide +kernel)
theorem de_tuple (hK : X.K = C.K) (hm : X.mg "tuple" = none) (ha : DA X C W (a :: es) u) (hg : Gl X "tuple" := by rfl) (he : starEach (a :: es) X.env = (false, eval a X.env) :: starEach es X.env := by rfl) (hpl : (backTo pos (starEach es X.env)).any (·.1) = false := by rfl) : DE X C W (.Call (.Name "tuple" q) (a :: es) [] pos) (dCB pTuple u) :=
  de_callTy call_tuple_of (pTuple_ok hK) hm ha (hg := hg) (he := he) (hpl := hpl) (hv := by decide +kernel)
end
end OD

/-! OD6: cells frozen, methods of lists, defs, instances. -/
namespace OD
open PySem PySem.Spec L2
open PyProof.Rows hiding St
/-! ### freezing -/
/-- a cell's value from now on -/
def frzD : D → Store → Option (D × Store)
  | .own k, S => match S[k]? with
    | some (.lst ds) => some (.lst ds, S.set k .gone)
    | some (.ins c fs) => some (.obj c fs, S.set k .gone)
    | _ => none
  | d, S => some (d, S)
section
variable {C : Ct} {F F1 : Hp} {μ μ1 : List Addr} {H H1 : Hp} {S : Store}
theorem SR.freeze (s : SR C F μ H S) {k : Nat} {a : Addr} {c : Cell} {o : HO} (e : S[k]? = some c) (q : μ[k]? = some a) (hF : F a = none) (hH : H a = some o) : SR C (upd F a o) μ H (S.set k .gone) ∧ Ext F μ H (upd F a o) μ H := by
  have sF : Same F (upd F a o) := fun b u eb => by rw [upd_ne (ne_of_none eb hF)]; exact eb
  refine ⟨⟨fun b u eb => ?_, by simp [s.len], s.nd, s.alive, fun j c2 b e1 e2 => ?_⟩, ⟨sF, List.prefix_refl μ, fun b u eb _ => eb, fun _ h n => absurd h n, fun b u eb n => ?_⟩⟩
  · by_cases hb : b = a
    · subst hb; rw [upd_same] at eb; rw [hH]; exact eb
    · rw [upd_ne hb] at eb; exact s.sub b u eb
  · by_cases hj : j = k
    · subst hj
      rw [List.getElem?_set_self (List.getElem?_eq_some_iff.mp e).1] at e1
      cases e1; trivial
    · rw [List.getElem?_set_ne (Ne.symm hj)] at e1
      have hb : b ≠ a := fun z => by subst z; exact hj (SR.put.nodup_get s.nd e2 q)
      exact (s.cell j c2 b e1 e2).mono sF (List.prefix_refl μ) (fun n _ => by rw [upd_ne hb]; exact n) fun u eu => eu
  · by_cases hb : b = a
    · subst hb; exact .inr (List.mem_of_getElem? q)
    · rw [upd_ne hb, n] at eb; cases eb
theorem frz_of (s : SR C F μ H S) {d d' : D} {S' : Store} {v : V} (r : Rep C F μ d v) (h : frzD d S = some (d', S')) : ∃ F', Ext F μ H F' μ H ∧ SR C F' μ H S' ∧ Rep C F' μ d' v := by
  cases d with
  | own k =>
    obtain ⟨a, rfl, q⟩ := Rep.own_iff.mp r
    simp only [frzD] at h
    split at h
    · rename_i ds e
      cases h
      obtain ⟨hF, vs, hH, rs⟩ := s.cell k _ a e q
      obtain ⟨s1, x1⟩ := s.freeze e q hF hH
      exact ⟨_, x1, s1, Rep.lst_iff.mpr ⟨a, vs, rfl, upd_same, rs.ext x1⟩⟩
    · rename_i c fs e
      cases h
      obtain ⟨hF, dx, gs, hH, rs⟩ := s.cell k _ a e q
      obtain ⟨s1, x1⟩ := s.freeze e q hF hH
      exact ⟨_, x1, s1, Rep.obj_iff.mpr ⟨a, dx, gs, rfl, upd_same, rs.ext x1⟩⟩
    · cases h
  | _ => simp only [frzD] at h; cases h; exact ⟨F, Ext.refl F μ H, s, r⟩
theorem frz_any (x : Ext F1 μ1 H1 F μ H) (s : SR C F μ H S) {D0 : Addr} {o : HO} (h1 : H1 D0 = none) (hF : F D0 = none) (hm : D0 ∉ μ) (hD : H D0 = some o) :
    Ext F1 μ1 H1 (upd F D0 o) μ H ∧ SR C (upd F D0 o) μ H S ∧ Same F (upd F D0 o) := by
  have sF : Same F (upd F D0 o) := fun b u e => by rw [upd_ne (ne_of_none e hF)]; exact e
  refine ⟨⟨x.f.trans sF, x.m, x.fr, x.new, fun a u e n => ?_⟩, ⟨fun b u e => ?_, s.len, s.nd, s.alive, fun k c a e1 e2 => ?_⟩, sF⟩
  · by_cases ha : a = D0
    · subst ha; exact .inl h1
    · rw [upd_ne ha] at e; exact x.newF a u e n
  · by_cases hb : b = D0
    · subst hb; rw [upd_same] at e; rw [hD]; exact e
    · rw [upd_ne hb] at e; exact s.sub b u e
  · have hap : a ≠ D0 := fun q => hm (q ▸ List.mem_of_getElem? e2)
    exact (s.cell k c a e1 e2).mono sF (List.prefix_refl μ) (fun n _ => by rw [upd_ne hap]; exact n) fun u e => e
end
def dFrz (t : TD D) : TD D := fun ρ S Q Xc => t ρ S (fun d S1 => ∃ d' S', frzD d S1 = some (d', S') ∧ Q d' S') Xc
section
variable {X : Cx} {C : Ct} {W : WX} {a b e o : Expr} {es : List Expr} {ta tb : TD D} {u : TD (List D)} {pos q apos cpos : Pos}
theorem de_frz (h : DE X C W a ta) : DE X C W a (dFrz ta) := PE.imp h fun σ H Q ⟨F, μ, ρ, S, R, Xc, e, s, h, hR, hX⟩ =>
  lift_of e s h (fun F1 μ1 H1 v d S1 x1 s1 r1 ⟨d', S', h1, h2⟩ => by
    obtain ⟨F2, x2, s2, r2⟩ := frz_of s1 r1 h1
    exact hR F2 μ1 H1 v d' S' (x1.trans x2) s2 r2 h2) hX
/-! ### methods of lists, of texts -/
def isLst (x : D) (S : Store) : Prop := ∃ ds, seqL x S = some ds
def dBM (ok : D → Store → Prop) (p : D → List D → Store → (D → Store → Prop) → Prop) (ta : TD D) (u : TD (List D)) : TD D := fun ρ S Q Xc => ta ρ S (fun x S1 => ok x S1 ∧ u ρ S1 (fun xs S2 => p x xs S2 Q) Xc) Xc
def TyOk (C : Ct) (K : PySem.W.Frag) (T : String) (ok : D → Store → Prop) : Prop := ∀ F μ H S d v, SR C F μ H S → Rep C F μ d v → ok d S → tyV K T v H
theorem isLst_ok {K : PySem.W.Frag} : TyOk C K "list" isLst := fun F μ H S d v s r ⟨ds, h⟩ => by
  obtain ⟨a, vs, rfl, h1, _⟩ := lstV_of s r h
  exact .inl ⟨rfl, vs, SqL.of h1⟩
def isStr (x : D) (_ : Store) : Prop := ∃ z, x = .str z
theorem isStr_ok {K : PySem.W.Frag} : TyOk C K "str" isStr := fun F μ H S d v s r ⟨z, h⟩ => by
  subst h
  rw [Rep.str_iff.mp r]; rfl
variable {name : Str} {T id : String} {r : V → List V → Hp → VK → Prop} {ok : D → Store → Prop} {p : D → List D → Store → (D → Store → Prop) → Prop}
theorem tBM_of {K : PySem.W.Frag} (hok : TyOk C K T ok) (hp : PrimM C r p) {σ : L2.St} {H : Hp} {Q : VK} (h : lift C W (rV C) (dBM ok p ta u) σ H Q) : tBM K T r (lift C W (rV C) ta) (lift C W (rVs C) u) σ H Q :=
  lift_bind (u := fun x ρ S Q Xc => ok x S ∧ u ρ S (fun xs S2 => p x xs S2 Q) Xc) (g := fun x H1 Q => tyV K T x H1 ∧ lift C W (rVs C) u σ H1 fun xs H2 => r x xs H2 Q) h fun F μ ρ H S x v R Xc e s rx hu hR hX =>
    ⟨hok F μ H S x v s rx hu.1, lift_of e s hu.2 (fun F1 μ1 H1 ws ys S1 x1 s1 r1 h1 => hp F1 μ1 H1 S1 v ws x ys R Q s1 (Rep.ext x1 rx) r1 h1 fun F2 μ2 H2 z dz S2 x2 s2 r2 h2 => hR F2 μ2 H2 z dz S2 (x1.trans x2) s2 r2 h2) hX⟩
theorem tBM0_of {K : PySem.W.Frag} (hok : TyOk C K T ok) (hp : PrimM C r p) {σ : L2.St} {H : Hp} {Q : VK} (h : lift C W (rV C) (dBM ok p ta dNil) σ H Q) : tBM0 K T r (lift C W (rV C) ta) σ H Q :=
  lift_bind (u := fun x ρ S Q Xc => ok x S ∧ p x [] S Q) (g := fun x H1 Q => tyV K T x H1 ∧ r x [] H1 Q) h fun F μ ρ H S x v R Xc e s rx hu hR hX => ⟨hok F μ H S x v s rx hu.1, hp F μ H S v [] x [] R Q s rx Reps.nil hu.2 hR⟩
theorem de_bm0 (pa : PlainAttrs T) (slot : Slot T name id) (hty : typeOf (.builtin id) = pure (.type "method_descriptor")) (hm : MtR X id r) (hok : TyOk C X.K T ok) (hp : PrimM C r p) (ho : DE X C W o ta)
    (hbase : attributeBase o name X.env (eval o X.env) = eval o X.env := by rfl) (hline : (apos.endLine == cpos.line) = true := by rfl) : DE X C W (.Call (.Attribute o name apos) [] [] cpos) (dBM ok p ta dNil) :=
  PE.imp (pe_bm0 pa slot hty hm ho hbase hline) fun _ _ _ h => tBM0_of hok hp h
theorem de_bm (pa : PlainAttrs T) (slot : Slot T name id) (hty : typeOf (.builtin id) = pure (.type "method_descriptor")) (hm : MtR X id r) (hok : TyOk C X.K T ok) (hp : PrimM C r p) (ho : DE X C W o ta) (ha : DA X C W (e :: es) u)
    (hbase : attributeBase o name X.env (eval o X.env) = eval o X.env := by rfl)
    (hfew : ((backTo cpos (starEach (e :: es) X.env)).all (fun x => !x.1) && (backToKw cpos (keywordEach [] X.env)).all (fun x => x.1.isSome)
      && decide ((e :: es).length + ([] : List Keyword).length + (if ([] : List Keyword).isEmpty then 0 else 1) < 30)) = true := by rfl)
    (hline : (apos.endLine == cpos.line) = true := by rfl) (hs : starEach (e :: es) X.env = (false, eval e X.env) :: starEach es X.env := by rfl) (hplain : (backTo cpos (starEach es X.env)).any (·.1) = false := by rfl) :
    DE X C W (.Call (.Attribute o name apos) (e :: es) [] cpos) (dBM ok p ta u) := PE.imp (pe_bm pa slot hty hm ho ha hbase hfew hline hs hplain) fun _ _ _ h => tBM_of hok hp h
/-- what a list's method does to the cell -/
def onCell (x : D) (S : Store) (f : Nat → List D → Prop) : Prop := ∃ k ds, x = .own k ∧ S[k]? = some (.lst ds) ∧ f k ds
abbrev PM := D → List D → Store → (D → Store → Prop) → Prop
def pAppend : PM := fun x xs S Q => match xs with
  | [y] => onCell x S fun k ds => ds.length < sizeLine ∧ Q .non (S.set k (.lst (ds ++ [y])))
  | _ => False
theorem cell_put {F : Hp} {μ : List Addr} {H : Hp} {S : Store} {k : Nat} {ds es : List D} {vs ws : List V} {a : Addr} {y : D} {w : V} {R : D → Store → Prop} {Q : VK} (s : SR C F μ H S) (q : μ[k]? = some a) (e : S[k]? = some (.lst ds)) (r : Reps C F μ es ws) (ry : Rep C F μ y w) (h : R y (S.set k (.lst es)))
    (hR : ∀ F' μ' H' v d S', Ext F μ H F' μ' H' → SR C F' μ' H' S' → Rep C F' μ' d v → R d S' → Q v H') : Q w (upd H a (.lst ws)) := by
  obtain ⟨s1, x1⟩ := s.put (o := .lst ws) (c' := .lst es) e q (by simp) fun hf => ⟨hf, ws, upd_same, r⟩
  exact hR F μ _ w y _ x1 s1 (Rep.ext x1 ry) h
theorem pAppend_ok : PrimM C rAppend pAppend := fun F μ H S x xs d ds R Q s rx rs hp hR => by
  unfold pAppend at hp
  split at hp
  · obtain ⟨k, es, rfl, e, h1, h2⟩ := hp
    obtain ⟨v, r', rfl, h3, h4⟩ := Reps.cons_iff.mp rs
    rw [Reps.nil_iff] at h4; subst h4
    obtain ⟨a, rfl, q⟩ := Rep.own_iff.mp rx
    obtain ⟨_, vs, h5, h6⟩ := s.cell k _ a e q
    exact ⟨a, vs, v, rfl, rfl, h5, by rw [← h6.length]; exact h1, cell_put s q e (vs := vs) (Reps.append h6 (Reps.cons h3 Reps.nil)) (Rep.non_iff.mpr rfl) h2 hR⟩
  · exact hp.elim
theorem de_append (ho : DE X C W o ta) (ha : DA X C W (e :: es) u) (hbase : attributeBase o "append" X.env (eval o X.env) = eval o X.env := by rfl)
    (hfew : ((backTo cpos (starEach (e :: es) X.env)).all (fun x => !x.1) && (backToKw cpos (keywordEach [] X.env)).all (fun x => x.1.isSome)
      && decide ((e :: es).length + ([] : List Keyword).length + (if ([] : List Keyword).isEmpty then 0 else 1) < 30)) = true := by rfl)
    (hline : (apos.endLine == cpos.line) = true := by rfl) (hs : starEach (e :: es) X.env = (false, eval e X.env) :: starEach es X.env := by rfl) (hplain : (backTo cpos (starEach es X.env)).any (·.1) = false := by rfl) :
    DE X C W (.Call (.Attribute o "append" apos) (e :: es) [] cpos) (dBM isLst pAppend ta u) := de_bm PySem.F.plainAttrs_list PySem.F.slot_list_append PySem.F.type_list_append mt_append isLst_ok pAppend_ok ho ha hbase hfew hline hs hplain
def pInsert : PM := fun x xs S Q => match xs with
  | [.int i, y] => onCell x S fun k ds => ds.length < sizeLine ∧ 0 ≤ i ∧ i < 2 ^ 63 ∧ Q .non (S.set k (.lst (ds.take i.toNat ++ [y] ++ ds.drop i.toNat)))
  | _ => False
theorem pInsert_ok : PrimM C (fun x vs H Q => ∃ (l : Addr) (xs : List V) (i : Int) (y : V), x = .ref l ∧ vs = [.int i, y] ∧ H l = some (.lst xs) ∧ xs.length < sizeLine ∧ 0 ≤ i ∧ i < 2 ^ 63 ∧
    Q .non (upd H l (.lst (xs.take i.toNat ++ [y] ++ xs.drop i.toNat)))) pInsert := fun F μ H S x xs d ds R Q s rx rs hp hR => by
  unfold pInsert at hp
  split at hp
  · obtain ⟨k, es, rfl, e, h1, h0, h01, h2⟩ := hp
    obtain ⟨v, r', rfl, h3, h4⟩ := Reps.cons_iff.mp rs
    obtain ⟨v2, r', rfl, h3', h4⟩ := Reps.cons_iff.mp h4
    rw [Reps.nil_iff] at h4; subst h4
    rw [Rep.int_iff.mp h3]
    obtain ⟨a, rfl, q⟩ := Rep.own_iff.mp rx
    obtain ⟨_, vs, h5, h6⟩ := s.cell k _ a e q
    exact ⟨a, vs, _, v2, rfl, rfl, h5, by rw [← h6.length]; exact h1, h0, h01, cell_put s q e (vs := vs) (Reps.append (Reps.append (h6.take _) (Reps.cons h3' Reps.nil)) (h6.drop _)) (Rep.non_iff.mpr rfl) h2 hR⟩
  · exact hp.elim
theorem de_insert (ho : DE X C W o ta) (ha : DA X C W (e :: es) u) (hbase : attributeBase o "insert" X.env (eval o X.env) = eval o X.env := by rfl)
    (hfew : ((backTo cpos (starEach (e :: es) X.env)).all (fun x => !x.1) && (backToKw cpos (keywordEach [] X.env)).all (fun x => x.1.isSome)
      && decide ((e :: es).length + ([] : List Keyword).length + (if ([] : List Keyword).isEmpty then 0 else 1) < 30)) = true := by rfl)
    (hline : (apos.endLine == cpos.line) = true := by rfl) (hs : starEach (e :: es) X.env = (false, eval e X.env) :: starEach es X.env := by rfl) (hplain : (backTo cpos (starEach es X.env)).any (·.1) = false := by rfl) :
    DE X C W (.Call (.Attribute o "insert" apos) (e :: es) [] cpos) (dBM isLst pInsert ta u) := de_bm PySem.F.plainAttrs_list PySem.F.slot_list_insert PySem.F.type_list_insert mt_insert isLst_ok pInsert_ok ho ha hbase hfew hline hs hplain
def pPop : PM := fun x xs S Q => match xs with
  | [] => onCell x S fun k ds => ∃ y, ds[ds.length - 1]? = some y ∧ Q y (S.set k (.lst ds.dropLast))
  | _ => False
theorem Reps.dropLast {F : Hp} {μ : List Addr} {ds : List D} {vs : List V} (h : Reps C F μ ds vs) : Reps C F μ ds.dropLast vs.dropLast := by
  rw [List.dropLast_eq_take, List.dropLast_eq_take, ← h.length]; exact h.take _
theorem pPop_ok : PrimM C rPop pPop := fun F μ H S x xs d ds R Q s rx rs hp hR => by
  unfold pPop at hp
  split at hp
  · obtain ⟨k, es, rfl, e, y, h1, h2⟩ := hp
    rw [Reps.nil_iff] at rs; subst rs
    obtain ⟨a, rfl, q⟩ := Rep.own_iff.mp rx
    obtain ⟨_, vs, h5, h6⟩ := s.cell k _ a e q
    obtain ⟨v, h7, h8⟩ := h6.get h1
    rw [h6.length] at h7
    exact ⟨a, vs, v, rfl, rfl, h5, h7, cell_put s q e (vs := vs) h6.dropLast h8 h2 hR⟩
  · exact hp.elim
theorem de_pop0 (ho : DE X C W o ta) (hbase : attributeBase o "pop" X.env (eval o X.env) = eval o X.env := by rfl) (hline : (apos.endLine == cpos.line) = true := by rfl) :
    DE X C W (.Call (.Attribute o "pop" apos) [] [] cpos) (dBM isLst pPop ta dNil) := de_bm0 PySem.F.plainAttrs_list PySem.F.slot_list_pop PySem.F.type_list_pop mt_pop isLst_ok pPop_ok ho hbase hline
def pPopAt : PM := fun x xs S Q => match xs with
  | [.int i] => onCell x S fun k ds => ∃ n y, -(2 ^ 63) ≤ i ∧ i < 2 ^ 63 ∧ seqIndex? i ds.length = some n ∧ ds[n]? = some y ∧ Q y (S.set k (.lst (ds.eraseIdx n)))
  | _ => False
theorem Reps.eraseIdx {F : Hp} {μ : List Addr} : ∀ {ds : List D} {vs : List V} (n : Nat), Reps C F μ ds vs → Reps C F μ (ds.eraseIdx n) (vs.eraseIdx n)
  | [], vs, n, h => by rw [Reps.nil_iff.mp h]; exact Reps.nil
  | d :: ds, vs, 0, h => by
    obtain ⟨v, r, rfl, h1, h2⟩ := Reps.cons_iff.mp h
    exact h2
  | d :: ds, vs, n + 1, h => by
    obtain ⟨v, r, rfl, h1, h2⟩ := Reps.cons_iff.mp h
    exact Reps.cons h1 (Reps.eraseIdx n h2)
theorem pPopAt_ok : PrimM C rPopAt pPopAt := fun F μ H S x xs d ds R Q s rx rs hp hR => by
  unfold pPopAt at hp
  split at hp
  · obtain ⟨k, es, rfl, e, n, y, h00, h01, h0, h1, h2⟩ := hp
    obtain ⟨v, r', rfl, h3, h4⟩ := Reps.cons_iff.mp rs
    rw [Reps.nil_iff] at h4; subst h4
    rw [Rep.int_iff.mp h3]
    obtain ⟨a, rfl, q⟩ := Rep.own_iff.mp rx
    obtain ⟨_, vs, h5, h6⟩ := s.cell k _ a e q
    obtain ⟨v, h7, h8⟩ := h6.get h1
    exact ⟨a, vs, _, n, v, rfl, rfl, h5, h00, h01, by rw [← h6.length]; exact h0, h7, cell_put s q e (vs := vs) (h6.eraseIdx n) h8 h2 hR⟩
  · exact hp.elim
theorem de_pop1 (ho : DE X C W o ta) (ha : DA X C W (e :: es) u) (hbase : attributeBase o "pop" X.env (eval o X.env) = eval o X.env := by rfl)
    (hfew : ((backTo cpos (starEach (e :: es) X.env)).all (fun x => !x.1) && (backToKw cpos (keywordEach [] X.env)).all (fun x => x.1.isSome)
      && decide ((e :: es).length + ([] : List Keyword).length + (if ([] : List Keyword).isEmpty then 0 else 1) < 30)) = true := by rfl)
    (hline : (apos.endLine == cpos.line) = true := by rfl) (hs : starEach (e :: es) X.env = (false, eval e X.env) :: starEach es X.env := by rfl) (hplain : (backTo cpos (starEach es X.env)).any (·.1) = false := by rfl) :
    DE X C W (.Call (.Attribute o "pop" apos) (e :: es) [] cpos) (dBM isLst pPopAt ta u) := de_bm PySem.F.plainAttrs_list PySem.F.slot_list_pop PySem.F.type_list_pop mt_popAt isLst_ok pPopAt_ok ho ha hbase hfew hline hs hplain

/-! ### a def -/
/-- a def at an address keeps its promise over D -/
structure FnA (P : Program) (w : World) (C : Ct) (mg : Str → Option Value) (base : Heap) (k : Nat) (f : Addr) (ps : List Str) (sp : SpD) : Prop where
  ex : ∃ fd, PySem.W.keepIn C.K (.ref f) = true ∧ Binds C.K fd ps [] ∧ FnOk P w C.K mg base (L2.CX P w) k f fd ps (liftP C sp)
theorem FnA.glob {P : Program} {w : World} {mg : Str → Option Value} {base : Heap} {k : Nat} {f : Addr} {ps : List Str} {sp : SpD} {x : Str} (F : FnA P w C mg base k f ps sp) (h : mg x = some (.ref f)) : FnD P w C mg base k x ps sp :=
  let ⟨fd, h1, h2, h3⟩ := F.ex; ⟨f, fd, h, h1, h2, h3⟩
/-- what a def's end is: the result, the caller's cells -/
def endsD (S : Store) (R : D → Store → Prop) (Xc : XcD) : EndsD where
  nx := fun _ S' => R .non S' ∨ ∃ S'', Cut S S' S'' ∧ R .non S''
  rt := fun d S' => (R d S') ∨ ∃ S'', Cut S S' S'' ∧ ownLt S.length d = true ∧ R d S''
  ex := fun c fs _ S' => Xc c fs S' ∨ ∃ S'', Cut S S' S'' ∧ ownLtF S.length fs = true ∧ Xc c fs S''
theorem fnOk_of {P : Program} {w : World} {mg : Str → Option Value} {base : Heap} {k n : Nat} {f : Addr} {fd : FuncData} {x qual : Str} {params : Arguments} {body : List Stmt} {scope : Scope} {N ps : List Str} {sp : SpD} {t : TSD}
    (F : FunD C.K x qual params body scope [] [] f fd) (Sc : FnScope N ps scope) (hN : ps.length + n = N.length) (ar : Arity ps.length sp)
    (hbody : ∀ (cdv : Value) (A : Around) (outer : List Env) (s : Shared) (H : Hp) (E : XK), Room k (A.deeper (envOfC qual scope s.heap.objs.size f cdv)) → Takes (cxOf (L2.CX P w) P w C.K mg base N qual scope f cdv A outer s H E) (fun cls d _ H' => E cls d H') →
      PassesOwn (model P w) (A.deeper (envOfC qual scope s.heap.objs.size f cdv)) (envOfC qual scope s.heap.objs.size f cdv) (cxOf (L2.CX P w) P w C.K mg base N qual scope f cdv A outer s H E).xe →
      DSs (cxOf (L2.CX P w) P w C.K mg base N qual scope f cdv A outer s H E) C (fun cls d _ H' => E cls d H') body t)
    (pure : ∀ ds S R Xc, sp ds S R Xc → t (endsD S R Xc) (startD n ds) S) : FnOk P w C.K mg base (L2.CX P w) (k + 1) f fd ps (liftP C sp) := by
  refine F.ok Sc (fun vs H Q E ⟨F1, μ, ds, S, R, Xc, r, s, h, _⟩ => by rw [← r.length]; exact ar _ _ _ _ h) fun cdv A outer s H vs Q E hr ⟨F1, μ, ds, S, R, Xc, r, s1, h, hR, hX⟩ => ?_
  refine ⟨_, hbody cdv A outer s H E hr (takes_of rfl rfl rfl rfl) (passes_of rfl), F1, μ, startD n ds, S, endsD S R Xc, start_env r (by rw [ar _ _ _ _ h]; exact hN), s1, pure ds S R Xc h, ?_⟩
  refine ⟨fun F' μ' H' σ' ρ' S' x e' s' h' => ?_, fun F' μ' H' v d S' x s' r' h' => ?_, fun _ _ _ _ _ _ _ _ _ z => z.elim, fun _ _ _ _ _ _ _ _ _ z => z.elim, fun F' μ' H' σ' ρ' S' cls dd c fs x e' s' r' h' => ?_⟩
  · rcases h' with h2 | ⟨S2, hc, h2⟩
    · exact hR F' μ' H' .non .non S' x s' (Rep.non_iff.mpr rfl) h2
    obtain ⟨s2, x2⟩ := s1.cut x s' hc
    exact hR F' μ H' .non .non S2 x2 s2 (Rep.non_iff.mpr rfl) h2
  · rcases h' with h' | ⟨S2, hc, ho, h'⟩
    · exact hR F' μ' H' v d S' x s' r' h'
    · obtain ⟨s2, x2⟩ := s1.cut x s' hc
      exact hR F' μ H' v d S2 x2 s2 (r'.cut x.m (by rw [s1.len]; exact ho)) h'
  · rcases h' with h2 | ⟨S2, hc, ho, h2⟩
    · exact hX F' μ' H' cls dd c fs S' x s' r' h2
    obtain ⟨s2, x2⟩ := s1.cut x s' hc
    refine hX F' μ H' cls dd c fs S2 x2 s2 ?_ h2
    obtain ⟨z1, z2⟩ := r'
    refine ⟨z1, ?_⟩
    rcases z2 with z2 | ⟨d, gs, z2, z3, z4⟩
    · exact .inl z2
    · exact .inr ⟨d, gs, z2, z3, z4.cut x.m (by rw [s1.len]; exact ho)⟩
theorem fnA_of {P : Program} {w : World} {mg : Str → Option Value} {base : Heap} {k n : Nat} {f : Addr} {fd : FuncData} {x qual : Str} {params : Arguments} {body : List Stmt} {scope : Scope} {N ps : List Str} {sp : SpD} {t : TSD}
    (F : FunD C.K x qual params body scope [] [] f fd) (b : Binds C.K fd ps []) (Sc : FnScope N ps scope) (hN : ps.length + n = N.length) (ar : Arity ps.length sp)
    (hbody : ∀ (cdv : Value) (A : Around) (outer : List Env) (s : Shared) (H : Hp) (E : XK), Room k (A.deeper (envOfC qual scope s.heap.objs.size f cdv)) → Takes (cxOf (L2.CX P w) P w C.K mg base N qual scope f cdv A outer s H E) (fun cls d _ H' => E cls d H') →
      PassesOwn (model P w) (A.deeper (envOfC qual scope s.heap.objs.size f cdv)) (envOfC qual scope s.heap.objs.size f cdv) (cxOf (L2.CX P w) P w C.K mg base N qual scope f cdv A outer s H E).xe →
      DSs (cxOf (L2.CX P w) P w C.K mg base N qual scope f cdv A outer s H E) C (fun cls d _ H' => E cls d H') body t)
    (pure : ∀ ds S R Xc, sp ds S R Xc → t (endsD S R Xc) (startD n ds) S) : FnA P w C mg base (k + 1) f ps sp := ⟨fd, F.kp, b, fnOk_of F Sc hN ar hbody pure⟩
end
end OD

/-! OD7: steps through a D-reading. -/
namespace OD
open PySem PySem.Spec L2
open PyProof.Rows hiding St
section
variable {ρ : DEnv} {S S0 : Store} {Q : D → Store → Prop} {Qb : Bool → Store → Prop} {Ql : List D → Store → Prop} {Xc : XcD} {E : EndsD} {ta tb tc : TD D} {A B : TD Bool} {u : TD (List D)} {t v : TSD} {i k n : Nat} {d x y : D} {a b j : Int} {ds : List D} {z w : Str} {p q : P2} {P : Prop}
theorem st_var (h : ρ[i]? = some (some d)) (hq : Q d S) : dVar i ρ S Q Xc := ⟨d, h, hq⟩
theorem st_c (hq : Q d S) : dC d ρ S Q Xc := hq
theorem st_op (h : ta ρ S (fun x S1 => tb ρ S1 (fun y S2 => p x y S2 Q) Xc) Xc) : dOp p ta tb ρ S Q Xc := h
theorem st_un {p : P1} (h : ta ρ S (fun x S1 => p x S1 Q) Xc) : dUn p ta ρ S Q Xc := h
theorem st_b (h : ta ρ S (fun x S1 => ∃ k, x = .bl k ∧ Qb k S1) Xc) : dB ta ρ S Qb Xc := h
theorem st_bl {c : Bool} (h : Qb c S) : ∃ k, D.bl c = .bl k ∧ Qb k S := ⟨c, rfl, h⟩
theorem st_and (h : A ρ S (fun k S1 => if k = true then B ρ S1 Qb Xc else Qb false S1) Xc) : dAnd A B ρ S Qb Xc := h
theorem st_or (h : A ρ S (fun k S1 => if k = true then Qb true S1 else B ρ S1 Qb Xc) Xc) : dOr A B ρ S Qb Xc := h
theorem st_not (h : A ρ S (fun k S1 => Qb (!k) S1) Xc) : dNot A ρ S Qb Xc := h
theorem st_andV (h : ta ρ S (fun x S1 => ∃ k, x = .bl k ∧ if k = true then tb ρ S1 Q Xc else Q (.bl false) S1) Xc) : dAndV ta tb ρ S Q Xc := h
theorem st_orV (h : ta ρ S (fun x S1 => ∃ k, x = .bl k ∧ if k = true then Q (.bl true) S1 else tb ρ S1 Q Xc) Xc) : dOrV ta tb ρ S Q Xc := h
theorem st_notV (h : ta ρ S (fun x S1 => ∃ k, x = .bl k ∧ Q (.bl (!k)) S1) Xc) : dNotV ta ρ S Q Xc := h
theorem st_blV {c : Bool} {F : Bool → Prop} (h : F c) : ∃ k, D.bl c = .bl k ∧ F k := ⟨c, rfl, h⟩
theorem st_tru {c : Bool} (h : Qb c S) : ∃ k, truD (.bl c) S = some k ∧ Qb k S := ⟨c, rfl, h⟩
theorem st_truI (h : Qb (a != 0) S) : ∃ k, truD (.int a) S = some k ∧ Qb k S := ⟨_, rfl, h⟩
theorem st_truL (h : Qb (!ds.isEmpty) S) : ∃ k, truD (.lst ds) S = some k ∧ Qb k S := ⟨_, rfl, h⟩
theorem st_truT (h : Qb (!ds.isEmpty) S) : ∃ k, truD (.tup ds) S = some k ∧ Qb k S := ⟨_, rfl, h⟩
theorem st_truO (e : S[k]? = some (.lst ds)) (h : Qb (!ds.isEmpty) S) : ∃ k', truD (.own k) S = some k' ∧ Qb k' S := ⟨_, by simp only [truD, e], h⟩
theorem st_dTru (h : ta ρ S (fun x S1 => ∃ k, truD x S1 = some k ∧ Qb k S1) Xc) : dTru truD ta ρ S Qb Xc := h
theorem st_ifE (h : A ρ S (fun k S1 => if k = true then ta ρ S1 Q Xc else tb ρ S1 Q Xc) Xc) : dIfE A ta tb ρ S Q Xc := h
theorem st_chain {p q : P2} (h : ta ρ S (fun x S1 => tb ρ S1 (fun y S2 => p x y S2 fun z S3 => ∃ k, z = .bl k ∧ (if k = true then tc ρ S3 (fun w S4 => q y w S4 Q) Xc else Q (.bl false) S3)) Xc) Xc) : dChain p q ta tb tc ρ S Q Xc := h
theorem st_ite [Decidable P] {G H : Prop} (h1 : P → G) (h2 : ¬ P → H) : if decide P = true then G else H := by
  by_cases h : P
  · rw [decide_eq_true h]; exact h1 h
  · rw [decide_eq_false h]; exact h2 h
theorem st_iteN [Decidable P] {G H : Prop} (h1 : ¬ P → G) (h2 : P → H) : if (!decide P) = true then G else H := by
  by_cases h : P
  · rw [decide_eq_true h]; exact h2 h
  · rw [decide_eq_false h]; exact h1 h
theorem st_iteB {c : Bool} {G H : Prop} (h1 : c = true → G) (h2 : c = false → H) : if c = true then G else H := by
  cases c with
  | true => exact h1 rfl
  | false => exact h2 rfl
theorem st_iteNB {c : Bool} {G H : Prop} (h1 : c = false → G) (h2 : c = true → H) : if (!c) = true then G else H := by
  cases c with
  | true => exact h2 rfl
  | false => exact h1 rfl
theorem st_iteT {G H : Prop} (h : G) : if true = true then G else H := h
theorem st_iteF {G H : Prop} (h : H) : if false = true then G else H := h
theorem st_iteNT {G H : Prop} (h : H) : if (!true) = true then G else H := h
theorem st_iteNF {G H : Prop} (h : G) : if (!false) = true then G else H := h
/-! values -/
theorem st_addI {o : Bool} (h : Q (.int (a + b)) S) : pAdd o (.int a) (.int b) S Q := h
theorem st_addS {o : Bool} (hl : z.length + w.length ≤ sizeLine) (h : Q (.str (z ++ w)) S) : pAdd o (.str z) (.str w) S Q := ⟨hl, h⟩
theorem st_addT {o : Bool} {as bs : List D} (hl : as.length + bs.length ≤ sizeLine) (h : Q (.tup (as ++ bs)) S) : pAdd o (.tup as) (.tup bs) S Q := ⟨hl, h⟩
theorem st_addL {o : Bool} {as bs : List D} (hl : as.length + bs.length ≤ sizeLine) (h : mkL o (as ++ bs) S Q) : pAdd o (.lst as) (.lst bs) S Q := ⟨as, bs, rfl, rfl, hl, h⟩
theorem st_subI (h : Q (.int (a - b)) S) : pSub (.int a) (.int b) S Q := h
theorem st_mulI {o : Bool} (hm : CMul a b ∨ CMulW a b) (h : Q (.int (a * b)) S) : pMul o (.int a) (.int b) S Q := ⟨hm, h⟩
theorem st_mulL {o : Bool} (h1 : -(2 ^ 63) ≤ b) (h2 : b < 2 ^ 63) (h3 : ds.length * b.toNat ≤ sizeLine) (h : mkL o (List.replicate b.toNat ds).flatten S Q) : pMul o (.lst ds) (.int b) S Q := ⟨ds, rfl, h1, h2, h3, h⟩
theorem st_divI (hd : CDivW a b) (h : Q (.int (a / b)) S) : pDiv (.int a) (.int b) S Q := ⟨hd, h⟩
theorem st_modI (hd : 0 < b) (h : Q (.int (a % b)) S) : pMod (.int a) (.int b) S Q := ⟨hd, h⟩
theorem st_powI (hd : CPow a b) (h : Q (.int (a ^ b.toNat)) S) : pPow (.int a) (.int b) S Q := ⟨hd, h⟩
theorem st_pow8 (h : Q (.int 100000000) S) : pPow (.int 10) (.int 8) S Q := ⟨⟨by decide, by decide, by decide⟩, h⟩
theorem st_pow18 (h : Q (.int 1000000000000000000) S) : pPow (.int 10) (.int 18) S Q := ⟨⟨by decide, by decide, by decide⟩, h⟩
theorem st_pow20 (h : Q (.int 100000000000000000000) S) : pPow (.int 10) (.int 20) S Q := ⟨⟨by decide, by decide, by decide⟩, h⟩
theorem st_pow30 (h : Q (.int 1000000000000000000000000000000) S) : pPow (.int 10) (.int 30) S Q := ⟨⟨by decide, by decide, by decide⟩, h⟩
theorem st_pow31 (h : Q (.int 10000000000000000000000000000000) S) : pPow (.int 10) (.int 31) S Q := ⟨⟨by decide, by decide, by decide⟩, h⟩
theorem st_negI (h : Q (.int (-a)) S) : pNeg (.int a) S Q := h
theorem st_ltI (h : Q (.bl (decide (a < b))) S) : pLt (.int a) (.int b) S Q := h
theorem st_leI (h : Q (.bl (decide (a ≤ b))) S) : pLe (.int a) (.int b) S Q := h
theorem st_gtI (h : Q (.bl (decide (b < a))) S) : pGt (.int a) (.int b) S Q := h
theorem st_geI (h : Q (.bl (decide (b ≤ a))) S) : pGe (.int a) (.int b) S Q := h
theorem st_eqI (h : Q (.bl (decide (a = b))) S) : pEq (.int a) (.int b) S Q := h
theorem st_eqS (h : Q (.bl (decide (z = w))) S) : pEq (.str z) (.str w) S Q := h
theorem st_eqB {c e : Bool} (h : Q (.bl (decide (c = e))) S) : pEq (.bl c) (.bl e) S Q := h
theorem st_neI (h : Q (.bl (!decide (a = b))) S) : pNe (.int a) (.int b) S Q := h
theorem st_neS (h : Q (.bl (!decide (z = w))) S) : pNe (.str z) (.str w) S Q := h
theorem st_is (h : Q (.bl (isNoneD x)) S) : pIs x .non S Q := ⟨rfl, h⟩
theorem st_isNot (h : Q (.bl (!isNoneD x)) S) : pIsNot x .non S Q := ⟨rfl, h⟩
theorem st_ixL (hi : atI ds j = some d) (h : Q d S) : pIx (.lst ds) (.int j) S Q := ⟨ds, d, rfl, hi, h⟩
theorem st_ixT (hi : atI ds j = some d) (h : Q d S) : pIx (.tup ds) (.int j) S Q := ⟨ds, d, rfl, hi, h⟩
theorem st_ixO (e : S[k]? = some (.lst ds)) (hi : atI ds j = some d) (h : Q d S) : pIx (.own k) (.int j) S Q := ⟨ds, d, by simp only [seqD, e], hi, h⟩
theorem st_ixS {c : Nat} (hl : z.length ≤ sizeLine) (hi : atI z.cps.toList j = some c) (h : Q (.str ⟨#[c]⟩) S) : pIx (.str z) (.int j) S Q := ⟨c, hl, hi, h⟩
/-! arguments, calls -/
theorem st_nil (h : Ql [] S) : dNil ρ S Ql Xc := h
theorem st_cons (h : ta ρ S (fun x S1 => u ρ S1 (fun xs S2 => Ql (x :: xs) S2) Xc) Xc) : dCons ta u ρ S Ql Xc := h
theorem st_tup (h : u ρ S (fun xs S1 => xs.length ≤ sizeLine ∧ Q (.tup xs) S1) Xc) : dTup u ρ S Q Xc := h
theorem st_lst {o : Bool} (h : u ρ S (fun xs S1 => xs.length ≤ sizeLine ∧ mkL o xs S1 Q) Xc) : dLst o u ρ S Q Xc := h
theorem small_line {m : Nat} (h : m ≤ 1000) : m ≤ sizeLine := Nat.le_trans h (by decide)
theorem st_mkF (h : Q (.lst ds) S) : mkL false ds S Q := h
theorem st_mkO (h : Q (.own S.length) (S ++ [.lst ds])) : mkL true ds S Q := h
theorem st_cb {p : PN} (h : u ρ S (fun xs S1 => p xs S1 Q) Xc) : dCB p u ρ S Q Xc := h
theorem st_call {sp : SpD} (h : u ρ S (fun ds S1 => sp ds S1 Q Xc) Xc) : dCall sp u ρ S Q Xc := h
theorem st_frzV (hf : frzD d S = some (x, S0)) (h : Q x S0) : ∃ d' S', frzD d S = some (d', S') ∧ Q d' S' := ⟨x, S0, hf, h⟩
theorem st_frz (h : ta ρ S (fun d S1 => ∃ d' S', frzD d S1 = some (d', S') ∧ Q d' S') Xc) : dFrz ta ρ S Q Xc := h
theorem st_bm {ok : D → Store → Prop} {p : PM} (h : ta ρ S (fun x S1 => ok x S1 ∧ u ρ S1 (fun xs S2 => p x xs S2 Q) Xc) Xc) : dBM ok p ta u ρ S Q Xc := h
theorem st_isStr {G : Prop} (h : G) : isStr (.str z) S ∧ G := ⟨⟨z, rfl⟩, h⟩
theorem st_isLst {G : Prop} (e : S[k]? = some (.lst ds)) (h : G) : isLst (.own k) S ∧ G := ⟨⟨ds, by simp only [seqL, e]⟩, h⟩
theorem st_append (e : S[k]? = some (.lst ds)) (hl : ds.length < sizeLine) (h : Q .non (S.set k (.lst (ds ++ [y])))) : pAppend (.own k) [y] S Q := ⟨k, ds, rfl, e, hl, h⟩
theorem st_lenL (h : Q (.int ds.length) S) : pLen [.lst ds] S Q := ⟨ds, rfl, h⟩
theorem st_lenT (h : Q (.int ds.length) S) : pLen [.tup ds] S Q := ⟨ds, rfl, h⟩
theorem st_lenO (e : S[k]? = some (.lst ds)) (h : Q (.int ds.length) S) : pLen [.own k] S Q := ⟨ds, by simp only [seqD, e], h⟩
theorem st_lenS (hl : z.length ≤ sizeLine) (h : Q (.int z.length) S) : pLen [.str z] S Q := ⟨hl, h⟩
theorem st_abs (h : Q (.int (if a < 0 then -a else a)) S) : pAbs [.int a] S Q := h
theorem st_int (h : Q (.int a) S) : pInt [.int a] S Q := h
theorem st_max2 (h : Q (.int (if b > a then b else a)) S) : pMax2 [.int a, .int b] S Q := h
theorem st_min2 (h : Q (.int (if b < a then b else a)) S) : pMin2 [.int a, .int b] S Q := h
theorem st_listS {o : Bool} {ns : List Int} (h : mkL o (ns.map D.int) S Q) : pList o [.scr ns] S Q := h
theorem st_listL {o : Bool} (h : mkL o ds S Q) : pList o [.lst ds] S Q := ⟨ds, rfl, h⟩
theorem st_listT {o : Bool} (h : mkL o ds S Q) : pList o [.tup ds] S Q := ⟨ds, rfl, h⟩
theorem st_listO {o : Bool} (e : S[k]? = some (.lst ds)) (h : mkL o ds S Q) : pList o [.own k] S Q := ⟨ds, by simp only [seqD, e], h⟩
theorem st_tupleL (h : Q (.tup ds) S) : pTuple [.lst ds] S Q := ⟨ds, rfl, h⟩
theorem st_tupleT (h : Q (.tup ds) S) : pTuple [.tup ds] S Q := ⟨ds, rfl, h⟩
theorem st_tupleO (e : S[k]? = some (.lst ds)) (h : Q (.tup ds) S) : pTuple [.own k] S Q := ⟨ds, by simp only [seqD, e], h⟩
/-! statements -/
theorem st_seq (h : t (E.wn (v E)) ρ S) : dSeq t v E ρ S := ⟨v E, h, fun _ _ z => z⟩
theorem st_join (J : DEnv → Store → Prop) (h : t (E.wn J) ρ S) (k : ∀ ρ' S', J ρ' S' → v E ρ' S') : dSeq t v E ρ S := ⟨J, h, k⟩
theorem st_next (h : E.nx ρ S) : dNext E ρ S := h
theorem st_if (h : A ρ S (fun k S1 => if k = true then t E ρ S1 else v E ρ S1) fun c fs S1 => E.ex c fs ρ S1) : dIf A t v E ρ S := h
theorem st_asg {g : TGD} (h : ta ρ S (fun d S1 => g d ρ S1 E.nx fun c fs S2 => E.ex c fs ρ S2) fun c fs S1 => E.ex c fs ρ S1) : dAsg ta g E ρ S := h
theorem st_gN {R : DEnv → Store → Prop} (h : R (ρ.set i (some d)) S) : gN i d ρ S R Xc := h
theorem st_gS {R : DEnv → Store → Prop} (h : ta ρ S (fun o S1 => tb ρ S1 (fun i S2 => setD o i d S2 fun S3 => R ρ S3) Xc) Xc) : gS ta tb d ρ S R Xc := h
theorem st_set {R : Store → Prop} (e : S[k]? = some (.lst ds)) (hi : ixN ds.length j = some n) (h : R (S.set k (.lst (ds.set n d)))) : setD (.own k) (.int j) d S R := ⟨k, ds, j, n, rfl, e, rfl, hi, h⟩
theorem st_setS {R : Store → Prop} {c : Cell} (e : S0[k]? = some c) (hi : ixN ds.length j = some n) (h : R (S0.set k (.lst (ds.set n d)))) : setD (.own k) (.int j) d (S0.set k (.lst ds)) R :=
  ⟨k, ds, j, n, rfl, List.getElem?_set_self (List.getElem?_eq_some_iff.mp e).1, rfl, hi, by rw [List.set_set]; exact h⟩
theorem st_gT {R : DEnv → Store → Prop} {gs : TGsD} (e : seqD d S = some ds) (hl : ds.length = n) (h : gs ds ρ S R Xc) : gT n gs d ρ S R Xc := ⟨ds, e, hl, h⟩
theorem st_gC {R : DEnv → Store → Prop} {g : TGD} {gs : TGsD} (h : g d ρ S (fun ρ1 S1 => gs ds ρ1 S1 R Xc) Xc) : gCons g gs (d :: ds) ρ S R Xc := ⟨d, ds, rfl, h⟩
theorem st_gNil {R : DEnv → Store → Prop} (h : R ρ S) : gNil [] ρ S R Xc := ⟨rfl, h⟩
theorem st_ret (h : ta ρ S (fun d S1 => E.rt d S1) fun c fs S1 => E.ex c fs ρ S1) : dRet ta E ρ S := h
theorem st_retN (h : E.rt .non S) : dRetN E ρ S := h
theorem st_drop (h : ta ρ S (fun _ S1 => E.nx ρ S1) fun c fs S1 => E.ex c fs ρ S1) : dDrop ta E ρ S := h
theorem get_set {c c' : Cell} (e : S[k]? = some c) : (S.set k c')[k]? = some c' := List.getElem?_set_self (List.getElem?_eq_some_iff.mp e).1
theorem get_last {c : Cell} : (S ++ [c])[S.length]? = some c := by simp
theorem get_front {L : Store} {c : Cell} (e : S[k]? = some c) : (S ++ L)[k]? = some c := by
  rw [List.getElem?_append_left (List.getElem?_eq_some_iff.mp e).1]; exact e
theorem st_wnx {J : DEnv → Store → Prop} (h : J ρ S) : (E.wn J).nx ρ S := h
theorem st_wrt {J : DEnv → Store → Prop} (h : E.rt d S) : (E.wn J).rt d S := h
theorem st_wbk {J : DEnv → Store → Prop} (h : E.bk ρ S) : (E.wn J).bk ρ S := h
theorem st_wct {J : DEnv → Store → Prop} (h : E.ct ρ S) : (E.wn J).ct ρ S := h
theorem st_lnx {J : DEnv → Store → Prop} (h : J ρ S) : (E.lp J).nx ρ S := h
theorem st_lct {J : DEnv → Store → Prop} (h : J ρ S) : (E.lp J).ct ρ S := h
theorem st_lbk {J : DEnv → Store → Prop} (h : E.nx ρ S) : (E.lp J).bk ρ S := h
theorem st_lrt {J : DEnv → Store → Prop} (h : E.rt d S) : (E.lp J).rt d S := h
theorem st_wex {J : DEnv → Store → Prop} {c : Str} {fs : List (Str × D)} (h : E.ex c fs ρ S) : (E.wn J).ex c fs ρ S := h
theorem st_lex {J : DEnv → Store → Prop} {c : Str} {fs : List (Str × D)} (h : E.ex c fs ρ S) : (E.lp J).ex c fs ρ S := h
theorem st_end {R : D → Store → Prop} (h : R d S) : (endsD S0 R Xc).rt d S := .inl h
theorem st_endC {R : D → Store → Prop} {S' : Store} (hc : Cut S0 S S') (ho : ownLt S0.length d = true) (h : R d S') : (endsD S0 R Xc).rt d S := .inr ⟨S', hc, ho, h⟩
theorem st_endN {R : D → Store → Prop} {S' : Store} (hc : Cut S0 S S') (h : R .non S') : (endsD S0 R Xc).nx ρ S := .inr ⟨S', hc, h⟩
theorem st_endN0 {R : D → Store → Prop} (h : R .non S) : (endsD S0 R Xc).nx ρ S := .inl h
theorem st_endX0 {R : D → Store → Prop} {c : Str} {fs : List (Str × D)} (h : Xc c fs S) : (endsD S0 R Xc).ex c fs ρ S := .inl h
theorem st_endX {R : D → Store → Prop} {S' : Store} {c : Str} {fs : List (Str × D)} (hc : Cut S0 S S') (ho : ownLtF S0.length fs = true) (h : Xc c fs S') : (endsD S0 R Xc).ex c fs ρ S := .inr ⟨S', hc, ho, h⟩
/-! loops -/
theorem st_for {ti : TID} {g : TGD} (h : ti ρ S (fun it S1 => ∃ I : Nat → DEnv → Store → Prop, I 0 ρ S1 ∧ ∀ i ρ S, I i ρ S → it.2 S ∧ (i = it.1.length → E.nx ρ S) ∧
  ∀ d, it.1[i]? = some d → g d ρ S (fun ρ1 S1 => t (E.lp fun ρ2 S2 => ∃ ρ3 S3, Shr ρ S ρ2 S2 ρ3 S3 ∧ I (i + 1) ρ3 S3) ρ1 S1) fun c fs S1 => E.ex c fs ρ S1) fun c fs S1 => E.ex c fs ρ S1) : dFor ti g t E ρ S := h
theorem st_range1 {Qi : List D × (Store → Prop) → Store → Prop} (h : ta ρ S (fun x S1 => ∃ j, x = .int j ∧ j < 2 ^ 62 ∧ -(2 ^ 62) ≤ j ∧ Qi (intsFrom 0 j.toNat, fun _ => True) S1) Xc) : iRange1 ta ρ S Qi Xc := h
theorem st_range1I {Qi : List D × (Store → Prop) → Store → Prop} (h1 : a < 2 ^ 62) (h2 : -(2 ^ 62) ≤ a) (h : Qi (intsFrom 0 a.toNat, fun _ => True) S) : ∃ j, D.int a = .int j ∧ j < 2 ^ 62 ∧ -(2 ^ 62) ≤ j ∧ Qi (intsFrom 0 j.toNat, fun _ => True) S := ⟨a, rfl, h1, h2, h⟩
end
end OD

/-! OE7: own exceptions over D. -/
namespace OD
open PySem PySem.Spec L2
open PyProof.Rows hiding St

structure ExD (P : Program) (w : World) (C : Ct) (mg : Str → Option Value) (base : Heap) (k : Nat) (x : Str) (spx : Addr → Sp) : Prop where
  mgx : mg x = some (.ref (C.ca x))
  ex : ExF C.K (C.ca x)
  fn : ∃ fI fd ps, PySem.W.findIn C.K (.ref (C.ca x)) "__init__" = some (some (.ref fI)) ∧ PySem.W.typeIn C.K (.ref fI) = some (.type "function") ∧ FnOk P w C.K mg base (L2.CX P w) k fI fd ps (spx (C.ca x)) ∧ Binds C.K fd ps []

theorem RepF.cons_iff {C : Ct} {F : Hp} {μ : List Addr} {p : Str × D} {ds : List (Str × D)} {vs : List (Str × V)} : RepF C F μ (p :: ds) vs ↔ ∃ v r, vs = (p.1, v) :: r ∧ Rep C F μ p.2 v ∧ RepF C F μ ds r := by
  conv => lhs; unfold RepF
theorem RepF.nil_iff {C : Ct} {F : Hp} {μ : List Addr} {vs : List (Str × V)} : RepF C F μ [] vs ↔ vs = [] := by conv => lhs; unfold RepF
theorem RepF.lookup {C : Ct} {F : Hp} {μ : List Addr} {n : Str} {d : D} : ∀ {fs : List (Str × D)} {gs : List (Str × V)}, RepF C F μ fs gs → fs.lookup n = some d → ∃ v, gs.lookup n = some v ∧ Rep C F μ d v
  | [], gs, h, e => by cases e
  | (m, x) :: fs, gs, h, e => by
    obtain ⟨v, r, rfl, h1, h2⟩ := RepF.cons_iff.mp h
    unfold List.lookup at e ⊢
    cases hm : (n == m) with
    | true => rw [hm] at e; cases e; exact ⟨v, rfl, h1⟩
    | false => rw [hm] at e; exact RepF.lookup h2 e
theorem upd_over {H : Hp} {a : Addr} {o u : HO} : upd (upd H a o) a u = upd H a u := by
  funext b
  by_cases hb : b = a
  · rw [hb, upd_same, upd_same]
  · rw [upd_ne hb, upd_ne hb, upd_ne hb]
theorem upd_swap {H : Hp} {a c : Addr} {o u : HO} (h : a ≠ c) : upd (upd H a o) c u = upd (upd H c u) a o := by
  funext b
  by_cases hb : b = a
  · subst hb; rw [upd_ne h, upd_same, upd_same]
  · by_cases hc : b = c
    · subst hc; rw [upd_same, upd_ne hb, upd_same]
    · rw [upd_ne hc, upd_ne hb, upd_ne hb, upd_ne hc]
section
variable {C : Ct} {F : Hp} {μ : List Addr} {H : Hp} {S : Store}
/-- an exception with its dict is laid for good -/
theorem SR.exc (s : SR C F μ H S) {a dx : Addr} {A : Addr} {gs : List (Str × V)} (ha : H a = none) (hd : H dx = none) (ne : dx ≠ a) :
    ∃ F', SR C F' μ (upd (upd H dx (exd dx gs)) a (exo a A (some dx))) S ∧ Ext F μ H F' μ (upd (upd H dx (exd dx gs)) a (exo a A (some dx))) ∧ ExAt F' a A gs := by
  obtain ⟨s1, x1⟩ := s.frz (o := exd dx gs) hd
  have ha1 : upd H dx (exd dx gs) a = none := by rw [upd_ne (Ne.symm ne)]; exact ha
  obtain ⟨s2, x2⟩ := s1.frz (o := exo a A (some dx)) ha1
  exact ⟨_, s2, x1.trans x2, .inr ⟨dx, .inl ⟨upd_same, by rw [upd_ne ne, upd_same]⟩⟩⟩
end
section
variable {X : Cx} {C : Ct} {W : WX} {es : List Expr} {e : Expr} {u : TD (List D)} {te : TD D} {q pos : Pos} {x : Str}
def dMk2 (c f1 f2 : Str) (u : TD (List D)) : TD D := fun ρ S Q Xc => u ρ S (fun ds S1 => ∃ d1 d2, ds = [d1, d2] ∧ Q (.exc c [(f2, d2), (f1, d1)]) S1) Xc
def dMk1 (c f1 : Str) (u : TD (List D)) : TD D := fun ρ S Q Xc => u ρ S (fun ds S1 => ∃ d1, ds = [d1] ∧ Q (.exc c [(f1, d1)]) S1) Xc
def dMk0 (c : Str) : TD D := fun _ S Q _ => Q (.exc c []) S
theorem de_mk2 {k j : Nat} {f1 f2 : Str} (hK : X.K = C.K) (F : ExD X.prog X.w C X.mg X.base k x (fun a => sp2 a f1 f2)) (hr : Room j X.A) (tk : Takes X W) (ha : DA X C W (e :: es) u) (hkj : k + 1 ≤ j := by decide) (hg : Gl X x := by rfl)
    (hdb : (x == ("__debug__" : Str)) = false := by decide) (he : starEach (e :: es) X.env = (false, eval e X.env) :: starEach es X.env := by rfl) (hpl : (backTo pos (starEach es X.env)).any (·.1) = false := by rfl) :
    DE X C W (.Call (.Name x q) (e :: es) [] pos) (dMk2 x f1 f2 u) := by
  obtain ⟨fI, fd, ps, h1, h2, ok, hb⟩ := F.fn
  have T := F.ex.T
  rw [← hK] at h1 h2 ok hb T
  refine PE.imp (pe_mkx (CX := L2.CX X.prog X.w) T h1 h2 ok (hr.mono hkj) hb .nil (passes_call tk fun _ _ _ _ z => z.elim) hg F.mgx ha hdb he hpl) fun σ H Q ⟨F1, μ, ρ, S, R, Xc, e, s, h, hR, hX⟩ => ?_
  refine lift_of e s h (fun F2 μ2 H2 vs ds S2 x2 s2 r2 h2 => ?_) hX
  obtain ⟨d1, d2, rfl, h2⟩ := h2
  obtain ⟨v1, r, rfl, r1, r9⟩ := Reps.cons_iff.mp r2
  obtain ⟨v2, r, rfl, r4, r3⟩ := Reps.cons_iff.mp r9
  rw [Reps.nil_iff] at r3; subst r3
  refine ⟨by simp, fun a ea => ⟨a, v1, v2, rfl, upd_same, fun dx n ne => ⟨rfl, ?_⟩⟩⟩
  have hd : H2 dx = none := by rw [upd_ne ne] at n; exact n
  obtain ⟨F3, s3, x3, xa⟩ := s2.exc (A := C.ca x) (gs := [(f2, v2), (f1, v1)]) ea hd ne
  have eH : upd (upd (upd (upd H2 a (exo a (C.ca x) none)) dx (exd dx [(f1, v1)])) a (exo a (C.ca x) (some dx))) dx (exd dx [(f2, v2), (f1, v1)]) = upd (upd H2 dx (exd dx [(f2, v2), (f1, v1)])) a (exo a (C.ca x) (some dx)) := by
    funext b
    by_cases hb : b = dx
    · subst hb; rw [upd_same, upd_ne ne, upd_same]
    · by_cases hc : b = a
      · subst hc; rw [upd_ne hb, upd_same, upd_same]
      · rw [upd_ne hb, upd_ne hc, upd_ne hb, upd_ne hc, upd_ne hc, upd_ne hb]
  rw [eH]
  exact hR F3 μ2 _ _ _ S2 (x2.trans x3) s3 (Rep.exc_iff.mpr ⟨a, _, rfl, xa, RepF.cons_iff.mpr ⟨v2, _, rfl, Rep.ext x3 r4, RepF.cons_iff.mpr ⟨v1, _, rfl, Rep.ext x3 r1, RepF.nil_iff.mpr rfl⟩⟩⟩) h2
theorem de_mk1 {k j : Nat} {f1 : Str} (hK : X.K = C.K) (F : ExD X.prog X.w C X.mg X.base k x (fun a => sp1 a f1)) (hr : Room j X.A) (tk : Takes X W) (ha : DA X C W (e :: es) u) (hkj : k + 1 ≤ j := by decide) (hg : Gl X x := by rfl)
    (hdb : (x == ("__debug__" : Str)) = false := by decide) (he : starEach (e :: es) X.env = (false, eval e X.env) :: starEach es X.env := by rfl) (hpl : (backTo pos (starEach es X.env)).any (·.1) = false := by rfl) :
    DE X C W (.Call (.Name x q) (e :: es) [] pos) (dMk1 x f1 u) := by
  obtain ⟨fI, fd, ps, h1, h2, ok, hb⟩ := F.fn
  have T := F.ex.T
  rw [← hK] at h1 h2 ok hb T
  refine PE.imp (pe_mkx (CX := L2.CX X.prog X.w) T h1 h2 ok (hr.mono hkj) hb .nil (passes_call tk fun _ _ _ _ z => z.elim) hg F.mgx ha hdb he hpl) fun σ H Q ⟨F1, μ, ρ, S, R, Xc, e, s, h, hR, hX⟩ => ?_
  refine lift_of e s h (fun F2 μ2 H2 vs ds S2 x2 s2 r2 h2 => ?_) hX
  obtain ⟨d1, rfl, h2⟩ := h2
  obtain ⟨v1, r, rfl, r1, r3⟩ := Reps.cons_iff.mp r2
  rw [Reps.nil_iff] at r3; subst r3
  refine ⟨by simp, fun a ea => ⟨a, v1, rfl, upd_same, fun dx n ne => ⟨rfl, ?_⟩⟩⟩
  have hd : H2 dx = none := by rw [upd_ne ne] at n; exact n
  obtain ⟨F3, s3, x3, xa⟩ := s2.exc (A := C.ca x) (gs := [(f1, v1)]) ea hd ne
  have eH : upd (upd (upd H2 a (exo a (C.ca x) none)) dx (exd dx [(f1, v1)])) a (exo a (C.ca x) (some dx)) = upd (upd H2 dx (exd dx [(f1, v1)])) a (exo a (C.ca x) (some dx)) := by
    funext b
    by_cases hb : b = a
    · subst hb; rw [upd_same, upd_same]
    · by_cases hc : b = dx
      · subst hc; rw [upd_ne hb, upd_same, upd_ne hb, upd_same]
      · rw [upd_ne hb, upd_ne hc, upd_ne hb, upd_ne hb, upd_ne hc]
  rw [eH]
  exact hR F3 μ2 _ _ _ S2 (x2.trans x3) s3 (Rep.exc_iff.mpr ⟨a, _, rfl, xa, RepF.cons_iff.mpr ⟨v1, _, rfl, Rep.ext x3 r1, RepF.nil_iff.mpr rfl⟩⟩) h2
theorem de_mk0 {bmB : List Value} {B newId initId : String} (hK : X.K = C.K) (F : ExcBaseFacts B newId initId bmB) (hq : PySem.W.excIn C.K (C.ca x) bmB newId = true) (kC : PySem.W.keepIn C.K (.ref (C.ca x)) = true) (gC : X.mg x = some (.ref (C.ca x))) (hg : Gl X x := by rfl)
    (hdb : (x == ("__debug__" : Str)) = false := by decide) : DE X C W (.Call (.Name x q) [] [] pos) (dMk0 x) := by
  rw [← hK] at hq kC
  refine PE.imp (pe_mk0 F hq kC hg gC hdb) fun σ H Q ⟨F1, μ, ρ, S, R, Xc, e, s, h, hR, hX⟩ a ea => ?_
  obtain ⟨s2, x2⟩ := s.frz (o := exo a (C.ca x) none) ea
  exact hR _ μ _ _ _ S x2 s2 (Rep.exc_iff.mpr ⟨a, [], rfl, .inl ⟨rfl, .inl upd_same⟩, RepF.nil_iff.mpr rfl⟩) h
/-- e.f of an exception -/
def XfD (C : Ct) (c n : Str) : Prop := XfC C.K (C.ca c) ∧ PySem.W.findIn C.K (.ref (C.ca c)) n = some none
def dXf (C : Ct) (n : Str) (te : TD D) : TD D := fun ρ S Q Xc => te ρ S (fun y S1 => ∃ c fs d, y = .exc c fs ∧ fs.lookup n = some d ∧ XfD C c n ∧ Q d S1) Xc
theorem de_xf {n : Str} (hK : X.K = C.K) (he : DE X C W e te) (hb : attributeBase e n X.env (eval e X.env) = eval e X.env := by rfl) : DE X C W (.Attribute e n pos) (dXf C n te) := by
  refine PE.imp (pe_xv he hb) fun σ H Q ⟨F1, μ, ρ, S, R, Xc, e, s, h, hR, hX⟩ => ?_
  refine lift_of e s h (fun F2 μ2 H2 v d S2 x2 s2 r2 h2 => ?_) hX
  obtain ⟨c, fs, y, rfl, l, ⟨T, hno⟩, h2⟩ := h2
  obtain ⟨a, gs, rfl, xa, rf⟩ := Rep.exc_iff.mp r2
  obtain ⟨v, l2, rv⟩ := rf.lookup l
  exact ⟨a, C.ca c, gs, v, rfl, xa.mono s2.sub, by rw [hK]; exact T, by rw [hK]; exact hno, l2, hR F2 μ2 H2 v y S2 x2 s2 rv h2⟩
/-! ### isinstance -/
def tyD (C : Ct) : D → Store → Option Value
  | .non, _ => some (.type "NoneType")
  | .bl _, _ => some (.type "bool")
  | .int _, _ => some (.type "int")
  | .str _, _ => some (.type "str")
  | .tup _, _ => some (.type "tuple")
  | .lst _, _ => some (.type "list")
  | .scr _, _ => some (.type "list")
  | .own k, S => match S[k]? with
    | some (.lst _) => some (.type "list")
    | _ => none
  | _, _ => none
def clD (C : Ct) : D → Option Value
  | .ty n => some (.type n)
  | .cls c => some (.ref (C.ca c))
  | _ => none
def pIsi (C : Ct) : PN := fun ds S Q => ∃ x k u b, ds = [x, k] ∧ clD C k = some u ∧ ((∃ t, tyD C x S = some t ∧ PySem.W.kitOne C.K t u = some b) ∨ (∃ c fs, x = .exc c fs ∧ ExF C.K (C.ca c) ∧ PySem.W.kitOne C.K (.ref (C.ca c)) u = some b)) ∧ Q (.bl b) S
theorem call_isiD : CallR X (.builtin "isinstance") (fun xs H Q => rIsi X.K xs H Q ∨ rIsX X.K xs H Q) := fun pins s σ H xs us Q I r h => h.elim (fun h => call_isi pins s σ H xs us Q I r h) (fun h => call_isX pins s σ H xs us Q I r h)
theorem clD_rep {F : Hp} {μ : List Addr} {k : D} {v : V} {u : Value} (r : Rep C F μ k v) (h : clD C k = some u) : ClsV v u := by
  cases k with
  | ty n => rw [Rep.ty_iff.mp r]; cases h; exact .ty n
  | cls c => rw [Rep.cls_iff.mp r]; cases h; exact .own _
  | _ => cases h
theorem SqL.tyx {K : PySem.W.Frag} {H : Hp} {a : Addr} {xs : List V} (h : SqL K H a xs) : TyX K H (.ref a) (.type "list") := by
  rcases h with (h | ⟨o, h⟩) | ⟨o, its, n, h1, h2, _⟩
  · exact .base (.lst h)
  · exact .base (.frz h)
  · exact .kList h1 h2
theorem SqT.tyx {K : PySem.W.Frag} {H : Hp} {a : Addr} {xs : List V} (h : SqT K H a xs) : TyX K H (.ref a) (.type "tuple") := by
  rcases h with (h | ⟨o, h⟩) | ⟨o, its, n, h1, h2, _⟩
  · exact .base (.tup h)
  · exact .fTuple h
  · exact .kTuple h1 h2
theorem tyD_rep {F : Hp} {μ : List Addr} {H : Hp} {S : Store} {x : D} {v : V} {t : Value} (s : SR C F μ H S) (r : Rep C F μ x v) (h : tyD C x S = some t) : TyX C.K H v t := by
  cases x with
  | non => rw [Rep.non_iff.mp r]; cases h; exact .base .non
  | bl b => rw [Rep.bl_iff.mp r]; cases h; exact .base (.bl b)
  | int b => rw [Rep.int_iff.mp r]; cases h; exact .base (.int b)
  | str b => rw [Rep.str_iff.mp r]; cases h; exact .base (.str b)
  | tup ds => obtain ⟨a, vs, rfl, q, _⟩ := Rep.tup_iff.mp r; cases h; exact SqT.tyx (tupS s.sub q)
  | lst ds => obtain ⟨a, vs, rfl, q, _⟩ := Rep.lst_iff.mp r; cases h; exact SqL.tyx (SqL.of (s.sub _ _ q))
  | scr ns => obtain ⟨a, rfl, q⟩ := Rep.scr_iff.mp r; cases h; exact SqL.tyx (s.sub.seq q)
  | own k =>
    obtain ⟨a, rfl, q⟩ := Rep.own_iff.mp r
    simp only [tyD] at h
    split at h
    · rename_i ds e
      cases h
      obtain ⟨_, vs, h1, _⟩ := s.cell k _ a e q
      exact SqL.tyx (SqL.of h1)
    · cases h
  | _ => cases h
theorem pIsi_ok (hK : X.K = C.K) : PrimN C (fun xs H Q => rIsi X.K xs H Q ∨ rIsX X.K xs H Q) (pIsi C) := fun F μ H S xs ds R Q s rs ⟨x, k, u, b, e, hk, ht, h⟩ hR => by
  subst e
  obtain ⟨v1, r, rfl, r1, r9⟩ := Reps.cons_iff.mp rs
  obtain ⟨v2, r, rfl, r4, r3⟩ := Reps.cons_iff.mp r9
  rw [Reps.nil_iff] at r3; subst r3
  rw [hK]
  rcases ht with ⟨t, ht, e⟩ | ⟨c, fs, rfl, T, e⟩
  · exact .inl ⟨v1, v2, t, u, b, rfl, clD_rep r4 hk, tyD_rep s r1 ht, e, hR F μ H _ _ S (Ext.refl F μ H) s (Rep.bl_iff.mpr rfl) h⟩
  · obtain ⟨a, gs, rfl, xa, rf⟩ := Rep.exc_iff.mp r1
    exact .inr ⟨a, C.ca c, gs, v2, u, b, rfl, clD_rep r4 hk, xa.mono s.sub, T, e, hR F μ H _ _ S (Ext.refl F μ H) s (Rep.bl_iff.mpr rfl) h⟩
theorem de_isi (hK : X.K = C.K) (hm : X.mg "isinstance" = none) (ha : DA X C W (e :: es) u) (hg : Gl X "isinstance" := by rfl) (he : starEach (e :: es) X.env = (false, eval e X.env) :: starEach es X.env := by rfl) (hpl : (backTo pos (starEach es X.env)).any (·.1) = false := by rfl) : DE X C W (.Call (.Name "isinstance" q) (e :: es) [] pos) (dCB (pIsi C) u) :=
  de_callB call_isiD (pIsi_ok hK) hm ha (hg := hg) (he := he) (hpl := hpl) (hv := by decide +kernel)
end
end OD

/-! OE8: names of classes and types as values, join. -/
namespace OD
open PySem PySem.Spec L2
open PyProof.Rows hiding St
theorem Reps.of_strs {C : Ct} {F : Hp} {μ : List Addr} : ∀ {ns : List Str} {vs : List V}, Reps C F μ (ns.map D.str) vs → vs = ns.map V.str
  | [], vs, h => Reps.nil_iff.mp h
  | n :: ns, vs, h => by
    obtain ⟨v, r, rfl, h1, h2⟩ := Reps.cons_iff.mp h
    rw [Rep.str_iff.mp h1, Reps.of_strs h2]; rfl
section
variable {X : Cx} {C : Ct} {W : WX} {es : List Expr} {o e : Expr} {u : TD (List D)} {ta : TD D} {q pos apos cpos : Pos} {x : Str}
theorem de_cls (hm : X.mg x = some (.ref (C.ca x))) (hg : Gl X x := by rfl) (hd : (x == ("__debug__" : Str)) = false := by decide) : DE X C W (.Name x pos) (dC (.cls x)) :=
  PE.imp (pe_glob hg hm (v := .ref (C.ca x)) rfl hd) fun σ H Q ⟨F, μ, ρ, S, R, Xc, e, s, h, hR, hX⟩ => hR F μ H (.ref (C.ca x)) (.cls x) S (Ext.refl F μ H) s (Rep.cls_iff.mpr rfl) h
theorem de_ty {n : String} (hm : X.mg x = none) (hv : bootBuiltins x = some (.type n) := by decide +kernel) (hg : Gl X x := by rfl) (hn : x ≠ "__name__" := by decide) (hd : (x == ("__debug__" : Str)) = false := by decide) : DE X C W (.Name x pos) (dC (.ty n)) :=
  de_c (v := .ty n) (pe_bltn hg hm hv rfl hn hd) rfl
def pJoin : D → List D → Store → (D → Store → Prop) → Prop := fun x xs S Q => ∃ a l ys, x = .str a ∧ xs = [l] ∧ seqD l S = some (ys.map D.str) ∧ (ys.map (·.length)).sum + ys.length * a.length ≤ 16777216 ∧ Q (.str (Txt.join a ys)) S
theorem seqD_of {F : Hp} {μ : List Addr} {H : Hp} {S : Store} {d : D} {v : V} {ds : List D} {K : PySem.W.Frag} (hK : K = C.K) (s : SR C F μ H S) (r : Rep C F μ d v) (h : seqD d S = some ds) : ∃ a vs, v = .ref a ∧ (SqL K H a vs ∨ SqT K H a vs) ∧ Reps C F μ ds vs := by
  subst hK
  cases d with
  | tup es => obtain ⟨a, vs, rfl, q, r2⟩ := Rep.tup_iff.mp r; cases h; exact ⟨a, vs, rfl, .inr (tupS s.sub q), r2⟩
  | lst es => obtain ⟨a, vs, rfl, q, r2⟩ := Rep.lst_iff.mp r; cases h; exact ⟨a, vs, rfl, .inl (SqL.of (s.sub _ _ q)), r2⟩
  | own k =>
    obtain ⟨a, rfl, q⟩ := Rep.own_iff.mp r
    simp only [seqD] at h
    split at h
    · rename_i es e
      cases h
      obtain ⟨_, vs, h1, r2⟩ := s.cell k _ a e q
      exact ⟨a, vs, rfl, .inl (SqL.of h1), r2⟩
    · cases h
  | _ => simp only [seqD] at h; cases h
theorem pJoin_ok (hK : X.K = C.K) : PrimM C (fun x xs H Q => ∃ a p, ∃ ys : List Str, x = .str a ∧ xs = [.ref p] ∧ (SqL X.K H p (ys.map V.str) ∨ SqT X.K H p (ys.map V.str)) ∧
    (ys.map (·.length)).sum + ys.length * a.length ≤ 16777216 ∧ Q (.str (Txt.join a ys)) H) pJoin := fun F μ H S x xs d ds R Q s rx rs ⟨a, l, ys, e1, e2, hl, hz, h⟩ hR => by
  subst e1 e2
  obtain ⟨v1, r, rfl, r1, r3⟩ := Reps.cons_iff.mp rs
  rw [Reps.nil_iff] at r3; subst r3
  obtain ⟨p, vs, rfl, hs, r2⟩ := seqD_of hK s r1 hl
  obtain rfl := Reps.of_strs r2
  exact ⟨a, p, ys, Rep.str_iff.mp rx, rfl, hs, hz, hR F μ H _ _ S (Ext.refl F μ H) s (Rep.str_iff.mpr rfl) h⟩
theorem de_join (hK : X.K = C.K) (ho : DE X C W o ta) (ha : DA X C W (e :: es) u) (hbase : attributeBase o "join" X.env (eval o X.env) = eval o X.env := by rfl)
    (hfew : ((backTo cpos (starEach (e :: es) X.env)).all (fun x => !x.1) && (backToKw cpos (keywordEach [] X.env)).all (fun x => x.1.isSome)
      && decide ((e :: es).length + ([] : List Keyword).length + (if ([] : List Keyword).isEmpty then 0 else 1) < 30)) = true := by rfl)
    (hline : (apos.endLine == cpos.line) = true := by rfl) (hs : starEach (e :: es) X.env = (false, eval e X.env) :: starEach es X.env := by rfl) (hplain : (backTo cpos (starEach es X.env)).any (·.1) = false := by rfl) :
    DE X C W (.Call (.Attribute o "join" apos) (e :: es) [] cpos) (dBM isStr pJoin ta u) := de_bm PySem.F.plainAttrs_str PySem.F.slot_str_join PySem.F.type_str_join mt_join isStr_ok (pJoin_ok hK) ho ha hbase hfew hline hs hplain
theorem takesF {X : Cx} : Takes X noW := takes0
end
end OD
namespace OD
/-- an error class without an own __init__ -/
structure Ex0 (C : Ct) (mg : PySem.Str → Option PySem.Value) (x : PySem.Str) : Prop where
  q : PySem.W.excIn C.K (C.ca x) He.veBase "ValueError.__new__" = true
  k : PySem.W.keepIn C.K (.ref (C.ca x)) = true
  g : mg x = some (.ref (C.ca x))
end OD

/-! OE9: more steps. -/
namespace OD
open PySem PySem.Spec L2
open PyProof.Rows hiding St
section
variable {ρ : DEnv} {S S0 : Store} {Q : D → Store → Prop} {Xc : XcD} {C : Ct} {u : TD (List D)} {te : TD D}
theorem st_isI {a : Int} (h : Q (.bl false) S) : pIs (.int a) .non S Q := ⟨rfl, h⟩
theorem st_isS {a : Str} (h : Q (.bl false) S) : pIs (.str a) .non S Q := ⟨rfl, h⟩
theorem st_isT {a : List D} (h : Q (.bl false) S) : pIs (.tup a) .non S Q := ⟨rfl, h⟩
theorem st_isL {a : List D} (h : Q (.bl false) S) : pIs (.lst a) .non S Q := ⟨rfl, h⟩
theorem st_isB {a : Bool} (h : Q (.bl false) S) : pIs (.bl a) .non S Q := ⟨rfl, h⟩
theorem st_isN (h : Q (.bl true) S) : pIs .non .non S Q := ⟨rfl, h⟩
theorem st_isi_of {x : D} {n : String} {t : String} {b : Bool} (ht : tyD C x S = some (.type t)) (h : kitB t n = some b) (hq : Q (.bl b) S) : pIsi C [x, .ty n] S Q := ⟨x, .ty n, _, b, rfl, rfl, .inl ⟨_, ht, kit_ty h⟩, hq⟩
theorem st_isi_cls {c : Str} {fs : List (Str × D)} {n : Str} {b : Bool} (T : ExF C.K (C.ca c)) (h : PySem.W.kitOne C.K (.ref (C.ca c)) (.ref (C.ca n)) = some b) (hq : Q (.bl b) S) : pIsi C [.exc c fs, .cls n] S Q := ⟨_, _, _, b, rfl, rfl, .inr ⟨c, fs, rfl, T, h⟩, hq⟩
theorem st_isi_cty {c : Str} {fs : List (Str × D)} {n : String} {b : Bool} (T : ExF C.K (C.ca c)) (h : PySem.W.kitOne C.K (.ref (C.ca c)) (.type n) = some b) (hq : Q (.bl b) S) : pIsi C [.exc c fs, .ty n] S Q := ⟨_, _, _, b, rfl, rfl, .inr ⟨c, fs, rfl, T, h⟩, hq⟩
theorem st_mk2 {c f1 f2 : Str} (h : u ρ S (fun ds S1 => ∃ d1 d2, ds = [d1, d2] ∧ Q (.exc c [(f2, d2), (f1, d1)]) S1) Xc) : dMk2 c f1 f2 u ρ S Q Xc := h
theorem st_mk2e {d1 d2 : D} {G : D → D → Prop} (h : G d1 d2) : ∃ e1 e2, [d1, d2] = [e1, e2] ∧ G e1 e2 := ⟨d1, d2, rfl, h⟩
theorem st_mk1 {c f1 : Str} (h : u ρ S (fun ds S1 => ∃ d1, ds = [d1] ∧ Q (.exc c [(f1, d1)]) S1) Xc) : dMk1 c f1 u ρ S Q Xc := h
theorem st_mk1e {d1 : D} {G : D → Prop} (h : G d1) : ∃ e1, [d1] = [e1] ∧ G e1 := ⟨d1, rfl, h⟩
theorem st_mk0 {c : Str} (h : Q (.exc c []) S) : dMk0 c ρ S Q Xc := h
theorem st_xf {n : Str} (h : te ρ S (fun y S1 => ∃ c fs d, y = .exc c fs ∧ fs.lookup n = some d ∧ XfD C c n ∧ Q d S1) Xc) : dXf C n te ρ S Q Xc := h
theorem st_xfe {n c : Str} {fs : List (Str × D)} {d : D} {G : D → Prop} (hl : fs.lookup n = some d) (hx : XfD C c n) (h : G d) : ∃ c' fs' d', D.exc c fs = .exc c' fs' ∧ fs'.lookup n = some d' ∧ XfD C c' n ∧ G d' := ⟨c, fs, d, rfl, hl, hx, h⟩
theorem st_truF {c : Bool} {F : Bool → Prop} (h : F c) : ∃ k, truD (.bl c) S = some k ∧ F k := ⟨c, rfl, h⟩
theorem st_yes {Qb : Bool → Store → Prop} (h : Qb true S) : dYes ρ S Qb Xc := h
theorem st_lc {o : Bool} {ti : TID} {g : GD} {A : TD Bool} {vs : List Nat} (h : ti ρ S (fun it S1 => ∃ I : Nat → List D → Store → Prop, I 0 [] S1 ∧ ∀ i acc S, I i acc S → it.2 S ∧ (i = it.1.length → mkL o acc S Q) ∧
  ∀ d, it.1[i]? = some d → ∃ ρ1, g d (wipeD ρ vs) S = some ρ1 ∧ A ρ1 S (fun k S2 => if k = true then te ρ1 S2 (fun y S3 => acc.length < sizeLine ∧ I (i + 1) (acc ++ [y]) S3) noX else I (i + 1) acc S2) noX) Xc) : dLc o ti g A te vs ρ S Q Xc := h
theorem st_iteDT {P : Prop} [Decidable P] {G H : Prop} (h1 : P) (h : G) : if decide P = true then G else H := by
  rw [if_pos (decide_eq_true h1)]; exact h
theorem st_iteDF {P : Prop} [Decidable P] {G H : Prop} (h1 : ¬ P) (h : H) : if decide P = true then G else H := by
  rw [if_neg (fun z => h1 (of_decide_eq_true z))]; exact h
theorem st_iteNDT {P : Prop} [Decidable P] {G H : Prop} (h1 : ¬ P) (h : G) : if (!decide P) = true then G else H := by
  rw [decide_eq_false h1]; exact h
theorem st_iteNDF {P : Prop} [Decidable P] {G H : Prop} (h1 : P) (h : H) : if (!decide P) = true then G else H := by
  rw [decide_eq_true h1]; exact h
theorem intsFrom_inv {n i : Nat} {d : D} (h : (intsFrom 0 n)[i]? = some d) : i < n ∧ d = .int (i : Int) := by
  have hi : i < n := by have := (List.getElem?_eq_some_iff.mp h).1; rwa [intsFrom_len] at this
  rw [intsFrom_get hi] at h
  cases h
  exact ⟨hi, by rw [Int.zero_add]⟩
theorem atI_map_range {α : Type} {f : Nat → α} {n i : Nat} (h : i < n) : atI ((List.range n).map f) (i : Int) = some (f i) := atI_nat (by simp [h])

theorem st_isi_int_bool {a : Int} (h : Q (.bl false) S) : pIsi C [.int a, .ty "bool"] S Q := st_isi_of (t := "int") rfl (by decide +kernel) h
theorem st_isi_int_int {a : Int} (h : Q (.bl true) S) : pIsi C [.int a, .ty "int"] S Q := st_isi_of (t := "int") rfl (by decide +kernel) h
theorem st_isi_int_str {a : Int} (h : Q (.bl false) S) : pIsi C [.int a, .ty "str"] S Q := st_isi_of (t := "int") rfl (by decide +kernel) h
theorem st_isi_int_list {a : Int} (h : Q (.bl false) S) : pIsi C [.int a, .ty "list"] S Q := st_isi_of (t := "int") rfl (by decide +kernel) h
theorem st_isi_int_tuple {a : Int} (h : Q (.bl false) S) : pIsi C [.int a, .ty "tuple"] S Q := st_isi_of (t := "int") rfl (by decide +kernel) h
theorem st_isi_str_bool {z : Str} (h : Q (.bl false) S) : pIsi C [.str z, .ty "bool"] S Q := st_isi_of (t := "str") rfl (by decide +kernel) h
theorem st_isi_str_int {z : Str} (h : Q (.bl false) S) : pIsi C [.str z, .ty "int"] S Q := st_isi_of (t := "str") rfl (by decide +kernel) h
theorem st_isi_str_str {z : Str} (h : Q (.bl true) S) : pIsi C [.str z, .ty "str"] S Q := st_isi_of (t := "str") rfl (by decide +kernel) h
theorem st_isi_str_list {z : Str} (h : Q (.bl false) S) : pIsi C [.str z, .ty "list"] S Q := st_isi_of (t := "str") rfl (by decide +kernel) h
theorem st_isi_str_tuple {z : Str} (h : Q (.bl false) S) : pIsi C [.str z, .ty "tuple"] S Q := st_isi_of (t := "str") rfl (by decide +kernel) h
theorem st_isi_tuple_bool {ds : List D} (h : Q (.bl false) S) : pIsi C [.tup ds, .ty "bool"] S Q := st_isi_of (t := "tuple") rfl (by decide +kernel) h
theorem st_isi_tuple_int {ds : List D} (h : Q (.bl false) S) : pIsi C [.tup ds, .ty "int"] S Q := st_isi_of (t := "tuple") rfl (by decide +kernel) h
theorem st_isi_tuple_str {ds : List D} (h : Q (.bl false) S) : pIsi C [.tup ds, .ty "str"] S Q := st_isi_of (t := "tuple") rfl (by decide +kernel) h
theorem st_isi_tuple_list {ds : List D} (h : Q (.bl false) S) : pIsi C [.tup ds, .ty "list"] S Q := st_isi_of (t := "tuple") rfl (by decide +kernel) h
theorem st_isi_tuple_tuple {ds : List D} (h : Q (.bl true) S) : pIsi C [.tup ds, .ty "tuple"] S Q := st_isi_of (t := "tuple") rfl (by decide +kernel) h
theorem st_isi_list_bool {ds : List D} (h : Q (.bl false) S) : pIsi C [.lst ds, .ty "bool"] S Q := st_isi_of (t := "list") rfl (by decide +kernel) h
theorem st_isi_list_int {ds : List D} (h : Q (.bl false) S) : pIsi C [.lst ds, .ty "int"] S Q := st_isi_of (t := "list") rfl (by decide +kernel) h
theorem st_isi_list_str {ds : List D} (h : Q (.bl false) S) : pIsi C [.lst ds, .ty "str"] S Q := st_isi_of (t := "list") rfl (by decide +kernel) h
theorem st_isi_list_list {ds : List D} (h : Q (.bl true) S) : pIsi C [.lst ds, .ty "list"] S Q := st_isi_of (t := "list") rfl (by decide +kernel) h
theorem st_isi_list_tuple {ds : List D} (h : Q (.bl false) S) : pIsi C [.lst ds, .ty "tuple"] S Q := st_isi_of (t := "list") rfl (by decide +kernel) h
theorem st_isi_bool_bool {c : Bool} (h : Q (.bl true) S) : pIsi C [.bl c, .ty "bool"] S Q := st_isi_of (t := "bool") rfl (by decide +kernel) h
theorem st_isi_bool_int {c : Bool} (h : Q (.bl true) S) : pIsi C [.bl c, .ty "int"] S Q := st_isi_of (t := "bool") rfl (by decide +kernel) h
theorem st_isi_bool_str {c : Bool} (h : Q (.bl false) S) : pIsi C [.bl c, .ty "str"] S Q := st_isi_of (t := "bool") rfl (by decide +kernel) h
theorem st_isi_bool_list {c : Bool} (h : Q (.bl false) S) : pIsi C [.bl c, .ty "list"] S Q := st_isi_of (t := "bool") rfl (by decide +kernel) h
theorem st_isi_bool_tuple {c : Bool} (h : Q (.bl false) S) : pIsi C [.bl c, .ty "tuple"] S Q := st_isi_of (t := "bool") rfl (by decide +kernel) h
theorem st_isi_NoneType_bool  (h : Q (.bl false) S) : pIsi C [.non, .ty "bool"] S Q := st_isi_of (t := "NoneType") rfl (by decide +kernel) h
theorem st_isi_NoneType_int  (h : Q (.bl false) S) : pIsi C [.non, .ty "int"] S Q := st_isi_of (t := "NoneType") rfl (by decide +kernel) h
theorem st_isi_NoneType_str  (h : Q (.bl false) S) : pIsi C [.non, .ty "str"] S Q := st_isi_of (t := "NoneType") rfl (by decide +kernel) h
theorem st_isi_NoneType_list  (h : Q (.bl false) S) : pIsi C [.non, .ty "list"] S Q := st_isi_of (t := "NoneType") rfl (by decide +kernel) h
theorem st_isi_NoneType_tuple  (h : Q (.bl false) S) : pIsi C [.non, .ty "tuple"] S Q := st_isi_of (t := "NoneType") rfl (by decide +kernel) h
end
end OD

/-! OE10: the head's Hook: facts, defs, own exceptions' __init__, one check of one's own. -/
namespace OD
open PySem PySem.Spec PyProof.Rows L2 He
abbrev AlX : Type := Bool × List He.FnW × List SupW
structure HkX where
  file : Str
  fa : List Fa
  fn : List DefD
  sx : List SupD
  xb : PySem.W.Frag → Bool
def obsX (k : HkX) (K : PySem.W.Frag) : AlX := ((k.fa.all fun f => f.ok K) && ((k.fn.all fun d => d.ok K) && ((k.sx.all fun d => supB k.file K d) && k.xb K)), k.fn.map fun d => He.fnW K d.at_, k.sx.map fun d => supW K d.cls)
def valX (k : HkX) : AlX := (true, k.fn.map DefD.val, k.sx.map SupD.val)
def SaysX (k : HkX) (K : PySem.W.Frag) : Prop := obsX k K = valX k
def asX (g : Addr → Option Obj) (n : Nat) : List Addr := asD g n ++ [PySem.cStatics]
def obsXG (n : Nat) (k : HkX) (g : Addr → Option Obj) : AlX := obsX k (frG g (asX g n))
def hookX (n : Nat) (k : HkX) : PySem.W.Hook where
  α := AlX
  obs := fun s => obsXG n k s.heap.get?
  val := fun _ => valX k
  says := fun _ h => ∃ K : PySem.W.Frag, K.In h ∧ SaysX k K
  of := fun _ _ e => ⟨_, frG_in, e⟩
  keeps := fun _ _ _ ⟨K, hK, c⟩ k => ⟨K, PySem.W.Frag.In.keeps hK k, c⟩
theorem obsXG_eq {n : Nat} {k : HkX} {g : Addr → Option Obj} {s : Shared} (h : ∀ a, g a = s.heap.get? a) : obsXG n k g = (hookX n k).obs s := by
  have e : g = s.heap.get? := funext h
  rw [e] <;> rfl
section
variable {k : HkX} {K : PySem.W.Frag}
theorem SaysX.all (c : SaysX k K) : (∀ f ∈ k.fa, f.ok K = true) ∧ (∀ d ∈ k.fn, d.ok K = true) ∧ (∀ d ∈ k.sx, supB k.file K d = true) ∧ k.xb K = true := by
  have h : ((k.fa.all fun f => f.ok K) && ((k.fn.all fun d => d.ok K) && ((k.sx.all fun d => supB k.file K d) && k.xb K))) = true := congrArg (fun z : AlX => z.1) c
  simp only [Bool.and_eq_true, List.all_eq_true] at h
  exact h
theorem SaysX.fact (c : SaysX k K) (i : Nat) {f : Fa} (h : k.fa[i]? = some f := by rfl) : f.ok K = true := c.all.1 f (List.mem_of_getElem? h)
theorem SaysX.def_ (c : SaysX k K) (i : Nat) {d : DefD} (h : k.fn[i]? = some d := by rfl) : ∃ fd, FunD K d.name d.qual d.params d.body d.scope (d.dvs K) (d.kws K) (fAd K d.at_) fd := by
  have e : k.fn.map (fun d => He.fnW K d.at_) = k.fn.map DefD.val := congrArg (fun z : AlX => z.2.1) c
  have e2 : (k.fn.map fun d => He.fnW K d.at_)[i]? = (k.fn.map DefD.val)[i]? := by rw [e]
  rw [List.getElem?_map, List.getElem?_map, h] at e2
  exact DefD.funD (Option.some.inj e2) (c.all.2.1 d (List.mem_of_getElem? h))
theorem SaysX.sup (c : SaysX k K) (i : Nat) {d : SupD} (h : k.sx[i]? = some d := by rfl) : SupF k.file K d := by
  have e : k.sx.map (fun d => supW K d.cls) = k.sx.map SupD.val := congrArg (fun z : AlX => z.2.2) c
  have e2 : (k.sx.map fun d => supW K d.cls)[i]? = (k.sx.map SupD.val)[i]? := by rw [e]
  rw [List.getElem?_map, List.getElem?_map, h] at e2
  exact supB_ok (Option.some.inj e2) (c.all.2.2.1 d (List.mem_of_getElem? h))
theorem SaysX.own (c : SaysX k K) : k.xb K = true := c.all.2.2.2
end
theorem supScope_by {N ps : List Str} {sc : Scope} (k : sc.kind = .function) (co : sc.isCoroutine = false) (ge : sc.isGenerator = false) (nd : N.Nodup) (pre : N.take ps.length = ps) (par : ∀ x ∈ ps, sc.names.lookup x = some .local) (fr : ∀ y ∈ sc.names, y.2 = .free → y.1 = ("__class__" : Str)) (nc : ∀ y ∈ sc.names, y.2 ≠ .cell)
    (su : sc.names.lookup ("super" : Str) = some .globalImplicit) (cl : sc.names.lookup ("__class__" : Str) = some .free) : SupScope N ps sc := ⟨k, co, ge, nd, pre, par, fun _ h => fr _ (PySem.mem_of_lookup h) rfl, nc, su, cl⟩
/-- the i-th statement of a class, its __init__ -/
def supOf (cls qual : Str) (st : Stmt) : SupD := ⟨cls, qual, defArgs st, defBody st, defScope st⟩
theorem SupF.exd2 {P : Program} {w : World} {file : Str} {mg : Str → Option Value} {base : Heap} {C : Ct} {d : SupD} {q0 q1 q2 q3 q4 q5 q6 q7 q8 q9 q10 q11 q12 q13 : Pos} (hca : C.ca = He.ga C.K) (F : SupF file C.K d) (gm : mg d.cls = some (.ref (He.ga C.K d.cls)))
    (hbody : d.body = [superLine (.Name "code" q0) q1 q2 q3 q4 q5, setLine "self" "at" "at" q6 q7 q8 q9, setLine "self" "code" "code" q10 q11 q12 q13])
    (S : SupScope ["self", "at", "code"] ["self", "at", "code"] d.scope) {ar : Arg} (hp : (d.params.posonlyargs ++ d.params.args).head? = some ar) (hp0 : ar.arg = "self") (hfile : P.main.file = file) (hsuper : mg "super" = none)
    (htop : (P.main.scope.names.lookup ("super" : Str)).isSome = false) (n1 : PySem.W.findIn C.K (.ref (He.ga C.K d.cls)) "at" = some none) (n2 : PySem.W.findIn C.K (.ref (He.ga C.K d.cls)) "code" = some none)
    (hev : ∃ pl : Env → Sem Bool, ∀ env : Env, eval (.Call (.Attribute (.Call (.Name "super" q1) [] [] q2) "__init__" q3) [.Name "code" q0] [] q4) env = (do
          let ov ← attributeBase (.Call (.Name "super" q1) [] [] q2) "__init__" env (eval (.Call (.Name "super" q1) [] [] q2) env)
          standAt q3.atName
          let (f1, first) ← holding [ov] (getMethod ov "__init__" (pl env))
          callWith q4 f1 first (backTo q4 (starEach [.Name "code" q0] env)) []))
    (hb : ∀ (kV doc pm : Value) (an : Option Addr) (cda cc : Addr) (ct : Value) (us : List Value), us.length = 3 → bindArgs (PySem.W.ksFn "__init__" d.qual d.params d.body d.scope .none kV doc pm an (.ref cda) ct cc) ⟨us, []⟩ = pure (List.zip (["self", "at", "code"] : List Str) us)) :
    ExD P w C mg base 1 d.cls (fun a => sp2 a "at" "code") := by
  obtain ⟨fd, ok, b⟩ := F.ok2 (P := P) (w := w) (mg := mg) (base := base) (CX := L2.CX P w) (k := 0) hbody S hp hp0 hfile hsuper htop n1 n2 hev (fun kV doc pm an cda cc ct => .all (hb kV doc pm an cda cc ct))
  refine ⟨by rw [hca]; exact gm, by rw [hca]; exact F.ex, supAt C.K d.cls, fd, _, by rw [hca]; exact F.init, F.ty, by rw [hca]; exact ok, b⟩
theorem SupF.exd1 {P : Program} {w : World} {file : Str} {mg : Str → Option Value} {base : Heap} {C : Ct} {d : SupD} {z : Str} {j : Nat} {q0 q1 q2 q3 q4 q5 q6 q7 q8 q9 : Pos} (hca : C.ca = He.ga C.K) (F : SupF file C.K d) (gm : mg d.cls = some (.ref (He.ga C.K d.cls)))
    (hbody : d.body = [superLine (.Constant (.str z) j q0) q1 q2 q3 q4 q5, setLine "self" "reason" "reason" q6 q7 q8 q9])
    (S : SupScope ["self", "reason"] ["self", "reason"] d.scope) {ar : Arg} (hp : (d.params.posonlyargs ++ d.params.args).head? = some ar) (hp0 : ar.arg = "self") (hfile : P.main.file = file) (hsuper : mg "super" = none)
    (htop : (P.main.scope.names.lookup ("super" : Str)).isSome = false) (n1 : PySem.W.findIn C.K (.ref (He.ga C.K d.cls)) "reason" = some none)
    (hev : ∃ pl : Env → Sem Bool, ∀ env : Env, eval (.Call (.Attribute (.Call (.Name "super" q1) [] [] q2) "__init__" q3) [.Constant (.str z) j q0] [] q4) env = (do
          let ov ← attributeBase (.Call (.Name "super" q1) [] [] q2) "__init__" env (eval (.Call (.Name "super" q1) [] [] q2) env)
          standAt q3.atName
          let (f1, first) ← holding [ov] (getMethod ov "__init__" (pl env))
          callWith q4 f1 first (backTo q4 (starEach [.Constant (.str z) j q0] env)) []))
    (hb : ∀ (kV doc pm : Value) (an : Option Addr) (cda cc : Addr) (ct : Value) (us : List Value), us.length = 2 → bindArgs (PySem.W.ksFn "__init__" d.qual d.params d.body d.scope .none kV doc pm an (.ref cda) ct cc) ⟨us, []⟩ = pure (List.zip (["self", "reason"] : List Str) us)) :
    ExD P w C mg base 1 d.cls (fun a => sp1 a "reason") := by
  obtain ⟨fd, ok, b⟩ := F.ok1 (P := P) (w := w) (mg := mg) (base := base) (CX := L2.CX P w) (k := 0) hbody S hp hp0 hfile hsuper htop n1 hev (fun kV doc pm an cda cc ct => .all (hb kV doc pm an cda cc ct))
  refine ⟨by rw [hca]; exact gm, by rw [hca]; exact F.ex, supAt C.K d.cls, fd, _, by rw [hca]; exact F.init, F.ty, by rw [hca]; exact ok, b⟩
end OD

/-! OF3: raise, try over D. -/
namespace OD
open PySem PySem.Spec L2
open PyProof.Rows hiding St
section
variable {X : Cx} {C : Ct} {W : WX} {es : List Expr} {e : Expr} {u : TD (List D)} {q pos rpos : Pos} {x : Str}
/-- raise C(a, b) | raise C(a), C's __init__ as sp2 | sp1 say -/
def dRaise2 (c f1 f2 : Str) (u : TD (List D)) : TSD := fun E ρ S => u ρ S (fun ds S1 => ∃ d1 d2, ds = [d1, d2] ∧ E.ex c [(f2, d2), (f1, d1)] ρ S1) fun c fs S1 => E.ex c fs ρ S1
def dRaise1 (c f1 : Str) (u : TD (List D)) : TSD := fun E ρ S => u ρ S (fun ds S1 => ∃ d1, ds = [d1] ∧ E.ex c [(f1, d1)] ρ S1) fun c fs S1 => E.ex c fs ρ S1
theorem del_upd {H : Hp} {a dx : Addr} {o1 o2 o3 : HO} (ha : H a = none) (ne : dx ≠ a) (H2 : Hp) (h : ∀ b, b ≠ a → b ≠ dx → H2 b = H b) : upd (del H2 a) dx o3 = upd H dx o3 := by
  funext b
  by_cases hb : b = dx
  · rw [hb, upd_same, upd_same]
  · rw [upd_ne hb, upd_ne hb]
    by_cases hc : b = a
    · rw [hc, del_same, ha]
    · rw [del_ne hc, h b hc hb]
theorem ds_raise2 {k j : Nat} {f1 f2 : Str} (hc : X.calm = true) (hK : X.K = C.K) (F : ExD X.prog X.w C X.mg X.base k x (fun a => sp2 a f1 f2)) (hr : Room j X.A) (tk : Takes X W) (ha : DA X C W (e :: es) u) (hkj : k + 1 ≤ j := by decide) (hg : Gl X x := by rfl)
    (hdb : (x == ("__debug__" : Str)) = false := by decide) (he : starEach (e :: es) X.env = (false, eval e X.env) :: starEach es X.env := by rfl) (hpl : (backTo pos (starEach es X.env)).any (·.1) = false := by rfl) :
    DS X C W (.Raise (some (.Call (.Name x q) (e :: es) [] pos)) none rpos) (dRaise2 x f1 f2 u) := by
  obtain ⟨fI, fd, ps, h1, h2, ok, hb⟩ := F.fn
  have T := F.ex.T
  rw [← hK] at h1 h2 ok hb T
  refine PS.imp (ps_raise hc tk (pmk_oex (CX := L2.CX X.prog X.w) T h1 h2 ok (hr.mono hkj) hb .nil (passes_call tk fun _ _ _ _ z => z.elim) hg F.mgx ha hdb he hpl)) fun D σ H ⟨F1, μ, ρ, S, E, e, s, h, kE⟩ => ?_
  refine lift_of e s h (fun F2 μ2 H2 vs ds S2 x2 s2 r2 h2 => ?_) (exOf kE e)
  obtain ⟨d1, d2, rfl, h2⟩ := h2
  obtain ⟨v1, r, rfl, r1, r9⟩ := Reps.cons_iff.mp r2
  obtain ⟨v2, r, rfl, r4, r3⟩ := Reps.cons_iff.mp r9
  rw [Reps.nil_iff] at r3; subst r3
  refine ⟨by simp, fun a ea => ⟨a, v1, v2, rfl, upd_same, fun dx n ne => ⟨rfl, dx, [(f2, v2), (f1, v1)], ?_, upd_same, ?_, ?_⟩⟩⟩
  · rw [upd_ne (Ne.symm ne), upd_same]
  · rw [upd_ne ne] at n; exact n
  have hd : H2 dx = none := by rw [upd_ne ne] at n; exact n
  obtain ⟨s3, x3⟩ := s2.frz (o := .xd [(f2, v2), (f1, v1)]) hd
  rw [del_upd (o1 := .xd []) (o2 := .xd []) ea ne _ fun b h1 h2 => by rw [upd_ne h2, upd_ne h1, upd_ne h2, upd_ne h1]]
  exact kE.ex _ μ2 _ σ ρ S2 _ _ x _ (x2.trans x3) (e.ext (x2.trans x3)) s3 ⟨rfl, .inr ⟨dx, _, rfl, upd_same, RepF.cons_iff.mpr ⟨v2, _, rfl, Rep.ext x3 r4, RepF.cons_iff.mpr ⟨v1, _, rfl, Rep.ext x3 r1, RepF.nil_iff.mpr rfl⟩⟩⟩⟩ h2
theorem ds_raise1 {k j : Nat} {f1 : Str} (hc : X.calm = true) (hK : X.K = C.K) (F : ExD X.prog X.w C X.mg X.base k x (fun a => sp1 a f1)) (hr : Room j X.A) (tk : Takes X W) (ha : DA X C W (e :: es) u) (hkj : k + 1 ≤ j := by decide) (hg : Gl X x := by rfl)
    (hdb : (x == ("__debug__" : Str)) = false := by decide) (he : starEach (e :: es) X.env = (false, eval e X.env) :: starEach es X.env := by rfl) (hpl : (backTo pos (starEach es X.env)).any (·.1) = false := by rfl) :
    DS X C W (.Raise (some (.Call (.Name x q) (e :: es) [] pos)) none rpos) (dRaise1 x f1 u) := by
  obtain ⟨fI, fd, ps, h1, h2, ok, hb⟩ := F.fn
  have T := F.ex.T
  rw [← hK] at h1 h2 ok hb T
  refine PS.imp (ps_raise hc tk (pmk_oex (CX := L2.CX X.prog X.w) T h1 h2 ok (hr.mono hkj) hb .nil (passes_call tk fun _ _ _ _ z => z.elim) hg F.mgx ha hdb he hpl)) fun D σ H ⟨F1, μ, ρ, S, E, e, s, h, kE⟩ => ?_
  refine lift_of e s h (fun F2 μ2 H2 vs ds S2 x2 s2 r2 h2 => ?_) (exOf kE e)
  obtain ⟨d1, rfl, h2⟩ := h2
  obtain ⟨v1, r, rfl, r1, r3⟩ := Reps.cons_iff.mp r2
  rw [Reps.nil_iff] at r3; subst r3
  refine ⟨by simp, fun a ea => ⟨a, v1, rfl, upd_same, fun dx n ne => ⟨rfl, dx, [(f1, v1)], upd_same, ?_, ?_, ?_⟩⟩⟩
  · rw [upd_ne ne, upd_same]
  · rw [upd_ne ne] at n; exact n
  have hd : H2 dx = none := by rw [upd_ne ne] at n; exact n
  obtain ⟨s3, x3⟩ := s2.frz (o := .xd [(f1, v1)]) hd
  rw [del_upd (o1 := .xd []) (o2 := .xd []) ea ne _ fun b h1 h2 => by rw [upd_ne h1, upd_ne h2, upd_ne h1]]
  exact kE.ex _ μ2 _ σ ρ S2 _ _ x _ (x2.trans x3) (e.ext (x2.trans x3)) s3 ⟨rfl, .inr ⟨dx, _, rfl, upd_same, RepF.cons_iff.mpr ⟨v1, _, rfl, Rep.ext x3 r1, RepF.nil_iff.mpr rfl⟩⟩⟩ h2
/-! ### try -/
def exmD (C : Ct) (x c : Str) (b : Bool) : Prop := PySem.W.exmOne C.K (.ref (C.ca x)) (.ref (C.ca c)) = some b
/-- the ends of a suite that binds slot i -/
def EndsD.gone (E : EndsD) (i : Nat) : EndsD := { nx := fun ρ S => E.nx (ρ.set i none) S, rt := E.rt, bk := fun ρ S => E.bk (ρ.set i none) S, ct := fun ρ S => E.ct (ρ.set i none) S }
def EndsD.calm (E : EndsD) : EndsD := { nx := E.nx, rt := E.rt, bk := E.bk, ct := E.ct }
def dHs (C : Ct) (E : EndsD) : List (Str × Option Nat × TSD) → Str → List (Str × D) → DEnv → Store → Prop
  | [], c, fs, ρ, S => E.ex c fs ρ S
  | (k, i, t) :: r, c, fs, ρ, S => ∃ b, exmD C c k b ∧ (if b = true then (match i with
      | none => t E.calm ρ S
      | some i => t (E.gone i) (ρ.set i (some (.exc c fs))) S) else dHs C E r c fs ρ S)
def dTry (C : Ct) (t : TSD) (l : List (Str × Option Nat × TSD)) : TSD := fun E ρ S => t { E with ex := dHs C E l } ρ S
def lowHs (C : Ct) (l : List (Str × Option Nat × TSD)) : List (Value × Option Nat × TS) := l.map fun p => (.ref (C.ca p.1), p.2.1, liftS C noW p.2.2)
theorem dHs_of {De : Ends} {E : EndsD} {F : Hp} {μ : List Addr} {H : Hp} (kE : EndOk C W F μ H E De) : ∀ (l : List (Str × Option Nat × TSD)) {F' : Hp} {μ' : List Addr} {H' : Hp} {σ' : L2.St} {ρ' : DEnv} {S' : Store} {cls : Value} {dd : Option Addr} {c : Str} {fs : List (Str × D)},
    Ext F μ H F' μ' H' → EnvR C F' μ' σ' ρ' → SR C F' μ' H' S' → ExcR C F' μ' cls dd c fs → dHs C E l c fs ρ' S' → wManyA C.K W De (lowHs C l) cls dd σ' H'
  | [], F', μ', H', σ', ρ', S', cls, dd, c, fs, x, e, s, r, h => kE.ex F' μ' H' σ' ρ' S' cls dd c fs x e s r h
  | (k, i, t) :: l, F', μ', H', σ', ρ', S', cls, dd, c, fs, x, e, s, r, h => by
    obtain ⟨b, hb, h⟩ := h
    have hcls := r.1
    refine ⟨b, by rw [hcls]; exact hb, fun hb1 a ha => ?_, fun hb0 => ?_⟩
    · rw [if_pos hb1] at h
      refine ⟨C.ca c, hcls, ?_⟩
      obtain ⟨s1, x1⟩ := s.frz (o := exk a (C.ca c) dd) ha
      have e1 := e.ext x1
      have k1 := kE.ext (x.trans x1)
      have rx : Rep C (upd F' a (exk a (C.ca c) dd)) μ' (.exc c fs) (.ref a) := by
        rcases r.2 with ⟨rfl, rfl⟩ | ⟨d, gs, rfl, hd, rf⟩
        · exact Rep.exc_iff.mpr ⟨a, [], rfl, .inl ⟨rfl, .inr upd_same⟩, RepF.nil_iff.mpr rfl⟩
        · refine Rep.exc_iff.mpr ⟨a, gs, rfl, .inr ⟨d, .inr ⟨upd_same, ?_⟩⟩, RepF.ext x1 rf⟩
          exact x1.f _ _ hd
      cases i with
      | none => exact ⟨_, μ', ρ', S', E.calm, e1, s1, h, ⟨k1.nx, k1.rt, k1.bk, k1.ct, fun _ _ _ _ _ _ _ _ _ _ _ _ _ _ z => z⟩⟩
      | some i =>
        refine ⟨_, μ', _, S', E.gone i, e1.set i rx, s1, h, ⟨fun F2 μ2 H2 σ2 ρ2 S2 y e2 s2 q => ?_, k1.rt, fun F2 μ2 H2 σ2 ρ2 S2 y e2 s2 q => ?_, fun F2 μ2 H2 σ2 ρ2 S2 y e2 s2 q => ?_, fun _ _ _ _ _ _ _ _ _ _ _ _ _ _ z => z⟩⟩
        · exact k1.nx F2 μ2 H2 _ _ S2 y (e2.unset i) s2 q
        · exact k1.bk F2 μ2 H2 _ _ S2 y (e2.unset i) s2 q
        · exact k1.ct F2 μ2 H2 _ _ S2 y (e2.unset i) s2 q
    · rw [if_neg (by rw [hb0]; simp)] at h
      exact dHs_of kE l x e s r h
theorem ds_try {body : List Stmt} {h₀ : ExceptHandler} {hds : List ExceptHandler} {t : TSD} {l : List (Str × Option Nat × TSD)} (hK : X.K = C.K) (hs : X.stack = X.env :: X.outer) (hf : X.env.frame = some X.env.locals) (tk : Takes X W)
    (hb : ∀ (W : WX) (pn : List (Addr × Obj)) (xe : Value → Shared → Prop), Takes (X.tr pn xe) W → PassesOwn (model X.prog X.w) X.A X.env xe → DSs (X.tr pn xe) C W body t)
    (hh : HdsA X (h₀ :: hds) (lowHs C l)) : DS X C W (.Try body (h₀ :: hds) [] [] pos) (dTry C t l) :=
  PS.imp (ps_tryA (tb := fun W => liftS C W t) hs hf tk hb hh) fun D σ H ⟨F, μ, ρ, S, E, e, s, h, k⟩ =>
    ⟨F, μ, ρ, S, { E with ex := dHs C E l }, e, s, h, ⟨k.nx, k.rt, k.bk, k.ct, fun F' μ' H' σ' ρ' S' cls dd c fs x e' s' r h' => by rw [hK]; exact dHs_of k l x e' s' r h'⟩⟩
theorem hd_nil : HdsA X [] (lowHs C []) := .nil
theorem hd_plain {c : Str} {t : TSD} {b₀ : Stmt} {suite : List Stmt} {np pos' : Pos} {hds : List ExceptHandler} {l : List (Str × Option Nat × TSD)} (hm : X.mg c = some (.ref (C.ca c))) (hsu : ∀ a : Addr, DSs (suiteA X a) C noW (b₀ :: suite) t) (r : HdsA X hds (lowHs C l))
    (hg : Gl X c := by rfl) (hd : (c == ("__debug__" : Str)) = false := by decide) : HdsA X (.ExceptHandler (some (.Name c np)) none (b₀ :: suite) pos' :: hds) (lowHs C ((c, none, t) :: l)) := .plain ⟨hg, hd, .inl hm⟩ hsu r
theorem hd_bind {c n : Str} {t : TSD} {b₀ : Stmt} {suite : List Stmt} {np pos' : Pos} {hds : List ExceptHandler} {l : List (Str × Option Nat × TSD)} (i : Nat) (hm : X.mg c = some (.ref (C.ca c))) (hN : X.N.Nodup) (hsu : ∀ a : Addr, DSs (suiteA X a) C noW (b₀ :: suite) t) (r : HdsA X hds (lowHs C l))
    (hi : X.N[i]? = some n := by rfl) (hln : X.env.kindOf n = some .local := by rfl) (hg : Gl X c := by rfl) (hd : (c == ("__debug__" : Str)) = false := by decide) : HdsA X (.ExceptHandler (some (.Name c np)) (some n) (b₀ :: suite) pos' :: hds) (lowHs C ((c, some i, t) :: l)) := .bind ⟨hg, hd, .inl hm⟩ hN hi hln hsu r
end
end OD

/-! OF4: instances over D: fields, C(..), methods, properties, constants of a class. -/
namespace OD
open PySem PySem.Spec L2
open PyProof.Rows hiding St
/-! ### over HandS, exceptions by the slots -/
section
variable {X : Cx} {CX : CXT} {k : Nat} {f Cc : Addr} {fd : FuncData} {ps : List Str} {sp : Sp} {E : L2.St → XK} {x m : Str} {p pos apos : Pos} {e o : Expr} {es : List Expr} {ta : TE} {t : TA}
def tMethS (Cc : Addr) (m : Str) (sp : Sp) (E : L2.St → XK) (ta : TE) (t : TA) : TE := fun σ H Q => ta σ H fun x H1 => ∃ a dx fs, x = .ref a ∧ H1 a = some (.ins Cc dx fs) ∧ fs.lookup m = none ∧ t σ H1 fun vs H2 => sp (x :: vs) H2 Q (E σ)
theorem pe_methS {pl : Env → Sem Bool} (he : PE X o ta) (c : Cls X.K Cc) (hm : Meth X.K Cc m f) (F : FnOk X.prog X.w X.K X.mg X.base CX k f fd ps sp) (hr : Room k X.A) (hb : Binds X.K fd ps []) (hx : ∀ σ, PassesAt CX X σ (E σ)) (ha : PA X (e :: es) t)
    (hst : starEach (e :: es) X.env = (false, eval e X.env) :: starEach es X.env) (hpl : (backTo pos (starEach es X.env)).any (·.1) = false)
    (ht : eval (.Call (.Attribute o m apos) (e :: es) [] pos) X.env = (do
      let ov ← eval o X.env
      standAt apos.atName
      let (f1, first) ← holding [ov] (getMethod ov m (pl X.env))
      callWith pos f1 first (backTo pos (starEach (e :: es) X.env)) (backToKw pos (keywordEach [] X.env)))) : PE X (.Call (.Attribute o m apos) (e :: es) [] pos) (tMethS Cc m sp E ta t) := by
  refine ⟨fun pins s σ H Q I h => PySem.W.methodCall_KW (pl := pl X.env) (thn (he.run pins s σ H _ I h) fun u s1 ⟨y, H1, I1, rx, a, dx, fs, ex, ea, l, q⟩ => ?_) ht⟩
  subst ex
  obtain rfl : u = Value.ref a := rx
  refine getmeth_ok I1 ea c hm l (PySem.W.callWith_K (first := [.ref a]) (h₀ := X.base) I.ok.mod.kin hm.kp (thn (ha.run pos pins s1 σ H1 _ I1 q) fun us s2 ⟨vs, H2, I2, r, q2⟩ => ⟨I2.kIn, ?_⟩) hst hpl)
  exact run_fnS (us := .ref a :: us) (vs := .ref a :: vs) F hr hb (hx σ) I2 (.cons rfl r) q2
theorem pe_methS0 {pl : Env → Sem Bool} (he : PE X o ta) (c : Cls X.K Cc) (hm : Meth X.K Cc m f) (F : FnOk X.prog X.w X.K X.mg X.base CX k f fd ps sp) (hr : Room k X.A) (hb : Binds X.K fd ps []) (hx : ∀ σ, PassesAt CX X σ (E σ))
    (ht : eval (.Call (.Attribute o m apos) [] [] pos) X.env = (do
      let ov ← eval o X.env
      standAt apos.atName
      let (f1, first) ← holding [ov] (getMethod ov m (pl X.env))
      callWith pos f1 first (backTo pos (starEach [] X.env)) (backToKw pos (keywordEach [] X.env)))) : PE X (.Call (.Attribute o m apos) [] [] pos) (tMethS Cc m sp E ta tNil) := by
  refine ⟨fun pins s σ H Q I h => PySem.W.methodCall_KW (pl := pl X.env) (thn (he.run pins s σ H _ I h) fun u s1 ⟨y, H1, I1, rx, a, dx, fs, ex, ea, l, q⟩ => ?_) ht⟩
  subst ex
  obtain rfl : u = Value.ref a := rx
  refine getmeth_ok I1 ea c hm l (PySem.W.callWith_K0 (first := [.ref a]) I1.kIn hm.kp ?_)
  exact run_fnS (us := [.ref a]) (vs := [.ref a]) F hr hb (hx σ) I1 (.cons rfl .nil) q
def tMakeS (Cc : Addr) (sp : Sp) (E : L2.St → XK) (t : TA) : TE := fun σ H Q => t σ H fun vs H1 => ∀ x dx, H1 x = none → H1 dx = none → dx ≠ x → sp (.ref x :: vs) (upd (upd H1 dx (.own x)) x (.ins Cc dx [])) (fun v H2 => v = .non ∧ Q (.ref x) H2) (E σ)
theorem pe_makeS (M : Mk X.K Cc f) (F : FnOk X.prog X.w X.K X.mg X.base CX k f fd ps sp) (hr : Room (k + 1) X.A) (hg : Gl X x) (hm : X.mg x = some (.ref Cc)) (hb : Binds X.K fd ps []) (hx : ∀ σ, PassesAt CX X σ (E σ)) (ha : PA X (e :: es) t)
    (hdb : (x == ("__debug__" : Str)) = false) (he : starEach (e :: es) X.env = (false, eval e X.env) :: starEach es X.env) (hpl : (backTo pos (starEach es X.env)).any (·.1) = false) : PE X (.Call (.Name x p) (e :: es) [] pos) (tMakeS Cc sp E t) := by
  refine ⟨fun pins s σ H Q I h => wpAny_Call_Name_kw (ld_glob I hg hm (PySem.W.callWith_K (h₀ := X.base) I.ok.mod.kin M.kp (thn (ha.run pos pins s σ H _ I h) fun us s1 ⟨vs, H1, I1, r, q⟩ => ⟨I1.kIn, ?_⟩) he hpl) hdb)⟩
  have hq := q (s1.heap.objs.size + 1) s1.heap.objs.size (I1.hok.fresh (Nat.le_succ _)) (I1.hok.fresh (Nat.le_refl _)) (Nat.ne_of_lt (Nat.lt_succ_self _))
  have I2 := Inv.made (C := Cc) I1
  have r2 : Vals (V.ref (s1.heap.objs.size + 1) :: vs) (Value.ref (s1.heap.objs.size + 1) :: us) := .cons rfl r
  have b := hb _ (Value.ref (s1.heap.objs.size + 1) :: us) I2.kIn (by rw [List.append_nil]; exact r2.length.symm.trans (F.len _ _ _ _ hq))
  rw [List.append_nil] at b
  refine wpAny_call (make_map (f := f) I1.kIn M.makes M.init (beq_iff_eq.mp M.fn) (codeAny_mono (F.run _ X.stack _ _ ⟨_, []⟩ _ _ _ (E σ) (hr.make Cc us []) (I2.env0.make Cc us []) b r2 hq) fun r' s' hq' => ?_))
  match r', hq' with
  | .error er, hq' => exact hx σ pins _ _ er s' I2 hq'
  | .ok (.ret u), hq' =>
    obtain ⟨v, H', I3, rv, ev, q3⟩ := I2.after hq'
    subst ev
    exact ⟨rv, V.ref (s1.heap.objs.size + 1), H', I3, rfl, q3⟩
  | .ok .next, hq' => exact False.elim hq'
  | .ok .brk, hq' => exact False.elim hq'
  | .ok .cont, hq' => exact False.elim hq'
end
/-! ### over D -/
def insD : D → Store → Option (Str × List (Str × D))
  | .obj c fs, _ => some (c, fs)
  | .own k, S => match S[k]? with
    | some (.ins c fs) => some (c, fs)
    | _ => none
  | _, _ => none
section
variable {C : Ct} {F : Hp} {μ : List Addr} {H : Hp} {S : Store}
theorem insD_of {d : D} {v : V} {c : Str} {fs : List (Str × D)} (s : SR C F μ H S) (r : Rep C F μ d v) (h : insD d S = some (c, fs)) : ∃ a dx gs, v = .ref a ∧ H a = some (.ins (C.ca c) dx gs) ∧ RepF C F μ fs gs := by
  cases d with
  | obj c' fs' => obtain ⟨a, dx, gs, rfl, q, rf⟩ := Rep.obj_iff.mp r; cases h; exact ⟨a, dx, gs, rfl, s.sub _ _ q, rf⟩
  | own k =>
    obtain ⟨a, rfl, q⟩ := Rep.own_iff.mp r
    simp only [insD] at h
    split at h
    · rename_i c' fs' e
      cases h
      obtain ⟨_, dx, gs, h1, rf⟩ := s.cell k _ a e q
      exact ⟨a, dx, gs, rfl, h1, rf⟩
    · cases h
  | _ => simp only [insD] at h; cases h
theorem RepF.lookup0 {n : Str} : ∀ {fs : List (Str × D)} {gs : List (Str × V)}, RepF C F μ fs gs → fs.lookup n = none → gs.lookup n = none
  | [], gs, h, _ => by rw [RepF.nil_iff.mp h]; rfl
  | (m, x) :: fs, gs, h, e => by
    obtain ⟨v, r, rfl, h1, h2⟩ := RepF.cons_iff.mp h
    unfold List.lookup at e ⊢
    cases hm : (n == m) with
    | true => rw [hm] at e; cases e
    | false => rw [hm] at e; exact RepF.lookup0 h2 e
def putD (f : Str) (v : D) : List (Str × D) → List (Str × D)
  | [] => [(f, v)]
  | (g, x) :: r => if g = f then (g, v) :: r else (g, x) :: putD f v r
theorem RepF.put {f : Str} {d : D} {v : V} (rd : Rep C F μ d v) : ∀ {fs : List (Str × D)} {gs : List (Str × V)}, RepF C F μ fs gs → RepF C F μ (putD f d fs) (putF f v gs)
  | [], gs, h => by rw [RepF.nil_iff.mp h]; exact RepF.cons_iff.mpr ⟨v, [], rfl, rd, RepF.nil_iff.mpr rfl⟩
  | (m, x) :: fs, gs, h => by
    obtain ⟨y, r, rfl, h1, h2⟩ := RepF.cons_iff.mp h
    unfold putD putF
    by_cases hm : m = f
    · rw [if_pos hm, if_pos hm]; exact RepF.cons_iff.mpr ⟨v, r, rfl, rd, h2⟩
    · rw [if_neg hm, if_neg hm]; exact RepF.cons_iff.mpr ⟨y, _, rfl, h1, RepF.put rd h2⟩
theorem RepF.length : ∀ {fs : List (Str × D)} {gs : List (Str × V)}, RepF C F μ fs gs → fs.length = gs.length
  | [], gs, h => by rw [RepF.nil_iff.mp h]; rfl
  | p :: fs, gs, h => by
    obtain ⟨v, r, rfl, _, h2⟩ := RepF.cons_iff.mp h
    simp [RepF.length h2]
end
def FldOk (C : Ct) (c f : Str) : Prop := Cls C.K (C.ca c) ∧ NoAttr C.K (C.ca c) f
section
variable {X : Cx} {C : Ct} {W : WX} {es : List Expr} {o e : Expr} {u : TD (List D)} {ta tv : TD D} {q pos apos pos' : Pos} {x f m : Str}
/-- e.f -/
def dFld (C : Ct) (f : Str) (ta : TD D) : TD D := fun ρ S Q Xc => ta ρ S (fun y S1 => ∃ c fs d, insD y S1 = some (c, fs) ∧ FldOk C c f ∧ fs.lookup f = some d ∧ Q d S1) Xc
theorem de_fld (hK : X.K = C.K) (he : DE X C W e ta) (hb : attributeBase e f X.env (eval e X.env) = eval e X.env := by rfl) : DE X C W (.Attribute e f pos) (dFld C f ta) := by
  refine PE.imp (pe_fld he hb) fun σ H Q ⟨F, μ, ρ, S, R, Xc, e, s, h, hR, hX⟩ => ?_
  refine lift_of e s h (fun F2 μ2 H2 v d S2 x2 s2 r2 h2 => ?_) hX
  obtain ⟨c, fs, y, hi, ⟨h1, h3⟩, l, h2⟩ := h2
  obtain ⟨a, dx, gs, rfl, ea, rf⟩ := insD_of s2 r2 hi
  obtain ⟨v, l2, rv⟩ := rf.lookup l
  exact ⟨a, C.ca c, dx, gs, v, rfl, ea, by rw [hK]; exact h1, by rw [hK]; exact h3, l2, hR F2 μ2 H2 v y S2 x2 s2 rv h2⟩
/-- a constant of the class -/
def ConD (C : Ct) (c f : Str) (d : D) : Prop := Cls C.K (C.ca c) ∧ ∃ v u, Con C.K (C.ca c) f v u ∧ Flat d v
/-- e.f = v -/
def dSetF (C : Ct) (f : Str) (ta tv : TD D) : TSD := fun E ρ S => tv ρ S (fun y S1 => ta ρ S1 (fun x S2 => ∃ k c fs, x = .own k ∧ S2[k]? = some (.ins c fs) ∧ FldOk C c f ∧ fs.length < 1000 ∧ E.nx ρ (S2.set k (.ins c (putD f y fs)))) fun c fs S2 => E.ex c fs ρ S2) fun c fs S1 => E.ex c fs ρ S1
theorem ds_fld {value : Expr} (hK : X.K = C.K) (ha : DE X C W o ta) (hv : DE X C W value tv) (hs : swapsWith value (some (.Attribute o f pos')) pos.line X.env = pure false := by rfl) : DS X C W (.Assign [.Attribute o f pos'] value pos) (dSetF C f ta tv) := by
  refine PS.imp (ps_fld ha hv hs) fun D σ H ⟨F, μ, ρ, S, E, e, s, h, k⟩ => ?_
  refine lift_of e s h (fun F1 μ1 H1 v y S1 x1 s1 r1 h1 => ?_) (exOf k e)
  refine lift_of (e.ext x1) s1 h1 (fun F2 μ2 H2 v2 y2 S2 x2 s2 r2 h2 => ?_) fun F2 μ2 H2 cls dd c fs S2 x2 s2 r2 h2 => exOf k e F2 μ2 H2 cls dd c fs S2 (x1.trans x2) s2 r2 h2
  obtain ⟨i, c, fs, rfl, ek, ⟨hc, hn⟩, hl, h2⟩ := h2
  obtain ⟨a, rfl, q⟩ := Rep.own_iff.mp r2
  obtain ⟨_, dx, gs, ea, rf⟩ := s2.cell i _ a ek q
  refine ⟨a, C.ca c, dx, gs, rfl, ea, by rw [hK]; exact hc, by rw [hK]; exact hn, by rw [← rf.length]; exact hl, ?_⟩
  obtain ⟨s3, x3⟩ := s2.put (o := .ins (C.ca c) dx (putF f v gs)) (c' := .ins c (putD f y fs)) ek q (by simp) fun hF => ⟨hF, dx, _, upd_same, RepF.put (Rep.ext x2 r1) rf⟩
  exact k.nx _ μ2 _ σ ρ _ (x1.trans (x2.trans x3)) (e.ext (x1.trans (x2.trans x3))) s3 h2
/-! classes as the text has them -/
structure MakD (P : Program) (w : World) (C : Ct) (mg : Str → Option Value) (base : Heap) (k : Nat) (c : Str) (ps : List Str) (sp : SpD) : Prop where
  ex : mg c = some (.ref (C.ca c)) ∧ ∃ f fd, Mk C.K (C.ca c) f ∧ Binds C.K fd ps [] ∧ FnOk P w C.K mg base (L2.CX P w) k f fd ps (liftP C sp)
structure MetD (P : Program) (w : World) (C : Ct) (mg : Str → Option Value) (base : Heap) (k : Nat) (c m : Str) (ps : List Str) (sp : SpD) : Prop where
  ex : Cls C.K (C.ca c) ∧ ∃ f fd, Meth C.K (C.ca c) m f ∧ Binds C.K fd ps [] ∧ FnOk P w C.K mg base (L2.CX P w) k f fd ps (liftP C sp)
structure ProD (P : Program) (w : World) (C : Ct) (mg : Str → Option Value) (base : Heap) (k : Nat) (c m : Str) (sp : SpD) : Prop where
  ex : Cls C.K (C.ca c) ∧ ∃ p g fd, PropOf C.K (C.ca c) m p g ∧ Binds C.K fd ["self"] [] ∧ FnOk P w C.K mg base (L2.CX P w) k g fd ["self"] (liftP C sp)
/-- C(e, ..) -/
def dMake (c : Str) (sp : SpD) (u : TD (List D)) : TD D := fun ρ S Q Xc => u ρ S (fun ds S1 => sp (.own S1.length :: ds) (S1 ++ [.ins c []]) (fun v S2 => v = .non ∧ Q (.own S1.length) S2) Xc) Xc
theorem de_make {k j : Nat} {ps : List Str} {sp : SpD} (hK : X.K = C.K) (F : MakD X.prog X.w C X.mg X.base k x ps sp) (hr : Room j X.A) (tk : Takes X W) (ha : DA X C W (e :: es) u) (hkj : k + 1 ≤ j := by decide) (hg : Gl X x := by rfl)
    (hdb : (x == ("__debug__" : Str)) = false := by decide) (he : starEach (e :: es) X.env = (false, eval e X.env) :: starEach es X.env := by rfl) (hpl : (backTo pos (starEach es X.env)).any (·.1) = false := by rfl) :
    DE X C W (.Call (.Name x q) (e :: es) [] pos) (dMake x sp u) := by
  obtain ⟨hm, f, fd, M, hb, ok⟩ := F.ex
  rw [← hK] at M hb ok
  refine PE.imp (pe_makeS (E := WE W) M ok (hr.mono hkj) hg hm hb (fun σ => passAt tk σ) ha hdb he hpl) fun σ H Q ⟨F, μ, ρ, S, R, Xc, e, s, h, hR, hX⟩ => ?_
  refine lift_of e s h (fun F2 μ2 H2 vs ds S2 x2 s2 r2 h2 a dx ea ed ne => ?_) hX
  obtain ⟨s3, x3⟩ := s2.junk (o := .own a) ed
  have ea3 : upd H2 dx (.own a) a = none := by rw [upd_ne (Ne.symm ne)]; exact ea
  have fa : F2 a = none := s2.freeF ea
  obtain ⟨s4, x4⟩ := s3.cellNew (o := .ins (C.ca x) dx []) (c := .ins x []) ea3 ⟨fa, dx, [], upd_same, RepF.nil_iff.mpr rfl⟩
  have x5 := x3.trans x4
  have r0 : Rep C F2 (μ2 ++ [a]) (.own S2.length) (.ref a) := Rep.own_iff.mpr ⟨a, rfl, by rw [← s2.len]; simp⟩
  refine ⟨F2, μ2 ++ [a], _, S2 ++ [.ins x []], _, Xc, Reps.cons r0 (r2.ext x5), s4, h2, fun F6 μ6 H6 v d S6 x6 s6 r6 h6 => ?_, fun F6 μ6 H6 cls dd c fs S6 x6 s6 r6 h6 => hX F6 μ6 H6 cls dd c fs S6 (x2.trans (x5.trans x6)) s6 r6 h6⟩
  obtain ⟨rfl, h6⟩ := h6
  exact ⟨Rep.non_iff.mp r6, hR F6 μ6 H6 _ _ S6 (x2.trans (x5.trans x6)) s6 (Rep.ext x6 r0) h6⟩
/-- o.m(e, ..) -/
def dMeth (c m : Str) (sp : SpD) (ta : TD D) (u : TD (List D)) : TD D := fun ρ S Q Xc => ta ρ S (fun y S1 => ∃ fs, insD y S1 = some (c, fs) ∧ fs.lookup m = none ∧ u ρ S1 (fun ds S2 => sp (y :: ds) S2 Q Xc) Xc) Xc
theorem tMethS_of {c : Str} {sp : SpD} {σ : L2.St} {H : Hp} {Q : VK} (h : lift C W (rV C) (dMeth c m sp ta u) σ H Q) : tMethS (C.ca c) m (liftP C sp) (WE W) (lift C W (rV C) ta) (lift C W (rVs C) u) σ H Q := by
  obtain ⟨F, μ, ρ, S, R, Xc, e, s, h, hR, hX⟩ := h
  refine lift_of e s h (fun F1 μ1 H1 v y S1 x1 s1 r1 h1 => ?_) hX
  obtain ⟨fs, hi, hl, h1⟩ := h1
  obtain ⟨a, dx, gs, rfl, ea, rf⟩ := insD_of s1 r1 hi
  refine ⟨a, dx, gs, rfl, ea, rf.lookup0 hl, ?_⟩
  refine lift_of (e.ext x1) s1 h1 (fun F2 μ2 H2 vs ds S2 x2 s2 r2 h2 => ?_) fun F2 μ2 H2 cls dd c fs S2 x2 s2 r2 h2 => hX F2 μ2 H2 cls dd c fs S2 (x1.trans x2) s2 r2 h2
  exact ⟨F2, μ2, _, S2, R, Xc, Reps.cons (Rep.ext x2 r1) r2, s2, h2, fun F6 μ6 H6 v d S6 x6 s6 r6 h6 => hR F6 μ6 H6 v d S6 (x1.trans (x2.trans x6)) s6 r6 h6, fun F6 μ6 H6 cls dd c fs S6 x6 s6 r6 h6 => hX F6 μ6 H6 cls dd c fs S6 (x1.trans (x2.trans x6)) s6 r6 h6⟩
theorem de_meth {k j : Nat} {c : Str} {ps : List Str} {sp : SpD} {pl : Env → Sem Bool} (hK : X.K = C.K) (F : MetD X.prog X.w C X.mg X.base k c m ps sp) (hr : Room j X.A) (tk : Takes X W) (ho : DE X C W o ta) (ha : DA X C W (e :: es) u) (hkj : k ≤ j := by decide)
    (he : starEach (e :: es) X.env = (false, eval e X.env) :: starEach es X.env := by rfl) (hpl : (backTo pos (starEach es X.env)).any (·.1) = false := by rfl)
    (ht : eval (.Call (.Attribute o m apos) (e :: es) [] pos) X.env = (do
      let ov ← eval o X.env
      standAt apos.atName
      let (f1, first) ← holding [ov] (getMethod ov m (pl X.env))
      callWith pos f1 first (backTo pos (starEach (e :: es) X.env)) (backToKw pos (keywordEach [] X.env))) := by rfl) : DE X C W (.Call (.Attribute o m apos) (e :: es) [] pos) (dMeth c m sp ta u) := by
  obtain ⟨hc, f, fd, M, hb, ok⟩ := F.ex
  rw [← hK] at hc M hb ok
  exact PE.imp (pe_methS (E := WE W) ho hc M ok (hr.mono hkj) hb (fun σ => passAt tk σ) ha he hpl ht) fun _ _ _ h => tMethS_of h
theorem de_meth0 {k j : Nat} {c : Str} {ps : List Str} {sp : SpD} {pl : Env → Sem Bool} (hK : X.K = C.K) (F : MetD X.prog X.w C X.mg X.base k c m ps sp) (hr : Room j X.A) (tk : Takes X W) (ho : DE X C W o ta) (hkj : k ≤ j := by decide)
    (ht : eval (.Call (.Attribute o m apos) [] [] pos) X.env = (do
      let ov ← eval o X.env
      standAt apos.atName
      let (f1, first) ← holding [ov] (getMethod ov m (pl X.env))
      callWith pos f1 first (backTo pos (starEach [] X.env)) (backToKw pos (keywordEach [] X.env))) := by rfl) : DE X C W (.Call (.Attribute o m apos) [] [] pos) (dMeth c m sp ta dNil) := by
  obtain ⟨hc, f, fd, M, hb, ok⟩ := F.ex
  rw [← hK] at hc M hb ok
  refine PE.imp (pe_methS0 (E := WE W) ho hc M ok (hr.mono hkj) hb (fun σ => passAt tk σ) ht) fun σ H Q h => ?_
  obtain ⟨F, μ, ρ, S, R, Xc, e, s, h, hR, hX⟩ := h
  refine lift_of e s h (fun F1 μ1 H1 v y S1 x1 s1 r1 h1 => ?_) hX
  obtain ⟨fs, hi, hl, h1⟩ := h1
  obtain ⟨a, dx, gs, rfl, ea, rf⟩ := insD_of s1 r1 hi
  exact ⟨a, dx, gs, rfl, ea, rf.lookup0 hl, F1, μ1, _, S1, R, Xc, Reps.cons r1 Reps.nil, s1, h1, fun F6 μ6 H6 v d S6 x6 s6 r6 h6 => hR F6 μ6 H6 v d S6 (x1.trans x6) s6 r6 h6, fun F6 μ6 H6 cls dd c fs S6 x6 s6 r6 h6 => hX F6 μ6 H6 cls dd c fs S6 (x1.trans x6) s6 r6 h6⟩
/-- o.m, a property that raises nothing -/
def dProp (c : Str) (sp : SpD) (ta : TD D) : TD D := fun ρ S Q Xc => ta ρ S (fun y S1 => (∃ fs, insD y S1 = some (c, fs)) ∧ sp [y] S1 Q noX) Xc
theorem de_prop {k j : Nat} {c : Str} {sp : SpD} (hK : X.K = C.K) (F : ProD X.prog X.w C X.mg X.base k c m sp) (hr : Room j X.A) (ho : DE X C W o ta) (hkj : k + 1 ≤ j := by decide) (hab : attributeBase o m X.env (eval o X.env) = eval o X.env := by rfl) : DE X C W (.Attribute o m pos) (dProp c sp ta) := by
  obtain ⟨hc, p, g, fd, M, hb, ok⟩ := F.ex
  rw [← hK] at hc M hb ok
  refine PE.imp (pe_prop (dvs := []) (ds := []) (E := fun _ _ _ => False) ho hc M ok (hr.mono hkj) hb .nil (fun pins σ H s e s' I h => ?_) hab) fun σ H Q h => ?_
  · obtain ⟨_, _, _, _, _, _, _, _, _, _, _, _, z⟩ := h
    exact z
  · obtain ⟨F, μ, ρ, S, R, Xc, e, s, h, hR, hX⟩ := h
    refine lift_of e s h (fun F1 μ1 H1 v y S1 x1 s1 r1 h1 => ?_) hX
    obtain ⟨⟨fs, hi⟩, h1⟩ := h1
    obtain ⟨a, dx, gs, rfl, ea, rf⟩ := insD_of s1 r1 hi
    exact ⟨a, dx, gs, rfl, ea, F1, μ1, _, S1, R, noX, Reps.cons r1 Reps.nil, s1, h1, fun F6 μ6 H6 v d S6 x6 s6 r6 h6 => hR F6 μ6 H6 v d S6 (x1.trans x6) s6 r6 h6, fun _ _ _ _ _ _ _ _ _ _ _ z => z⟩
end
end OD

/-! OF5: more operations over D: sum, max, min, sorted, any, in, slices, str of an int, augmented assignments. -/
namespace OD
open PySem PySem.Spec L2
open PyProof.Rows hiding St
section
variable {X : Cx} {C : Ct} {W : WX} {es : List Expr} {a b e : Expr} {u : TD (List D)} {ta tb : TD D} {q pos : Pos} {F : Hp} {μ : List Addr} {H : Hp} {S : Store}
theorem Reps.one {d : D} {vs : List V} (r : Reps C F μ [d] vs) : ∃ v, vs = [v] ∧ Rep C F μ d v := by
  obtain ⟨v, r', rfl, h1, h2⟩ := Reps.cons_iff.mp r
  rw [Reps.nil_iff] at h2; subst h2
  exact ⟨v, rfl, h1⟩
def pSum : PN := fun ds S Q => ∃ (l : D) (ns : List Int), ds = [l] ∧ seqL l S = some (ns.map D.int) ∧ Q (.int ns.sum) S
def pMax1 : PN := fun ds S Q => ∃ (l : D) (ns : List Int), ds = [l] ∧ seqL l S = some (ns.map D.int) ∧ 0 < ns.length ∧ ∀ m, m ∈ ns → (∀ y, y ∈ ns → y ≤ m) → Q (.int m) S
def pMin1 : PN := fun ds S Q => ∃ (l : D) (ns : List Int), ds = [l] ∧ seqL l S = some (ns.map D.int) ∧ 0 < ns.length ∧ ∀ m, m ∈ ns → (∀ y, y ∈ ns → m ≤ y) → Q (.int m) S
def pSorted (o : Bool) : PN := fun ds S Q => ∃ (l : D) (ns : List Int), ds = [l] ∧ seqL l S = some (ns.map D.int) ∧ ∀ ns' : List Int, ns'.Perm ns → ns'.Pairwise (· ≤ ·) → mkL o (ns'.map D.int) S Q
def pAny : PN := fun ds S Q => ∃ (l : D) (bs : List Bool), ds = [l] ∧ seqL l S = some (bs.map D.bl) ∧ Q (.bl (bs.any id)) S
theorem ints_of {l : D} {v : V} {ns : List Int} {K : PySem.W.Frag} (s : SR C F μ H S) (r : Rep C F μ l v) (h : seqL l S = some (ns.map D.int)) : ∃ p, v = .ref p ∧ SqL K H p (ns.map V.int) := by
  obtain ⟨p, vs, rfl, h1, r2⟩ := lstV_of s r h
  rw [Reps.of_ints r2] at h1
  exact ⟨p, rfl, SqL.of h1⟩
theorem Reps.of_bls : ∀ {ns : List Bool} {vs : List V}, Reps C F μ (ns.map D.bl) vs → vs = ns.map V.bl
  | [], vs, h => Reps.nil_iff.mp h
  | n :: ns, vs, h => by
    obtain ⟨v, r, rfl, h1, h2⟩ := Reps.cons_iff.mp h
    rw [Rep.bl_iff.mp h1, Reps.of_bls h2]; rfl
theorem pSum_ok {K : PySem.W.Frag} : PrimN C (rSum K) pSum := fun F μ H S xs ds R Q s r ⟨l, ns, e, h1, h⟩ hR => by
  subst e
  obtain ⟨v, rfl, r1⟩ := r.one
  obtain ⟨p, rfl, hl⟩ := ints_of (K := K) s r1 h1
  exact ⟨p, ns, rfl, hl, hR F μ H _ _ S (Ext.refl F μ H) s (Rep.int_iff.mpr rfl) h⟩
theorem pMax1_ok {K : PySem.W.Frag} : PrimN C (rMax K) pMax1 := fun F μ H S xs ds R Q s r ⟨l, ns, e, h1, h0, h⟩ hR => by
  subst e
  obtain ⟨v, rfl, r1⟩ := r.one
  obtain ⟨p, rfl, hl⟩ := ints_of (K := K) s r1 h1
  exact ⟨p, ns, rfl, hl, h0, fun m m1 m2 => hR F μ H _ _ S (Ext.refl F μ H) s (Rep.int_iff.mpr rfl) (h m m1 m2)⟩
theorem pMin1_ok {K : PySem.W.Frag} : PrimN C (rMin K) pMin1 := fun F μ H S xs ds R Q s r ⟨l, ns, e, h1, h0, h⟩ hR => by
  subst e
  obtain ⟨v, rfl, r1⟩ := r.one
  obtain ⟨p, rfl, hl⟩ := ints_of (K := K) s r1 h1
  exact ⟨p, ns, rfl, hl, h0, fun m m1 m2 => hR F μ H _ _ S (Ext.refl F μ H) s (Rep.int_iff.mpr rfl) (h m m1 m2)⟩
theorem pSorted_ok {K : PySem.W.Frag} (o : Bool) : PrimN C (rSortedI K) (pSorted o) := fun F μ H S xs ds R Q s r ⟨l, ns, e, h1, h⟩ hR => by
  subst e
  obtain ⟨v, rfl, r1⟩ := r.one
  obtain ⟨p, rfl, hl⟩ := ints_of (K := K) s r1 h1
  exact ⟨p, ns, rfl, hl, fun ns' p' m1 m2 hp' => mk_lst s (Reps.ints ns') hp' (h ns' m1 m2) hR⟩
theorem pAny_ok {K : PySem.W.Frag} : PrimN C (rAny K) pAny := fun F μ H S xs ds R Q s r ⟨l, bs, e, h1, h⟩ hR => by
  subst e
  obtain ⟨v, rfl, r1⟩ := r.one
  obtain ⟨p, vs, rfl, h2, r2⟩ := lstV_of s r1 h1
  rw [Reps.of_bls r2] at h2
  exact ⟨p, bs, rfl, SqL.of h2, hR F μ H _ _ S (Ext.refl F μ H) s (Rep.bl_iff.mpr rfl) h⟩
theorem de_sum (hc : X.calm = true) (hm : X.mg "sum" = none) (ha : DA X C W (e :: es) u) (hg : Gl X "sum" := by rfl) (he : starEach (e :: es) X.env = (false, eval e X.env) :: starEach es X.env := by rfl) (hpl : (backTo pos (starEach es X.env)).any (·.1) = false := by rfl) : DE X C W (.Call (.Name "sum" q) (e :: es) [] pos) (dCB pSum u) :=
  de_callB (cr_sum hc) pSum_ok hm ha (hg := hg) (he := he) (hpl := hpl) (hv := by decide +kernel)
theorem de_max1 (hc : X.calm = true) (hm : X.mg "max" = none) (ha : DA X C W (e :: es) u) (hg : Gl X "max" := by rfl) (he : starEach (e :: es) X.env = (false, eval e X.env) :: starEach es X.env := by rfl) (hpl : (backTo pos (starEach es X.env)).any (·.1) = false := by rfl) : DE X C W (.Call (.Name "max" q) (e :: es) [] pos) (dCB pMax1 u) :=
  de_callB (cr_max hc) pMax1_ok hm ha (hg := hg) (he := he) (hpl := hpl) (hv := by decide +kernel)
theorem de_min1 (hc : X.calm = true) (hm : X.mg "min" = none) (ha : DA X C W (e :: es) u) (hg : Gl X "min" := by rfl) (he : starEach (e :: es) X.env = (false, eval e X.env) :: starEach es X.env := by rfl) (hpl : (backTo pos (starEach es X.env)).any (·.1) = false := by rfl) : DE X C W (.Call (.Name "min" q) (e :: es) [] pos) (dCB pMin1 u) :=
  de_callB (cr_min hc) pMin1_ok hm ha (hg := hg) (he := he) (hpl := hpl) (hv := by decide +kernel)
theorem de_sorted (o : Bool) (hm : X.mg "sorted" = none) (ha : DA X C W (e :: es) u) (hg : Gl X "sorted" := by rfl) (he : starEach (e :: es) X.env = (false, eval e X.env) :: starEach es X.env := by rfl) (hpl : (backTo pos (starEach es X.env)).any (·.1) = false := by rfl) : DE X C W (.Call (.Name "sorted" q) (e :: es) [] pos) (dCB (pSorted o) u) :=
  de_callB cr_sortedI (pSorted_ok o) hm ha (hg := hg) (he := he) (hpl := hpl) (hv := by decide +kernel)
theorem de_any (hc : X.calm = true) (hm : X.mg "any" = none) (ha : DA X C W (e :: es) u) (hg : Gl X "any" := by rfl) (he : starEach (e :: es) X.env = (false, eval e X.env) :: starEach es X.env := by rfl) (hpl : (backTo pos (starEach es X.env)).any (·.1) = false := by rfl) : DE X C W (.Call (.Name "any" q) (e :: es) [] pos) (dCB pAny u) :=
  de_callB (cr_any hc) pAny_ok hm ha (hg := hg) (he := he) (hpl := hpl) (hv := by decide +kernel)
def pStr : PN := fun ds S Q => match ds with
  | [.int i] => i.natAbs.log2 < 1920 ∧ Q (.str (toString i)) S
  | _ => False
theorem de_strC (hm : X.mg "str" = none) (ha : DA X C W (e :: es) u) (hg : Gl X "str" := by rfl) (he : starEach (e :: es) X.env = (false, eval e X.env) :: starEach es X.env := by rfl) (hpl : (backTo pos (starEach es X.env)).any (·.1) = false := by rfl) : DE X C W (.Call (.Name "str" q) (e :: es) [] pos) (dCB pStr u) :=
  de_callTy (p := pStr) call_str_int (fun F μ H S xs ds R Q s r hp hR => by
    unfold pStr at hp
    split at hp
    · obtain ⟨v, rfl, r1⟩ := r.one
      exact ⟨_, by rw [Rep.int_iff.mp r1], hp.1, hR F μ H _ _ S (Ext.refl F μ H) s (Rep.str_iff.mpr rfl) hp.2⟩
    · exact hp.elim) hm ha (hg := hg) (he := he) (hpl := hpl) (hv := by decide +kernel)
/-! ### in -/
def toV : D → Option V
  | .non => some .non
  | .bl b => some (.bl b)
  | .int i => some (.int i)
  | .str z => some (.str z)
  | _ => none
theorem toV_rep {d : D} {v w : V} (r : Rep C F μ d v) (h : toV d = some w) : v = w ∧ flatV v = true := by
  cases d with
  | non => rw [Rep.non_iff.mp r]; cases h; exact ⟨rfl, rfl⟩
  | bl b => rw [Rep.bl_iff.mp r]; cases h; exact ⟨rfl, rfl⟩
  | int b => rw [Rep.int_iff.mp r]; cases h; exact ⟨rfl, rfl⟩
  | str b => rw [Rep.str_iff.mp r]; cases h; exact ⟨rfl, rfl⟩
  | _ => cases h
def toVs : List D → Option (List V)
  | [] => some []
  | d :: ds => match toV d, toVs ds with
    | some v, some vs => some (v :: vs)
    | _, _ => none
theorem toVs_rep : ∀ {ds : List D} {vs ws : List V}, Reps C F μ ds vs → toVs ds = some ws → vs = ws ∧ vs.all flatV = true
  | [], vs, ws, r, h => by rw [Reps.nil_iff.mp r]; cases h; exact ⟨rfl, rfl⟩
  | d :: ds, vs, ws, r, h => by
    obtain ⟨v, r', rfl, h1, h2⟩ := Reps.cons_iff.mp r
    unfold toVs at h
    split at h
    · rename_i a b e1 e2
      cases h
      obtain ⟨rfl, f1⟩ := toV_rep h1 e1
      obtain ⟨rfl, f2⟩ := toVs_rep h2 e2
      exact ⟨rfl, by simp [f1, f2]⟩
    · cases h
def pInG (neg : Bool) : P2 := fun x y S Q => ∃ w ds ws, toV x = some w ∧ seqD y S = some ds ∧ toVs ds = some ws ∧ Q (.bl (if neg then !inV w ws else inV w ws)) S
abbrev pIn : P2 := pInG false
abbrev pNotIn : P2 := pInG true
theorem pIn_ok {K : PySem.W.Frag} (hK : K = C.K) (neg : Bool) : Prim2 C (rIn K neg) (pInG neg) := fun F μ H S x y dx dy R Q s rx ry ⟨w, ds, ws, h1, h2, h3, h⟩ hR => by
  subst hK
  obtain ⟨rfl, f1⟩ := toV_rep rx h1
  obtain ⟨p, vs, rfl, hq, r2⟩ := seqV_of s ry h2
  obtain ⟨rfl, f2⟩ := toVs_rep r2 h3
  exact ⟨p, vs, rfl, hq, f1, f2, hR F μ H _ _ S (Ext.refl F μ H) s (Rep.bl_iff.mpr rfl) h⟩
theorem de_in {k : Nat} (hK : X.K = C.K) (hr : Room k X.A) (ha : DE X C W a ta) (hb : DE X C W b tb) (hm : behindInMarks CmpOp.In b = false := by first | exact nomark _ | rfl) : DE X C W (.Compare a [.In] [b] pos) (dOp pIn ta tb) := de_cmp op_in_seq (pIn_ok hK false) ha hb hm
theorem dt_in {k : Nat} (hK : X.K = C.K) (hr : Room k X.A) (ha : DE X C W a ta) (hb : DE X C W b tb) (hm : behindInMarks CmpOp.In b = false := by first | exact nomark _ | rfl) : DT X C W (.Compare a [.In] [b] pos) (dB (dOp pIn ta tb)) := dt_cmp op_in_seq (pIn_ok hK false) ha hb hm
theorem de_notin {k : Nat} (hK : X.K = C.K) (hr : Room k X.A) (ha : DE X C W a ta) (hb : DE X C W b tb) (hm : behindInMarks CmpOp.NotIn b = false := by first | exact nomark _ | rfl) : DE X C W (.Compare a [.NotIn] [b] pos) (dOp pNotIn ta tb) := de_cmp op_notIn_seq (pIn_ok hK true) ha hb hm
theorem dt_notin {k : Nat} (hK : X.K = C.K) (hr : Room k X.A) (ha : DE X C W a ta) (hb : DE X C W b tb) (hm : behindInMarks CmpOp.NotIn b = false := by first | exact nomark _ | rfl) : DT X C W (.Compare a [.NotIn] [b] pos) (dB (dOp pNotIn ta tb)) := dt_cmp op_notIn_seq (pIn_ok hK true) ha hb hm
theorem toVs_ints : ∀ (ns : List Int), toVs (ns.map D.int) = some (ns.map V.int)
  | [] => rfl
  | n :: ns => by
    show (match toV (.int n), toVs (ns.map D.int) with
      | some v, some vs => some (v :: vs)
      | _, _ => none) = _
    rw [toVs_ints ns]; rfl
theorem inV_ints (x : Int) (ns : List Int) : inV (.int x) (ns.map V.int) = decide (x ∈ ns) := by
  induction ns with
  | nil => rfl
  | cons n ns ih =>
    show (eqV (.int n) (.int x) || inV (.int x) (ns.map V.int)) = _
    rw [ih]
    show ((n == x) || _) = _
    by_cases h : n = x
    · subst h; simp
    · have e : (n == x) = false := by simpa using h
      rw [e]
      simp [Ne.symm h]
/-! ### slices -/
def cutD (xs : List D) (lo hi : Option Int) : List D := (xs.drop (HT.sIx xs.length 0 lo)).take (HT.sIx xs.length xs.length hi - HT.sIx xs.length 0 lo)
theorem Reps.cutI {ds : List D} {vs : List V} (r : Reps C F μ ds vs) (lo hi : Option Int) : Reps C F μ (cutD ds lo hi) (cutV vs lo hi) := by
  unfold cutD cutV
  rw [r.length]
  exact Reps.take _ (Reps.drop _ r)
def dNoP : TD (Option Int) := fun _ S Q _ => Q none S
def dPart (ta : TD D) : TD (Option Int) := fun ρ S Q Xc => ta ρ S (fun x S1 => ∃ i, x = .int i ∧ Q (some i) S1) Xc
theorem do_none : DO X C W none dNoP := by
  refine ⟨fun pins s σ H Q I h => po_none.run pins s σ H Q I ?_⟩
  obtain ⟨F, μ, ρ, S, R, Xc, e, s, h, hR, hX⟩ := h
  exact hR F μ H none none S (Ext.refl F μ H) s rfl h
theorem do_some (ha : DE X C W a ta) : DO X C W (some a) (dPart ta) := by
  refine ⟨fun pins s σ H Q I h => (po_some ha).run pins s σ H Q I ?_⟩
  obtain ⟨F, μ, ρ, S, R, Xc, e, s, h, hR, hX⟩ := h
  refine lift_of e s h (fun F1 μ1 H1 v y S1 x1 s1 r1 h1 => ?_) hX
  obtain ⟨i, rfl, h1⟩ := h1
  exact ⟨i, Rep.int_iff.mp r1, hR F1 μ1 H1 _ _ S1 x1 s1 rfl h1⟩
def pSl (o : Bool) (x : D) (lo hi : Option Int) (S : Store) (Q : D → Store → Prop) : Prop := match x with
  | .tup ds => Q (.tup (cutD ds lo hi)) S
  | .str z => z.length ≤ sizeLine ∧ Q (.str (cutS z lo hi)) S
  | x => ∃ ds, seqL x S = some ds ∧ mkL o (cutD ds lo hi) S Q
def dSl (o : Bool) (ta : TD D) (tl th : TD (Option Int)) : TD D := fun ρ S Q Xc => ta ρ S (fun x S1 => tl ρ S1 (fun l S2 => th ρ S2 (fun h S3 => pSl o x l h S3 Q) Xc) Xc) Xc
theorem cut_whole {ds : List D} {lo hi : Option Int} (h1 : HT.sIx ds.length 0 lo = 0) (h2 : HT.sIx ds.length ds.length hi = ds.length) : cutD ds lo hi = ds := by
  unfold cutD
  rw [h1, h2]
  simp
theorem pSl_ok {K : PySem.W.Frag} (hK : K = C.K) {o : Bool} {x : D} {v : V} {lo hi : Option Int} {R : D → Store → Prop} {Q : VK} (s : SR C F μ H S) (r : Rep C F μ x v) (h : pSl o x lo hi S R)
    (hR : ∀ F' μ' H' v d S', Ext F μ H F' μ' H' → SR C F' μ' H' S' → Rep C F' μ' d v → R d S' → Q v H') : rSlL K v lo hi H Q ∨ (rSlA K v lo hi H Q ∨ rSlS v lo hi H Q) := by
  subst hK
  unfold pSl at h
  split at h
  · obtain ⟨p, vs, rfl, hq, r2⟩ := Rep.tup_iff.mp r
    have hl := r2.length
    refine .inr (.inl ⟨p, vs, rfl, tupS s.sub hq, fun ⟨w1, w2⟩ => ?_, fun _ l hl' => ?_⟩)
    · refine hR F μ H _ _ S (Ext.refl F μ H) s ?_ h
      rw [cut_whole (by rw [hl]; exact w1) (by rw [hl]; exact w2)]
      exact r
    · obtain ⟨s1, x1⟩ := s.frz (o := .tup (cutV vs lo hi)) hl'
      exact hR _ μ _ _ _ S x1 s1 (Rep.tup_iff.mpr ⟨l, _, rfl, upd_same, (r2.cutI lo hi).ext x1⟩) h
  · obtain rfl := Rep.str_iff.mp r
    exact .inr (.inr ⟨_, rfl, h.1, hR F μ H _ _ S (Ext.refl F μ H) s (Rep.str_iff.mpr rfl) h.2⟩)
  · obtain ⟨ds, h1, h2⟩ := h
    obtain ⟨p, vs, rfl, hq, r2⟩ := lstV_of s r h1
    exact .inl ⟨p, vs, rfl, SqL.of hq, fun l hl => mk_lst s (r2.cutI lo hi) hl h2 hR⟩
theorem de_slice (o : Bool) {lo hi : Option Expr} {tl th : TD (Option Int)} {p2 : Pos} (hK : X.K = C.K) (ha : DE X C W a ta) (hl : DO X C W lo tl) (hh : DO X C W hi th) : DE X C W (.Subscript a (.Slice lo hi none p2) pos) (dSl o ta tl th) := by
  refine PE.imp (pe_slice (SlR.or sl_list (SlR.or sl_tupA sl_str)) ha hl hh) fun σ H Q ⟨F, μ, ρ, S, R, Xc, e, s, h, hR, hX⟩ => ?_
  refine lift_of e s h (fun F1 μ1 H1 v y S1 x1 s1 r1 h1 => ?_) hX
  refine lift_of (e.ext x1) s1 h1 (fun F2 μ2 H2 l l' S2 x2 s2 r2 h2 => ?_) fun F2 μ2 H2 cls dd c fs S2 x2 s2 r2 h2 => hX F2 μ2 H2 cls dd c fs S2 (x1.trans x2) s2 r2 h2
  refine lift_of ((e.ext x1).ext x2) s2 h2 (fun F3 μ3 H3 h h' S3 x3 s3 r3 h3 => ?_) fun F2 μ2 H2 cls dd c fs S2 x3 s2 r2 h2 => hX F2 μ2 H2 cls dd c fs S2 (x1.trans (x2.trans x3)) s2 r2 h2
  cases r2
  cases r3
  exact pSl_ok hK s3 (Rep.ext x3 (Rep.ext x2 r1)) h3 fun F6 μ6 H6 v d S6 x6 s6 r6 h6 => hR F6 μ6 H6 v d S6 (x1.trans (x2.trans (x3.trans x6))) s6 r6 h6
end
end OD

/-! OF6: augmented assignments; list(range(..)). -/
namespace OD
open PySem PySem.Spec L2
open PyProof.Rows hiding St
/-- xs[j] of a list, j at least 0, by values -/
def gLst (K : PySem.W.Frag) : V → V → Hp → VK → Prop := fun o i H Q => ∃ (p : Addr) (xs : List V) (j : Nat) (v : V), o = .ref p ∧ i = .int (j : Int) ∧ SqL K H p xs ∧ xs[j]? = some v ∧ Q v H
theorem get_lst {X : Cx} : PGet X (gLst X.K) := by
  rintro pins s σ H o i ov iv Q I ro ri ⟨p, xs, j, v, rfl, rfl, hq, hv, q⟩
  cases ro
  obtain ⟨t, rfl⟩ := ri
  obtain ⟨its, r, pl, hz⟩ := I.list hq
  obtain ⟨w, ew, rw'⟩ := r.get hv
  have hj := (List.getElem?_eq_some_iff.mp hv).1
  have h63 : (j : Int) < 2 ^ 63 := by
    have := line63
    omega
  exact wpAny_getItem_list pl.isList (by omega) h63 (by simpa using ew) ⟨v, H, I, rw', q⟩
section
variable {X : Cx} {C : Ct} {W : WX} {es : List Expr} {a b e o i : Expr} {u : TD (List D)} {ta tb te : TD D} {q pos tpos : Pos}
/-- o[i] op= e of ints -/
def dAugS (f : Int → Int → Int) (ta tb te : TD D) : TSD := fun E ρ S => ta ρ S (fun o S1 => tb ρ S1 (fun i S2 => ∃ (k : Nat) (ds : List D) (j : Nat) (x : Int), o = .own k ∧ i = .int (j : Int) ∧ S2[k]? = some (.lst ds) ∧ ds[j]? = some (.int x) ∧
  te ρ S2 (fun y S3 => ∃ z : Int, y = .int z ∧ ∃ ds3, S3[k]? = some (.lst ds3) ∧ j < ds3.length ∧ E.nx ρ (S3.set k (.lst (ds3.set j (.int (f x z)))))) fun c fs S3 => E.ex c fs ρ S3) fun c fs S2 => E.ex c fs ρ S2) fun c fs S1 => E.ex c fs ρ S1
theorem ds_augS {op : Operator} {f : Int → Int → Int} (hK : X.K = C.K) (hp : PIp X op (ipI f)) (ho : DE X C W o ta) (hi : DE X C W i tb) (he : DE X C W e te)
    (ha : ∀ ov iv new, augStore i ov iv new = (do holding [new, ov, iv] (setItem ov iv new); release [new, ov, iv] []; pure .next)) : DS X C W (.AugAssign (.Subscript o i tpos) op e pos) (dAugS f ta tb te) := by
  refine PS.imp (ps_augS ho hi get_lst he hp set_list ha) fun D σ H ⟨F, μ, ρ, S, E, e, s, h, k⟩ => ?_
  refine lift_of e s h (fun F1 μ1 H1 v o1 S1 x1 s1 r1 h1 => ?_) (exOf k e)
  refine lift_of (e.ext x1) s1 h1 (fun F2 μ2 H2 w i1 S2 x2 s2 r2 h2 => ?_) fun F2 μ2 H2 cls dd c fs S2 x2 s2 r2 h2 => exOf k e F2 μ2 H2 cls dd c fs S2 (x1.trans x2) s2 r2 h2
  obtain ⟨n, ds, j, x, rfl, rfl, ek, ex, h2⟩ := h2
  have r1' := Rep.ext x2 r1
  obtain ⟨p, rfl, hq⟩ := Rep.own_iff.mp r1'
  obtain ⟨_, vs, hv, rs⟩ := s2.cell n _ p ek hq
  obtain ⟨y, hy, ry⟩ := rs.get ex
  rw [Rep.int_iff.mp ry] at hy
  refine ⟨p, vs, j, .int x, rfl, Rep.int_iff.mp r2, SqL.of hv, hy, ?_⟩
  refine lift_of ((e.ext x1).ext x2) s2 h2 (fun F3 μ3 H3 z y3 S3 x3 s3 r3 h3 => ?_) fun F2 μ2 H2 cls dd c fs S2 x3 s2 r2 h2 => exOf k e F2 μ2 H2 cls dd c fs S2 (x1.trans (x2.trans x3)) s2 r2 h2
  obtain ⟨z', rfl, ds3, ek3, hj, h3⟩ := h3
  refine ⟨x, z', rfl, Rep.int_iff.mp r3, ?_⟩
  have hq3 := pre_get x3.m hq
  obtain ⟨_, vs3, hv3, rs3⟩ := s3.cell n _ p ek3 hq3
  refine ⟨p, vs3, (j : Int), j, rfl, Rep.int_iff.mp r2, hv3, ?_, ?_⟩
  · unfold ixN
    rw [if_pos (by omega), if_pos (by rw [← rs3.length]; omega)]
    simp
  · obtain ⟨s4, x4⟩ := s3.put (o := .lst (vs3.set j (.int (f x z')))) (c' := .lst (ds3.set j (.int (f x z')))) ek3 hq3 (by simp) fun hF => ⟨hF, _, upd_same, Reps.set (Rep.int_iff.mpr rfl) j rs3⟩
    have x14 := x1.trans (x2.trans (x3.trans x4))
    exact k.nx _ μ3 _ σ ρ _ x14 (e.ext x14) s4 h3
theorem ds_augSAdd (hK : X.K = C.K) (ho : DE X C W o ta) (hi : DE X C W i tb) (he : DE X C W e te) (ha : ∀ ov iv new, augStore i ov iv new = (do holding [new, ov, iv] (setItem ov iv new); release [new, ov, iv] []; pure .next) := by intros; rfl) :
    DS X C W (.AugAssign (.Subscript o i tpos) .Add e pos) (dAugS (fun x y => x + y) ta tb te) := ds_augS hK ip_add ho hi he ha
theorem ds_augSSub (hK : X.K = C.K) (ho : DE X C W o ta) (hi : DE X C W i tb) (he : DE X C W e te) (ha : ∀ ov iv new, augStore i ov iv new = (do holding [new, ov, iv] (setItem ov iv new); release [new, ov, iv] []; pure .next) := by intros; rfl) :
    DS X C W (.AugAssign (.Subscript o i tpos) .Sub e pos) (dAugS (fun x y => x - y) ta tb te) := ds_augS hK ip_sub ho hi he ha
/-- x op= e of ints -/
def pIp (f : Int → Int → Int) : P2 := fun x y S Q => ∃ i j, x = .int i ∧ y = .int j ∧ Q (.int (f i j)) S
theorem pIp_ok {f : Int → Int → Int} : Prim2 C (ipI f) (pIp f) := fun F μ H S x y dx dy R Q s rx ry ⟨i, j, e1, e2, h⟩ hR => by
  subst e1 e2
  exact ⟨i, j, Rep.int_iff.mp rx, Rep.int_iff.mp ry, hR F μ H _ _ S (Ext.refl F μ H) s (Rep.int_iff.mpr rfl) h⟩
theorem ds_augAdd (n : Nat) {x : Str} {pos' : Pos} (hN : X.N.Nodup) (he : DE X C W a ta) (hi : X.N[n]? = some x := by rfl) (hx : Loc X.env.scope x := by first | exact Or.inl rfl | exact Or.inr rfl)
    (hf : X.fn x = true ∨ X.env.scope.names.lookup x = some .local := by first | exact .inl rfl | exact .inr rfl | assumption) : DS X C W (.AugAssign (.Name x pos') .Add a pos) (dAug n ta (pIp fun i j => i + j)) := ds_aug n hN he ip_add pIp_ok hi hx hf
theorem ds_augSub (n : Nat) {x : Str} {pos' : Pos} (hN : X.N.Nodup) (he : DE X C W a ta) (hi : X.N[n]? = some x := by rfl) (hx : Loc X.env.scope x := by first | exact Or.inl rfl | exact Or.inr rfl)
    (hf : X.fn x = true ∨ X.env.scope.names.lookup x = some .local := by first | exact .inl rfl | exact .inr rfl | assumption) : DS X C W (.AugAssign (.Name x pos') .Sub a pos) (dAug n ta (pIp fun i j => i - j)) := ds_aug n hN he ip_sub pIp_ok hi hx hf
end
end OD

/-! OF7: enumerate of a list, zip of two lists or two tuples. -/
namespace OD
open PySem PySem.Spec L2
open PyProof.Rows hiding St
def enumD : Int → List D → List D
  | _, [] => []
  | k, d :: ds => .tup [.int k, d] :: enumD (k + 1) ds
theorem enumD_len : ∀ {ds : List D} {k : Int}, (enumD k ds).length = ds.length
  | [], _ => rfl
  | _ :: ds, k => by
    show (enumD (k + 1) ds).length + 1 = _
    rw [enumD_len]; rfl
theorem enumD_get : ∀ {ds : List D} {k : Int} {i : Nat} {d : D}, ds[i]? = some d → (enumD k ds)[i]? = some (.tup [.int (k + i), d])
  | [], _, _, _, h => by simp at h
  | x :: ds, k, 0, d, h => by
    simp at h; subst h
    show some (D.tup [.int k, x]) = _
    simp
  | x :: ds, k, i + 1, d, h => by
    have := enumD_get (ds := ds) (k := k + 1) (i := i) (d := d) (by simpa using h)
    show (enumD (k + 1) ds)[i]? = _
    rw [this]
    congr 4
    omega
theorem enumD_inv {ds : List D} {k : Int} {i : Nat} {y : D} (h : (enumD k ds)[i]? = some y) : ∃ d, ds[i]? = some d ∧ y = .tup [.int (k + i), d] := by
  have hi : i < ds.length := by
    have := (List.getElem?_eq_some_iff.mp h).1
    rwa [enumD_len] at this
  refine ⟨ds[i], by simp [hi], ?_⟩
  rw [enumD_get (d := ds[i]) (by simp [hi])] at h
  exact (Option.some.inj h).symm
def zipD (as bs : List D) : List D := List.zipWith (fun a b => D.tup [a, b]) as bs
section
variable {X : Cx} {C : Ct} {W : WX} {a b : Expr} {ta tb : TD D} {pos p : Pos}
def iEnumL (ta : TD D) : TID := fun ρ S Q Xc => ta ρ S (fun x S1 => ∃ ds, seqL x S1 = some ds ∧ Q (enumD 0 ds, fun S' => seqL x S' = some ds) S1) Xc
theorem seqL_at {F : Hp} {μ : List Addr} {H : Hp} {S : Store} {x : D} {v : V} {ds : List D} (s : SR C F μ H S) (r : Rep C F μ x v) (h : seqL x S = some ds) : ∃ a, v = .ref a ∧
    ∀ F' μ' H' S', Same F F' → μ <+: μ' → SR C F' μ' H' S' → seqL x S' = some ds → ∃ vs, SqL C.K H' a vs ∧ Reps C F' μ' ds vs := by
  obtain ⟨a, vs, rfl, _, _⟩ := lstV_of s r h
  refine ⟨a, rfl, fun F' μ' H' S' hF hm s' h' => ?_⟩
  obtain ⟨a', vs', e, h1, h2⟩ := lstV_of s' (r.mono hF hm) h'
  cases e
  exact ⟨vs', SqL.of h1, h2⟩
theorem ItD.enum {F : Hp} {μ : List Addr} {x : D} {ds : List D} {a : Addr} (h : ∀ F' μ' H' S', Same F F' → μ <+: μ' → SR C F' μ' H' S' → seqL x S' = some ds → ∃ vs, SqL C.K H' a vs ∧ Reps C F' μ' ds vs) :
    ItD C F μ (Ite C.K a) (enumD 0 ds).length (enumD 0 ds) (fun S' => seqL x S' = some ds) := by
  have hn : (enumD 0 ds).length = ds.length := enumD_len
  refine ⟨fun i F' μ' H' S' hi hF hm s hg => ?_, fun F' μ' H' S' hF hm s hg => ?_, fun i F' μ' H' S' y H2 hi hF hm s hg hy => ?_, rfl⟩
  · obtain ⟨vs, q, r⟩ := h F' μ' H' S' hF hm s hg
    rw [hn] at hi
    have hi' : i < vs.length := by rw [← r.length]; exact hi
    exact ⟨vs, vs[i], q, by simp [hi']⟩
  · obtain ⟨vs, q, r⟩ := h F' μ' H' S' hF hm s hg
    exact ⟨vs, q, by rw [hn, r.length]; exact Nat.le_refl _⟩
  · obtain ⟨vs, q, r⟩ := h F' μ' H' S' hF hm s hg
    obtain ⟨T, v, rfl, hT, rfl, hv⟩ := hy
    obtain ⟨d, h1, h2⟩ := r.getV (hv vs q)
    obtain ⟨s1, x1⟩ := s.frz (o := .tup [.int (i : Nat), v]) hT
    refine ⟨_, .tup [.int (0 + (i : Int)), d], x1, s1, enumD_get h1, Rep.tup_iff.mpr ⟨T, _, rfl, upd_same, Reps.cons (Rep.int_iff.mpr (by rw [Int.zero_add])) (Reps.cons (Rep.ext x1 h2) Reps.nil)⟩⟩
theorem di_enumL {elts : List Expr} {kk : Nat} {tpos : Pos} (hK : X.K = C.K) (hm : X.mg "enumerate" = none) (ha : DE X C W a ta) (hg : Gl X "enumerate" := by rfl) (hs : starEach [a] X.env = [(false, eval a X.env)] := by rfl) :
    DI X C W (.Tuple elts kk tpos) (.Call (.Name "enumerate" p) [a] [] pos) (iEnumL ta) :=
  PI.imp (pi_enum hg hm (pa_cons ha pa_nil hs) hs) fun σ H Q ⟨F, μ, ρ, S, R, Xc, e, s, h, hR, hX⟩ => by
    refine lift_of e s h (fun F1 μ1 H1 v x S1 x1 s1 r1 ⟨ds, h1, h2⟩ => ?_) hX
    obtain ⟨b, rfl, z⟩ := seqL_at s1 r1 h1
    obtain ⟨vs, q, r⟩ := z F1 μ1 H1 S1 (Same.refl _) (List.prefix_refl _) s1 h1
    rw [hK]
    exact ⟨b, vs, rfl, q, hR F1 μ1 H1 _ _ _ S1 x1 s1 (ItD.enum z) h2⟩
/-- zip of two lists -/
def iZipL (ta tb : TD D) : TID := fun ρ S Q Xc => ta ρ S (fun x S1 => tb ρ S1 (fun y S2 => ∃ as bs, seqL x S2 = some as ∧ seqL y S2 = some bs ∧ Q (zipD as bs, fun S' => seqL x S' = some as ∧ seqL y S' = some bs) S2) Xc) Xc
theorem zipD_get {as bs : List D} {i : Nat} {a b : D} (h1 : as[i]? = some a) (h2 : bs[i]? = some b) : (zipD as bs)[i]? = some (.tup [a, b]) := by
  unfold zipD
  rw [List.getElem?_zipWith, h1, h2]
theorem zipD_len {as bs : List D} : (zipD as bs).length = min as.length bs.length := by unfold zipD; simp
theorem ItD.zipL {F : Hp} {μ : List Addr} {x y : D} {as bs : List D} {a b : Addr} (h : ∀ F' μ' H' S', Same F F' → μ <+: μ' → SR C F' μ' H' S' → seqL x S' = some as → ∃ vs, SqL C.K H' a vs ∧ Reps C F' μ' as vs)
    (h' : ∀ F' μ' H' S', Same F F' → μ <+: μ' → SR C F' μ' H' S' → seqL y S' = some bs → ∃ vs, SqL C.K H' b vs ∧ Reps C F' μ' bs vs) :
    ItD C F μ (Itz C.K a b) (zipD as bs).length (zipD as bs) (fun S' => seqL x S' = some as ∧ seqL y S' = some bs) := by
  refine ⟨fun i F' μ' H' S' hi hF hm s hg => ?_, fun F' μ' H' S' hF hm s hg => ?_, fun i F' μ' H' S' z H2 hi hF hm s hg hy => ?_, rfl⟩
  · obtain ⟨vs, q, r⟩ := h F' μ' H' S' hF hm s hg.1
    obtain ⟨ws, q', r'⟩ := h' F' μ' H' S' hF hm s hg.2
    rw [zipD_len, r.length, r'.length] at hi
    exact ⟨vs, ws, vs[i]'(by omega), ws[i]'(by omega), q, q', by simp [show i < vs.length by omega], by simp [show i < ws.length by omega]⟩
  · obtain ⟨vs, q, r⟩ := h F' μ' H' S' hF hm s hg.1
    obtain ⟨ws, q', r'⟩ := h' F' μ' H' S' hF hm s hg.2
    refine ⟨vs, ws, q, q', ?_⟩
    rw [zipD_len, r.length, r'.length]
    omega
  · obtain ⟨vs, q, r⟩ := h F' μ' H' S' hF hm s hg.1
    obtain ⟨ws, q', r'⟩ := h' F' μ' H' S' hF hm s hg.2
    obtain ⟨T, v, w, rfl, hT, rfl, hv, hw⟩ := hy
    obtain ⟨d, h1, h2⟩ := r.getV (hv vs q)
    obtain ⟨d', h1', h2'⟩ := r'.getV (hw ws q')
    obtain ⟨s1, x1⟩ := s.frz (o := .tup [v, w]) hT
    exact ⟨_, .tup [d, d'], x1, s1, zipD_get h1 h1', Rep.tup_iff.mpr ⟨T, _, rfl, upd_same, Reps.cons (Rep.ext x1 h2) (Reps.cons (Rep.ext x1 h2') Reps.nil)⟩⟩
theorem di_zipL {elts : List Expr} {kk : Nat} {tpos : Pos} (hK : X.K = C.K) (hm : X.mg "zip" = none) (ha : DE X C W a ta) (hb : DE X C W b tb) (hg : Gl X "zip" := by rfl) (hs : starEach [a, b] X.env = (false, eval a X.env) :: starEach [b] X.env := by rfl) (hs1 : starEach [b] X.env = [(false, eval b X.env)] := by rfl)
    (hpl : (backTo pos (starEach [b] X.env)).any (·.1) = false := by rfl) : DI X C W (.Tuple elts kk tpos) (.Call (.Name "zip" p) [a, b] [] pos) (iZipL ta tb) :=
  PI.imp (RZ.pi_zipA hg hm (pa_cons ha (pa_cons hb pa_nil hs1) hs) hs hpl) fun σ H Q ⟨F, μ, ρ, S, R, Xc, e, s, h, hR, hX⟩ => by
    refine lift_of e s h (fun F1 μ1 H1 v x S1 x1 s1 r1 h1 => ?_) hX
    refine lift_of (e.ext x1) s1 h1 (fun F2 μ2 H2 w y S2 x2 s2 r2 h2 => ?_) fun F2 μ2 H2 cls dd c fs S2 x2 s2 r2 h2 => hX F2 μ2 H2 cls dd c fs S2 (x1.trans x2) s2 r2 h2
    obtain ⟨as, bs, e1, e2, h2⟩ := h2
    obtain ⟨a', rfl, z⟩ := seqL_at s2 (Rep.ext x2 r1) e1
    obtain ⟨b', rfl, z'⟩ := seqL_at s2 r2 e2
    obtain ⟨vs, q, r⟩ := z F2 μ2 H2 S2 (Same.refl _) (List.prefix_refl _) s2 e1
    obtain ⟨ws, q', r'⟩ := z' F2 μ2 H2 S2 (Same.refl _) (List.prefix_refl _) s2 e2
    rw [hK]
    exact ⟨a', b', vs, ws, rfl, .inl ⟨q, q', hR F2 μ2 H2 _ _ _ S2 (x1.trans x2) s2 (ItD.zipL z z') h2⟩⟩
end
end OD

/-! OF8: constants of the module, of a class. -/
namespace OD
open PySem PySem.Spec L2
open PyProof.Rows hiding St
section
variable {X : Cx} {C : Ct} {W : WX} {pos pos' : Pos} {x f : Str}
theorem de_gint {i : Int} (hm : ∃ t, X.mg x = some (.int i t)) (hg : Gl X x := by rfl) (hd : (x == ("__debug__" : Str)) = false := by decide) : DE X C W (.Name x pos) (dC (.int i)) := by
  obtain ⟨t, hm⟩ := hm
  exact de_c (v := .int i) (pe_glob hg hm ⟨t, rfl⟩ hd) rfl
theorem de_gstr {z : Str} (hm : ∃ t, X.mg x = some (.str z t)) (hg : Gl X x := by rfl) (hd : (x == ("__debug__" : Str)) = false := by decide) : DE X C W (.Name x pos) (dC (.str z)) := by
  obtain ⟨t, hm⟩ := hm
  exact de_c (v := .str z) (pe_glob hg hm ⟨t, rfl⟩ hd) rfl
/-- C.f, a constant of the class C -/
structure CvD (C : Ct) (mg : Str → Option Value) (c f : Str) (d : D) : Prop where
  ex : mg c = some (.ref (C.ca c)) ∧ ∃ mc v u, ClX.CRead C.K (C.ca c) mc ∧ ClX.CVal C.K (C.ca c) mc f v u ∧ Flat d v
theorem de_cval {c : Str} {d : D} (hK : X.K = C.K) (F : CvD C X.mg c f d) (hg : Gl X c := by rfl) (hd : (c == ("__debug__" : Str)) = false := by decide)
    (hb : attributeBase (.Name c pos') f X.env (eval (.Name c pos') X.env) = eval (.Name c pos') X.env := by rfl) : DE X C W (.Attribute (.Name c pos') f pos) (dC d) := by
  obtain ⟨hm, mc, v, u, h1, h2, fl⟩ := F.ex
  refine de_c (v := v) (PE.imp (ClX.pe_cval (pe_glob hg hm (v := .ref (C.ca c)) rfl hd) hb) fun σ H Q q => ?_) fl
  exact ⟨C.ca c, mc, v, u, rfl, by rw [hK]; exact h1, by rw [hK]; exact h2, q⟩
end
end OD

/-! OF9: dicts over D: keys are ints and texts, or tuples of them. -/
namespace OD
open PySem PySem.Spec L2
open PyProof.Rows hiding St
def keyD : D → Option Key
  | .int i => some (.inl i)
  | .str z => some (.inr z)
  | _ => none
def keysD : List D → Option (List Key)
  | [] => some []
  | d :: ds => match keyD d, keysD ds with
    | some k, some ks => some (k :: ks)
    | _, _ => none
section
variable {C : Ct} {F : Hp} {μ : List Addr} {H : Hp} {S : Store}
theorem keyD_rep {d : D} {v : V} {k : Key} (r : Rep C F μ d v) (h : keyD d = some k) : v = kV k := by
  cases d with
  | int i => cases h; exact Rep.int_iff.mp r
  | str z => cases h; exact Rep.str_iff.mp r
  | _ => cases h
theorem keysD_rep : ∀ {ds : List D} {vs : List V} {ks : List Key}, Reps C F μ ds vs → keysD ds = some ks → vs = ks.map kV
  | [], vs, ks, r, h => by cases h; exact Reps.nil_iff.mp r
  | d :: ds, vs, ks, r, h => by
    obtain ⟨v, r', rfl, h1, h2⟩ := Reps.cons_iff.mp r
    unfold keysD at h
    split at h
    · rename_i k ks' e1 e2
      cases h
      rw [keyD_rep h1 e1, keysD_rep h2 e2]; rfl
    · cases h
variable {κ : Type} [DecidableEq κ]
def valD (kvs : List (κ × D)) (k : κ) : Option D := (kvs.find? fun kv => decide (kv.1 = k)).map (·.2)
def putDK (kvs : List (κ × D)) (k : κ) (v : D) : List (κ × D) := if (kvs.any fun kv => decide (kv.1 = k)) = true then kvs.map (fun kv => if kv.1 = k then (kv.1, v) else kv) else kvs ++ [(k, v)]
theorem RepK.nil : RepK (κ := κ) C F μ [] [] := ⟨rfl, Reps.nil⟩
theorem RepK.cons_inv {k : κ} {d : D} {kvs : List (κ × D)} {vs : List (κ × V)} (h : RepK C F μ ((k, d) :: kvs) vs) : ∃ v r, vs = (k, v) :: r ∧ Rep C F μ d v ∧ RepK C F μ kvs r := by
  obtain ⟨h1, h2⟩ := h
  cases vs with
  | nil => cases h1
  | cons p r =>
    obtain ⟨k', v⟩ := p
    simp only [List.map_cons, List.cons.injEq] at h1
    obtain ⟨e, h1⟩ := h1
    subst e
    obtain ⟨w, r', e, h3, h4⟩ := Reps.cons_iff.mp h2
    simp only [List.map_cons, List.cons.injEq] at e
    obtain ⟨e1, e2⟩ := e
    subst e1 e2
    exact ⟨v, r, rfl, h3, h1, h4⟩
theorem RepK.cons {k : κ} {d : D} {v : V} {kvs : List (κ × D)} {vs : List (κ × V)} (r : Rep C F μ d v) (h : RepK C F μ kvs vs) : RepK C F μ ((k, d) :: kvs) ((k, v) :: vs) :=
  ⟨by simp [h.1], Reps.cons r h.2⟩
theorem RepK.nil_inv {vs : List (κ × V)} (h : RepK C F μ [] vs) : vs = [] := by
  have := h.1
  cases vs with
  | nil => rfl
  | cons p r => cases this
theorem RepK.length {kvs : List (κ × D)} {vs : List (κ × V)} (h : RepK C F μ kvs vs) : kvs.length = vs.length := by
  have := congrArg List.length h.1
  simpa using this
theorem RepK.val {k : κ} : ∀ {kvs : List (κ × D)} {vs : List (κ × V)}, RepK C F μ kvs vs → (valD kvs k = none ∧ valV vs k = none) ∨ ∃ d v, valD kvs k = some d ∧ valV vs k = some v ∧ Rep C F μ d v
  | [], vs, h => by rw [h.nil_inv]; exact .inl ⟨rfl, rfl⟩
  | (k', d) :: kvs, vs, h => by
    obtain ⟨v, r, rfl, h1, h2⟩ := h.cons_inv
    by_cases e : k' = k
    · exact .inr ⟨d, v, by simp [valD, List.find?_cons, e], by simp [valV, List.find?_cons, e], h1⟩
    · have q := RepK.val (k := k) h2
      have e1 : valD ((k', d) :: kvs) k = valD kvs k := by simp [valD, List.find?_cons, e]
      have e2 : valV ((k', v) :: r) k = valV r k := by simp [valV, List.find?_cons, e]
      rw [e1, e2]; exact q
theorem RepK.any {k : κ} : ∀ {kvs : List (κ × D)} {vs : List (κ × V)}, RepK C F μ kvs vs → (kvs.any fun kv => decide (kv.1 = k)) = (vs.any fun kv => decide (kv.1 = k))
  | [], vs, h => by rw [h.nil_inv]; rfl
  | (k', d) :: kvs, vs, h => by
    obtain ⟨v, r, rfl, h1, h2⟩ := h.cons_inv
    simp only [List.any_cons]
    rw [RepK.any h2]
theorem RepK.mapPut {k : κ} {d : D} {v : V} (rd : Rep C F μ d v) : ∀ {kvs : List (κ × D)} {vs : List (κ × V)}, RepK C F μ kvs vs → RepK C F μ (kvs.map fun kv => if kv.1 = k then (kv.1, d) else kv) (vs.map fun kv => if kv.1 = k then (kv.1, v) else kv)
  | [], vs, h => by rw [h.nil_inv]; exact RepK.nil
  | (k', x) :: kvs, vs, h => by
    obtain ⟨y, r, rfl, h1, h2⟩ := h.cons_inv
    simp only [List.map_cons]
    by_cases e : k' = k
    · rw [if_pos e, if_pos e]; exact RepK.cons rd (RepK.mapPut rd h2)
    · rw [if_neg e, if_neg e]; exact RepK.cons h1 (RepK.mapPut rd h2)
theorem RepK.snoc {k : κ} {d : D} {v : V} (rd : Rep C F μ d v) : ∀ {kvs : List (κ × D)} {vs : List (κ × V)}, RepK C F μ kvs vs → RepK C F μ (kvs ++ [(k, d)]) (vs ++ [(k, v)])
  | [], vs, h => by rw [h.nil_inv]; exact RepK.cons rd RepK.nil
  | (k', x) :: kvs, vs, h => by
    obtain ⟨y, r, rfl, h1, h2⟩ := h.cons_inv
    exact RepK.cons h1 (RepK.snoc rd h2)
theorem RepK.put {k : κ} {d : D} {v : V} {kvs : List (κ × D)} {vs : List (κ × V)} (rd : Rep C F μ d v) (h : RepK C F μ kvs vs) : RepK C F μ (putDK kvs k d) (putK vs k v) := by
  unfold putDK putK
  rw [h.any (k := k)]
  split
  · exact h.mapPut rd
  · exact h.snoc rd
end
/-- what a dict has at a key -/
def getK (x y : D) (S : Store) : Option (Option D) := match x with
  | .own k => match S[k]?, y with
    | some (.dk kvs), y => (keyD y).map fun q => valD kvs q
    | some (.dt kvs), .tup ds => (keysD ds).map fun q => valD kvs q
    | _, _ => none
  | _ => none
section
variable {C : Ct} {F : Hp} {μ : List Addr} {H : Hp} {S : Store}
theorem getK_of {x y : D} {v w : V} {o : Option D} (s : SR C F μ H S) (rx : Rep C F μ x v) (ry : Rep C F μ y w) (h : getK x y S = some o) : ∃ a p, v = .ref a ∧ DGet H a w p ∧ ((o = none ∧ p = none) ∨ ∃ d u, o = some d ∧ p = some u ∧ Rep C F μ d u) := by
  unfold getK at h
  split at h
  · rename_i k
    obtain ⟨a, rfl, q⟩ := Rep.own_iff.mp rx
    refine ⟨a, ?_⟩
    split at h
    · rename_i kvs e
      obtain ⟨key, hk, h⟩ := Option.map_eq_some_iff.mp h
      obtain ⟨_, vs, h1, h2⟩ := s.cell k _ a e q
      refine ⟨valV vs key, rfl, .inl ⟨vs, key, .inl h1, keyD_rep ry hk, rfl⟩, ?_⟩
      subst h
      exact h2.val
    · rename_i kvs ds e
      obtain ⟨key, hk, h⟩ := Option.map_eq_some_iff.mp h
      obtain ⟨_, vs, h1, h2⟩ := s.cell k _ a e q
      obtain ⟨b, ws, rfl, hb, rs⟩ := Rep.tup_iff.mp ry
      rw [keysD_rep rs hk] at hb
      refine ⟨valV vs key, rfl, .inr ⟨vs, key, b, .inl h1, rfl, s.sub _ _ hb, rfl⟩, ?_⟩
      subst h
      exact h2.val
    · cases h
  · cases h
end
section
variable {X : Cx} {C : Ct} {W : WX} {o i e value : Expr} {td ty tv : TD D} {pos pos' : Pos} {k : Nat}
def dDGet (td ty : TD D) : TD D := fun ρ S Q Xc => td ρ S (fun x S1 => ty ρ S1 (fun y S2 => ∃ d, getK x y S2 = some (some d) ∧ Q d S2) Xc) Xc
theorem de_dget (hr : Room k X.A) (ho : DE X C W o td) (hi : DE X C W i ty) (hs : NoSl i := by exact fun _ _ => rfl) : DE X C W (.Subscript o i pos) (dDGet td ty) := by
  refine PE.imp (pe_dget (by have := hr.units; omega) ho hi hs) fun σ H Q ⟨F, μ, ρ, S, R, Xc, e, s, h, hR, hX⟩ => ?_
  refine lift_of e s h (fun F1 μ1 H1 v x S1 x1 s1 r1 h1 => ?_) hX
  refine lift_of (e.ext x1) s1 h1 (fun F2 μ2 H2 w y S2 x2 s2 r2 h2 => ?_) fun F2 μ2 H2 cls dd c fs S2 x2 s2 r2 h2 => hX F2 μ2 H2 cls dd c fs S2 (x1.trans x2) s2 r2 h2
  obtain ⟨d, hg, h2⟩ := h2
  obtain ⟨a, p, rfl, g, z⟩ := getK_of s2 (Rep.ext x2 r1) r2 hg
  rcases z with ⟨z, _⟩ | ⟨d', u, e1, rfl, ru⟩
  · cases z
  · cases e1
    exact ⟨a, u, rfl, g, hR F2 μ2 H2 u d S2 (x1.trans x2) s2 ru h2⟩
def dDIn (neg : Bool) (ty td : TD D) : TD D := fun ρ S Q Xc => ty ρ S (fun y S1 => td ρ S1 (fun x S2 => ∃ o, getK x y S2 = some o ∧ Q (.bl (if neg then !o.isSome else o.isSome)) S2) Xc) Xc
theorem din_of {neg : Bool} {σ : L2.St} {H : Hp} {Q : VK} (h : lift C W (rV C) (dDIn neg ty td) σ H Q) : lift C W (rV C) ty σ H fun y H1 => lift C W (rV C) td σ H1 fun x H2 => ∃ a p, x = .ref a ∧ DGet H2 a y p ∧ Q (.bl (if neg then !p.isSome else p.isSome)) H2 := by
  obtain ⟨F, μ, ρ, S, R, Xc, e, s, h, hR, hX⟩ := h
  refine lift_of e s h (fun F1 μ1 H1 v y S1 x1 s1 r1 h1 => ?_) hX
  refine lift_of (e.ext x1) s1 h1 (fun F2 μ2 H2 w x S2 x2 s2 r2 h2 => ?_) fun F2 μ2 H2 cls dd c fs S2 x2 s2 r2 h2 => hX F2 μ2 H2 cls dd c fs S2 (x1.trans x2) s2 r2 h2
  obtain ⟨o, hg, h2⟩ := h2
  obtain ⟨a, p, rfl, g, z⟩ := getK_of s2 r2 (Rep.ext x2 r1) hg
  have ep : p.isSome = o.isSome := by
    rcases z with ⟨z1, z2⟩ | ⟨d, u, z1, z2, _⟩ <;> (rw [z1, z2]; rfl)
  exact ⟨a, p, rfl, g, by rw [ep]; exact hR F2 μ2 H2 _ _ S2 (x1.trans x2) s2 (Rep.bl_iff.mpr rfl) h2⟩
theorem de_din (hr : Room k X.A) (hi : DE X C W i ty) (ho : DE X C W o td) (hm : behindInMarks CmpOp.In o = false := by rfl) : DE X C W (.Compare i [.In] [o] pos) (dDIn false ty td) :=
  PE.imp (pe_cmp (pc_din (by have := hr.units; omega) hi ho) hm) fun _ _ _ h => din_of h
theorem dt_din (hr : Room k X.A) (hi : DE X C W i ty) (ho : DE X C W o td) (hm : behindInMarks CmpOp.In o = false := by rfl) : DT X C W (.Compare i [.In] [o] pos) (dB (dDIn false ty td)) :=
  PT.imp (pt_cmp (pc_din (by have := hr.units; omega) hi ho) hm) fun σ H Q h => din_of (lift_test h)
theorem de_dnotin (hr : Room k X.A) (hi : DE X C W i ty) (ho : DE X C W o td) (hm : behindInMarks CmpOp.NotIn o = false := by rfl) : DE X C W (.Compare i [.NotIn] [o] pos) (dDIn true ty td) :=
  PE.imp (pe_cmp (pc_dnotin (by have := hr.units; omega) hi ho) hm) fun _ _ _ h => din_of h
theorem dt_dnotin (hr : Room k X.A) (hi : DE X C W i ty) (ho : DE X C W o td) (hm : behindInMarks CmpOp.NotIn o = false := by rfl) : DT X C W (.Compare i [.NotIn] [o] pos) (dB (dDIn true ty td)) :=
  PT.imp (pt_cmp (pc_dnotin (by have := hr.units; omega) hi ho) hm) fun σ H Q h => din_of (lift_test h)
/-- {} -/
def dDNew (t : Bool) : TD D := fun _ S Q _ => Q (.own S.length) (S ++ [if t then .dt [] else .dk []])
theorem de_dnew (t : Bool) : DE X C W (.Dict [] [] pos) (dDNew t) := by
  cases t with
  | false =>
    refine PE.imp pe_dnewK fun σ H Q ⟨F, μ, ρ, S, R, Xc, e, s, h, hR, hX⟩ p hp => ?_
    obtain ⟨s1, x1⟩ := s.cellNew (o := .dK []) (c := .dk []) hp ⟨s.freeF hp, [], upd_same, RepK.nil⟩
    exact hR _ _ _ _ _ _ x1 s1 (Rep.own_iff.mpr ⟨p, rfl, by rw [← s.len]; simp⟩) h
  | true =>
    refine PE.imp pe_dnewT fun σ H Q ⟨F, μ, ρ, S, R, Xc, e, s, h, hR, hX⟩ p hp => ?_
    obtain ⟨s1, x1⟩ := s.cellNew (o := .dT []) (c := .dt []) hp ⟨s.freeF hp, [], upd_same, RepK.nil⟩
    exact hR _ _ _ _ _ _ x1 s1 (Rep.own_iff.mpr ⟨p, rfl, by rw [← s.len]; simp⟩) h
/-- d[y] = v -/
def putKD (x y v : D) (S : Store) (Q : Store → Prop) : Prop := ∃ k, x = .own k ∧ ((∃ kvs q, S[k]? = some (.dk kvs) ∧ keyD y = some q ∧ kvs.length < sizeLine ∧ Q (S.set k (.dk (putDK kvs q v)))) ∨
  ∃ kvs ds q, S[k]? = some (.dt kvs) ∧ y = .tup ds ∧ keysD ds = some q ∧ kvs.length < sizeLine ∧ Q (S.set k (.dt (putDK kvs q v))))
def dDPut (td ty tv : TD D) : TSD := fun E ρ S => tv ρ S (fun v S1 => td ρ S1 (fun x S2 => ty ρ S2 (fun y S3 => putKD x y v S3 fun S4 => E.nx ρ S4) fun c fs S3 => E.ex c fs ρ S3) fun c fs S2 => E.ex c fs ρ S2) fun c fs S1 => E.ex c fs ρ S1
theorem ds_dput (hr : Room k X.A) (ho : DE X C W o td) (hi : DE X C W i ty) (hv : DE X C W value tv) (hs : swapsWith value (some (.Subscript o i pos')) pos.line X.env = pure false := by rfl) : DS X C W (.Assign [.Subscript o i pos'] value pos) (dDPut td ty tv) := by
  refine PS.imp (ps_dput (by have := hr.units; omega) ho hi hv hs) fun D σ H ⟨F, μ, ρ, S, E, e, s, h, kE⟩ => ?_
  refine lift_of e s h (fun F1 μ1 H1 v y S1 x1 s1 r1 h1 => ?_) (exOf kE e)
  refine lift_of (e.ext x1) s1 h1 (fun F2 μ2 H2 w x S2 x2 s2 r2 h2 => ?_) fun F2 μ2 H2 cls dd c fs S2 x2 s2 r2 h2 => exOf kE e F2 μ2 H2 cls dd c fs S2 (x1.trans x2) s2 r2 h2
  refine lift_of ((e.ext x1).ext x2) s2 h2 (fun F3 μ3 H3 u z S3 x3 s3 r3 h3 => ?_) fun F2 μ2 H2 cls dd c fs S2 x3 s2 r2 h2 => exOf kE e F2 μ2 H2 cls dd c fs S2 (x1.trans (x2.trans x3)) s2 r2 h2
  obtain ⟨n, rfl, h3⟩ := h3
  obtain ⟨a, rfl, q⟩ := Rep.own_iff.mp (Rep.ext x3 r2)
  have rv := Rep.ext x3 (Rep.ext x2 r1)
  rcases h3 with ⟨kvs, key, ek, hk, hl, h3⟩ | ⟨kvs, ds, key, ek, rfl, hk, hl, h3⟩
  · obtain ⟨_, vs, hv, rk⟩ := s3.cell n _ a ek q
    obtain ⟨s4, x4⟩ := s3.put (o := .dK (putK vs key v)) (c' := .dk (putDK kvs key y)) ek q (by simp) fun hF => ⟨hF, _, upd_same, rk.put rv⟩
    have x14 := x1.trans (x2.trans (x3.trans x4))
    exact ⟨a, _, rfl, .inl ⟨vs, key, hv, keyD_rep r3 hk, by rw [← rk.length]; exact hl, rfl⟩, kE.nx _ μ3 _ σ ρ _ x14 (e.ext x14) s4 h3⟩
  · obtain ⟨_, vs, hv, rk⟩ := s3.cell n _ a ek q
    obtain ⟨b, ws, rfl, hb, rs⟩ := Rep.tup_iff.mp r3
    rw [keysD_rep rs hk] at hb
    obtain ⟨s4, x4⟩ := s3.put (o := .dT (putK vs key v)) (c' := .dt (putDK kvs key y)) ek q (by simp) fun hF => ⟨hF, _, upd_same, rk.put rv⟩
    have x14 := x1.trans (x2.trans (x3.trans x4))
    exact ⟨a, _, rfl, .inr ⟨vs, key, b, hv, rfl, s3.sub _ _ hb, by rw [← rk.length]; exact hl, rfl⟩, kE.nx _ μ3 _ σ ρ _ x14 (e.ext x14) s4 h3⟩
end
end OD

/-! OG1: enumerate(x), x anything that begins an iterator. -/
namespace PySem.W
open PySem PySem.Spec PySem.Calls PyProof.Rows
theorem meets_enum1 {v : Value} {o : Obj} {H : Heap → Prop} (B : Begins v o H) :
    Meets (Builtin.«enumerate.__new__» ⟨[.type "enumerate", v], []⟩) (fun _ R s => H s.heap ∧ R (.ok (.ret (.ref (s.heap.push o).objs.size))) { s with heap := (s.heap.push o).push { cls := .type "enumerate", data := .fields #[.none, .bool false, .ref s.heap.objs.size, rawInt 0, .none, .none] } }) := by
  refine .of_wp fun prog w A R s h => ?_
  obtain ⟨hp, g, d, tk, os⟩ := s
  obtain ⟨h1, h⟩ := h
  have hsub := sub_enumerate
  have go : ∀ {A' : Around} {E : Value → Shared → Prop} {Q : Value → Shared → Prop}, Q (.ref hp.objs.size) ⟨hp.push o, g, d, tk, os⟩ → wpAny (model prog w) A' (pyIter v) Q E ⟨hp, g, d, tk, os⟩ := fun q => B.iter prog w _ _ ⟨hp, g, d, tk, os⟩ _ h1 q
  wp_walk using go
  refine wpAny_stack_any fun st => wpAny_pure ?_
  split
  · rename_i c _ _ _ _ _
    cases (c == Value.type "enumerate") <;> (wp_walk using go; exact ⟨_, rfl, h⟩)
  · wp_walk using go
    exact ⟨_, rfl, h⟩
theorem enum1_begins {prog : Program} {w : World} {A : Around} {E : Value → Shared → Prop} {s : Shared} {v : Value} {o : Obj} {H : Heap → Prop} {Q : Value → Shared → Prop} (B : Begins v o H) (h1 : H s.heap)
    (h : ∀ h', IsEnum h' (s.heap.objs.size + 1) s.heap.objs.size 0 .none → h'.get? s.heap.objs.size = some o → (∀ b u, s.heap.get? b = some u → h'.get? b = some u) → Q (.ref (s.heap.objs.size + 1)) { s with heap := h' }) :
    wpAny (model prog w) A (call (.type "enumerate") [v]) Q E s := by
  refine callType_new F.called_enumerate (by decide) (F.typeCall_enumerate_1 _) (F.newCall_enumerate_1 _) (fun obj => F.args_object_init_2 obj _) F.entry_enumerate_new (meets_enum1 B) ⟨h1, ?_⟩
  have hz : (s.heap.push o).objs.size = s.heap.objs.size + 1 := Heap.size_push ..
  show _ ∧ _
  rw [hz]
  have e2 := Heap.get?_push_size (s.heap.push o) (o := { cls := .type "enumerate", data := .fields #[.none, .bool false, .ref s.heap.objs.size, rawInt 0, .none, .none] }) rfl
  rw [hz] at e2
  exact ⟨⟨_, e2, rfl⟩, h _ e2 (Heap.get?_push_of_some _ (Heap.get?_push_size _ B.free)) fun b u x => Heap.get?_push_of_some _ (Heap.get?_push_of_some _ x)⟩
end PySem.W

/-! OG2: for i, x in enumerate(t), t a tuple. -/
namespace OD
open PySem PySem.Spec L2
open PyProof.Rows hiding St
def IteT (K : PySem.W.Frag) (a : Addr) : It :=
  ⟨fun i H => ∃ (xs : List V) (x : V), SqT K H a xs ∧ xs[i]? = some x, fun i H v H' => ∃ T x, v = .ref T ∧ H T = none ∧ H' = upd H T (.tup [.int (i : Nat), x]) ∧ ∀ xs, SqT K H a xs → xs[i]? = some x, fun i H => ∃ xs : List V, SqT K H a xs ∧ xs.length = i⟩
theorem turn_enumT {P : Program} {w : World} {K : PySem.W.Frag} {elts : List Expr} {kk : Nat} {tpos : Pos} (a e it : Addr) :
    Turn P w K (.Tuple elts kk tpos) (IteT K a) [e, it] e (fun i h => (∃ old, IsEnum h e it ((i : Nat) : Int) old) ∧ h.IsTupleIter it a i ∧ e ≠ it ∧ e ≠ a ∧ it ≠ a) := by
  have two : ∀ {b : Addr}, b ∈ [e, it] → b = e ∨ b = it := fun hb => by simpa using hb
  refine ⟨by simp, fun i h st b hb => ?_, fun i h h' st k => ?_, ?_, ?_, fun A i s Q E st h => ?_⟩
  · obtain ⟨⟨old, he⟩, ⟨o, ho, hc, hd⟩, _⟩ := st
    rcases two hb with z | z
    · rw [z]; exact ⟨_, he, fun v q => nomatch q⟩
    · rw [z]; exact ⟨o, ho, fun v q => by rw [hd] at q; cases q⟩
  · obtain ⟨⟨old, he⟩, hi, q1, q2, q3⟩ := st
    exact ⟨⟨old, k e (by simp) _ he⟩, hi.at fun o q => k it (by simp) o q, q1, q2, q3⟩
  · intro X hP hw hK hc i pins s σ H E I hf st hg
    subst hP hw hK
    obtain ⟨⟨old, he⟩, hit, hne, hea, hia⟩ := st
    obtain ⟨xs, x, hq, hx⟩ := hg
    obtain ⟨its, rv, p, hz⟩ := I.tuple hq
    obtain ⟨u, hu, ru⟩ := rv.get hx
    have hel : e < s.heap.objs.size := Heap.lt_size he
    have hil : it < s.heap.objs.size := by obtain ⟨_, q, _⟩ := hit; exact Heap.lt_size q
    have hlt : i < its.toArray.size := by simpa using (List.getElem?_eq_some_iff.mp hu).1
    refine wpAny_pyNext_enum_itemC (Draws.tuple (A := X.A.in1) (by exact I.ok.hd hc) it a (Ne.symm hia) its.toArray) he ⟨hit, p⟩ hlt hne (by simp [hne, hea]) fun x' h' tk hx' ho st' hT hsz hk => ?_
    obtain rfl : x' = u := by
      have q : its[i]? = some x' := by simpa using hx'
      rw [hu] at q
      exact (Option.some.inj q).symm
    refine ⟨_, rfl, wpAny_letOwnedTupleGo_enum ho fun h'' he' sb => ?_⟩
    have hT2 : h''.get? s.heap.objs.size = some { cls := .type "tuple", data := .seq #[.int i tk, x'] } := (sb.2 _ (Nat.ne_of_gt hel)).trans hT
    have new : ObjOk X.prog X.w (upd H s.heap.objs.size (.tup [.int (i : Nat), x])) h'' s.heap.objs.size (.tup [.int (i : Nat), x]) :=
      ⟨by show 2 ≤ sizeLine; decide, [.int i tk, x'], .cons ⟨_, rfl⟩ (.cons ru .nil), ⟨_, hT2, rfl, _, rfl⟩⟩
    have I1 : Inv X pins σ (upd H s.heap.objs.size (.tup [.int (i : Nat), x])) { s with heap := h'', toks := tk + 1 } :=
      I.turnedNew (ch := [e, it]) (fun b ob hb q => (sb.2 b (fun z => hb (by simp [z]))).trans (hk b ob (fun z => hb (by simp [z])) (fun z => hb (by simp [z])) q)) hf (Nat.le_refl _) new
    refine ⟨.ref s.heap.objs.size, _, I1, rfl, ⟨_, x, rfl, I.hok.fresh (Nat.le_refl _), rfl, fun ys hy => by rw [I.tuple_inj hy hq]; exact hx⟩, ⟨⟨x', ?_⟩, st'.1.at fun o q => (sb.2 it (Ne.symm hne)).trans q, hne, hea, hia⟩, fun b hb => ?_⟩
    · have e1 : ((i + 1 : Nat) : Int) = (i : Int) + 1 := by omega
      rw [e1]; exact he'
    · have hb' : b < s.heap.objs.size := by
        rcases two hb with z | z
        · rw [z]; exact hel
        · rw [z]; exact hil
      rw [upd_ne (Nat.ne_of_lt hb')]
      exact (hf b hb).1
  · intro X hP hw hK hc i pins s σ H E I hf st hg
    subst hP hw hK
    obtain ⟨⟨old, he⟩, hit, hne, hea, hia⟩ := st
    obtain ⟨xs, hq, hx⟩ := hg
    obtain ⟨its, rv, p, hz⟩ := I.tuple hq
    obtain ⟨f0, f1, f2, f3, f4, f5⟩ := hf it (by simp)
    have hl := rv.length
    have hi : i = its.toArray.size := by rw [List.size_toArray]; omega
    subst hi
    exact wpAny_pyNext_enum_endD (Draws.tuple (A := X.A.in1) (by exact I.ok.hd hc) it a (Ne.symm hia) its.toArray) he ⟨hit, p⟩ fun h' eb => ⟨rfl, I.turned (t' := s.toks) (fun b o hb q => eb b o hb q) f0 f1 f3 f4 f5⟩
  · obtain ⟨⟨_, he⟩, _⟩ := st
    exact wpAny_pyIter_enum he h
end OD

/-! OG3: enumerate of a list or a tuple over D. -/
namespace OD
open PySem PySem.Spec L2
open PyProof.Rows hiding St
theorem PI.or {X : Cx} {tg e : Expr} {t t' : TI} (h : PI X tg e t) (h' : PI X tg e t') : PI X tg e (fun σ H R => t σ H R ∨ t' σ H R) := ⟨fun pins s σ H R I q => q.elim (fun q => h.run pins s σ H R I q) (fun q => h'.run pins s σ H R I q)⟩
def iEnumT (K : PySem.W.Frag) (ta : TA) : TI := fun σ H R => ta σ H fun vs H1 => ∃ a, vs = [.ref a] ∧ ((∃ xs, SqL K H1 a xs ∧ R (Ite K a) H1) ∨ (∃ xs, SqT K H1 a xs ∧ R (IteT K a) H1))
theorem pi_enumA {X : Cx} {e : Expr} {ta : TA} {p pos tpos : Pos} {elts : List Expr} {kk : Nat} (hg : Gl X "enumerate") (hm : X.mg "enumerate" = none) (ha : PA X [e] ta) (hs : starEach [e] X.env = [(false, eval e X.env)]) :
    PI X (.Tuple elts kk tpos) (.Call (.Name "enumerate" p) [e] [] pos) (iEnumT X.K ta) := by
  refine ⟨fun pins s σ H R I h => ?_⟩
  refine Call_ (ld_blt I hg hm boot_enumerate (PyProof.Rows.callWith_type1 (thn (ha.run pos pins s σ H _ I h) fun us s1 ⟨vs, H1, I1, r1, a, ex, q⟩ => ?_) hs rfl))
  subst ex
  obtain rfl := Vals.ref1 r1
  have fp : ∀ {h' : Heap} (I2 : Inv X pins σ H1 { s1 with heap := h' }) (b : Addr), b ∈ [s1.heap.objs.size + 1, s1.heap.objs.size] → FpOk X pins H1 b := fun I2 b hb => by
    have e' : b = s1.heap.objs.size + 1 ∨ b = s1.heap.objs.size := by simpa using hb
    have hle : s1.heap.objs.size ≤ b := by
      rcases e' with z | z
      · rw [z]; exact Nat.le_succ _
      · rw [z]; exact Nat.le_refl _
    exact I1.fpOk hle (I1.hok.fresh hle)
  rcases q with ⟨xs, hq, q⟩ | ⟨xs, hq, q⟩
  · obtain ⟨its, rv, p', hz⟩ := I1.list hq
    refine call_enumerate_list p'.isList fun h' he hit hsz hk => wpAny_pyIter_enum he ?_
    have I2 : Inv X pins σ H1 { s1 with heap := h' } := I1.kept (t' := s1.toks) hk
    exact ⟨s1.heap.objs.size + 1, [s1.heap.objs.size + 1, s1.heap.objs.size], _, _, H1, rfl, I2, turn_enum a (s1.heap.objs.size + 1) s1.heap.objs.size, ⟨⟨.none, he⟩, hit, Nat.succ_ne_self _⟩, fp I2, q⟩
  · obtain ⟨its, rv, p', hz⟩ := I1.tuple hq
    refine PySem.W.enum1_begins (begins_tuple a its.toArray) p' fun h' he ho hk => wpAny_pyIter_enum he ?_
    have I2 : Inv X pins σ H1 { s1 with heap := h' } := I1.kept (t' := s1.toks) hk
    have hla : a < s1.heap.objs.size := by
      obtain ⟨o, e1, _⟩ := id p'
      exact Heap.lt_size e1
    exact ⟨s1.heap.objs.size + 1, [s1.heap.objs.size + 1, s1.heap.objs.size], _, _, H1, rfl, I2, turn_enumT a (s1.heap.objs.size + 1) s1.heap.objs.size, ⟨⟨.none, he⟩, ⟨_, ho, rfl, rfl⟩, Nat.succ_ne_self _, Nat.ne_of_gt (Nat.lt_succ_of_lt hla), Nat.ne_of_gt hla⟩, fp I2, q⟩
section
variable {X : Cx} {C : Ct} {W : WX} {a : Expr} {ta : TD D} {pos p : Pos}
/-- the items of a list or a tuple with their places -/
def iEnum (ta : TD D) : TID := fun ρ S Q Xc => ta ρ S (fun x S1 => ∃ ds, seqD x S1 = some ds ∧ Q (enumD 0 ds, fun S' => seqD x S' = some ds) S1) Xc
theorem ItD.enumL {F : Hp} {μ : List Addr} {x : D} {ds : List D} {a : Addr} (h : ∀ F' μ' H' S', Same F F' → μ <+: μ' → SR C F' μ' H' S' → seqD x S' = some ds → ∃ vs, SqL C.K H' a vs ∧ Reps C F' μ' ds vs) :
    ItD C F μ (Ite C.K a) (enumD 0 ds).length (enumD 0 ds) (fun S' => seqD x S' = some ds) := by
  have hn : (enumD 0 ds).length = ds.length := enumD_len
  refine ⟨fun i F' μ' H' S' hi hF hm s hg => ?_, fun F' μ' H' S' hF hm s hg => ?_, fun i F' μ' H' S' y H2 hi hF hm s hg hy => ?_, rfl⟩
  · obtain ⟨vs, q, r⟩ := h F' μ' H' S' hF hm s hg
    rw [hn] at hi
    have hi' : i < vs.length := by rw [← r.length]; exact hi
    exact ⟨vs, vs[i], q, by simp [hi']⟩
  · obtain ⟨vs, q, r⟩ := h F' μ' H' S' hF hm s hg
    exact ⟨vs, q, by rw [hn, r.length]; exact Nat.le_refl _⟩
  · obtain ⟨vs, q, r⟩ := h F' μ' H' S' hF hm s hg
    obtain ⟨T, v, rfl, hT, rfl, hv⟩ := hy
    obtain ⟨d, h1, h2⟩ := r.getV (hv vs q)
    obtain ⟨s1, x1⟩ := s.frz (o := .tup [.int (i : Nat), v]) hT
    exact ⟨_, .tup [.int (0 + (i : Int)), d], x1, s1, enumD_get h1, Rep.tup_iff.mpr ⟨T, _, rfl, upd_same, Reps.cons (Rep.int_iff.mpr (by rw [Int.zero_add])) (Reps.cons (Rep.ext x1 h2) Reps.nil)⟩⟩
theorem ItD.enumT {F : Hp} {μ : List Addr} {x : D} {ds : List D} {a : Addr} (h : ∀ F' μ' H' S', Same F F' → μ <+: μ' → SR C F' μ' H' S' → seqD x S' = some ds → ∃ vs, SqT C.K H' a vs ∧ Reps C F' μ' ds vs) :
    ItD C F μ (IteT C.K a) (enumD 0 ds).length (enumD 0 ds) (fun S' => seqD x S' = some ds) := by
  have hn : (enumD 0 ds).length = ds.length := enumD_len
  refine ⟨fun i F' μ' H' S' hi hF hm s hg => ?_, fun F' μ' H' S' hF hm s hg => ?_, fun i F' μ' H' S' y H2 hi hF hm s hg hy => ?_, rfl⟩
  · obtain ⟨vs, q, r⟩ := h F' μ' H' S' hF hm s hg
    rw [hn] at hi
    have hi' : i < vs.length := by rw [← r.length]; exact hi
    exact ⟨vs, vs[i], q, by simp [hi']⟩
  · obtain ⟨vs, q, r⟩ := h F' μ' H' S' hF hm s hg
    exact ⟨vs, q, by rw [hn, r.length]⟩
  · obtain ⟨vs, q, r⟩ := h F' μ' H' S' hF hm s hg
    obtain ⟨T, v, rfl, hT, rfl, hv⟩ := hy
    obtain ⟨d, h1, h2⟩ := r.getV (hv vs q)
    obtain ⟨s1, x1⟩ := s.frz (o := .tup [.int (i : Nat), v]) hT
    exact ⟨_, .tup [.int (0 + (i : Int)), d], x1, s1, enumD_get h1, Rep.tup_iff.mpr ⟨T, _, rfl, upd_same, Reps.cons (Rep.int_iff.mpr (by rw [Int.zero_add])) (Reps.cons (Rep.ext x1 h2) Reps.nil)⟩⟩
theorem di_enum {elts : List Expr} {kk : Nat} {tpos : Pos} (hK : X.K = C.K) (hm : X.mg "enumerate" = none) (ha : DE X C W a ta) (hg : Gl X "enumerate" := by rfl) (hs : starEach [a] X.env = [(false, eval a X.env)] := by rfl) :
    DI X C W (.Tuple elts kk tpos) (.Call (.Name "enumerate" p) [a] [] pos) (iEnum ta) :=
  PI.imp (pi_enumA hg hm (pa_cons ha pa_nil hs) hs) fun σ H Q ⟨F, μ, ρ, S, R, Xc, e, s, h, hR, hX⟩ => by
    refine lift_of e s h (fun F1 μ1 H1 v x S1 x1 s1 r1 ⟨ds, h1, h2⟩ => ?_) hX
    obtain ⟨b, rfl, z⟩ := seq_at s1 r1 h1
    rw [hK]
    refine ⟨b, rfl, ?_⟩
    rcases z with z | z
    · obtain ⟨vs, q, r⟩ := z F1 μ1 H1 S1 (Same.refl _) (List.prefix_refl _) s1 h1
      exact .inl ⟨vs, q, hR F1 μ1 H1 _ _ _ S1 x1 s1 (ItD.enumL z) h2⟩
    · obtain ⟨vs, q, r⟩ := z F1 μ1 H1 S1 (Same.refl _) (List.prefix_refl _) s1 h1
      exact .inr ⟨vs, q, hR F1 μ1 H1 _ _ _ S1 x1 s1 (ItD.enumT z) h2⟩
end
end OD

/-! OG4: for a, b in zip(x, y), each a list or a tuple: the turn. -/
namespace OD
open PySem PySem.Spec L2
open PyProof.Rows hiding St
/-- k: a tuple, else a list -/
def SqX (k : Bool) (K : PySem.W.Frag) (H : Hp) (a : Addr) (xs : List V) : Prop := match k with
  | true => SqT K H a xs
  | false => SqL K H a xs
def ItX (k : Bool) (h : Heap) (it a : Addr) (i : Nat) : Prop := match k with
  | true => h.IsTupleIter it a i
  | false => h.IsListIter it a i
def ArX (k : Bool) (h : Heap) (a : Addr) (items : Array Value) : Prop := match k with
  | true => h.IsTuple a items
  | false => h.IsList a items
def itO (k : Bool) (a : Addr) : Obj := match k with
  | true => { cls := .type "tuple_iterator", data := .fields #[.ref a, .int 0 0] }
  | false => { cls := .type "list_iterator", data := .fields #[.ref a, .int 0 0] }
theorem drawsX {prog : Program} {w : World} {A : Around} (hh : A.handled = none) (k : Bool) (it a : Addr) (hne : a ≠ it) (items : Array Value) :
    Draws prog w A it [it, a] items.size (fun i v => items[i]? = some v) (fun i h => ItX k h it a i ∧ ArX k h a items) := by
  cases k with
  | true => exact Draws.tuple hh it a hne items
  | false => exact Draws.list hh it a hne items
theorem beginsX (k : Bool) (a : Addr) (items : Array Value) : Begins (.ref a) (itO k a) fun h => ArX k h a items := by
  cases k with
  | true => exact begins_tuple a items
  | false => exact begins_list a items
theorem itO_at {k : Bool} {h : Heap} {it a : Addr} (e : h.get? it = some (itO k a)) : ItX k h it a 0 := by
  cases k with
  | true => exact ⟨_, e, rfl, rfl⟩
  | false => exact ⟨_, e, rfl, rfl⟩
section
variable {X : Cx} {pins : List (Addr × Obj)} {σ : L2.St} {H : Hp} {s : Shared} {k : Bool} {a : Addr} {xs ys : List V}
theorem arrX (I : Inv X pins σ H s) (h : SqX k X.K H a xs) : ∃ its : List Value, Vals xs its ∧ ArX k s.heap a its.toArray := by
  cases k with
  | true => obtain ⟨its, r, p, _⟩ := I.tuple h; exact ⟨its, r, p⟩
  | false => obtain ⟨its, r, p, _⟩ := I.list h; exact ⟨its, r, p.isList⟩
theorem injX (I : Inv X pins σ H s) (h : SqX k X.K H a xs) (h' : SqX k X.K H a ys) : xs = ys := by
  cases k with
  | true => exact I.tuple_inj h h'
  | false => exact I.list_inj h h'
end
theorem itX_obj {k : Bool} {h : Heap} {it a : Addr} {i : Nat} (q : ItX k h it a i) : ∃ o, h.get? it = some o ∧ ∀ v, o.data ≠ .cell v := by
  cases k with
  | true => obtain ⟨o, e, _, d⟩ := q; exact ⟨o, e, fun v z => by rw [d] at z; cases z⟩
  | false => obtain ⟨o, e, _, d⟩ := q; exact ⟨o, e, fun v z => by rw [d] at z; cases z⟩
theorem itX_at {k : Bool} {h h' : Heap} {it a : Addr} {i : Nat} (q : ItX k h it a i) (e : ∀ o, h.get? it = some o → h'.get? it = some o) : ItX k h' it a i := by
  cases k with
  | true => exact Heap.IsTupleIter.at q e
  | false => exact Heap.IsListIter.at q e
end OD

/-! OG5: zip of two lists or tuples: the turn. -/
namespace OD
open PySem PySem.Spec L2
open PyProof.Rows hiding St
def ItzX (k1 k2 : Bool) (K : PySem.W.Frag) (a b : Addr) : It :=
  ⟨fun i H => ∃ (xs ys : List V) (x y : V), SqX k1 K H a xs ∧ SqX k2 K H b ys ∧ xs[i]? = some x ∧ ys[i]? = some y,
    fun i H v H' => ∃ T x y, v = .ref T ∧ H T = none ∧ H' = upd H T (.tup [x, y]) ∧ (∀ xs, SqX k1 K H a xs → xs[i]? = some x) ∧ ∀ ys, SqX k2 K H b ys → ys[i]? = some y,
    fun i H => ∃ xs ys : List V, SqX k1 K H a xs ∧ SqX k2 K H b ys ∧ i ≤ xs.length ∧ i ≤ ys.length ∧ (i = xs.length ∨ i = ys.length)⟩
theorem turn_zipX {P : Program} {w : World} {K : PySem.W.Frag} {elts : List Expr} {kk : Nat} {tpos : Pos} {k1 k2 : Bool} {a b z TI TO i1 i2 : Addr} (Sep : PySem.ZipSep2 z TI TO i1 i2 [i1, a] [i2, b]) (h1a : i1 ≠ a) (h2b : i2 ≠ b) :
    Turn P w K (.Tuple elts kk tpos) (ItzX k1 k2 K a b) [z, TI, TO, i1, i2] z (fun i h => IsZip h z TI TO .none ∧ PySem.IsTupOf2 h TI (.ref i1) (.ref i2) ∧ (∃ x y, PySem.IsTupOf2 h TO x y) ∧ ItX k1 h i1 a i ∧ ItX k2 h i2 b i) := by
  have five : ∀ {c : Addr}, c ∈ [z, TI, TO, i1, i2] → c = z ∨ c = TI ∨ c = TO ∨ c = i1 ∨ c = i2 := fun hc => by simpa using hc
  refine ⟨by simp, fun i h st c hc => ?_, fun i h h' st k => ?_, ?_, ?_, fun A i s Q E st h => wpAny_pyIter_zip st.1 h⟩
  · obtain ⟨hz, hTI, ⟨x, y, hTO⟩, q1, q2⟩ := st
    rcases five hc with q | q | q | q | q
    · rw [q]; exact ⟨_, hz, fun v q => nomatch q⟩
    · rw [q]; exact ⟨_, hTI, fun v q => nomatch q⟩
    · rw [q]; exact ⟨_, hTO, fun v q => nomatch q⟩
    · rw [q]; exact itX_obj q1
    · rw [q]; exact itX_obj q2
  · obtain ⟨hz, hTI, ⟨x, y, hTO⟩, q1, q2⟩ := st
    exact ⟨k z (by simp) _ hz, k TI (by simp) _ hTI, ⟨x, y, k TO (by simp) _ hTO⟩, itX_at q1 fun o q => k i1 (by simp) o q, itX_at q2 fun o q => k i2 (by simp) o q⟩
  · intro X hP hw hK hc i pins s σ H E I hf st hg
    subst hP hw hK
    obtain ⟨hz, hTI, ⟨x0, y0, hTO⟩, q1, q2⟩ := st
    obtain ⟨xs, ys, x, y, hqx, hqy, hx, hy⟩ := hg
    obtain ⟨its, rv, p⟩ := arrX I hqx
    obtain ⟨its2, rv2, p2⟩ := arrX I hqy
    obtain ⟨u, hu, ru⟩ := rv.get hx
    obtain ⟨u2, hu2, ru2⟩ := rv2.get hy
    have hzl : z < s.heap.objs.size := Heap.lt_size hz
    refine wpAny_pyNext_zipD2_item Sep (drawsX (A := X.A.in1) (by exact I.ok.hd hc) k1 i1 a (Ne.symm h1a) its.toArray) (drawsX (A := X.A.in1) (by exact I.ok.hd hc) k2 i2 b (Ne.symm h2b) its2.toArray) hz hTI hTO ⟨q1, p⟩ ⟨q2, p2⟩
      (by simpa using (List.getElem?_eq_some_iff.mp hu).1) (by simpa using (List.getElem?_eq_some_iff.mp hu2).1) fun x1 x2 h' tk e1 e2 z' TO' st1 st2 hT hsz hk => ?_
    obtain rfl : x1 = u := by
      have q : its[i]? = some x1 := by simpa using e1
      rw [hu] at q
      exact (Option.some.inj q).symm
    obtain rfl : x2 = u2 := by
      have q : its2[i]? = some x2 := by simpa using e2
      rw [hu2] at q
      exact (Option.some.inj q).symm
    refine ⟨_, rfl, wpAny_letOwnedTupleGo_zip z' fun h'' z'' sb => ?_⟩
    have hT2 : h''.get? s.heap.objs.size = some { cls := .type "tuple", data := .seq #[x1, x2] } := (sb.2 _ (Nat.ne_of_gt hzl)).trans hT
    have new : ObjOk X.prog X.w (upd H s.heap.objs.size (.tup [x, y])) h'' s.heap.objs.size (.tup [x, y]) :=
      ⟨by show 2 ≤ sizeLine; decide, [x1, x2], .cons ru (.cons ru2 .nil), ⟨_, hT2, rfl, _, rfl⟩⟩
    have kk2 : ∀ c o, c ∉ [z, TI, TO, i1, i2] → s.heap.get? c = some o → h''.get? c = some o := fun c o hb q =>
      (sb.2 c (fun q' => hb (by simp [q']))).trans (hk c o (fun q' => hb (by simp [q'])) (fun q' => hb (by simp [q'])) (fun q' => hb (by simp [q'])) (fun q' => hb (by simp [q'])) q)
    have I1 : Inv X pins σ (upd H s.heap.objs.size (.tup [x, y])) { s with heap := h'', toks := tk } := I.turnedNew (ch := [z, TI, TO, i1, i2]) kk2 hf (Nat.le_refl _) new
    refine ⟨.ref s.heap.objs.size, _, I1, rfl, ⟨_, x, y, rfl, I.hok.fresh (Nat.le_refl _), rfl, fun l hl => by rw [injX I hl hqx]; exact hx, fun l hl => by rw [injX I hl hqy]; exact hy⟩, ⟨z'', ?_, ⟨x1, x2, ?_⟩, ?_, ?_⟩, fun c hcm => ?_⟩
    · exact (sb.2 _ Sep.TIz).trans (hk _ _ Sep.TIz Sep.TITO Sep.TIi1 Sep.TIi2 hTI)
    · exact (sb.2 _ Sep.TOz).trans TO'
    · exact itX_at st1.1 fun o q => (sb.2 _ (Ne.symm Sep.zi1)).trans q
    · exact itX_at st2.1 fun o q => (sb.2 _ (Ne.symm Sep.zi2)).trans q
    · have hlt : c < s.heap.objs.size := by
        rcases five hcm with q | q | q | q | q
        · rw [q]; exact hzl
        · rw [q]; exact Heap.lt_size hTI
        · rw [q]; exact Heap.lt_size hTO
        · rw [q]; obtain ⟨_, e, _⟩ := itX_obj q1; exact Heap.lt_size e
        · rw [q]; obtain ⟨_, e, _⟩ := itX_obj q2; exact Heap.lt_size e
      rw [upd_ne (Nat.ne_of_lt hlt)]
      exact (hf c hcm).1
  · intro X hP hw hK hc i pins s σ H E I hf st hg
    subst hP hw hK
    obtain ⟨hz, hTI, ⟨x0, y0, hTO⟩, q1, q2⟩ := st
    obtain ⟨xs, ys, hqx, hqy, l1, l2, hend⟩ := hg
    obtain ⟨its, rv, p⟩ := arrX I hqx
    obtain ⟨its2, rv2, p2⟩ := arrX I hqy
    have e1 : its.toArray.size = xs.length := by rw [List.size_toArray]; exact rv.length.symm
    have e2 : its2.toArray.size = ys.length := by rw [List.size_toArray]; exact rv2.length.symm
    exact wpAny_pyNext_zipD2_end Sep (drawsX (A := X.A.in1) (by exact I.ok.hd hc) k1 i1 a (Ne.symm h1a) its.toArray) (drawsX (A := X.A.in1) (by exact I.ok.hd hc) k2 i2 b (Ne.symm h2b) its2.toArray) hz hTI hTO ⟨q1, p⟩ ⟨q2, p2⟩
      (by rw [e1]; exact l1) (by rw [e2]; exact l2) (by rw [e1, e2]; exact hend) fun h' tk hk => ⟨rfl, I.turnedL (t' := tk) (ch := [z, TI, TO, i1, i2]) (fun c o hb q => hk c o (fun q' => hb (by simp [q'])) (fun q' => hb (by simp [q'])) (fun q' => hb (by simp [q'])) (fun q' => hb (by simp [q'])) q) hf⟩
end OD

/-! OG6: zip of two lists or tuples over D. -/
namespace OD
open PySem PySem.Spec L2
open PyProof.Rows hiding St
def iZipX (K : PySem.W.Frag) (ta : TA) : TI := fun σ H R => ta σ H fun vs H1 => ∃ a b k1 k2, vs = [.ref a, .ref b] ∧ (∃ xs, SqX k1 K H1 a xs) ∧ (∃ ys, SqX k2 K H1 b ys) ∧ R (ItzX k1 k2 K a b) H1
theorem arX_lt {k : Bool} {h : Heap} {a : Addr} {its : Array Value} (p : ArX k h a its) : a < h.objs.size := by
  cases k with
  | true => obtain ⟨o, e, _⟩ := p; exact Heap.lt_size e
  | false => obtain ⟨o, e, _⟩ := p; exact Heap.lt_size e
theorem pi_zipX {X : Cx} {e e2 : Expr} {ta : TA} {p pos tpos : Pos} {elts : List Expr} {kk : Nat} (hg : Gl X "zip") (hm : X.mg "zip" = none) (ha : PA X [e, e2] ta)
    (hs : starEach [e, e2] X.env = (false, eval e X.env) :: starEach [e2] X.env) (hpl : (backTo pos (starEach [e2] X.env)).any (·.1) = false) : PI X (.Tuple elts kk tpos) (.Call (.Name "zip" p) [e, e2] [] pos) (iZipX X.K ta) := by
  refine ⟨fun pins s σ H R I h => ?_⟩
  refine Call_ (ld_blt I hg hm PyProof.Rows.boot_zip (PyProof.Rows.callWith_type1 (thn (ha.run pos pins s σ H _ I h) fun us s1 ⟨vs, H1, I1, r1, a, b, k1, k2, ex, ⟨xs, hx⟩, ⟨ys, hy⟩, q⟩ => ?_) hs hpl))
  subst ex
  obtain ⟨u1, u2, rfl, r1, r2⟩ := vals2 r1
  obtain rfl : u1 = Value.ref a := r1
  obtain rfl : u2 = Value.ref b := r2
  obtain ⟨its, rv, pa⟩ := arrX I1 hx
  obtain ⟨its2, rv2, pb⟩ := arrX I1 hy
  have la := arX_lt pa
  have lb := arX_lt pb
  refine zip_begins2 (beginsX k1 a its.toArray) (beginsX k2 b its2.toArray) pa pb fun h' hz hTI hTO o1 o2 hsz hk => wpAny_pyIter_zip hz ?_
  have I2 : Inv X pins σ H1 { s1 with heap := h' } := I1.kept (t' := s1.toks) hk
  have ne : ∀ {c d : Nat}, c ≠ d → s1.heap.objs.size + c ≠ s1.heap.objs.size + d := fun {c d} h q => h (Nat.add_left_cancel q)
  have na : ∀ {c : Addr} {d : Nat}, c < s1.heap.objs.size → s1.heap.objs.size + d ≠ c := fun {c d} h q => Nat.lt_irrefl _ (Nat.lt_of_lt_of_le h (q ▸ Nat.le_add_right _ d))
  have Sep : PySem.ZipSep2 (s1.heap.objs.size + 4) (s1.heap.objs.size + 2) (s1.heap.objs.size + 3) (s1.heap.objs.size + 0) (s1.heap.objs.size + 1) [s1.heap.objs.size + 0, a] [s1.heap.objs.size + 1, b] :=
    ⟨ne (by decide), ne (by decide), ne (by decide), ne (by decide), List.mem_cons_self, fun h => (List.mem_cons.mp h).elim (ne (by decide)) fun h => na la (List.mem_singleton.mp h), fun h => (List.mem_cons.mp h).elim (ne (by decide)) fun h => na la (List.mem_singleton.mp h),
      ne (by decide), List.mem_cons_self, fun h => (List.mem_cons.mp h).elim (ne (by decide)) fun h => na lb (List.mem_singleton.mp h), fun h => (List.mem_cons.mp h).elim (ne (by decide)) fun h => na lb (List.mem_singleton.mp h),
      fun h => (List.mem_cons.mp h).elim (ne (by decide)) fun h => na lb (List.mem_singleton.mp h), fun h => (List.mem_cons.mp h).elim (ne (by decide)) fun h => na la (List.mem_singleton.mp h)⟩
  refine ⟨s1.heap.objs.size + 4, [s1.heap.objs.size + 4, s1.heap.objs.size + 2, s1.heap.objs.size + 3, s1.heap.objs.size + 0, s1.heap.objs.size + 1], _, _, H1, rfl, I2, turn_zipX Sep (na la) (na lb), ⟨hz, hTI, ⟨_, _, hTO⟩, itO_at o1, itO_at o2⟩, fun c hc => ?_, q⟩
  have hle : s1.heap.objs.size ≤ c := by
    have e' : c = s1.heap.objs.size + 4 ∨ c = s1.heap.objs.size + 2 ∨ c = s1.heap.objs.size + 3 ∨ c = s1.heap.objs.size + 0 ∨ c = s1.heap.objs.size + 1 := by
      simpa only [List.mem_cons, List.not_mem_nil, or_false] using hc
    rcases e' with z | z | z | z | z <;> (rw [z]; exact Nat.le_add_right _ _)
  exact I1.fpOk hle (I1.hok.fresh hle)
section
variable {X : Cx} {C : Ct} {W : WX} {a b : Expr} {ta tb : TD D} {pos p : Pos}
def iZip (ta tb : TD D) : TID := fun ρ S Q Xc => ta ρ S (fun x S1 => tb ρ S1 (fun y S2 => ∃ as bs, seqD x S2 = some as ∧ seqD y S2 = some bs ∧ Q (zipD as bs, fun S' => seqD x S' = some as ∧ seqD y S' = some bs) S2) Xc) Xc
theorem seqX_at {F : Hp} {μ : List Addr} {H : Hp} {S : Store} {x : D} {v : V} {ds : List D} (s : SR C F μ H S) (r : Rep C F μ x v) (h : seqD x S = some ds) : ∃ a k, v = .ref a ∧
    ∀ F' μ' H' S', Same F F' → μ <+: μ' → SR C F' μ' H' S' → seqD x S' = some ds → ∃ vs, SqX k C.K H' a vs ∧ Reps C F' μ' ds vs := by
  obtain ⟨a, rfl, z⟩ := seq_at s r h
  rcases z with z | z
  · exact ⟨a, false, rfl, z⟩
  · exact ⟨a, true, rfl, z⟩
theorem ItD.zip {F : Hp} {μ : List Addr} {x y : D} {as bs : List D} {a b : Addr} {k1 k2 : Bool} (h : ∀ F' μ' H' S', Same F F' → μ <+: μ' → SR C F' μ' H' S' → seqD x S' = some as → ∃ vs, SqX k1 C.K H' a vs ∧ Reps C F' μ' as vs)
    (h' : ∀ F' μ' H' S', Same F F' → μ <+: μ' → SR C F' μ' H' S' → seqD y S' = some bs → ∃ vs, SqX k2 C.K H' b vs ∧ Reps C F' μ' bs vs) :
    ItD C F μ (ItzX k1 k2 C.K a b) (zipD as bs).length (zipD as bs) (fun S' => seqD x S' = some as ∧ seqD y S' = some bs) := by
  refine ⟨fun i F' μ' H' S' hi hF hm s hg => ?_, fun F' μ' H' S' hF hm s hg => ?_, fun i F' μ' H' S' z H2 hi hF hm s hg hy => ?_, rfl⟩
  · obtain ⟨vs, q, r⟩ := h F' μ' H' S' hF hm s hg.1
    obtain ⟨ws, q', r'⟩ := h' F' μ' H' S' hF hm s hg.2
    rw [zipD_len, r.length, r'.length] at hi
    exact ⟨vs, ws, vs[i]'(by omega), ws[i]'(by omega), q, q', by simp [show i < vs.length by omega], by simp [show i < ws.length by omega]⟩
  · obtain ⟨vs, q, r⟩ := h F' μ' H' S' hF hm s hg.1
    obtain ⟨ws, q', r'⟩ := h' F' μ' H' S' hF hm s hg.2
    refine ⟨vs, ws, q, q', ?_⟩
    rw [zipD_len, r.length, r'.length]
    omega
  · obtain ⟨vs, q, r⟩ := h F' μ' H' S' hF hm s hg.1
    obtain ⟨ws, q', r'⟩ := h' F' μ' H' S' hF hm s hg.2
    obtain ⟨T, v, w, rfl, hT, rfl, hv, hw⟩ := hy
    obtain ⟨d, h1, h2⟩ := r.getV (hv vs q)
    obtain ⟨d', h1', h2'⟩ := r'.getV (hw ws q')
    obtain ⟨s1, x1⟩ := s.frz (o := .tup [v, w]) hT
    exact ⟨_, .tup [d, d'], x1, s1, zipD_get h1 h1', Rep.tup_iff.mpr ⟨T, _, rfl, upd_same, Reps.cons (Rep.ext x1 h2) (Reps.cons (Rep.ext x1 h2') Reps.nil)⟩⟩
theorem di_zip {elts : List Expr} {kk : Nat} {tpos : Pos} (hK : X.K = C.K) (hm : X.mg "zip" = none) (ha : DE X C W a ta) (hb : DE X C W b tb) (hg : Gl X "zip" := by rfl) (hs : starEach [a, b] X.env = (false, eval a X.env) :: starEach [b] X.env := by rfl) (hs1 : starEach [b] X.env = [(false, eval b X.env)] := by rfl)
    (hpl : (backTo pos (starEach [b] X.env)).any (·.1) = false := by rfl) : DI X C W (.Tuple elts kk tpos) (.Call (.Name "zip" p) [a, b] [] pos) (iZip ta tb) :=
  PI.imp (pi_zipX hg hm (pa_cons ha (pa_cons hb pa_nil hs1) hs) hs hpl) fun σ H Q ⟨F, μ, ρ, S, R, Xc, e, s, h, hR, hX⟩ => by
    refine lift_of e s h (fun F1 μ1 H1 v x S1 x1 s1 r1 h1 => ?_) hX
    refine lift_of (e.ext x1) s1 h1 (fun F2 μ2 H2 w y S2 x2 s2 r2 h2 => ?_) fun F2 μ2 H2 cls dd c fs S2 x2 s2 r2 h2 => hX F2 μ2 H2 cls dd c fs S2 (x1.trans x2) s2 r2 h2
    obtain ⟨as, bs, e1, e2, h2⟩ := h2
    obtain ⟨a', k1, rfl, z⟩ := seqX_at s2 (Rep.ext x2 r1) e1
    obtain ⟨b', k2, rfl, z'⟩ := seqX_at s2 r2 e2
    obtain ⟨vs, q, r⟩ := z F2 μ2 H2 S2 (Same.refl _) (List.prefix_refl _) s2 e1
    obtain ⟨ws, q', r'⟩ := z' F2 μ2 H2 S2 (Same.refl _) (List.prefix_refl _) s2 e2
    rw [hK]
    exact ⟨a', b', k1, k2, rfl, ⟨vs, q⟩, ⟨ws, q'⟩, hR F2 μ2 H2 _ _ _ S2 (x1.trans x2) s2 (ItD.zip z z') h2⟩
end
end OD

/-! OG7: list(range(..)) over D. -/
namespace OD
open PySem PySem.Spec L2
open PyProof.Rows hiding St
section
variable {X : Cx} {C : Ct} {W : WX} {a b : Expr} {ta tb : TD D} {p p2 pos pos2 : Pos} {F : Hp} {μ : List Addr}
theorem Reps.rg (i j : Int) : Reps C F μ (intsFrom i (j - i).toNat) (rgV i j) := by
  unfold intsFrom rgV
  induction (List.range (j - i).toNat) with
  | nil => exact Reps.nil
  | cons n ns ih => exact Reps.cons (Rep.int_iff.mpr rfl) ih
/-- list(range(n)) | list(range(i, j)) -/
def dListR1 (o : Bool) (ta : TD D) : TD D := fun ρ S Q Xc => ta ρ S (fun x S1 => ∃ n, x = .int n ∧ RgOk 0 n ∧ mkL o (intsFrom 0 n.toNat) S1 Q) Xc
def dListR2 (o : Bool) (ta tb : TD D) : TD D := fun ρ S Q Xc => ta ρ S (fun x S1 => tb ρ S1 (fun y S2 => ∃ i j, x = .int i ∧ y = .int j ∧ RgOk i j ∧ mkL o (intsFrom i (j - i).toNat) S2 Q) Xc) Xc
theorem de_listR1 (o : Bool) (hc : X.calm = true) (hl : X.mg "list" = none) (hr : X.mg "range" = none) (ha : DE X C W a ta) (hg : Gl X "list" := by rfl) (hg2 : Gl X "range" := by rfl) (na : starEach [a] X.env = (false, eval a X.env) :: starEach [] X.env := by rfl)
    (nb : starEach [.Call (.Name "range" p2) [a] [] pos2] X.env = (false, eval (.Call (.Name "range" p2) [a] [] pos2) X.env) :: starEach [] X.env := by rfl) : DE X C W (.Call (.Name "list" p) [.Call (.Name "range" p2) [a] [] pos2] [] pos) (dListR1 o ta) := by
  refine PE.imp (pe_listRg hc hg hl (prg_1 hg2 hr ha na) nb) fun σ H Q ⟨F, μ, ρ, S, R, Xc, e, s, h, hR, hX⟩ => ?_
  refine lift_of e s h (fun F1 μ1 H1 v x S1 x1 s1 r1 h1 => ?_) hX
  obtain ⟨n, rfl, ok, h1⟩ := h1
  refine ⟨n, Rep.int_iff.mp r1, ok, fun q hq => mk_lst s1 (Reps.rg 0 n) hq (by rw [Int.sub_zero]; exact h1) fun F' μ' H' v d S' y => hR F' μ' H' v d S' (x1.trans y)⟩
theorem de_listR2 (o : Bool) (hc : X.calm = true) (hl : X.mg "list" = none) (hr : X.mg "range" = none) (ha : DE X C W a ta) (hb : DE X C W b tb) (hg : Gl X "list" := by rfl) (hg2 : Gl X "range" := by rfl) (na : starEach [a, b] X.env = (false, eval a X.env) :: starEach [b] X.env := by rfl)
    (na2 : starEach [b] X.env = (false, eval b X.env) :: starEach [] X.env := by rfl) (hp : (backTo pos2 (starEach [b] X.env)).any (·.1) = false := by rfl)
    (nb : starEach [.Call (.Name "range" p2) [a, b] [] pos2] X.env = (false, eval (.Call (.Name "range" p2) [a, b] [] pos2) X.env) :: starEach [] X.env := by rfl) : DE X C W (.Call (.Name "list" p) [.Call (.Name "range" p2) [a, b] [] pos2] [] pos) (dListR2 o ta tb) := by
  refine PE.imp (pe_listRg hc hg hl (prg_2 hg2 hr ha hb na na2 hp) nb) fun σ H Q ⟨F, μ, ρ, S, R, Xc, e, s, h, hR, hX⟩ => ?_
  refine lift_of e s h (fun F1 μ1 H1 v x S1 x1 s1 r1 h1 => ?_) hX
  refine lift_of (e.ext x1) s1 h1 (fun F2 μ2 H2 w y S2 x2 s2 r2 h2 => ?_) fun F2 μ2 H2 cls dd c fs S2 x2 s2 r2 h2 => hX F2 μ2 H2 cls dd c fs S2 (x1.trans x2) s2 r2 h2
  obtain ⟨i, j, rfl, rfl, ok, h2⟩ := h2
  refine ⟨i, j, Rep.int_iff.mp r1, Rep.int_iff.mp r2, ok, fun q hq => mk_lst s2 (Reps.rg i j) hq h2 fun F' μ' H' v d S' z => hR F' μ' H' v d S' (x1.trans (x2.trans z))⟩
end
end OD

/-! OH0: the head's Hook with defs at any address; classes of one's own over D. -/
namespace OD
open PySem PySem.Spec PyProof.Rows L2 He
abbrev AlY : Type := Bool × List He.FnW × List SupW
structure HkY where
  file : Str
  fa : List Fa
  fn : List He5.DefA
  sx : List SupD
  xb : PySem.W.Frag → Bool
def obsY (k : HkY) (K : PySem.W.Frag) : AlY := ((k.fa.all fun f => f.ok K) && ((k.fn.all fun d => d.ok K) && ((k.sx.all fun d => supB k.file K d) && k.xb K)), k.fn.map fun d => He5.fnA K (d.at_ K), k.sx.map fun d => supW K d.cls)
def valY (k : HkY) : AlY := (true, k.fn.map He5.DefA.val, k.sx.map SupD.val)
def SaysY (k : HkY) (K : PySem.W.Frag) : Prop := obsY k K = valY k
def asY (g : Addr → Option Obj) (n : Nat) : List Addr := asD g n ++ [PySem.cStatics]
def obsYG (n : Nat) (k : HkY) (g : Addr → Option Obj) : AlY := obsY k (frG g (asY g n))
def hookY (n : Nat) (k : HkY) : PySem.W.Hook where
  α := AlY
  obs := fun s => obsYG n k s.heap.get?
  val := fun _ => valY k
  says := fun _ h => ∃ K : PySem.W.Frag, K.In h ∧ SaysY k K
  of := fun _ _ e => ⟨_, frG_in, e⟩
  keeps := fun _ _ _ ⟨K, hK, c⟩ k => ⟨K, PySem.W.Frag.In.keeps hK k, c⟩
theorem obsYG_eq {n : Nat} {k : HkY} {g : Addr → Option Obj} {s : Shared} (h : ∀ a, g a = s.heap.get? a) : obsYG n k g = (hookY n k).obs s := by
  have e : g = s.heap.get? := funext h
  rw [e] <;> rfl
section
variable {k : HkY} {K : PySem.W.Frag}
theorem SaysY.all (c : SaysY k K) : (∀ f ∈ k.fa, f.ok K = true) ∧ (∀ d ∈ k.fn, d.ok K = true) ∧ (∀ d ∈ k.sx, supB k.file K d = true) ∧ k.xb K = true := by
  have h : ((k.fa.all fun f => f.ok K) && ((k.fn.all fun d => d.ok K) && ((k.sx.all fun d => supB k.file K d) && k.xb K))) = true := congrArg (fun z : AlY => z.1) c
  simp only [Bool.and_eq_true, List.all_eq_true] at h
  exact h
theorem SaysY.fact (c : SaysY k K) (i : Nat) {f : Fa} (h : k.fa[i]? = some f := by rfl) : f.ok K = true := c.all.1 f (List.mem_of_getElem? h)
theorem SaysY.def_ (c : SaysY k K) (i : Nat) {d : He5.DefA} (h : k.fn[i]? = some d := by rfl) : ∃ fd, FunD K d.name d.qual d.params d.body d.scope (d.dvs K) (d.kws K) (d.at_ K) fd := by
  have e : k.fn.map (fun d => He5.fnA K (d.at_ K)) = k.fn.map He5.DefA.val := congrArg (fun z : AlY => z.2.1) c
  have e2 : (k.fn.map fun d => He5.fnA K (d.at_ K))[i]? = (k.fn.map He5.DefA.val)[i]? := by rw [e]
  rw [List.getElem?_map, List.getElem?_map, h] at e2
  exact He5.DefA.funD (Option.some.inj e2) (c.all.2.1 d (List.mem_of_getElem? h))
theorem SaysY.sup (c : SaysY k K) (i : Nat) {d : SupD} (h : k.sx[i]? = some d := by rfl) : SupF k.file K d := by
  have e : k.sx.map (fun d => supW K d.cls) = k.sx.map SupD.val := congrArg (fun z : AlY => z.2.2) c
  have e2 : (k.sx.map fun d => supW K d.cls)[i]? = (k.sx.map SupD.val)[i]? := by rw [e]
  rw [List.getElem?_map, List.getElem?_map, h] at e2
  exact supB_ok (Option.some.inj e2) (c.all.2.2.1 d (List.mem_of_getElem? h))
theorem SaysY.own (c : SaysY k K) : k.xb K = true := c.all.2.2.2
end

/-! ### the law's classes, read by one check -/
def pgA (K : PySem.W.Frag) (c f : Str) : Addr := match PySem.W.recIn K (ma K (ga K c) f) "property" with
  | some (.ref g :: _) => g
  | _ => 0
def proB (K : PySem.W.Frag) (c f : Str) : Bool := eqO (PySem.W.findIn K (.ref (ga K c)) f) (some (some (.ref (ma K (ga K c) f)))) && (eqO (PySem.W.specialIn K (.ref (ma K (ga K c) f)) "__get__") (some (some (.builtin "property.__get__"))) &&
  (decide (PySem.W.takesIn K (.ref (ma K (ga K c) f)) = some true) && (match PySem.W.recIn K (ma K (ga K c) f) "property" with
    | some (.ref _ :: _) => true
    | _ => false)))
theorem proB_ok {K : PySem.W.Frag} {c f : Str} (h : proB K c f = true) : PropOf K (ga K c) f (ma K (ga K c) f) (pgA K c f) := by
  obtain ⟨h1, h⟩ := ba h
  obtain ⟨h2, h⟩ := ba h
  obtain ⟨h3, h4⟩ := ba h
  refine ⟨eqO_ok h1, eqO_ok h2, of_decide_eq_true h3, ?_⟩
  unfold pgA
  split at h4
  · rename_i g r e
    exact ⟨r, by rw [e]⟩
  · cases h4
def fldB (K : PySem.W.Frag) (c f : Str) : Bool := (Fa.cls c).ok K && (Fa.noat c f).ok K
theorem fldB_ok {K : PySem.W.Frag} {c f : Str} (h : fldB K c f = true) : FldOk ⟨K, ga K⟩ c f := by
  obtain ⟨h1, h2⟩ := ba h
  exact ⟨cls_ok h1, noat_ok h2⟩
def exmB (K : PySem.W.Frag) (x y : Str) (b : Bool) : Bool := (Fa.exm x y b).ok K
theorem exmB_ok {K : PySem.W.Frag} {x y : Str} {b : Bool} (h : exmB K x y b = true) : exmD ⟨K, ga K⟩ x y b := exm_ok h
def xfB (K : PySem.W.Frag) (c n : Str) : Bool := exfB K (ga K c) && decide (PySem.W.findIn K (.ref (ga K c)) n = some none)
theorem xfB_ok {K : PySem.W.Frag} {c n : Str} (h : xfB K c n = true) : XfD ⟨K, ga K⟩ c n := by
  obtain ⟨h1, h2⟩ := ba h
  exact ⟨(exfB_ok h1).xf, of_decide_eq_true h2⟩
/-- a constant int of a class: read through the class -/
def cvB (K : PySem.W.Frag) (c f : Str) (i : Int) : Bool := PySem.W.readsIn K (ga K c) (.type "type") && (eqO (PySem.W.specialIn K (.ref (ga K c)) "__getattribute__") (some (some (.builtin "type.__getattribute__"))) && (match PySem.W.findCls K (.ref (ga K c)) (.type "type") f with
  | some (.val (.int j _)) => decide (j = i)
  | _ => false))
theorem cvB_ok {K : PySem.W.Frag} {mg : Str → Option Value} {c f : Str} {i : Int} (hm : mg c = some (.ref (ga K c))) (h : cvB K c f i = true) : CvD ⟨K, ga K⟩ mg c f (.int i) := by
  obtain ⟨h1, h⟩ := ba h
  obtain ⟨h2, h3⟩ := ba h
  split at h3
  · rename_i j t e
    have := of_decide_eq_true h3
    subst this
    exact ⟨hm, .type "type", .int j, .int j t, ⟨h1, eqO_ok h2⟩, ⟨e, ⟨t, rfl⟩⟩, rfl⟩
  · cases h3
section
variable {P : Program} {w : World} {K : PySem.W.Frag} {mg : Str → Option Value} {base : Heap} {k : Nat} {c m : Str} {ps : List Str} {sp : SpD}
theorem FnA.make (F : FnA P w ⟨K, ga K⟩ mg base k (ma K (ga K c) "__init__") ps sp) (hm : mg c = some (.ref (ga K c))) (h : (Fa.mkr c).ok K = true) : MakD P w ⟨K, ga K⟩ mg base k c ps sp :=
  let ⟨fd, _, h2, h3⟩ := F.ex; ⟨hm, _, fd, mkr_ok h, h2, h3⟩
theorem FnA.meth (F : FnA P w ⟨K, ga K⟩ mg base k (ma K (ga K c) m) ps sp) (h1 : (Fa.cls c).ok K = true) (h : (Fa.meth c m).ok K = true) : MetD P w ⟨K, ga K⟩ mg base k c m ps sp :=
  let ⟨fd, _, h2, h3⟩ := F.ex; ⟨cls_ok h1, _, fd, meth_ok h, h2, h3⟩
theorem FnA.prop (F : FnA P w ⟨K, ga K⟩ mg base k (pgA K c m) ["self"] sp) (h1 : (Fa.cls c).ok K = true) (h : proB K c m = true) : ProD P w ⟨K, ga K⟩ mg base k c m sp :=
  let ⟨fd, _, h2, h3⟩ := F.ex; ⟨cls_ok h1, _, _, fd, proB_ok h, h2, h3⟩
end
/-! ### targets raise nothing -/
def GM (g : TGD) : Prop := ∀ d ρ S (R R' : DEnv → Store → Prop) (Xc : XcD), (∀ ρ S, R ρ S → R' ρ S) → g d ρ S R Xc → g d ρ S R' (fun _ _ _ => False)
def GMs (g : TGsD) : Prop := ∀ d ρ S (R R' : DEnv → Store → Prop) (Xc : XcD), (∀ ρ S, R ρ S → R' ρ S) → g d ρ S R Xc → g d ρ S R' (fun _ _ _ => False)
theorem gm_n {i : Nat} : GM (gN i) := fun d ρ S R R' Xc h z => h _ _ z
theorem gm_t {n : Nat} {gs : TGsD} (h : GMs gs) : GM (gT n gs) := fun d ρ S R R' Xc hR ⟨ds, e, l, z⟩ => ⟨ds, e, l, h ds ρ S R R' Xc hR z⟩
theorem gms_nil : GMs OD.gNil := fun d ρ S R R' Xc h ⟨e, z⟩ => ⟨e, h _ _ z⟩
theorem gms_cons {g : TGD} {gs : TGsD} (h1 : GM g) (h2 : GMs gs) : GMs (OD.gCons g gs) := fun ds ρ S R R' Xc hR ⟨d, r, e, z⟩ => ⟨d, r, e, h1 d ρ S _ _ Xc (fun ρ1 S1 z1 => h2 r ρ1 S1 R R' Xc hR z1) z⟩
theorem GM.free {g : TGD} (h : GM g) : ∀ d ρ S R Xc, g d ρ S R Xc → g d ρ S R (fun _ _ _ => False) := fun d ρ S R Xc z => h d ρ S R R Xc (fun _ _ z => z) z
theorem GMs.free {g : TGsD} (h : GMs g) : ∀ d ρ S R Xc, g d ρ S R Xc → g d ρ S R (fun _ _ _ => False) := fun d ρ S R Xc z => h d ρ S R R Xc (fun _ _ z => z) z
end OD

/-! OH1: loops by the items done; steps for instances, exceptions, dicts, slices. -/
namespace OD
open PySem PySem.Spec L2
open PyProof.Rows hiding St
/-! ### loops -/
theorem take_snoc {α : Type} {xs pre post : List α} {x : α} (h : xs = pre ++ x :: post) : xs.take (pre.length + 1) = pre ++ [x] := by
  subst h
  have e : pre ++ x :: post = (pre ++ [x]) ++ post := by simp
  rw [e, List.take_append_of_le_length (by simp), List.take_of_length_le (by simp)]
theorem split_at {α : Type} {xs : List α} {i : Nat} {x : α} (h : xs[i]? = some x) : xs = xs.take i ++ x :: xs.drop (i + 1) := by
  obtain ⟨hl, e⟩ := List.getElem?_eq_some_iff.mp h
  rw [← e, List.getElem_cons_drop, List.take_append_drop]
section
variable {ρ : DEnv} {S S0 S1 : Store} {Q : D → Store → Prop} {Xc : XcD} {E : EndsD} {A : TD Bool} {te : TD D} {g : TGD} {gd : GD} {t : TSD} {items : List D} {G : Store → Prop} {o : Bool} {vs : List Nat}
/-- for: by the items done -/
theorem st_walk {α : Type} (xs : List α) (e : α → D) (hx : items = xs.map e) (J : List α → DEnv → Store → Prop) (h0 : J [] ρ S) (hG : ∀ pre ρ' S', J pre ρ' S' → G S')
    (turn : ∀ pre x post ρ' S', xs = pre ++ x :: post → J pre ρ' S' → g (e x) ρ' S' (fun ρ1 S1 => t (E.lp fun ρ2 S2 => ∃ ρ3 S3, Shr ρ' S' ρ2 S2 ρ3 S3 ∧ J (pre ++ [x]) ρ3 S3) ρ1 S1) fun c fs S1 => E.ex c fs ρ' S1)
    (hend : ∀ ρ' S', J xs ρ' S' → E.nx ρ' S') :
    ∃ I : Nat → DEnv → Store → Prop, I 0 ρ S ∧ ∀ i ρ S, I i ρ S → G S ∧ (i = items.length → E.nx ρ S) ∧
      ∀ d, items[i]? = some d → g d ρ S (fun ρ1 S1 => t (E.lp fun ρ2 S2 => ∃ ρ3 S3, Shr ρ S ρ2 S2 ρ3 S3 ∧ I (i + 1) ρ3 S3) ρ1 S1) fun c fs S1 => E.ex c fs ρ S1 := by
  subst hx
  refine ⟨fun i ρ S => J (xs.take i) ρ S, h0, fun i ρ S h => ⟨hG _ _ _ h, fun hi => hend ρ S ?_, fun d hd => ?_⟩⟩
  · rw [List.length_map] at hi
    rw [hi, List.take_length] at h
    exact h
  · rw [List.getElem?_map] at hd
    cases hx : xs[i]? with
    | none => rw [hx] at hd; cases hd
    | some x =>
      rw [hx] at hd; cases hd
      have hl := (List.getElem?_eq_some_iff.mp hx).1
      have sp := split_at hx
      have e2 : xs.take (i + 1) = xs.take i ++ [x] := by
        have := take_snoc sp
        rwa [List.length_take, Nat.min_eq_left (Nat.le_of_lt hl)] at this
      dsimp only
      rw [e2]
      exact turn _ _ _ _ _ sp h
/-- for over a range -/
theorem st_walkR (a : Int) (n : Nat) (hx : items = intsFrom a n) (J : Nat → DEnv → Store → Prop) (h0 : J 0 ρ S) (hG : ∀ i ρ' S', J i ρ' S' → G S')
    (turn : ∀ i ρ' S', i < n → J i ρ' S' → g (.int (a + i)) ρ' S' (fun ρ1 S1 => t (E.lp fun ρ2 S2 => ∃ ρ3 S3, Shr ρ' S' ρ2 S2 ρ3 S3 ∧ J (i + 1) ρ3 S3) ρ1 S1) fun c fs S1 => E.ex c fs ρ' S1)
    (hend : ∀ ρ' S', J n ρ' S' → E.nx ρ' S') :
    ∃ I : Nat → DEnv → Store → Prop, I 0 ρ S ∧ ∀ i ρ S, I i ρ S → G S ∧ (i = items.length → E.nx ρ S) ∧
      ∀ d, items[i]? = some d → g d ρ S (fun ρ1 S1 => t (E.lp fun ρ2 S2 => ∃ ρ3 S3, Shr ρ S ρ2 S2 ρ3 S3 ∧ I (i + 1) ρ3 S3) ρ1 S1) fun c fs S1 => E.ex c fs ρ S1 := by
  subst hx
  refine ⟨J, h0, fun i ρ S h => ⟨hG _ _ _ h, fun hi => hend ρ S ?_, fun d hd => ?_⟩⟩
  · rw [intsFrom_len] at hi
    rw [hi] at h; exact h
  · have hi : i < n := by have := (List.getElem?_eq_some_iff.mp hd).1; rwa [intsFrom_len] at this
    rw [intsFrom_get hi] at hd
    cases hd
    exact turn i _ _ hi h
/-- [e for x in .. if ..], the store as it is -/
theorem st_comp {α : Type} (xs : List α) (e : α → D) (hx : items = xs.map e) (p : α → Bool) (f : α → D) (hG : G S) (hl : xs.length ≤ sizeLine)
    (turn : ∀ pre x post, xs = pre ++ x :: post → ∀ (R : D → Store → Prop) (N : Store → Prop), (p x = true → R (f x) S) → (p x = false → N S) →
      ∃ ρ1, gd (e x) (wipeD ρ vs) S = some ρ1 ∧ A ρ1 S (fun k S2 => if k = true then te ρ1 S2 R noX else N S2) noX)
    (hend : mkL o ((xs.filter p).map f) S Q) :
    ∃ I : Nat → List D → Store → Prop, I 0 [] S ∧ ∀ i acc S, I i acc S → G S ∧ (i = items.length → mkL o acc S Q) ∧
      ∀ d, items[i]? = some d → ∃ ρ1, gd d (wipeD ρ vs) S = some ρ1 ∧ A ρ1 S (fun k S2 => if k = true then te ρ1 S2 (fun y S3 => acc.length < sizeLine ∧ I (i + 1) (acc ++ [y]) S3) noX else I (i + 1) acc S2) noX := by
  subst hx
  refine ⟨fun i acc S' => S' = S ∧ acc = ((xs.take i).filter p).map f, ⟨rfl, by simp⟩, ?_⟩
  rintro i acc S' ⟨rfl, rfl⟩
  refine ⟨hG, fun hi => ?_, fun d hd => ?_⟩
  · rw [List.length_map] at hi
    rw [hi, List.take_length]
    exact hend
  · rw [List.getElem?_map] at hd
    cases hx : xs[i]? with
    | none => rw [hx] at hd; cases hd
    | some x =>
      rw [hx] at hd; cases hd
      have hlt := (List.getElem?_eq_some_iff.mp hx).1
      have sp := split_at hx
      have e2 : xs.take (i + 1) = xs.take i ++ [x] := by
        have := take_snoc sp
        rwa [List.length_take, Nat.min_eq_left (Nat.le_of_lt hlt)] at this
      refine turn _ _ _ sp _ _ (fun hp => ⟨?_, rfl, ?_⟩) (fun hp => ⟨rfl, ?_⟩)
      · rw [List.length_map]
        have h1 := List.length_filter_le p (xs.take i)
        rw [List.length_take] at h1
        omega
      · rw [e2, List.filter_append, List.map_append, List.filter_cons_of_pos hp]; rfl
      · rw [e2, List.filter_append, List.map_append, List.filter_cons_of_neg (by simp [hp])]; simp
theorem st_comp1 {α : Type} (xs : List α) (e : α → D) (hx : items = xs.map e) (f : α → D) (hG : G S) (hl : xs.length ≤ sizeLine)
    (turn : ∀ pre x post, xs = pre ++ x :: post → ∀ (R : D → Store → Prop), R (f x) S → ∃ ρ1, gd (e x) (wipeD ρ vs) S = some ρ1 ∧ te ρ1 S R noX)
    (hend : mkL o (xs.map f) S Q) :
    ∃ I : Nat → List D → Store → Prop, I 0 [] S ∧ ∀ i acc S, I i acc S → G S ∧ (i = items.length → mkL o acc S Q) ∧
      ∀ d, items[i]? = some d → ∃ ρ1, gd d (wipeD ρ vs) S = some ρ1 ∧ dYes ρ1 S (fun k S2 => if k = true then te ρ1 S2 (fun y S3 => acc.length < sizeLine ∧ I (i + 1) (acc ++ [y]) S3) noX else I (i + 1) acc S2) noX := by
  refine st_comp (A := dYes) xs e hx (fun _ => true) f hG hl (fun pre x post sp R N h1 h2 => ?_) (by rwa [List.filter_eq_self.mpr (by simp)])
  obtain ⟨ρ1, h3, h4⟩ := turn pre x post sp R (h1 rfl)
  exact ⟨ρ1, h3, h4⟩
/-- a comprehension that changes the store -/
theorem st_compS {α : Type} (xs : List α) (e : α → D) (hx : items = xs.map e) (J : List α → List D → Store → Prop) (h0 : J [] [] S) (hG : ∀ pre acc S', J pre acc S' → G S')
    (turn : ∀ pre x post acc S', xs = pre ++ x :: post → J pre acc S' → ∃ ρ1, gd (e x) (wipeD ρ vs) S' = some ρ1 ∧ A ρ1 S' (fun k S2 => if k = true then te ρ1 S2 (fun y S3 => acc.length < sizeLine ∧ J (pre ++ [x]) (acc ++ [y]) S3) noX else J (pre ++ [x]) acc S2) noX)
    (hend : ∀ acc S', J xs acc S' → mkL o acc S' Q) :
    ∃ I : Nat → List D → Store → Prop, I 0 [] S ∧ ∀ i acc S, I i acc S → G S ∧ (i = items.length → mkL o acc S Q) ∧
      ∀ d, items[i]? = some d → ∃ ρ1, gd d (wipeD ρ vs) S = some ρ1 ∧ A ρ1 S (fun k S2 => if k = true then te ρ1 S2 (fun y S3 => acc.length < sizeLine ∧ I (i + 1) (acc ++ [y]) S3) noX else I (i + 1) acc S2) noX := by
  subst hx
  refine ⟨fun i acc S' => J (xs.take i) acc S', h0, fun i acc S' h => ⟨hG _ _ _ h, fun hi => hend _ _ ?_, fun d hd => ?_⟩⟩
  · rw [List.length_map] at hi
    rw [hi, List.take_length] at h
    exact h
  · rw [List.getElem?_map] at hd
    cases hx : xs[i]? with
    | none => rw [hx] at hd; cases hd
    | some x =>
      rw [hx] at hd; cases hd
      have hlt := (List.getElem?_eq_some_iff.mp hx).1
      have sp := split_at hx
      have e2 : xs.take (i + 1) = xs.take i ++ [x] := by
        have := take_snoc sp
        rwa [List.length_take, Nat.min_eq_left (Nat.le_of_lt hlt)] at this
      dsimp only
      rw [e2]
      exact turn _ _ _ _ _ sp h
end
theorem intsFrom_map (a : Int) (n : Nat) : intsFrom a n = (List.range n).map fun (i : Nat) => D.int (a + i) := rfl
/-- enumerate's items -/
theorem enumD_map : ∀ (k : Nat) (ds : List D), enumD (k : Int) ds = ((List.range ds.length).zip ds).map fun p => D.tup [.int (k + p.1 : Nat), p.2] := by
  intro k ds
  induction ds generalizing k with
  | nil => rfl
  | cons d ds ih =>
    show D.tup [.int k, d] :: enumD ((k : Int) + 1) ds = _
    rw [show ((k : Int) + 1) = ((k + 1 : Nat) : Int) from by simp, ih (k + 1), List.length_cons, List.range_succ_eq_map, List.zip_cons_cons, List.map_cons]
    congr 1
    rw [List.zip_map_left, List.map_map]
    apply List.map_congr_left
    intro p _
    simp
    omega
section
variable {C : Ct} {ρ : DEnv} {S S0 S1 : Store} {Q : D → Store → Prop} {Qb : Bool → Store → Prop} {Xc : XcD} {E : EndsD} {A : TD Bool} {ta tb tc te tv : TD D} {u : TD (List D)} {t v : TSD} {Qi : List D × (Store → Prop) → Store → Prop}
variable {c f m x : Str} {fs : List (Str × D)} {d y z : D} {k n i : Nat} {a b j : Int} {ds es : List D} {sp : SpD} {P : Prop}
/-! ### instances -/
class HasFld (C : Ct) (c f : Str) : Prop where
  ok : FldOk C c f
class HasExm (C : Ct) (c f : Str) (b : outParam Bool) : Prop where
  ok : exmD C c f b
class HasXf (C : Ct) (c f : Str) : Prop where
  ok : XfD C c f
theorem st_fld (h : ta ρ S (fun y S1 => ∃ c fs d, insD y S1 = some (c, fs) ∧ FldOk C c f ∧ fs.lookup f = some d ∧ Q d S1) Xc) : dFld C f ta ρ S Q Xc := h
theorem st_fldO [hC : HasFld C c f] {G : D → Prop} (hl : fs.lookup f = some d) (h : G d) : ∃ c' fs' d', insD (.obj c fs) S = some (c', fs') ∧ FldOk C c' f ∧ fs'.lookup f = some d' ∧ G d' := ⟨c, fs, d, rfl, hC.ok, hl, h⟩
theorem st_fldC [hC : HasFld C c f] {G : D → Prop} (e : S[k]? = some (.ins c fs)) (hl : fs.lookup f = some d) (h : G d) : ∃ c' fs' d', insD (.own k) S = some (c', fs') ∧ FldOk C c' f ∧ fs'.lookup f = some d' ∧ G d' := ⟨c, fs, d, by simp only [insD, e], hC.ok, hl, h⟩
theorem st_setF (h : tv ρ S (fun y S1 => ta ρ S1 (fun x S2 => ∃ k c fs, x = .own k ∧ S2[k]? = some (.ins c fs) ∧ FldOk C c f ∧ fs.length < 1000 ∧ E.nx ρ (S2.set k (.ins c (putD f y fs)))) fun c fs S2 => E.ex c fs ρ S2) fun c fs S1 => E.ex c fs ρ S1) : dSetF C f ta tv E ρ S := h
theorem putD_len {f : Str} {y : D} : ∀ {fs : List (Str × D)}, (putD f y fs).length ≤ fs.length + 1
  | [] => by simp [putD]
  | (g, x) :: r => by
    unfold putD
    split
    · simp
    · simp only [List.length_cons]; have := putD_len (f := f) (y := y) (fs := r); omega
theorem st_setFI [hC : HasFld C c f] {G : Store → Prop} {fs' : List (Str × D)} (e : S[k]? = some (.ins c fs)) (hl : fs.length < 1000) (hp : putD f y fs = fs') (h : G (S.set k (.ins c fs'))) : ∃ k' c' fs', D.own k = .own k' ∧ S[k']? = some (.ins c' fs') ∧ FldOk C c' f ∧ fs'.length < 1000 ∧ G (S.set k' (.ins c' (putD f y fs'))) := ⟨k, c, fs, rfl, e, hC.ok, hl, by rw [hp]; exact h⟩
theorem st_setFO [hC : HasFld C c f] {G : Store → Prop} (e : S[k]? = some (.ins c fs)) (hl : fs.length < 1000) (h : G (S.set k (.ins c (putD f y fs)))) : ∃ k' c' fs', D.own k = .own k' ∧ S[k']? = some (.ins c' fs') ∧ FldOk C c' f ∧ fs'.length < 1000 ∧ G (S.set k' (.ins c' (putD f y fs'))) := ⟨k, c, fs, rfl, e, hC.ok, hl, h⟩
theorem st_make (h : u ρ S (fun ds S1 => sp (.own S1.length :: ds) (S1 ++ [.ins c []]) (fun v S2 => v = .non ∧ Q (.own S1.length) S2) Xc) Xc) : dMake c sp u ρ S Q Xc := h
theorem st_non {G : Prop} (h : G) : D.non = .non ∧ G := ⟨rfl, h⟩
theorem st_meth (h : ta ρ S (fun y S1 => ∃ fs, insD y S1 = some (c, fs) ∧ fs.lookup m = none ∧ u ρ S1 (fun ds S2 => sp (y :: ds) S2 Q Xc) Xc) Xc) : dMeth c m sp ta u ρ S Q Xc := h
theorem st_methO {G : Prop} (hl : fs.lookup m = none) (h : G) : ∃ fs', insD (.obj c fs) S = some (c, fs') ∧ fs'.lookup m = none ∧ G := ⟨fs, rfl, hl, h⟩
theorem st_methC {G : Prop} (e : S[k]? = some (.ins c fs)) (hl : fs.lookup m = none) (h : G) : ∃ fs', insD (.own k) S = some (c, fs') ∧ fs'.lookup m = none ∧ G := ⟨fs, by simp only [insD, e], hl, h⟩
theorem st_prop (h : ta ρ S (fun y S1 => (∃ fs, insD y S1 = some (c, fs)) ∧ sp [y] S1 Q noX) Xc) : dProp c sp ta ρ S Q Xc := h
theorem st_propO {G : Prop} (h : G) : (∃ fs', insD (.obj c fs) S = some (c, fs')) ∧ G := ⟨⟨fs, rfl⟩, h⟩
theorem st_propC {G : Prop} (e : S[k]? = some (.ins c fs)) (h : G) : (∃ fs', insD (.own k) S = some (c, fs')) ∧ G := ⟨⟨fs, by simp only [insD, e]⟩, h⟩
/-! ### exceptions -/
theorem st_raise2 {f1 f2 : Str} (h : u ρ S (fun ds S1 => ∃ d1 d2, ds = [d1, d2] ∧ E.ex c [(f2, d2), (f1, d1)] ρ S1) fun c fs S1 => E.ex c fs ρ S1) : dRaise2 c f1 f2 u E ρ S := h
theorem st_raise1 {f1 : Str} (h : u ρ S (fun ds S1 => ∃ d1, ds = [d1] ∧ E.ex c [(f1, d1)] ρ S1) fun c fs S1 => E.ex c fs ρ S1) : dRaise1 c f1 u E ρ S := h
def EndsD.xc (E : EndsD) (X : Str → List (Str × D) → DEnv → Store → Prop) : EndsD := { E with ex := X }
theorem st_try {l : List (Str × Option Nat × TSD)} (h : t (E.xc (dHs C E l)) ρ S) : dTry C t l E ρ S := h
theorem st_hd [hC : HasExm C c f true] {o : Option Nat} {l : List (Str × Option Nat × TSD)} (h : match o with
      | none => t E.calm ρ S
      | some i => t (E.gone i) (ρ.set i (some (.exc c fs))) S) : dHs C E ((f, o, t) :: l) c fs ρ S := ⟨true, hC.ok, h⟩
theorem st_hn [hC : HasExm C c f false] {o : Option Nat} {l : List (Str × Option Nat × TSD)} (h : dHs C E l c fs ρ S) : dHs C E ((f, o, t) :: l) c fs ρ S := ⟨false, hC.ok, h⟩
theorem st_hdS [hC : HasExm C c f true] {i : Nat} {l : List (Str × Option Nat × TSD)} (h : t (E.gone i) (ρ.set i (some (.exc c fs))) S) : dHs C E ((f, some i, t) :: l) c fs ρ S := ⟨true, hC.ok, h⟩
theorem st_hdN [hC : HasExm C c f true] {l : List (Str × Option Nat × TSD)} (h : t E.calm ρ S) : dHs C E ((f, none, t) :: l) c fs ρ S := ⟨true, hC.ok, h⟩
theorem st_grt (h : E.rt d S) : (E.gone i).rt d S := h
theorem st_gnx (h : E.nx (ρ.set i none) S) : (E.gone i).nx ρ S := h
theorem st_crt (h : E.rt d S) : E.calm.rt d S := h
theorem st_cnx (h : E.nx ρ S) : E.calm.nx ρ S := h
theorem st_xrt {X : Str → List (Str × D) → DEnv → Store → Prop} (h : E.rt d S) : (E.xc X).rt d S := h
theorem st_xnx {X : Str → List (Str × D) → DEnv → Store → Prop} (h : E.nx ρ S) : (E.xc X).nx ρ S := h
theorem st_xex {X : Str → List (Str × D) → DEnv → Store → Prop} (h : X c fs ρ S) : (E.xc X).ex c fs ρ S := h
theorem st_endXs {R : D → Store → Prop} (ho : ownLtF S.length fs = true) (h : Xc c fs S) : (endsD S R Xc).ex c fs ρ S := .inl h
theorem st_endNs {R : D → Store → Prop} (h : R .non S) : (endsD S R Xc).nx ρ S := .inl h
theorem st_h0 (h : E.ex c fs ρ S) : dHs C E [] c fs ρ S := h
theorem st_xfe' {n' : Str} [hC : HasXf C c n'] {G : D → Prop} (hl : fs.lookup n' = some d) (h : G d) : ∃ c' fs' d', D.exc c fs = .exc c' fs' ∧ fs'.lookup n' = some d' ∧ XfD C c' n' ∧ G d' := ⟨c, fs, d, rfl, hl, hC.ok, h⟩
/-! ### more statements -/
theorem st_aug {p : P2} (hx : ρ[i]? = some (some d)) (h : ta ρ S (fun y S1 => p d y S1 fun z S2 => E.nx (ρ.set i (some z)) S2) fun c fs S1 => E.ex c fs ρ S1) : dAug i ta p E ρ S := ⟨d, hx, h⟩
theorem st_ip {g : Int → Int → Int} (h : Q (.int (g a b)) S) : pIp g (.int a) (.int b) S Q := ⟨a, b, rfl, rfl, h⟩
theorem st_augS {g : Int → Int → Int} (h : ta ρ S (fun o S1 => tb ρ S1 (fun i S2 => ∃ (k : Nat) (ds : List D) (j : Nat) (x : Int), o = .own k ∧ i = .int (j : Int) ∧ S2[k]? = some (.lst ds) ∧ ds[j]? = some (.int x) ∧
  te ρ S2 (fun y S3 => ∃ z : Int, y = .int z ∧ ∃ ds3, S3[k]? = some (.lst ds3) ∧ j < ds3.length ∧ E.nx ρ (S3.set k (.lst (ds3.set j (.int (g x z)))))) fun c fs S3 => E.ex c fs ρ S3) fun c fs S2 => E.ex c fs ρ S2) fun c fs S1 => E.ex c fs ρ S1) : dAugS g ta tb te E ρ S := h
/-! ### items -/
theorem st_seqI (h : ta ρ S (fun x S1 => ∃ ds, seqD x S1 = some ds ∧ Qi (ds, fun S' => seqD x S' = some ds) S1) Xc) : iSeq ta ρ S Qi Xc := h
theorem st_seqT {G : List D → Prop} (h : G ds) : ∃ ds', seqD (.tup ds) S = some ds' ∧ G ds' := ⟨ds, rfl, h⟩
theorem st_seqL {G : List D → Prop} (h : G ds) : ∃ ds', seqD (.lst ds) S = some ds' ∧ G ds' := ⟨ds, rfl, h⟩
theorem st_seqO {G : List D → Prop} (e : S[k]? = some (.lst ds)) (h : G ds) : ∃ ds', seqD (.own k) S = some ds' ∧ G ds' := ⟨ds, by simp only [seqD, e], h⟩
theorem st_seqV {G : List D → Prop} (e : seqD d S = some ds) (h : G ds) : ∃ ds', seqD d S = some ds' ∧ G ds' := ⟨ds, e, h⟩
theorem st_range2 (h : ta ρ S (fun x S1 => tb ρ S1 (fun y S2 => ∃ i j, x = .int i ∧ y = .int j ∧ (-(2 ^ 62) ≤ i ∧ i < 2 ^ 62 ∧ -(2 ^ 62) ≤ j ∧ j < 2 ^ 62) ∧ Qi (intsFrom i (j - i).toNat, fun _ => True) S2) Xc) Xc) : iRange2 ta tb ρ S Qi Xc := h
theorem st_range2I {G : Int → Int → Prop} (h1 : -(2 ^ 62) ≤ a ∧ a < 2 ^ 62 ∧ -(2 ^ 62) ≤ b ∧ b < 2 ^ 62) (h : G a b) : ∃ i j, D.int a = .int i ∧ D.int b = .int j ∧ (-(2 ^ 62) ≤ i ∧ i < 2 ^ 62 ∧ -(2 ^ 62) ≤ j ∧ j < 2 ^ 62) ∧ G i j := ⟨a, b, rfl, rfl, h1, h⟩
theorem st_enum (h : ta ρ S (fun x S1 => ∃ ds, seqD x S1 = some ds ∧ Qi (enumD 0 ds, fun S' => seqD x S' = some ds) S1) Xc) : iEnum ta ρ S Qi Xc := h
theorem st_zip (h : ta ρ S (fun x S1 => tb ρ S1 (fun y S2 => ∃ as bs, seqD x S2 = some as ∧ seqD y S2 = some bs ∧ Qi (zipD as bs, fun S' => seqD x S' = some as ∧ seqD y S' = some bs) S2) Xc) Xc) : iZip ta tb ρ S Qi Xc := h
/-! ### dicts -/
theorem st_dnewT (h : Q (.own S.length) (S ++ [.dt []])) : dDNew true ρ S Q Xc := h
theorem st_dnewK (h : Q (.own S.length) (S ++ [.dk []])) : dDNew false ρ S Q Xc := h
theorem st_dget (h : ta ρ S (fun x S1 => tb ρ S1 (fun y S2 => ∃ d, getK x y S2 = some (some d) ∧ Q d S2) Xc) Xc) : dDGet ta tb ρ S Q Xc := h
theorem st_din {neg : Bool} (h : tb ρ S (fun y S1 => ta ρ S1 (fun x S2 => ∃ o, getK x y S2 = some o ∧ Q (.bl (if neg then !o.isSome else o.isSome)) S2) Xc) Xc) : dDIn neg tb ta ρ S Q Xc := h
theorem st_dput (h : tv ρ S (fun v S1 => ta ρ S1 (fun x S2 => tb ρ S2 (fun y S3 => putKD x y v S3 fun S4 => E.nx ρ S4) fun c fs S3 => E.ex c fs ρ S3) fun c fs S2 => E.ex c fs ρ S2) fun c fs S1 => E.ex c fs ρ S1) : dDPut ta tb tv E ρ S := h
/-! ### slices -/
theorem st_sl {o : Bool} {tl th : TD (Option Int)} (h : ta ρ S (fun x S1 => tl ρ S1 (fun l S2 => th ρ S2 (fun h S3 => pSl o x l h S3 Q) Xc) Xc) Xc) : dSl o ta tl th ρ S Q Xc := h
theorem st_noP {Qo : Option Int → Store → Prop} (h : Qo none S) : dNoP ρ S Qo Xc := h
theorem st_part {Qo : Option Int → Store → Prop} (h : ta ρ S (fun x S1 => ∃ i, x = .int i ∧ Qo (some i) S1) Xc) : dPart ta ρ S Qo Xc := h
theorem st_partI {G : Int → Prop} (h : G a) : ∃ i, D.int a = .int i ∧ G i := ⟨a, rfl, h⟩
theorem st_slT {o : Bool} {l r : Option Int} (h : Q (.tup (cutD ds l r)) S) : pSl o (.tup ds) l r S Q := h
theorem st_slL {o : Bool} {l r : Option Int} (h : mkL o (cutD ds l r) S Q) : pSl o (.lst ds) l r S Q := ⟨ds, rfl, h⟩
theorem st_slO {o : Bool} {l r : Option Int} (e : S[k]? = some (.lst ds)) (h : mkL o (cutD ds l r) S Q) : pSl o (.own k) l r S Q := ⟨ds, by simp only [seqL, e], h⟩
theorem st_listR1 {o : Bool} (h : ta ρ S (fun x S1 => ∃ n, x = .int n ∧ RgOk 0 n ∧ mkL o (intsFrom 0 n.toNat) S1 Q) Xc) : dListR1 o ta ρ S Q Xc := h
theorem st_listR2 {o : Bool} (h : ta ρ S (fun x S1 => tb ρ S1 (fun y S2 => ∃ i j, x = .int i ∧ y = .int j ∧ RgOk i j ∧ mkL o (intsFrom i (j - i).toNat) S2 Q) Xc) Xc) : dListR2 o ta tb ρ S Q Xc := h
end
/-! ### slices from the front, to the back -/
theorem sIx_lo {n : Nat} : HT.sIx n 0 none = 0 := rfl
theorem cut_to {ds : List D} {a : Int} (h : 0 ≤ a) : cutD ds none (some a) = ds.take a.toNat := by
  obtain ⟨n, rfl⟩ : ∃ n : Nat, a = n := ⟨a.toNat, by omega⟩
  unfold cutD
  rw [HT.sIx_nat, HT.sIx_none, List.drop_zero, Nat.sub_zero, Int.toNat_natCast]
  by_cases h2 : n ≤ ds.length
  · rw [Nat.min_eq_left h2]
  · rw [Nat.min_eq_right (by omega), List.take_of_length_le (Nat.le_refl _), List.take_of_length_le (by omega)]
theorem cut_from {ds : List D} {a : Int} (h : 0 ≤ a) : cutD ds (some a) none = ds.drop a.toNat := by
  obtain ⟨n, rfl⟩ : ∃ n : Nat, a = n := ⟨a.toNat, by omega⟩
  unfold cutD
  rw [HT.sIx_nat, HT.sIx_none, Int.toNat_natCast]
  by_cases h2 : n ≤ ds.length
  · rw [Nat.min_eq_left h2, List.take_of_length_le (by simp)]
  · rw [Nat.min_eq_right (by omega), List.drop_of_length_le (Nat.le_refl _), List.drop_of_length_le (by omega)]; simp
theorem cut_all {ds : List D} : cutD ds none none = ds := by
  unfold cutD
  rw [HT.sIx_none, HT.sIx_none]
  simp
end OD

/-! OH2: more steps: sequences of any kind; lists of ints. -/
namespace OD
open PySem PySem.Spec L2
open PyProof.Rows hiding St
section
variable {C : Ct} {ρ : DEnv} {S S0 S1 : Store} {Q : D → Store → Prop} {Qb : Bool → Store → Prop} {Xc : XcD} {E : EndsD}
variable {x y d : D} {ds es : List D} {j a b : Int} {k n i : Nat} {o : Bool}
theorem st_ixV (hs : seqD x S = some ds) (hi : atI ds j = some d) (h : Q d S) : pIx x (.int j) S Q := by
  cases x <;> first | exact ⟨ds, d, hs, hi, h⟩ | (simp [seqD] at hs)
theorem st_lenV (hs : seqD x S = some ds) (h : Q (.int ds.length) S) : pLen [x] S Q := by
  cases x <;> first | exact ⟨ds, hs, h⟩ | (simp [seqD] at hs)
theorem st_tupleV (hs : seqD x S = some ds) (h : Q (.tup ds) S) : pTuple [x] S Q := ⟨ds, hs, h⟩
theorem st_listV (hs : seqD x S = some ds) (h : mkL o ds S Q) : pList o [x] S Q := by
  cases x <;> first | exact ⟨ds, hs, h⟩ | (simp [seqD] at hs)
theorem st_isV (hx : isNoneD x = false) (h : Q (.bl false) S) : pIs x .non S Q := ⟨rfl, by rw [hx]; exact h⟩
theorem tyO {ds : List D} (e : S[k]? = some (.lst ds)) : tyD C (.own k) S = some (.type "list") := by simp only [tyD, e]
theorem st_isiL_bool (ht : tyD C x S = some (.type "list")) (h : Q (.bl false) S) : pIsi C [x, .ty "bool"] S Q := st_isi_of (t := "list") ht (by decide +kernel) h
theorem st_isiL_int (ht : tyD C x S = some (.type "list")) (h : Q (.bl false) S) : pIsi C [x, .ty "int"] S Q := st_isi_of (t := "list") ht (by decide +kernel) h
theorem st_isiL_str (ht : tyD C x S = some (.type "list")) (h : Q (.bl false) S) : pIsi C [x, .ty "str"] S Q := st_isi_of (t := "list") ht (by decide +kernel) h
theorem st_isiL_tuple (ht : tyD C x S = some (.type "list")) (h : Q (.bl false) S) : pIsi C [x, .ty "tuple"] S Q := st_isi_of (t := "list") ht (by decide +kernel) h
theorem st_isiL_list (ht : tyD C x S = some (.type "list")) (h : Q (.bl true) S) : pIsi C [x, .ty "list"] S Q := st_isi_of (t := "list") ht (by decide +kernel) h
/-! ### lists of ints -/
theorem atI_ints {ns : List Int} {i : Int} (h0 : 0 ≤ i) (h1 : i < ns.length) : atI (ns.map D.int) i = some (.int (ns.getD i.toNat 0)) := by
  obtain ⟨n, rfl⟩ : ∃ n : Nat, i = n := ⟨i.toNat, by omega⟩
  have hn : n < ns.length := by omega
  rw [Int.toNat_natCast]
  refine atI_nat ?_
  rw [List.getElem?_map, List.getElem?_eq_getElem hn]
  simp [List.getD, hn]
theorem seqL_ints {ns : List Int} : seqL (.lst (ns.map D.int)) S = some (ns.map D.int) := rfl
theorem map_int_inj {as bs : List Int} (h : as.map D.int = bs.map D.int) : as = bs := by
  induction as generalizing bs with
  | nil => cases bs with
    | nil => rfl
    | cons b bs => cases h
  | cons a as ih => cases bs with
    | nil => cases h
    | cons b bs =>
      simp only [List.map_cons, List.cons.injEq, D.int.injEq] at h
      rw [h.1, ih h.2]
/-- x in a list of ints -/
theorem st_inI {neg : Bool} {ns : List Int} (hs : seqD y S = some (ns.map D.int)) (h : Q (.bl (if neg then !decide (a ∈ ns) else decide (a ∈ ns))) S) : pInG neg (.int a) y S Q :=
  ⟨.int a, _, _, rfl, hs, toVs_ints ns, by rw [inV_ints]; exact h⟩
/-- sorted(..) -/
theorem st_sortedI {ns : List Int} (hs : seqL x S = some (ns.map D.int)) (h : ∀ ns' : List Int, ns'.Perm ns → ns'.Pairwise (· ≤ ·) → mkL o (ns'.map D.int) S Q) : pSorted o [x] S Q := ⟨x, ns, rfl, hs, h⟩
theorem st_sumI {ns : List Int} (hs : seqL x S = some (ns.map D.int)) (h : Q (.int ns.sum) S) : pSum [x] S Q := ⟨x, ns, rfl, hs, h⟩
theorem st_inF {ns : List Int} (hs : seqD y S = some (ns.map D.int)) (h : Q (.bl (decide (a ∈ ns))) S) : pInG false (.int a) y S Q := st_inI hs h
theorem st_inT {ns : List Int} (hs : seqD y S = some (ns.map D.int)) (h : Q (.bl (!decide (a ∈ ns))) S) : pInG true (.int a) y S Q := st_inI hs h
theorem ixN_in {n : Nat} {i : Int} (h0 : 0 ≤ i) (h1 : i < n) : ixN n i = some i.toNat := by
  unfold ixN
  rw [if_pos h0, if_pos h1]
theorem st_popAt {k : Nat} {i : Int} {y : D} {ds : List D} (e : S[k]? = some (.lst ds)) (h0 : 0 ≤ i) (h1 : i < ds.length) (h2 : ds.length ≤ sizeLine) (hy : ds[i.toNat]? = some y) (h : Q y (S.set k (.lst (ds.eraseIdx i.toNat)))) : pPopAt (.own k) [.int i] S Q := by
  refine ⟨k, ds, rfl, e, i.toNat, y, by omega, ?_, ?_, hy, h⟩
  · exact Int.lt_of_lt_of_le h1 (Int.le_trans (Int.ofNat_le.mpr h2) (by decide))
  · exact (ixN_seq (ixN_in h0 h1)).1
theorem st_pop {k : Nat} {y : D} {ds : List D} (e : S[k]? = some (.lst (ds ++ [y]))) (h : Q y (S.set k (.lst ds))) : pPop (.own k) [] S Q := ⟨k, ds ++ [y], rfl, e, y, by simp, by simpa using h⟩
theorem st_insert {k : Nat} {i : Int} {y : D} {ds : List D} (e : S[k]? = some (.lst ds)) (hl : ds.length < sizeLine) (h0 : 0 ≤ i) (h1 : i < 2 ^ 63) (h : Q .non (S.set k (.lst (ds.take i.toNat ++ [y] ++ ds.drop i.toNat)))) : pInsert (.own k) [.int i, y] S Q := ⟨k, ds, rfl, e, hl, h0, h1, h⟩
/-- runs[d] += z -/
theorem st_augE {cs : List Int} {d z : Int} {g : Int → Int → Int} {N : Store → Prop} {ρ : DEnv} (e : S[k]? = some (.lst (cs.map D.int))) (h0 : 0 ≤ d) (h1 : d < cs.length) (h : N (S.set k (.lst ((cs.set d.toNat (g (cs.getD d.toNat 0) z)).map D.int)))) :
    ∃ (k' : Nat) (ds : List D) (j : Nat) (x : Int), D.own k = .own k' ∧ D.int d = .int (j : Int) ∧ S[k']? = some (.lst ds) ∧ ds[j]? = some (.int x) ∧ dC (.int z) ρ S (fun y S3 => ∃ z' : Int, y = .int z' ∧ ∃ ds3, S3[k']? = some (.lst ds3) ∧ j < ds3.length ∧ N (S3.set k' (.lst (ds3.set j (.int (g x z')))))) Xc := by
  have hd : d.toNat < cs.length := by omega
  refine ⟨k, _, d.toNat, cs.getD d.toNat 0, rfl, by rw [Int.toNat_of_nonneg h0], e, by simp [hd], ?_⟩
  refine ⟨z, rfl, _, e, by simp [hd], ?_⟩
  have : (cs.map D.int).set d.toNat (.int (g (cs.getD d.toNat 0) z)) = (cs.set d.toNat (g (cs.getD d.toNat 0) z)).map D.int := by rw [List.map_set]
  rw [this]; exact h
theorem map_eraseIdx {α β : Type} (f : α → β) : ∀ (l : List α) (i : Nat), (l.map f).eraseIdx i = (l.eraseIdx i).map f
  | [], _ => rfl
  | _ :: _, 0 => rfl
  | x :: l, i + 1 => by simp [map_eraseIdx f l i]
theorem perm_eraseIdx {α : Type} : ∀ {l : List α} {i : Nat} (h : i < l.length), (l[i] :: l.eraseIdx i).Perm l
  | x :: l, 0, _ => List.Perm.refl _
  | x :: l, i + 1, h => (List.Perm.swap x _ _).trans ((perm_eraseIdx (l := l) (i := i) (by simpa using h)).cons x)
theorem ownLts_ints {n : Nat} : ∀ ns : List Int, ownLts n (ns.map D.int) = true
  | [] => by simp [ownLts]
  | n :: ns => by simp [ownLts, ownLt, ownLts_ints ns]
theorem ownLts_map {α : Type} {n : Nat} {e : α → D} (he : ∀ a, ownLt n (e a) = true) : ∀ xs : List α, ownLts n (xs.map e) = true
  | [] => by simp [ownLts]
  | x :: xs => by simp [ownLts, he x, ownLts_map he xs]
theorem enumD_ints : ∀ (ws : List Int) (k : Nat), enumD (k : Int) (ws.map D.int) = (ws.zipIdx k).map fun p => D.tup [.int (p.2 : Nat), .int p.1]
  | [], _ => rfl
  | w :: ws, k => by
    show D.tup [.int k, .int w] :: enumD ((k : Int) + 1) (ws.map D.int) = _
    rw [show ((k : Int) + 1) = ((k + 1 : Nat) : Int) from by simp, enumD_ints ws (k + 1)]
    rfl
theorem zipD_ints : ∀ (as bs : List Int), zipD (as.map D.int) (bs.map D.int) = (as.zip bs).map fun p => D.tup [.int p.1, .int p.2]
  | [], _ => by simp [zipD]
  | _ :: _, [] => by simp [zipD]
  | a :: as, b :: bs => by
    show D.tup [.int a, .int b] :: zipD (as.map D.int) (bs.map D.int) = _
    rw [zipD_ints as bs]; rfl
/-! ### == of data -/
theorem toPysW_ints {rd : Nat → Option PyData} : ∀ ns : List Int, toPysW rd (ns.map D.int) = some (ns.map PyData.int)
  | [] => by simp [toPysW]
  | n :: ns => by simp [toPysW, toPyW, toPysW_ints ns]
theorem toPysW_map {α : Type} {rd : Nat → Option PyData} {e : α → D} {f : α → PyData} : ∀ xs : List α, (∀ x ∈ xs, toPyW rd (e x) = some (f x)) → toPysW rd (xs.map e) = some (xs.map f)
  | [], _ => by simp [toPysW]
  | x :: xs, h => by simp [toPysW, h x List.mem_cons_self, toPysW_map xs fun y hy => h y (List.mem_cons_of_mem _ hy)]
theorem eqvAll_map {α : Type} [DecidableEq α] {f : α → PyData} (hf : ∀ a b, PyData.eqv (f a) (f b) = decide (a = b)) : ∀ as bs : List α, PyData.eqvAll (as.map f) (bs.map f) = decide (as = bs)
  | [], [] => by simp [PyData.eqvAll]
  | [], b :: bs => by simp [PyData.eqvAll]
  | a :: as, [] => by simp [PyData.eqvAll]
  | a :: as, b :: bs => by
    simp only [List.map_cons, PyData.eqvAll, hf, eqvAll_map hf as bs, List.cons.injEq]
    exact (Bool.decide_and _ _).symm
theorem eqv_int (a b : Int) : PyData.eqv (.int a) (.int b) = decide (a = b) := by
  simp only [PyData.eqv]
  by_cases h : a = b <;> simp [h]
theorem eqv_ints (as bs : List Int) : PyData.eqv (.list (as.map .int)) (.list (bs.map .int)) = decide (as = bs) := by
  simp only [PyData.eqv]; exact eqvAll_map eqv_int as bs
theorem eqv_intsT (as bs : List Int) : PyData.eqv (.tuple (as.map .int)) (.tuple (bs.map .int)) = decide (as = bs) := by
  simp only [PyData.eqv]; exact eqvAll_map eqv_int as bs
theorem canLayAll_map {α : Type} {f : α → PyData} : ∀ (xs : List α), (∀ x ∈ xs, PyData.canLay0 (f x) = true) → PyData.canLayAll0 (xs.map f) = true
  | [], _ => by simp [PyData.canLayAll0]
  | x :: xs, h => by simp [PyData.canLayAll0, h x List.mem_cons_self, canLayAll_map xs fun y hy => h y (List.mem_cons_of_mem _ hy)]
theorem depthAll_map {α : Type} {f : α → PyData} {k : Nat} : ∀ (xs : List α), (∀ x ∈ xs, PyData.depth (f x) ≤ k) → PyData.depthAll (xs.map f) ≤ k
  | [], _ => by simp [PyData.depthAll]
  | x :: xs, h => by
    simp only [List.map_cons, PyData.depthAll]
    exact Nat.max_le.mpr ⟨h x List.mem_cons_self, depthAll_map xs fun y hy => h y (List.mem_cons_of_mem _ hy)⟩
theorem shaped_ints (ns : List Int) : SeqAt.shaped (.list (ns.map .int)) = true := by
  have h1 : PyData.canLay0 (.list (ns.map .int)) = true := by
    simp only [PyData.canLay0]; exact canLayAll_map _ fun _ _ => by simp [PyData.canLay0]
  have h2 : PyData.depth (.list (ns.map .int)) ≤ 64 := by
    simp only [PyData.depth]
    have := depthAll_map (f := PyData.int) (k := 0) ns fun _ _ => by simp [PyData.depth]
    omega
  unfold SeqAt.shaped
  rw [h1, decide_eq_true h2]; rfl
theorem shaped_intsT (ns : List Int) : SeqAt.shaped (.tuple (ns.map .int)) = true := by
  have h1 : PyData.canLay0 (.tuple (ns.map .int)) = true := by
    simp only [PyData.canLay0]; exact canLayAll_map _ fun _ _ => by simp [PyData.canLay0]
  have h2 : PyData.depth (.tuple (ns.map .int)) ≤ 64 := by
    simp only [PyData.depth]
    have := depthAll_map (f := PyData.int) (k := 0) ns fun _ _ => by simp [PyData.depth]
    omega
  unfold SeqAt.shaped
  rw [h1, decide_eq_true h2]; rfl
abbrev rowsPy (rows : List (List Int)) : PyData := .list (rows.map fun r => .list (r.map .int))
theorem shaped_rows (rows : List (List Int)) : SeqAt.shaped (rowsPy rows) = true := by
  have h1 : PyData.canLay0 (rowsPy rows) = true := by
    simp only [PyData.canLay0]; exact canLayAll_map _ fun _ _ => by simp only [PyData.canLay0]; exact canLayAll_map _ fun _ _ => by simp [PyData.canLay0]
  have h2 : PyData.depth (rowsPy rows) ≤ 64 := by
    simp only [PyData.depth]
    have := depthAll_map (f := fun r : List Int => PyData.list (r.map .int)) (k := 1) rows fun r _ => by
      simp only [PyData.depth]
      have := depthAll_map (f := PyData.int) (k := 0) r fun _ _ => by simp [PyData.depth]
      omega
    omega
  unfold SeqAt.shaped
  rw [h1, decide_eq_true h2]; rfl
theorem eqv_rows (as bs : List (List Int)) : PyData.eqv (rowsPy as) (rowsPy bs) = decide (as = bs) := by
  simp only [PyData.eqv]
  exact eqvAll_map (f := fun r : List Int => PyData.list (r.map .int)) eqv_ints as bs
/-- == of data that are no scalars -/
theorem st_eqP {g : Bool → Bool} {p q : PyData} (hx : topPy S x = some p) (hy : topPy S y = some q) (sp : SeqAt.shaped p = true) (sq : SeqAt.shaped q = true) (h : Q (.bl (g (PyData.eqv p q))) S) : pEqG g x y S Q := by
  unfold pEqG
  split
  · simp only [topPy, toPyW, Option.some.injEq] at hx hy
    subst hx hy
    rw [eqv_int] at h; exact h
  · simp only [topPy, toPyW, Option.some.injEq] at hx hy
    subst hx hy
    simp only [PyData.eqv] at h
    rename_i i j
    have e : (i == j) = decide (i = j) := by by_cases e : i = j <;> simp [e]
    rw [e] at h; exact h
  · simp only [topPy, toPyW, Option.some.injEq] at hx hy
    subst hx hy
    simp only [PyData.eqv] at h
    rename_i i j
    have e : (i == j) = decide (i = j) := by by_cases e : i = j <;> simp [e]
    rw [e] at h; exact h
  · exact ⟨p, q, hx, hy, sp, sq, h⟩
theorem top_ints {ns : List Int} : topPy S (.lst (ns.map D.int)) = some (.list (ns.map .int)) := by simp [topPy, toPyW, toPysW_ints]
theorem top_intsT {ns : List Int} : topPy S (.tup (ns.map D.int)) = some (.tuple (ns.map .int)) := by simp [topPy, toPyW, toPysW_ints]
theorem top_intsO {ns : List Int} (e : S[k]? = some (.lst (ns.map D.int))) : topPy S (.own k) = some (.list (ns.map .int)) := by simp [topPy, toPyW, rdPy, e, toPysW_ints]
theorem top_rows {rows : List (List Int)} : topPy S (.lst (rows.map fun r => .lst (r.map D.int))) = some (rowsPy rows) := by
  simp only [topPy, toPyW]
  rw [toPysW_map (f := fun r : List Int => PyData.list (r.map .int)) rows fun r _ => by simp [toPyW, toPysW_ints]]
  rfl
/-- == of lists, of tuples of ints -/
theorem st_eqLL {g : Bool → Bool} {as bs : List Int} (h : Q (.bl (g (decide (as = bs)))) S) : pEqG g (.lst (as.map D.int)) (.lst (bs.map D.int)) S Q :=
  st_eqP top_ints top_ints (shaped_ints as) (shaped_ints bs) (by rw [eqv_ints]; exact h)
theorem st_eqTT {g : Bool → Bool} {as bs : List Int} (h : Q (.bl (g (decide (as = bs)))) S) : pEqG g (.tup (as.map D.int)) (.tup (bs.map D.int)) S Q :=
  st_eqP top_intsT top_intsT (shaped_intsT as) (shaped_intsT bs) (by rw [eqv_intsT]; exact h)
theorem set_self {c : Cell} (h : S[k]? = some c) : S.set k c = S := by
  apply List.ext_getElem?
  intro j
  by_cases e : k = j
  · subst e
    rw [List.getElem?_set_self (List.getElem?_eq_some_iff.mp h).1, h]
  · rw [List.getElem?_set_ne e]
theorem atI_lt {α : Type} {xs : List α} {d : Int} (h0 : 0 ≤ d) (h1 : d < xs.length) : ∃ v, atI xs d = some v ∧ xs[d.toNat]? = some v := by
  obtain ⟨n, rfl⟩ : ∃ n : Nat, d = n := ⟨d.toNat, by omega⟩
  have hn : n < xs.length := by omega
  exact ⟨xs[n], atI_nat (by simp [hn]), by simp [hn]⟩
theorem atI_int {ns : List Int} {d : Int} (h0 : 0 ≤ d) (h1 : d < ns.length) : ∃ v, atI (ns.map D.int) d = some (.int v) := ⟨_, atI_ints h0 h1⟩
theorem set_snoc {c c' : Cell} : (S ++ [c]).set S.length c' = S ++ [c'] := by simp
theorem set_snoc2 {c c' e : Cell} : (S ++ [c, e]).set S.length c' = S ++ [c', e] := by simp
end
end OD

/-! OM1: lists that lead a depot: one morning, one round, the standings; plain lists of ints. -/
namespace Led
/-! ### sorting -/
def insI (x : Int) : List Int → List Int
  | [] => [x]
  | y :: ys => if x ≤ y then x :: y :: ys else y :: insI x ys
def isort : List Int → List Int
  | [] => []
  | x :: xs => insI x (isort xs)
theorem insI_perm (x : Int) : ∀ l, (insI x l).Perm (x :: l)
  | [] => List.Perm.refl _
  | y :: ys => by
    unfold insI
    split
    · exact List.Perm.refl _
    · exact ((insI_perm x ys).cons y).trans (List.Perm.swap x y ys)
theorem isort_perm : ∀ l, (isort l).Perm l
  | [] => List.Perm.refl _
  | x :: xs => (insI_perm x _).trans ((isort_perm xs).cons x)
theorem insI_sorted (x : Int) : ∀ {l}, l.Pairwise (· ≤ ·) → (insI x l).Pairwise (· ≤ ·)
  | [], _ => by simp [insI]
  | y :: ys, h => by
    have h' := List.pairwise_cons.mp h
    unfold insI
    split
    · rename_i hxy
      refine List.pairwise_cons.mpr ⟨fun z hz => ?_, h⟩
      rcases List.mem_cons.mp hz with rfl | hz
      · exact hxy
      · exact Int.le_trans hxy (h'.1 z hz)
    · rename_i hxy
      refine List.pairwise_cons.mpr ⟨fun z hz => ?_, insI_sorted x h'.2⟩
      rcases List.mem_cons.mp ((insI_perm x ys).mem_iff.mp hz) with rfl | hz
      · omega
      · exact h'.1 z hz
theorem isort_sorted : ∀ l, (isort l).Pairwise (· ≤ ·)
  | [] => List.Pairwise.nil
  | x :: xs => insI_sorted x (isort_sorted xs)
theorem isort_unique {a l : List Int} (p : a.Perm l) (s : a.Pairwise (· ≤ ·)) : a = isort l :=
  List.Perm.eq_of_pairwise (fun a b _ _ h1 h2 => Int.le_antisymm h1 h2) s (isort_sorted l) (p.trans (isort_perm l).symm)
theorem isort_mem {l : List Int} {x : Int} : x ∈ isort l ↔ x ∈ l := (isort_perm l).mem_iff
theorem isort_length {l : List Int} : (isort l).length = l.length := (isort_perm l).length_eq

/-! ### one morning -/
def atI (ws : List Int) (i : Int) : Int := ws.getD i.toNat 0
def rep (row ws : List Int) : List Int := row.filter fun i => decide (atI ws i = 1)
def crew (q : Int) (row ws : List Int) : List Int := (rep row ws).take q.toNat
def beh (m : Int) (cr ws : List Int) : List Int := ws.mapIdx fun i w => if 1 < w then w - 1 else if (i : Int) ∈ cr then 1 else m
def addRun (cs cr : List Int) : List Int := cs.mapIdx fun i c => c + if (i : Int) ∈ cr then 1 else 0
def step (m q : Int) (p : List Int × List Int) (row : List Int) : List Int × List Int := (addRun p.1 (crew q row p.2), beh m (crew q row p.2) p.2)
def round (m q : Int) (rows : List (List Int)) (p : List Int × List Int) : List Int × List Int := rows.foldl (step m q) p
def iter (m q : Int) (rows : List (List Int)) (fs : List Int) : Nat → List Int × List Int
  | 0 => (List.replicate fs.length 0, fs)
  | k + 1 => round m q rows (iter m q rows fs k)
/-- a row names each driver once -/
structure Order (n : Nat) (row : List Int) : Prop where
  len : row.length = n
  nd : row.Nodup
  rng : ∀ i ∈ row, 0 ≤ i ∧ i < n
/-- a standing -/
structure Stand (m q : Int) (ws : List Int) : Prop where
  m1 : 1 ≤ m
  q1 : 1 ≤ q
  rng : ∀ w ∈ ws, 1 ≤ w ∧ w ≤ m
  ones : q ≤ ws.count 1
theorem beh_length {m : Int} {cr ws : List Int} : (beh m cr ws).length = ws.length := by unfold beh; simp
theorem addRun_length {cs cr : List Int} : (addRun cs cr).length = cs.length := by unfold addRun; simp
theorem beh_mem {m : Int} {cr cr' ws : List Int} (h : ∀ x, x ∈ cr ↔ x ∈ cr') : beh m cr ws = beh m cr' ws := by
  unfold beh; simp only [h]
theorem addRun_mem {cr cr' cs : List Int} (h : ∀ x, x ∈ cr ↔ x ∈ cr') : addRun cs cr = addRun cs cr' := by
  unfold addRun; simp only [h]
theorem Order.perm {n : Nat} {row : List Int} (o : Order n row) : row.Perm ((List.range n).map fun (i : Nat) => (i : Int)) := by
  have nd2 : ((List.range n).map fun (i : Nat) => (i : Int)).Nodup := by
    refine List.Pairwise.map _ ?_ List.nodup_range
    intro a b h e
    exact h (by omega)
  have sub : row ⊆ (List.range n).map fun (i : Nat) => (i : Int) := fun i hi => by
    obtain ⟨h1, h2⟩ := o.rng i hi
    exact List.mem_map.mpr ⟨i.toNat, List.mem_range.mpr (by omega), by omega⟩
  refine (List.perm_ext_iff_of_nodup o.nd nd2).mpr fun a => ⟨fun h => sub h, fun h => ?_⟩
  apply Classical.byContradiction
  intro hn
  have h3 : (a :: row).Nodup := List.nodup_cons.mpr ⟨hn, o.nd⟩
  have h4 : (a :: row) ⊆ (List.range n).map fun (i : Nat) => (i : Int) := fun x hx => by
    rcases List.mem_cons.mp hx with rfl | hx
    · exact h
    · exact sub hx
  have h5 := h3.length_le_of_subset h4
  simp [o.len] at h5
  omega
theorem range_getD (ws : List Int) : (List.range ws.length).map (fun i => ws.getD i 0) = ws := by
  apply List.ext_getElem
  · simp
  · intro i h1 h2
    simp [h2]
theorem rep_length {n : Nat} {row ws : List Int} (o : Order n row) (h : ws.length = n) : (rep row ws).length = ws.count 1 := by
  unfold rep
  rw [← List.countP_eq_length_filter, o.perm.countP_eq, List.countP_map]
  conv => rhs; rw [← range_getD ws]
  unfold List.count
  rw [List.countP_map, h]
  apply List.countP_congr
  intro i _
  simp [atI]
theorem crew_sub {q : Int} {row ws : List Int} {i : Int} (h : i ∈ crew q row ws) : i ∈ row ∧ atI ws i = 1 := by
  have h1 : i ∈ rep row ws := (List.take_sublist _ _).subset h
  unfold rep at h1
  rw [List.mem_filter] at h1
  exact ⟨h1.1, by simpa using h1.2⟩
theorem crew_nodup {n : Nat} {q : Int} {row ws : List Int} (o : Order n row) : (crew q row ws).Nodup :=
  (List.Nodup.sublist (List.filter_sublist) o.nd).sublist (List.take_sublist _ _)
theorem crew_length {n : Nat} {m q : Int} {row ws : List Int} (o : Order n row) (h : ws.length = n) (s : Stand m q ws) : ((crew q row ws).length : Int) = q := by
  unfold crew
  have h1 := rep_length o h
  have h2 := s.ones
  have h3 := s.q1
  rw [List.length_take, h1]
  omega
/-- how many of the indices are in it -/
theorem count_idx {n : Nat} {cr : List Int} (nd : cr.Nodup) (h : ∀ i ∈ cr, 0 ≤ i ∧ i < n) : (List.range n).countP (fun (i : Nat) => decide ((i : Int) ∈ cr)) = cr.length := by
  rw [List.countP_eq_length_filter]
  have p : ((List.range n).filter fun (i : Nat) => decide ((i : Int) ∈ cr)).Perm (cr.map Int.toNat) := by
    refine (List.perm_ext_iff_of_nodup (List.nodup_range.sublist List.filter_sublist) ?_).mpr fun a => ⟨fun ha => ?_, fun ha => ?_⟩
    · refine List.pairwise_map.mpr (nd.imp_of_mem ?_)
      intro a b ha hb hne e
      have h1 := h a ha
      have h2 := h b hb
      exact hne (by omega)
    · rw [List.mem_filter] at ha
      exact List.mem_map.mpr ⟨a, by simpa using ha.2, by simp⟩
    · obtain ⟨x, hx, rfl⟩ := List.mem_map.mp ha
      have h1 := h x hx
      rw [List.mem_filter]
      refine ⟨List.mem_range.mpr (by omega), ?_⟩
      rw [decide_eq_true_eq, Int.toNat_of_nonneg h1.1]
      exact hx
  rw [p.length_eq, List.length_map]
/-- who goes behind whom: how many stand at v on the next morning -/
theorem beh_count {n : Nat} {m q : Int} {row ws : List Int} (o : Order n row) (h : ws.length = n) (s : Stand m q ws) (v : Int) (hv : 1 ≤ v) :
    ((beh m (crew q row ws) ws).count v : Int) = (if v + 1 ≤ m then (ws.count (v + 1) : Int) else 0) + (if v = 1 then q else 0) + (if v = m then (ws.count 1 : Int) - q else 0) := by
  have hq := crew_length o h s
  have hcr : ∀ i ∈ crew q row ws, 0 ≤ i ∧ i < (n : Int) := fun i hi => o.rng i (crew_sub hi).1
  unfold beh
  rw [List.mapIdx_eq_zipIdx_map]
  unfold List.count
  rw [List.countP_map]
  have e1 : ws.countP (· == v + 1) = ws.zipIdx.countP (fun p => p.1 == v + 1) := by
    conv => lhs; rw [← List.zipIdx_map_fst 0 ws]
    rw [List.countP_map]; rfl
  have e2 : ws.countP (· == 1) = ws.zipIdx.countP (fun p => p.1 == 1) := by
    conv => lhs; rw [← List.zipIdx_map_fst 0 ws]
    rw [List.countP_map]; rfl
  have e3 : (crew q row ws).length = ws.zipIdx.countP (fun p => decide ((p.2 : Int) ∈ crew q row ws)) := by
    rw [← count_idx (crew_nodup o) hcr, ← h, List.range_eq_range', ← List.zipIdx_map_snd 0 ws, List.countP_map]; rfl
  have hz : ∀ p ∈ ws.zipIdx, (1 ≤ p.1 ∧ p.1 ≤ m) ∧ ((p.2 : Int) ∈ crew q row ws → p.1 = 1) := fun p hp => by
    obtain ⟨w, i⟩ := p
    have h1 := List.mem_zipIdx_iff_getElem?.mp hp
    refine ⟨s.rng w (List.mem_of_getElem? h1), fun hc => ?_⟩
    have h2 := (crew_sub hc).2
    unfold atI at h2
    simp [List.getD, h1] at h2
    exact h2
  rw [e1, e2]
  rw [e3] at hq
  generalize ws.zipIdx = zs at hz hq ⊢
  generalize crew q row ws = cr at hz hq ⊢
  suffices H : ((zs.countP ((fun x => x == v) ∘ fun x => match x with | (w, i) => if 1 < w then w - 1 else if (i : Int) ∈ cr then 1 else m) : Nat) : Int) =
      (if v + 1 ≤ m then (zs.countP (fun p => p.1 == v + 1) : Int) else 0) + (if v = 1 then (zs.countP (fun p => decide ((p.2 : Int) ∈ cr)) : Int) else 0) + (if v = m then (zs.countP (fun p => p.1 == 1) : Int) - (zs.countP (fun p => decide ((p.2 : Int) ∈ cr)) : Int) else 0) by
    rw [hq] at H; exact H
  clear hq e1 e2 e3
  induction zs with
  | nil => simp
  | cons p zs ih =>
    have ih := ih fun p hp => hz p (List.mem_cons_of_mem _ hp)
    obtain ⟨⟨a1, a2⟩, a3⟩ := hz p List.mem_cons_self
    obtain ⟨w, i⟩ := p
    simp only [List.countP_cons, Function.comp, beq_iff_eq, decide_eq_true_eq] at ih ⊢
    simp only at a1 a2 a3
    revert ih
    generalize List.countP _ zs = A
    generalize List.countP _ zs = B
    generalize List.countP _ zs = B1
    generalize List.countP _ zs = B2
    intro ih
    by_cases hi : (i : Int) ∈ cr
    · have hw := a3 hi
      subst hw
      simp only [hi, if_true]
      revert ih
      repeat' split
      all_goals intro ih
      all_goals omega
    · simp only [hi, if_false]
      revert ih
      repeat' split
      all_goals intro ih
      all_goals omega
end Led

/-! OM2: rounds keep the counts, so there are few standings; the sums. -/
namespace Led
def ecount (q : Int) (ws : List Int) (v : Int) : Int := (ws.count v : Int) - if v = 1 then q else 0
theorem Stand.next {n : Nat} {m q : Int} {row ws : List Int} (o : Order n row) (h : ws.length = n) (s : Stand m q ws) : Stand m q (beh m (crew q row ws) ws) := by
  refine ⟨s.m1, s.q1, fun w hw => ?_, ?_⟩
  · unfold beh at hw
    obtain ⟨i, hi, rfl⟩ := List.mem_mapIdx.mp hw
    have h1 := s.rng _ (List.getElem_mem hi)
    have h2 := s.m1
    split
    · omega
    · split <;> omega
  · have h1 := beh_count o h s 1 (Int.le_refl 1)
    have h2 := s.ones
    have h3 := s.m1
    rw [if_pos rfl] at h1
    split at h1 <;> split at h1 <;> omega
theorem ecount_next {n : Nat} {m q : Int} {row ws : List Int} (o : Order n row) (h : ws.length = n) (s : Stand m q ws) (v : Int) (hv : 1 ≤ v) (hm : v ≤ m) :
    ecount q (beh m (crew q row ws) ws) v = if v + 1 ≤ m then ecount q ws (v + 1) else ecount q ws 1 := by
  have h1 := beh_count o h s v hv
  unfold ecount
  rw [h1]
  have hne : v + 1 ≠ 1 := by omega
  rw [if_neg hne, if_pos rfl]
  by_cases c : v + 1 ≤ m
  · rw [if_pos c, if_pos c, if_neg (show v ≠ m by omega)]
    omega
  · rw [if_neg c, if_neg c, if_pos (show v = m by omega)]
    omega
theorem ecount_round {n : Nat} {m q : Int} : ∀ {rows : List (List Int)} {cs ws : List Int}, (∀ r ∈ rows, Order n r) → ws.length = n → Stand m q ws →
    Stand m q (rows.foldl (step m q) (cs, ws)).2 ∧ (rows.foldl (step m q) (cs, ws)).2.length = n ∧ ∀ v, 1 ≤ v → v ≤ m → ecount q (rows.foldl (step m q) (cs, ws)).2 v = ecount q ws ((v - 1 + rows.length) % m + 1)
  | [], cs, ws, ho, h, s => ⟨s, h, fun v h1 h2 => by
    have : (v - 1 + (([] : List (List Int)).length : Int)) % m = v - 1 := by
      simp only [List.length_nil]
      rw [Int.emod_eq_of_lt] <;> omega
    rw [this]
    simp⟩
  | r :: rows, cs, ws, ho, h, s => by
    have o := ho r List.mem_cons_self
    have s1 := s.next o h
    have ih := ecount_round (rows := rows) (cs := addRun cs (crew q r ws)) (fun x hx => ho x (List.mem_cons_of_mem _ hx)) (beh_length.trans h) s1
    rw [List.foldl_cons]
    refine ⟨ih.1, ih.2.1, fun v h1 h2 => ?_⟩
    have e := ih.2.2 v h1 h2
    have hm := s.m1
    have hx0 := Int.emod_nonneg (v - 1 + (rows.length : Int)) (show m ≠ 0 by omega)
    have hx1 := Int.emod_lt_of_pos (v - 1 + (rows.length : Int)) (show 0 < m by omega)
    show ecount q (rows.foldl (step m q) (addRun cs (crew q r ws), beh m (crew q r ws) ws)).2 v = _
    rw [e, ecount_next o h s _ (by omega) (by omega)]
    have e2 : (v - 1 + (((r :: rows).length : Nat) : Int)) % m = ((v - 1 + (rows.length : Int)) % m + 1) % m := by
      rw [List.length_cons, Int.natCast_add, ← Int.add_assoc, Int.emod_add_emod]
      rfl
    rw [e2]
    generalize (v - 1 + (rows.length : Int)) % m = x at hx0 hx1
    split
    · rw [Int.emod_eq_of_lt (a := x + 1) (by omega) (by omega)]
    · rw [show x + 1 = m by omega, Int.emod_self]
      rfl
theorem round_perm {n : Nat} {m q : Int} {rows : List (List Int)} {cs ws : List Int} (ho : ∀ r ∈ rows, Order n r) (hl : (rows.length : Int) = m) (h : ws.length = n) (s : Stand m q ws) : (round m q rows (cs, ws)).2.Perm ws := by
  obtain ⟨s1, l1, e⟩ := ecount_round (cs := cs) ho h s
  refine List.perm_iff_count.mpr fun v => ?_
  by_cases hv : 1 ≤ v ∧ v ≤ m
  · have h1 := e v hv.1 hv.2
    rw [hl, Int.add_emod_right, Int.emod_eq_of_lt (by omega) (by omega), show v - 1 + 1 = v by omega] at h1
    unfold ecount at h1
    unfold round
    omega
  · unfold round
    rw [List.count_eq_zero.mpr fun hm => hv (s1.rng v hm), List.count_eq_zero.mpr fun hm => hv (s.rng v hm)]
/-! ### the numbers of day runs -/
theorem sum_zip {cr : List Int} : ∀ zs : List (Int × Nat), (zs.map fun p => p.1 + if (p.2 : Int) ∈ cr then 1 else 0).sum = (zs.map (·.1)).sum + (zs.countP fun p => decide ((p.2 : Int) ∈ cr) : Nat)
  | [] => rfl
  | z :: zs => by
    simp only [List.map_cons, List.sum_cons, List.countP_cons, decide_eq_true_eq]
    rw [sum_zip zs]
    split <;> omega
theorem addRun_sum {n : Nat} {cs cr : List Int} (h : cs.length = n) (nd : cr.Nodup) (hr : ∀ i ∈ cr, 0 ≤ i ∧ i < n) : (addRun cs cr).sum = cs.sum + cr.length := by
  unfold addRun
  rw [List.mapIdx_eq_zipIdx_map]
  have e := sum_zip (cr := cr) cs.zipIdx
  rw [List.zipIdx_map_fst] at e
  have e3 : cr.length = cs.zipIdx.countP (fun p => decide ((p.2 : Int) ∈ cr)) := by
    rw [← count_idx nd hr, ← h, List.range_eq_range', ← List.zipIdx_map_snd 0 cs, List.countP_map]; rfl
  rw [← e3] at e
  exact e
theorem round_sum {n : Nat} {m q : Int} : ∀ {rows : List (List Int)} {cs ws : List Int}, (∀ r ∈ rows, Order n r) → cs.length = n → ws.length = n → Stand m q ws →
    (rows.foldl (step m q) (cs, ws)).1.length = n ∧ (rows.foldl (step m q) (cs, ws)).1.sum = cs.sum + q * rows.length
  | [], cs, ws, ho, hc, h, s => ⟨hc, by simp⟩
  | r :: rows, cs, ws, ho, hc, h, s => by
    have o := ho r List.mem_cons_self
    have ih := round_sum (rows := rows) (cs := addRun cs (crew q r ws)) (fun x hx => ho x (List.mem_cons_of_mem _ hx)) (addRun_length.trans hc) (beh_length.trans h) (s.next o h)
    rw [List.foldl_cons]
    refine ⟨ih.1, ?_⟩
    have e := ih.2
    show (rows.foldl (step m q) (addRun cs (crew q r ws), beh m (crew q r ws) ws)).1.sum = _
    rw [e, addRun_sum hc (crew_nodup o) fun i hi => o.rng i (crew_sub hi).1, crew_length o h s, List.length_cons, Int.natCast_add, Int.mul_add]
    omega
theorem addRun_zip {cr : List Int} : ∀ {as bs : List Int} (k : Nat), as.length = bs.length →
    (List.zipWith (· + ·) as bs).mapIdx (fun i c => c + if ((i + k : Nat) : Int) ∈ cr then 1 else 0) = List.zipWith (· + ·) as (bs.mapIdx fun i c => c + if ((i + k : Nat) : Int) ∈ cr then 1 else 0)
  | [], [], _, _ => rfl
  | a :: as, b :: bs, k, h => by
    have ih := addRun_zip (cr := cr) (as := as) (bs := bs) (k + 1) (by simpa using h)
    simp only [List.zipWith_cons_cons, List.mapIdx_cons]
    rw [Int.add_assoc]
    congr 1
    simp only [Nat.add_assoc, Nat.add_comm 1 k] at ih ⊢
    exact ih
theorem round_zip {m q : Int} : ∀ {rows : List (List Int)} {as bs ws : List Int}, as.length = bs.length →
    rows.foldl (step m q) (List.zipWith (· + ·) as bs, ws) = (List.zipWith (· + ·) as (rows.foldl (step m q) (bs, ws)).1, (rows.foldl (step m q) (bs, ws)).2)
  | [], _, _, _, _ => rfl
  | r :: rows, as, bs, ws, h => by
    rw [List.foldl_cons, List.foldl_cons]
    have e : step m q (List.zipWith (· + ·) as bs, ws) r = (List.zipWith (· + ·) as (addRun bs (crew q r ws)), beh m (crew q r ws) ws) := by
      unfold step addRun
      rw [show (List.zipWith (· + ·) as bs).mapIdx (fun i c => c + if (i : Int) ∈ crew q r ws then 1 else 0) = _ from addRun_zip (cr := crew q r ws) 0 h]
      rfl
    rw [e, round_zip (rows := rows) (by rw [addRun_length]; exact h)]
    rfl
theorem zip_zero : ∀ {as : List Int} {n : Nat}, as.length = n → List.zipWith (· + ·) as (List.replicate n 0) = as
  | [], _, _ => by simp
  | a :: as, n + 1, h => by
    rw [List.replicate_succ, List.zipWith_cons_cons, zip_zero (by simpa using h)]
    simp
/-- from zero on, and added -/
theorem round_add {n : Nat} {m q : Int} {rows : List (List Int)} {cs ws : List Int} (h : cs.length = n) :
    round m q rows (cs, ws) = (List.zipWith (· + ·) cs (round m q rows (List.replicate n 0, ws)).1, (round m q rows (List.replicate n 0, ws)).2) := by
  have e := round_zip (m := m) (q := q) (rows := rows) (as := cs) (bs := List.replicate n 0) (ws := ws) (by simp [h])
  rw [zip_zero h] at e
  exact e
theorem sum_sub : ∀ {as bs : List Int}, as.length = bs.length → (List.zipWith (· - ·) as bs).sum = as.sum - bs.sum
  | [], [], _ => rfl
  | a :: as, b :: bs, h => by
    simp only [List.zipWith_cons_cons, List.sum_cons]
    rw [sum_sub (by simpa using h)]
    omega
/-! ### few orders -/
def ins (x : Int) : List Int → List (List Int)
  | [] => [[x]]
  | y :: ys => (x :: y :: ys) :: (ins x ys).map (y :: ·)
def perms : List Int → List (List Int)
  | [] => [[]]
  | x :: xs => (perms xs).flatMap (ins x)
def fac : Nat → Nat
  | 0 => 1
  | n + 1 => (n + 1) * fac n
theorem ins_length (x : Int) : ∀ l, (ins x l).length = l.length + 1
  | [] => rfl
  | y :: ys => by simp [ins, ins_length x ys]
theorem ins_mem_length {x : Int} : ∀ {l r : List Int}, r ∈ ins x l → r.length = l.length + 1
  | [], r, h => by simp [ins] at h; subst h; rfl
  | y :: ys, r, h => by
    simp only [ins, List.mem_cons, List.mem_map] at h
    rcases h with rfl | ⟨a, ha, rfl⟩
    · simp
    · simp [ins_mem_length ha]
theorem ins_mem (x : Int) : ∀ (a b : List Int), a ++ x :: b ∈ ins x (a ++ b)
  | [], [] => by simp [ins]
  | [], y :: ys => by simp [ins]
  | y :: a, b => by
    simp only [List.cons_append, ins, List.mem_cons, List.mem_map]
    exact .inr ⟨_, ins_mem x a b, rfl⟩
theorem perms_mem : ∀ {xs l : List Int}, l.Perm xs → l ∈ perms xs
  | [], l, h => by rw [h.eq_nil]; simp [perms]
  | x :: xs, l, h => by
    have hx : x ∈ l := h.mem_iff.mpr List.mem_cons_self
    obtain ⟨a, b, rfl⟩ := List.append_of_mem hx
    have h2 : (x :: (a ++ b)).Perm (x :: xs) := (List.perm_middle.symm).trans h
    have h3 := perms_mem (List.Perm.cons_inv h2)
    simp only [perms, List.mem_flatMap]
    exact ⟨_, h3, ins_mem x a b⟩
theorem perms_len : ∀ {xs l : List Int}, l ∈ perms xs → l.length = xs.length
  | [], l, h => by simp [perms] at h; subst h; rfl
  | x :: xs, l, h => by
    simp only [perms, List.mem_flatMap] at h
    obtain ⟨a, ha, hl⟩ := h
    rw [ins_mem_length hl, perms_len ha, List.length_cons]
theorem flat_len {f : List Int → List (List Int)} {k : Nat} : ∀ {ls : List (List Int)}, (∀ l ∈ ls, (f l).length = k) → (ls.flatMap f).length = k * ls.length
  | [], _ => by simp
  | l :: ls, h => by
    rw [List.flatMap_cons, List.length_append, h l List.mem_cons_self, flat_len fun x hx => h x (List.mem_cons_of_mem _ hx), List.length_cons, Nat.mul_add]
    omega
theorem perms_length : ∀ xs, (perms xs).length = fac xs.length
  | [] => rfl
  | x :: xs => by
    rw [perms, flat_len (k := xs.length + 1) fun l hl => by rw [ins_length, perms_len hl], perms_length xs]; rfl
theorem fac6 {n : Nat} (h : n ≤ 6) : fac n ≤ 720 := by
  have : n = 0 ∨ n = 1 ∨ n = 2 ∨ n = 3 ∨ n = 4 ∨ n = 5 ∨ n = 6 := by omega
  rcases this with rfl | rfl | rfl | rfl | rfl | rfl | rfl <;> decide
/-! ### the standings -/
section
variable {n : Nat} {m q : Int} {rows : List (List Int)} {fs : List Int}
def st (m q : Int) (rows : List (List Int)) (fs : List Int) (k : Nat) : List Int := (iter m q rows fs k).2
def ps (m q : Int) (rows : List (List Int)) (fs : List Int) (k : Nat) : List Int := (iter m q rows fs k).1
/-- lists for a depot -/
structure Good (m q : Int) (rows : List (List Int)) (fs : List Int) : Prop where
  stand : Stand m q fs
  len : (rows.length : Int) = m
  ord : ∀ r ∈ rows, Order fs.length r
theorem iter_facts (G : Good m q rows fs) : ∀ k, Stand m q (st m q rows fs k) ∧ (st m q rows fs k).Perm fs ∧ (ps m q rows fs k).length = fs.length ∧ (ps m q rows fs k).sum = k * (m * q)
  | 0 => ⟨G.stand, List.Perm.refl _, by simp [ps, iter], by simp [ps, iter]⟩
  | k + 1 => by
    obtain ⟨h1, h2, h3, h4⟩ := iter_facts G k
    have hl : (st m q rows fs k).length = fs.length := h2.length_eq
    have e1 := ecount_round (cs := ps m q rows fs k) G.ord hl h1
    have e2 := round_perm (cs := ps m q rows fs k) G.ord G.len hl h1
    have e3 := round_sum (cs := ps m q rows fs k) G.ord h3 hl h1
    refine ⟨e1.1, e2.trans h2, e3.1, ?_⟩
    have e4 := e3.2
    rw [h4, G.len] at e4
    show (rows.foldl (step m q) (ps m q rows fs k, st m q rows fs k)).1.sum = _
    rw [e4, Int.natCast_add, Int.add_mul, Int.mul_comm q m]
    simp
theorem st_length (G : Good m q rows fs) (k : Nat) : (st m q rows fs k).length = fs.length := (iter_facts G k).2.1.length_eq
theorem few (G : Good m q rows fs) (h6 : fs.length ≤ 6) {N : Nat} (dis : ∀ i j, i < j → j < N → st m q rows fs i ≠ st m q rows fs j) : N ≤ 720 := by
  have nd : ((List.range N).map (st m q rows fs)).Nodup := by
    refine List.pairwise_map.mpr (List.pairwise_iff_getElem.mpr fun i j hi hj hij => ?_)
    simp at hi hj ⊢
    exact dis i j hij hj
  have sub : (List.range N).map (st m q rows fs) ⊆ perms fs := fun l hl => by
    obtain ⟨i, _, rfl⟩ := List.mem_map.mp hl
    exact perms_mem (iter_facts G i).2.1
  have := nd.length_le_of_subset sub
  rw [perms_length] at this
  have h := fac6 h6
  simp at this
  omega
structure Tour (m q : Int) (rows : List (List Int)) (fs : List Int) (b l : Nat) (g : List Int) : Prop where
  l1 : 1 ≤ l
  dis : ∀ i j, i < j → j < b + l → st m q rows fs i ≠ st m q rows fs j
  com : st m q rows fs (b + l) = st m q rows fs b
  gain : g = List.zipWith (· - ·) (ps m q rows fs (b + l)) (ps m q rows fs b)
theorem Tour.unique {b l b' l' : Nat} {g g' : List Int} (T : Tour m q rows fs b l g) (T' : Tour m q rows fs b' l' g') : b = b' ∧ l = l' ∧ g = g' := by
  have h1 := T.l1
  have h2 := T'.l1
  have e : b + l = b' + l' := by
    rcases Nat.lt_trichotomy (b + l) (b' + l') with h | h | h
    · exact absurd T.com.symm (T'.dis b (b + l) (by omega) h)
    · exact h
    · exact absurd T'.com.symm (T.dis b' (b' + l') (by omega) h)
  have e2 : b = b' := by
    rcases Nat.lt_trichotomy b b' with h | h | h
    · exact absurd (T.com.symm.trans ((congrArg _ e).trans T'.com)) (T.dis b b' h (by omega))
    · exact h
    · exact absurd (T'.com.symm.trans ((congrArg _ e.symm).trans T.com)) (T'.dis b' b h (by omega))
  subst e2
  have e3 : l = l' := by omega
  subst e3
  exact ⟨rfl, rfl, T.gain.trans T'.gain.symm⟩
theorem Tour.le (G : Good m q rows fs) (h6 : fs.length ≤ 6) {b l : Nat} {g : List Int} (T : Tour m q rows fs b l g) : b + l ≤ 720 := few G h6 T.dis
theorem Tour.glen (G : Good m q rows fs) {b l : Nat} {g : List Int} (T : Tour m q rows fs b l g) : g.length = fs.length := by
  rw [T.gain]
  simp [(iter_facts G (b + l)).2.2.1, (iter_facts G b).2.2.1]
theorem Tour.sum (G : Good m q rows fs) {b l : Nat} {g : List Int} (T : Tour m q rows fs b l g) : g.sum = q * m * l := by
  rw [T.gain, sum_sub (by rw [(iter_facts G (b + l)).2.2.1, (iter_facts G b).2.2.1]), (iter_facts G (b + l)).2.2.2, (iter_facts G b).2.2.2, Int.natCast_add, Int.add_mul, Int.mul_comm q m, Int.mul_comm (m * q) (l : Int)]
  omega
end
end Led

namespace Led
theorem addRun_nil {cs : List Int} : addRun cs [] = cs := by
  unfold addRun
  apply List.ext_getElem
  · simp
  · intro i h1 h2
    simp
theorem addRun_snoc {cs pre : List Int} {d : Int} (h0 : 0 ≤ d) (h1 : d < cs.length) (hn : d ∉ pre) : (addRun cs pre).set d.toNat ((addRun cs pre).getD d.toNat 0 + 1) = addRun cs (pre ++ [d]) := by
  have hd : d.toNat < cs.length := by omega
  have hd2 : d.toNat < (addRun cs pre).length := by rw [addRun_length]; exact hd
  apply List.ext_getElem
  · simp [addRun_length]
  · intro i h2 h3
    rw [List.getElem_set]
    have hi : i < cs.length := by simp [addRun_length] at h3; exact h3
    have e0 : ∀ l, (addRun cs l)[i]'(by rw [addRun_length]; exact hi) = cs[i] + if (i : Int) ∈ l then 1 else 0 := fun l => by
      unfold addRun; simp
    split
    · rename_i e
      subst e
      have e1 : (addRun cs pre).getD d.toNat 0 = cs[d.toNat] := by
        rw [List.getD_eq_getElem?_getD, List.getElem?_eq_getElem hd2, Option.getD_some, e0 pre, Int.toNat_of_nonneg h0, if_neg hn]
        simp
      rw [e1, e0, Int.toNat_of_nonneg h0, if_pos (by simp)]
    · rename_i e
      rw [e0, e0]
      have : ¬ (i : Int) = d := by omega
      simp [this]
end Led

/-! OH3: dicts by tuples of ints, zips; stores with cells at the end. -/
namespace OD
open PySem PySem.Spec L2
open PyProof.Rows hiding St
theorem zip_mapI {f : Int → Int → Int} : ∀ as bs : List Int, ((as.zip bs).map fun p => D.int (f p.1 p.2)) = (List.zipWith f as bs).map D.int
  | [], _ => by simp
  | _ :: _, [] => by simp
  | a :: as, b :: bs => by simp [zip_mapI as bs]
theorem keysD_ints : ∀ ws : List Int, keysD (ws.map D.int) = some (ws.map Sum.inl)
  | [] => rfl
  | w :: ws => by simp [keysD, keyD, keysD_ints ws]
theorem inl_inj {as bs : List Int} (h : as.map (Sum.inl : Int → Key) = bs.map Sum.inl) : as = bs := by
  induction as generalizing bs with
  | nil => cases bs with
    | nil => rfl
    | cons b bs => cases h
  | cons a as ih => cases bs with
    | nil => cases h
    | cons b bs =>
      simp only [List.map_cons, List.cons.injEq, Sum.inl.injEq] at h
      rw [h.1, ih h.2]
def kvT (f : Nat → List Int) (v : Nat → D) (i : Nat) : List (List Key × D) := (List.range i).map fun j => ((f j).map Sum.inl, v j)
section
variable {f : Nat → List Int} {v : Nat → D} {i j : Nat} {w : List Int}
theorem kvT_none (h : ∀ j < i, f j ≠ w) : valD (kvT f v i) (w.map Sum.inl) = none := by
  unfold valD
  rw [Option.map_eq_none_iff, List.find?_eq_none]
  intro p hp
  obtain ⟨j, hj, rfl⟩ := List.mem_map.mp hp
  rw [decide_eq_true_eq]
  intro e
  exact h j (List.mem_range.mp hj) (inl_inj e)
theorem kvT_some (hj : j < i) (hf : f j = w) (h : ∀ a < j, f a ≠ w) : valD (kvT f v i) (w.map Sum.inl) = some (v j) := by
  unfold valD kvT
  have e : List.range i = List.range j ++ j :: (List.range' (j + 1) (i - (j + 1))) := by
    rw [List.range_eq_range', List.range_eq_range', ← List.range'_succ (n := i - (j + 1)), show i - (j + 1) + 1 = i - j by omega]
    have := List.range'_append_1 (s := 0) (m := j) (n := i - j)
    rw [Nat.zero_add, show j + (i - j) = i by omega] at this
    exact this.symm
  rw [e, List.map_append, List.find?_append, List.find?_eq_none.mpr]
  · simp [hf]
  · intro p hp
    obtain ⟨a, ha, rfl⟩ := List.mem_map.mp hp
    rw [decide_eq_true_eq]
    intro e
    exact h a (List.mem_range.mp ha) (inl_inj e)
theorem kvT_put (h : ∀ j < i, f j ≠ f i) : putDK (kvT f v i) ((f i).map Sum.inl) (v i) = kvT f v (i + 1) := by
  unfold putDK
  rw [if_neg]
  · unfold kvT
    rw [List.range_succ, List.map_append]; rfl
  · rw [Bool.not_eq_true, List.any_eq_false]
    intro p hp
    obtain ⟨j, hj, rfl⟩ := List.mem_map.mp hp
    rw [decide_eq_true_eq]
    intro e
    exact h j (List.mem_range.mp hj) (inl_inj e)
theorem kvT_length : (kvT f v i).length = i := by simp [kvT]
variable {S : Store} {k : Nat} {Q : D → Store → Prop}
theorem getK_none (e : S[k]? = some (.dt (kvT f v i))) (h : ∀ j < i, f j ≠ w) : getK (.own k) (.tup (w.map D.int)) S = some none := by
  simp only [getK, e, keysD_ints, Option.map_some, kvT_none h]
theorem getK_some (e : S[k]? = some (.dt (kvT f v i))) (hj : j < i) (hf : f j = w) (h : ∀ a < j, f a ≠ w) : getK (.own k) (.tup (w.map D.int)) S = some (some (v j)) := by
  simp only [getK, e, keysD_ints, Option.map_some, kvT_some hj hf h]
theorem putK_of {N : Store → Prop} {d : D} (e : S[k]? = some (.dt (kvT f v i))) (hw : w = f i) (hd : d = v i) (h : ∀ j < i, f j ≠ f i) (hl : i < sizeLine) (hN : N (S.set k (.dt (kvT f v (i + 1))))) : putKD (.own k) (.tup (w.map D.int)) d S N := by
  subst hw hd
  refine ⟨k, rfl, .inr ⟨_, _, _, e, rfl, keysD_ints _, by rw [kvT_length]; exact hl, ?_⟩⟩
  rw [kvT_put h]; exact hN
end
section
variable {A B : Store} {a b c a' x : Cell} {k L : Nat}
theorem get3_0 (h : A.length = L) : (A ++ [a, b, c])[L]? = some a := by subst h; simp
theorem get3_1 (h : A.length = L) : (A ++ [a, b, c])[L + 1]? = some b := by subst h; simp
theorem get3_2 (h : A.length = L) : (A ++ [a, b, c])[L + 2]? = some c := by subst h; simp
theorem set3_0 (h : A.length = L) : (A ++ [a, b, c]).set L a' = A ++ [a', b, c] := by subst h; simp
theorem set3_1 (h : A.length = L) : (A ++ [a, b, c]).set (L + 1) a' = A ++ [a, a', c] := by subst h; simp
theorem set3_2 (h : A.length = L) : (A ++ [a, b, c]).set (L + 2) a' = A ++ [a, b, a'] := by subst h; simp
theorem get2_0 (h : A.length = L) : (A ++ [a, b])[L]? = some a := by subst h; simp
theorem get2_1 (h : A.length = L) : (A ++ [a, b])[L + 1]? = some b := by subst h; simp
theorem set2_0 (h : A.length = L) : (A ++ [a, b]).set L a' = A ++ [a', b] := by subst h; simp
theorem set2_1 (h : A.length = L) : (A ++ [a, b]).set (L + 1) a' = A ++ [a, a'] := by subst h; simp
theorem setF (h : k < A.length) : (A ++ B).set k x = A.set k x ++ B := List.set_append_left _ _ h
end
/-! ### a turn's own cells let go -/
def EnvC (n : Nat) (ρ ρ' : DEnv) : Prop := ρ'.length = ρ.length ∧ ∀ (i : Nat) (d : D), ρ'[i]? = some (some d) → ρ[i]? = some (some d) ∧ ownLt n d = true
theorem env_nil {n : Nat} : EnvC n [] [] := ⟨rfl, fun i d h => by simp at h⟩
theorem env_none {n : Nat} {a : Option D} {ρ ρ' : DEnv} (h : EnvC n ρ ρ') : EnvC n (a :: ρ) (none :: ρ') := ⟨by simp [h.1], fun i d e => by
  cases i with
  | zero => simp at e
  | succ i => simpa using h.2 i d (by simpa using e)⟩
theorem env_keep {n : Nat} {a : D} {ρ ρ' : DEnv} (ha : ownLt n a = true) (h : EnvC n ρ ρ') : EnvC n (some a :: ρ) (some a :: ρ') := ⟨by simp [h.1], fun i d e => by
  cases i with
  | zero => simp at e; subst e; exact ⟨rfl, ha⟩
  | succ i => simpa using h.2 i d (by simpa using e)⟩
theorem shr_cut {ρ0 ρ ρ' : DEnv} {S0 A B : Store} (hl : A.length = S0.length) (hc : ∀ (j : Nat) (c : Cell), A[j]? = some c → S0[j]? = some c ∨ cellLt S0.length c = true) (he : EnvC S0.length ρ ρ') : Shr ρ0 S0 ρ (A ++ B) ρ' A := by
  refine .inr ⟨⟨?_, fun k c hk e => ?_⟩, he.1, fun i d h => ⟨(he.2 i d h).1, .inr (he.2 i d h).2⟩⟩
  · rw [← hl, List.take_left]
  · rw [List.getElem?_append_left (by omega)] at e
    exact hc k c e
theorem cells_set {S : Store} {k n : Nat} {c c0 : Cell} (h1 : cellLt n c = true) (j : Nat) (e : Cell) (h : (S.set k c)[j]? = some e) : (S.set k c0)[j]? = some e ∨ cellLt n e = true := by
  by_cases hj : k = j
  · subst hj
    rw [List.getElem?_set_self (by have := (List.getElem?_eq_some_iff.mp h).1; simpa using this)] at h
    cases h; exact .inr h1
  · rw [List.getElem?_set_ne hj] at h ⊢
    exact .inl h
theorem cells_app {S S0 : Store} {n : Nat} {x x0 : Cell} (hl : S.length = S0.length) (hc : ∀ (j : Nat) (c : Cell), S[j]? = some c → S0[j]? = some c ∨ cellLt n c = true) (h2 : cellLt n x = true) (j : Nat) (e : Cell) (h : (S ++ [x])[j]? = some e) : (S0 ++ [x0])[j]? = some e ∨ cellLt n e = true := by
  rcases get_snoc h with ⟨hj, h⟩ | ⟨_, rfl⟩
  · rw [List.getElem?_append_left (by omega)]
    exact hc j e h
  · exact .inr h2
theorem cells_same {S : Store} {n : Nat} (j : Nat) (c : Cell) (h : S[j]? = some c) : S[j]? = some c ∨ cellLt n c = true := .inl h
theorem pool_lt {n : Nat} {ns : List Int} {a b e d : Int} : cellLt n (.lst [.int a, .int b, .int e, .int d, .lst (ns.map D.int)]) = true := by simp [cellLt, ownLts, ownLt, ownLts_ints]
end OD

/-! OJ1: a for in a generator def's body. -/
namespace L2
open PySem PySem.Spec PyProof.Rows GenW
section
variable {M : Model} {A : Around} {R : GenEnd} {Y : Protocol} {n : Nat} {s₀ : Shared} {c : Code} {fs : List Frame} {s : Shared} {env : Env}
  {K : Flow → Sem PySem.Fin} {J : Value → Sem PySem.Fin} {gd : Bool → Bool} {lv : List Value → List Value}
theorem seg_For {target iter : Expr} {body orelse : List Stmt} {pos : Pos} (hs : ∀ x, foldedSetIterable iter env x = pure x)
    (h : wpAny M (A.over c fs) (eval iter env) (fun x s₁ => wpAny M (A.over c fs) (pyIter x) (fun it s₂ => ∀ p, Seg M A R Y n s₀ (.forLoop target it body orelse env) (M.den (.forLoop target it body orelse env))
      (.ret (fun r => ((match r with | .ok f => (.pure f : Sem Flow) | .error e => .raise e).onRaise fun (x : Value) => do
        if (← field x 1) == Value.none then unsupported "frame.own-activation:exception-without-traceback"
        setFlight x env.frame).wrap K J gd lv) none (gd false) (lv []) c p [] :: fs) s₂) (fun e s₂ => Seg M A R Y n s₀ c (J e) fs s₂) s₁) (fun e s₁ => Seg M A R Y n s₀ c (J e) fs s₁) s) :
    Seg M A R Y n s₀ c ((exec (.For target iter body orelse pos) env).wrap K J gd lv) fs s := by
  rw [exec_For]
  refine seg_bind_wrap (wpAny_standAt ?_)
  refine seg_bind_wrap (wpAny_mono h (fun x s₁ h₁ => ?_) fun _ _ z => z)
  refine seg_bind_wrap (wpAny_of_eq (hs x) ?_)
  refine seg_bind_wrap (wpAny_standAt ?_)
  refine seg_bind_wrap (wpAny_holding (wpAny_mono h₁ (fun it s₂ h₂ => ?_) fun _ _ z => z))
  exact seg_call h₂
end
section
variable {prog : Program} {w : World} {A : Around} {R : GenEnd} {Y : Protocol} {n : Nat} {s₀ : Shared} {fs : List Frame} {s : Shared} {env : Env}
theorem seg_forLoop {target : Expr} {it : Value} {body : List Stmt}
    (h : wpAny (model prog w) (A.over (.forLoop target it body [] env) fs) (pyNext it) (fun r s₁ => match r with
        | none => Seg (model prog w) A R Y n s₀ (.forLoop target it body [] env) (.pure (.again (.block [] env))) fs s₁
        | some v => wpAny (model prog w) (A.over (.forLoop target it body [] env) fs) (letOwnedTupleGo target it v) (fun _ s₂ => wpAny (model prog w) (A.over (.forLoop target it body [] env) fs) (assign target env v) (fun _ s₃ =>
            Seg (model prog w) A R Y n s₀ (.forLoop target it body [] env) ((execs body env).wrap (fun f => match f with
              | .next | .cont => .pure (.again (.forLoop target it body [] env))
              | .brk => .pure (.done .next)
              | .ret v => .pure (.done (.ret v))) (fun e => (do noteFrame e env; theTreesLotGoes e : Sem Unit).wrap (fun _ => .raise e) .raise id id) id id) fs s₃)
            (fun x s' => Seg (model prog w) A R Y n s₀ (.forLoop target it body [] env) ((do noteFrame x env; theTreesLotGoes x : Sem Unit).wrap (fun _ => .raise x) .raise id id) fs s') s₂)
            (fun x s' => Seg (model prog w) A R Y n s₀ (.forLoop target it body [] env) ((do noteFrame x env; theTreesLotGoes x : Sem Unit).wrap (fun _ => .raise x) .raise id id) fs s') s₁)
      (fun x s' => Seg (model prog w) A R Y n s₀ (.forLoop target it body [] env) ((do noteFrame x env; theTreesLotGoes x : Sem Unit).wrap (fun _ => .raise x) .raise id id) fs s') s) :
    Seg (model prog w) A R Y n s₀ (.forLoop target it body [] env) ((model prog w).den (.forLoop target it body [] env)) fs s := by
  show Seg _ A R Y n s₀ _ ((forTurn target it body [] env).onRaise (fun x => do noteFrame x env; theTreesLotGoes x)) fs s
  unfold forTurn
  rw [Sem.onRaise_eq_wrap]
  rw [Sem.wrap_congr _ id id (K' := (Sem.pure : PySem.Fin → Sem PySem.Fin)) (H' := (fun e => (do noteFrame e env; theTreesLotGoes e : Sem Unit).wrap (fun _ => (.raise e : Sem PySem.Fin)) .raise id id)) (fun _ => rfl) (fun e => by
    show (do noteFrame e env; theTreesLotGoes e : Sem Unit).bind (fun _ => (.raise e : Sem PySem.Fin)) = _
    rw [Sem.bind_eq_wrap])]
  refine seg_bind_wrap (wpAny_standAt ?_)
  refine seg_bind_wrap (wpAny_onRaise (wpAny_mono h (fun r s₁ h₁ => ?_) fun x s' hx => wpAny_standAt hx))
  cases r with
  | none => exact h₁
  | some v =>
    refine seg_bind_wrap (wpAny_mono h₁ (fun _ s₂ h₂ => ?_) fun _ _ z => z)
    refine seg_bind_wrap (wpAny_mono h₂ (fun _ s₃ h₃ => ?_) fun _ _ z => z)
    rw [Sem.bind_eq_wrap', Sem.wrap_wrap]
    rw [Sem.wrap_congr (execs body env) _ _ (K' := fun f => match f with
            | .next | .cont => .pure (.again (.forLoop target it body [] env))
            | .brk => .pure (.done .next)
            | .ret v => .pure (.done (.ret v))) (H' := (fun e => (do noteFrame e env; theTreesLotGoes e : Sem Unit).wrap (fun _ => .raise e) .raise id id))
        (fun f => by cases f <;> rfl) (fun e => by rfl)]
    exact h₃
end
section
variable {X : Cx}
def tGFor (wi : TI) (g : TG) (tb : TGn) : TGn := fun D ys σ H => wi σ H fun J H1 => ∃ W : Nat → Nat → List V → St → Hp → Prop, (∃ m, W 0 m ys σ H1) ∧ ∀ i m ys σ H, W i m ys σ H →
  (J.stop i H ∧ D.nx ys σ H) ∨ (J.go i H ∧ ∃ N : List V → St → Hp → Prop, (∀ ys' σ' H', N ys' σ' H' → ∃ m', m' < m ∧ W (i + 1) m' ys' σ' H') ∧ ∀ x H', J.yld i H x H' → g x σ H' fun σ2 H2 => tb { D with nx := N, ct := N, bk := D.nx } ys σ2 H2)
theorem gs_for {tg iter : Expr} {body : List Stmt} {wi : TI} {g : TG} {tb : TGn} {pos : Pos} (hp : PassesOwn (model X.prog X.w) X.A X.env X.xe) (hc : X.calm = true) (hi : PI X tg iter wi) (hg : PG X tg g) (hb : GSs X body tb)
    (hs : ∀ x, foldedSetIterable iter X.env x = pure x := by intro _; rfl) : GS X (.For tg iter body [] pos) (tGFor wi g tb) := by
  refine ⟨fun A S ip R n ys s₀ c fs K J gd lv s σ H D gc hn k hI ht => ?_⟩
  obtain ⟨acc, cc, r, I⟩ := hI
  refine seg_For hs ?_
  rw [gc.over]
  refine wpAny_mono (hi.run _ s σ H _ I ht) (fun v s1 h1 => wpAny_mono h1 (fun itv s2 h2 p => ?_) fun x s' hx => k.exc n s₀ x s' hx) fun x s' hx => k.exc n s₀ x s' hx
  obtain ⟨it, fp, tn, Jt, H2, e, I2, T, st2, f2, W, ⟨m0, w0⟩, turn⟩ := h2
  subst e
  have hfS : ∀ b ∈ fp, b ≠ S := fun b hb z => (f2 b hb).2.2.2.2.2 (S, lstObj acc cc) (List.mem_append_right _ List.mem_cons_self) z.symm
  have hpins : ∀ (acc' : Array Value) (cc' : Nat), ∀ b ∈ fp, ∀ p ∈ X.pn ++ ((S, lstObj acc' cc') :: ip), p.1 ≠ b := fun acc' cc' b hb p hp => by
    rcases List.mem_append.mp hp with hp | hp
    · exact (f2 b hb).2.2.2.2.2 p (List.mem_append_left _ hp)
    · rcases List.mem_cons.mp hp with rfl | hp
      · exact fun z => hfS b hb z.symm
      · exact (f2 b hb).2.2.2.2.2 p (List.mem_append_right _ (List.mem_cons_of_mem _ hp))
  have stat : ∀ {H' : Hp} (acc' : Array Value) (cc' : Nat), (∀ b ∈ fp, H' b = none) → ∀ b ∈ fp, FpOk X ((S, lstObj acc' cc') :: ip) H' b := fun acc' cc' hn b hb =>
    ⟨hn b hb, (f2 b hb).2.1, (f2 b hb).2.2.1, (f2 b hb).2.2.2.1, (f2 b hb).2.2.2.2.1, hpins acc' cc' b hb⟩
  have gl := fun (kk : Result → Sem PySem.Fin) => gc_loop (k := kk) (c' := .forLoop tg (.ref it) body [] X.env) (l := lv []) (kp := []) (p := p) gc rfl rfl
  have loop : ∀ (m n : Nat) (ys : List V) (s₀ s : Shared) (σ : St) (H : Hp) (i : Nat), n + ys.length = sizeLine → W i m ys σ H → GI X S ip ys σ H s → tn i s.heap → (∀ b ∈ fp, H b = none) →
      Seg (model X.prog X.w) A R (GY X S) n s₀ (.forLoop tg (.ref it) body [] X.env) ((model X.prog X.w).den (.forLoop tg (.ref it) body [] X.env))
        (.ret (fun r => ((match r with | .ok f => (.pure f : Sem Flow) | .error e => .raise e).onRaise (cameBack X.env)).wrap K J gd lv) none (gd false) (lv []) c p [] :: fs) s := by
    intro m
    induction m using Nat.strongRecOn with
    | ind m ih =>
      intro n ys s₀ s σ H i hn w hI st fr
      have ee : ∀ (n : Nat) (s₀ : Shared) (x : Value) (s' : Shared), X.xe x s' → Seg (model X.prog X.w) A R (GY X S) n s₀ (.forLoop tg (.ref it) body [] X.env)
          ((do noteFrame x X.env; theTreesLotGoes x : Sem Unit).wrap (fun _ => .raise x) .raise id id)
          (.ret (fun r => ((match r with | .ok f => (.pure f : Sem Flow) | .error e => .raise e).onRaise (cameBack X.env)).wrap K J gd lv) none (gd false) (lv []) c p [] :: fs) s' := fun n s₀ x s' hx => by
        refine seg_wrap ?_
        rw [(gl _).over]
        refine wpAny_bind (wpAny_mono (hp x s' hx) (fun _ s'' hcb => wpAny_theTreesLotGoes ?_) fun y s'' hcb => ?_)
        · exact seg_leaf (.error x) (seg_cameBack gc k hcb)
        · exact seg_leaf (.error y) (seg_cameBack gc k hcb)
      refine seg_forLoop ?_
      rw [(gl _).over]
      obtain ⟨acc, cc, r, I⟩ := hI
      rcases turn i m ys σ H w with ⟨stop, qn⟩ | ⟨go, N, hN, step⟩
      · refine wpAny_mono (T.done X rfl rfl rfl hc i _ s σ H X.xe I (stat acc cc fr) st stop) (fun r s4 ⟨hr, I4⟩ => ?_) fun x s' hx => ee n s₀ x s' hx
        subst hr
        refine seg_again rfl ?_
        exact seg_leaf (.ok .next) (k.ok n ys s₀ s4 .next hn ⟨σ, H, ⟨acc, cc, r, I4⟩, qn⟩)
      · refine wpAny_mono (T.item X rfl rfl rfl hc i _ s σ H X.xe I (stat acc cc fr) st go) (fun rr s4 ⟨u, hr, h4⟩ => ?_) fun x s' hx => ee n s₀ x s' hx
        subst hr
        refine wpAny_mono h4 (fun _ s5 ⟨x, H5, I5, r5, y5, st5, fr5⟩ => ?_) fun x s' hx => ee n s₀ x s' hx
        have I5' := I5.pinned (stat acc cc fr5) (T.obj _ _ st5)
        refine wpAny_mono (hg.run _ s5 σ H5 x u _ I5' r5 (step x H5 y5)) (fun _ s6 ⟨σ6, H6, I6, q6⟩ => ?_) fun x s' hx => ee n s₀ x s' hx
        have hip' : ∀ p ∈ ip ++ pinsAt fp s5.heap, p.1 ≠ S := fun p hp => by
          rcases List.mem_append.mp hp with hp | hp
          · exact gc.ip p hp
          · exact hfS _ (of_pinsAt hp).1
        have gl2 := gl (fun r => ((match r with | .ok f => (.pure f : Sem Flow) | .error e => .raise e).onRaise (cameBack X.env)).wrap K J gd lv)
        refine hb.run A S (ip ++ pinsAt fp s5.heap) R n ys s₀ _ _ _ _ id id s6 σ6 H6 { D with nx := N, ct := N, bk := D.nx } ⟨gl2.pn, hip', gl2.apart, gl2.over, gl2.split, gl2.guard, gl2.gd⟩ hn
          ⟨fun n' ys' s₀' s3 f hn' hs => ?_, fun n' s₀' x s3 hx => ee n' s₀' x s3 hx⟩ ⟨acc, cc, r, I6⟩ q6
        have back : ∀ {ys' : List V} {σ7 : St} {H7 : Hp} {s7 : Shared}, GI X S (ip ++ pinsAt fp s5.heap) ys' σ7 H7 s7 → GI X S ip ys' σ7 H7 s7 ∧ tn (i + 1) s7.heap ∧ ∀ b ∈ fp, H7 b = none := fun {ys' σ7 H7 s7} hG => by
          obtain ⟨acc7, cc7, r7, I7⟩ := hG
          have I7' : Inv X (((S, lstObj acc7 cc7) :: ip) ++ pinsAt fp s5.heap) σ7 H7 s7 := I7
          refine ⟨⟨acc7, cc7, r7, I7'.unpinned⟩, T.keep _ _ _ st5 fun b hb o e => (I7'.pin (b, o) (List.mem_append_right _ (List.mem_append_right _ (mem_pinsAt hb e)))).1, fun b hb => ?_⟩
          obtain ⟨o, e, d⟩ := T.obj _ _ st5 b hb
          exact (I7'.pin (b, o) (List.mem_append_right _ (List.mem_append_right _ (mem_pinsAt hb e)))).2.1
        cases f with
        | next =>
          obtain ⟨σ3, H3, I3, n3⟩ := hs
          obtain ⟨b1, b2, b3⟩ := back I3
          obtain ⟨m', hm, w3⟩ := hN ys' σ3 H3 n3
          exact seg_again rfl (ih m' hm n' ys' s₀' s3 σ3 H3 (i + 1) hn' w3 b1 b2 b3)
        | cont =>
          obtain ⟨σ3, H3, I3, n3⟩ := hs
          obtain ⟨b1, b2, b3⟩ := back I3
          obtain ⟨m', hm, w3⟩ := hN ys' σ3 H3 n3
          exact seg_again rfl (ih m' hm n' ys' s₀' s3 σ3 H3 (i + 1) hn' w3 b1 b2 b3)
        | brk =>
          obtain ⟨σ3, H3, I3, n3⟩ := hs
          exact seg_leaf (.ok .next) (k.ok n' ys' s₀' s3 .next hn' ⟨σ3, H3, (back I3).1, n3⟩)
        | ret v =>
          obtain ⟨x3, σ3, H3, I3, r3, n3⟩ := hs
          exact seg_leaf (.ok (.ret v)) (k.ok n' ys' s₀' s3 (.ret v) hn' ⟨x3, σ3, H3, (back I3).1, r3, n3⟩)
  exact loop m0 n ys s₀ s2 σ H2 0 hn w0 ⟨acc, cc, r, I2⟩ st2 fun b hb => (f2 b hb).1
end
end L2

/-! OJ2: generator defs over D, list(g). -/
namespace OD
open PySem PySem.Spec L2
open PyProof.Rows hiding St
structure GEndsD where
  nx : List D → DEnv → Store → Prop
  rt : List D → D → Store → Prop
  bk : List D → DEnv → Store → Prop := fun _ _ _ => False
  ct : List D → DEnv → Store → Prop := fun _ _ _ => False
def GEndsD.at (E : GEndsD) (ys : List D) : EndsD := { nx := E.nx ys, rt := E.rt ys, bk := E.bk ys, ct := E.ct ys }
def GEndsD.wn (E : GEndsD) (J : List D → DEnv → Store → Prop) : GEndsD := { E with nx := J }
def GEndsD.lp (E : GEndsD) (J : List D → DEnv → Store → Prop) : GEndsD := { E with nx := J, ct := J, bk := E.nx }
abbrev TGnD := GEndsD → List D → DEnv → Store → Prop
structure GEndOk (C : Ct) (F : Hp) (μ : List Addr) (H : Hp) (E : GEndsD) (De : GEnds) : Prop where
  nx : ∀ F' μ' H' σ' ρ' S' ys vs, Ext F μ H F' μ' H' → EnvR C F' μ' σ' ρ' → SR C F' μ' H' S' → Reps C F' μ' ys vs → E.nx ys ρ' S' → De.nx vs σ' H'
  rt : ∀ F' μ' H' v d S' ys vs, Ext F μ H F' μ' H' → SR C F' μ' H' S' → Rep C F' μ' d v → Reps C F' μ' ys vs → E.rt ys d S' → De.rt vs v H'
  bk : ∀ F' μ' H' σ' ρ' S' ys vs, Ext F μ H F' μ' H' → EnvR C F' μ' σ' ρ' → SR C F' μ' H' S' → Reps C F' μ' ys vs → E.bk ys ρ' S' → De.bk vs σ' H'
  ct : ∀ F' μ' H' σ' ρ' S' ys vs, Ext F μ H F' μ' H' → EnvR C F' μ' σ' ρ' → SR C F' μ' H' S' → Reps C F' μ' ys vs → E.ct ys ρ' S' → De.ct vs σ' H'
section
variable {C : Ct} {F F1 : Hp} {μ μ1 : List Addr} {H H1 : Hp} {E : GEndsD} {De : GEnds}
theorem GEndOk.ext (k : GEndOk C F μ H E De) (x : Ext F μ H F1 μ1 H1) : GEndOk C F1 μ1 H1 E De :=
  ⟨fun F' μ' H' σ' ρ' S' ys vs y => k.nx F' μ' H' σ' ρ' S' ys vs (x.trans y), fun F' μ' H' v d S' ys vs y => k.rt F' μ' H' v d S' ys vs (x.trans y), fun F' μ' H' σ' ρ' S' ys vs y => k.bk F' μ' H' σ' ρ' S' ys vs (x.trans y), fun F' μ' H' σ' ρ' S' ys vs y => k.ct F' μ' H' σ' ρ' S' ys vs (x.trans y)⟩
end
def liftGn (C : Ct) (t : TGnD) : TGn := fun De vs σ H => ∃ (F : Hp) (μ : List Addr) (ρ : DEnv) (S : Store) (ys : List D) (E : GEndsD), EnvR C F μ σ ρ ∧ SR C F μ H S ∧ Reps C F μ ys vs ∧ t E ys ρ S ∧ GEndOk C F μ H E De
abbrev DGn (X : Cx) (C : Ct) (st : Stmt) (t : TGnD) : Prop := GS X st (liftGn C t)
abbrev DGns (X : Cx) (C : Ct) (st : List Stmt) (t : TGnD) : Prop := GSs X st (liftGn C t)
theorem GS.imp {X : Cx} {st : Stmt} {t t' : TGn} (h : GS X st t) (k : ∀ D ys σ H, t' D ys σ H → t D ys σ H) : GS X st t' := ⟨fun A S ip R n ys s₀ c fs K J gd lv s σ H D g hn kk hI ht => h.run A S ip R n ys s₀ c fs K J gd lv s σ H D g hn kk hI (k D ys σ H ht)⟩
theorem GSs.imp {X : Cx} {st : List Stmt} {t t' : TGn} (h : GSs X st t) (k : ∀ D ys σ H, t' D ys σ H → t D ys σ H) : GSs X st t' := ⟨fun A S ip R n ys s₀ c fs K J gd lv s σ H D g hn kk hI ht => h.run A S ip R n ys s₀ c fs K J gd lv s σ H D g hn kk hI (k D ys σ H ht)⟩
section
variable {X : Cx} {C : Ct} {W : WX} {st : Stmt} {rest : List Stmt} {t u : TGnD} {a : Expr} {ta : TD D} {pos yp : Pos}
/-- a statement that hands out nothing -/
def gPlain (t : TSD) : TGnD := fun E ys ρ S => t (E.at ys) ρ S
theorem at_ok {F : Hp} {μ : List Addr} {H : Hp} {E : GEndsD} {De : GEnds} {ys : List D} {vs : List V} (r : Reps C F μ ys vs) (k : GEndOk C F μ H E De) : EndOk C W F μ H (E.at ys) (De.at vs) :=
  ⟨fun F' μ' H' σ' ρ' S' x e s h => k.nx F' μ' H' σ' ρ' S' ys vs x e s (r.ext x) h, fun F' μ' H' v d S' x s rv h => k.rt F' μ' H' v d S' ys vs x s rv (r.ext x) h, fun F' μ' H' σ' ρ' S' x e s h => k.bk F' μ' H' σ' ρ' S' ys vs x e s (r.ext x) h,
    fun F' μ' H' σ' ρ' S' x e s h => k.ct F' μ' H' σ' ρ' S' ys vs x e s (r.ext x) h, fun _ _ _ _ _ _ _ _ _ _ _ _ _ _ z => z.elim⟩
theorem dgn_plain {t : TSD} (h : DS X C W st t) : DGn X C st (gPlain t) := GS.imp (gs_ps h) fun De vs σ H ⟨F, μ, ρ, S, ys, E, e, s, r, h, k⟩ => ⟨F, μ, ρ, S, _, e, s, h, at_ok r k⟩
def gnNil : TGnD := fun E ys ρ S => E.nx ys ρ S
theorem dgns_nil : DGns X C [] gnNil := GSs.imp gss_nil fun De vs σ H ⟨F, μ, ρ, S, ys, E, e, s, r, h, k⟩ => k.nx F μ H σ ρ S ys vs (Ext.refl F μ H) e s r h
def gnSeq (t u : TGnD) : TGnD := fun E ys ρ S => ∃ J : List D → DEnv → Store → Prop, t (E.wn J) ys ρ S ∧ ∀ ys' ρ' S', J ys' ρ' S' → u E ys' ρ' S'
theorem dgns_cons (h1 : DGn X C st t) (h2 : DGns X C rest u) : DGns X C (st :: rest) (gnSeq t u) := GSs.imp (gss_cons h1 h2) fun De vs σ H ⟨F, μ, ρ, S, ys, E, e, s, r, ⟨J, h, hJ⟩, k⟩ =>
  ⟨F, μ, ρ, S, ys, _, e, s, r, h, ⟨fun F' μ' H' σ' ρ' S' ys' vs' x e' s' r' h' => ⟨F', μ', ρ', S', ys', E, e', s', r', hJ ys' ρ' S' h', k.ext x⟩, k.rt, k.bk, k.ct⟩⟩
theorem dgns_one (h1 : DGn X C st t) : DGns X C [st] t := GSs.imp (gss_cons h1 gss_nil) fun De vs σ H h => h
def gYield (ta : TD D) : TGnD := fun E ys ρ S => ys.length < sizeLine ∧ ta ρ S (fun d S1 => E.nx (ys ++ [d]) ρ S1) noX
theorem dgn_yield (he : DE X C W a ta) (hco : X.env.scope.isCoroutine = false := by rfl) (hi : interactive X.env = false := by rfl) : DGn X C (.Expr (.Yield (some a) yp) pos) (gYield ta) :=
  GS.imp (gs_yield he hco hi) fun De vs σ H ⟨F, μ, ρ, S, ys, E, e, s, r, ⟨hl, h⟩, k⟩ => ⟨by rw [← r.length]; exact hl, lift_of e s h (fun F1 μ1 H1 v d S1 x1 s1 r1 h1 => k.nx F1 μ1 H1 σ ρ S1 (ys ++ [d]) _ x1 (e.ext x1) s1 ((r.ext x1).append (Reps.cons r1 Reps.nil)) h1) fun _ _ _ _ _ _ _ _ _ _ _ z => z.elim⟩
def gFor (ti : TID) (g : TGD) (t : TGnD) : TGnD := fun E ys ρ S => ti ρ S (fun it S1 => ∃ I : Nat → List D → DEnv → Store → Prop, I 0 ys ρ S1 ∧ ∀ i ys ρ S, I i ys ρ S → it.2 S ∧ (i = it.1.length → E.nx ys ρ S) ∧
  ∀ d, it.1[i]? = some d → g d ρ S (fun ρ1 S1 => t (E.lp fun ys2 ρ2 S2 => I (i + 1) ys2 ρ2 S2) ys ρ1 S1) noX) noX
theorem dgn_for {tg iter : Expr} {body : List Stmt} {ti : TID} {g : TGD} (hp : PassesOwn (model X.prog X.w) X.A X.env X.xe) (hc : X.calm = true) (hi : DI X C W tg iter ti) (hg : DG X C W tg g) (hb : DGns X C body t)
    (hs : ∀ x, foldedSetIterable iter X.env x = pure x := by intro _; rfl) : DGn X C (.For tg iter body [] pos) (gFor ti g t) := GS.imp (gs_for hp hc hi hg hb hs) fun De vs σ H q => by
  obtain ⟨F, μ, ρ, S, ys, E, e, s, r, h, k⟩ := q
  refine ⟨F, μ, ρ, S, _, _, e, s, h, fun F1 μ1 H1 J items G S1 x1 s1 it h1 => ?_, fun _ _ _ _ _ _ _ _ _ _ _ z => z.elim⟩
  obtain ⟨I, h0, hI⟩ := h1
  refine ⟨fun i m vs2 σ2 H2 => m = items.length - i ∧ i ≤ items.length ∧ ∃ F2 μ2 ρ2 S2 ys2, Ext F1 μ1 H1 F2 μ2 H2 ∧ EnvR C F2 μ2 σ2 ρ2 ∧ SR C F2 μ2 H2 S2 ∧ Reps C F2 μ2 ys2 vs2 ∧ I i ys2 ρ2 S2, ⟨items.length, by simp, Nat.zero_le _, F1, μ1, ρ, S1, ys, Ext.refl F1 μ1 H1, e.ext x1, s1, r.ext x1, h0⟩, ?_⟩
  rintro i m vs2 σ2 H2 ⟨rfl, hi, F2, μ2, ρ2, S2, ys2, x2, e2, s2, r2, i2⟩
  obtain ⟨hg, hend, hturn⟩ := hI i ys2 ρ2 S2 i2
  by_cases hlt : i < items.length
  · refine .inr ⟨it.go i F2 μ2 H2 S2 hlt x2.f x2.m s2 hg, fun vs3 σ3 H3 => ∃ F3 μ3 ρ3 S3 ys3, Ext F1 μ1 H1 F3 μ3 H3 ∧ EnvR C F3 μ3 σ3 ρ3 ∧ SR C F3 μ3 H3 S3 ∧ Reps C F3 μ3 ys3 vs3 ∧ I (i + 1) ys3 ρ3 S3, fun vs3 σ3 H3 ⟨F3, μ3, ρ3, S3, ys3, x3, e3, s3, r3, i3⟩ => ⟨items.length - (i + 1), by omega, rfl, hlt, F3, μ3, ρ3, S3, ys3, x3, e3, s3, r3, i3⟩, fun x H3 hy => ?_⟩
    obtain ⟨F3, d, x3, s3, hd, r3⟩ := it.yld i F2 μ2 H2 S2 x H3 hlt x2.f x2.m s2 hg hy
    refine ⟨F3, μ2, ρ2, S2, d, _, _, e2.ext x3, s3, r3, hturn d hd, fun F4 μ4 H4 σ4 ρ4 S4 x4 e4 s4 h4 => ?_, fun _ _ _ _ _ _ _ _ _ _ _ z => z.elim⟩
    have k4 := k.ext (((x1.trans x2).trans x3).trans x4)
    have fin : ∀ F5 μ5 H5 σ5 ρ5 S5 ys5 vs5, Ext F4 μ4 H4 F5 μ5 H5 → EnvR C F5 μ5 σ5 ρ5 → SR C F5 μ5 H5 S5 → Reps C F5 μ5 ys5 vs5 → I (i + 1) ys5 ρ5 S5 → ∃ F6 μ6 ρ6 S6 ys6, Ext F1 μ1 H1 F6 μ6 H5 ∧ EnvR C F6 μ6 σ5 ρ6 ∧ SR C F6 μ6 H5 S6 ∧ Reps C F6 μ6 ys6 vs5 ∧ I (i + 1) ys6 ρ6 S6 := fun F5 μ5 H5 σ5 ρ5 S5 ys5 vs5 x5 e5 s5 r5 h5 => ⟨F5, μ5, ρ5, S5, ys5, x2.trans (x3.trans (x4.trans x5)), e5, s5, r5, h5⟩
    exact ⟨F4, μ4, ρ4, S4, ys2, _, e4, s4, r2.ext (x3.trans x4), h4, ⟨fin, k4.rt, k4.nx, fin⟩⟩
  · have ei : i = items.length := by omega
    exact .inl ⟨by rw [ei]; exact it.stop F2 μ2 H2 S2 x2.f x2.m s2 hg, k.nx F2 μ2 H2 σ2 ρ2 S2 ys2 vs2 (x1.trans x2) e2 s2 r2 (hend ei)⟩
end
/-! ### defs -/
/-- what a generator def hands out (no exception) -/
abbrev SpGD := List D → Store → (List D → Store → Prop) → Prop
def liftPG (C : Ct) (sp : SpGD) : SpG := fun vs H Q E => ∃ (F : Hp) (μ : List Addr) (ds : List D) (S : Store) (R : List D → Store → Prop), Reps C F μ ds vs ∧ SR C F μ H S ∧ sp ds S R ∧
  (∀ F' μ' H' ws ys S', Ext F μ H F' μ' H' → SR C F' μ' H' S' → Reps C F' μ' ys ws → R ys S' → Q ws H')
def ArityG (n : Nat) (sp : SpGD) : Prop := ∀ ds S R, sp ds S R → ds.length = n
structure FnG (P : Program) (w : World) (C : Ct) (mg : Str → Option Value) (base : Heap) (k : Nat) (x : Str) (ps : List Str) (sp : SpGD) : Prop where
  ex : ∃ f fd, mg x = some (.ref f) ∧ PySem.W.keepIn C.K (.ref f) = true ∧ Binds C.K fd ps [] ∧ GFn P w C.K mg base k f fd ps (liftPG C sp)
def endsG (S : Store) (R : List D → Store → Prop) : GEndsD where
  nx := fun ys _ S' => R ys S' ∨ ∃ S'', Cut S S' S'' ∧ ownLts S.length ys = true ∧ R ys S''
  rt := fun ys d S' => d = .non ∧ (R ys S' ∨ ∃ S'', Cut S S' S'' ∧ ownLts S.length ys = true ∧ R ys S'')
theorem fnG_of {P : Program} {w : World} {C : Ct} {mg : Str → Option Value} {base : Heap} {k n : Nat} {f : Addr} {fd : FuncData} {x qual : Str} {params : Arguments} {body : List Stmt} {scope : Scope} {N ps : List Str} {sp : SpGD} {t : TGnD}
    (F : FunD C.K x qual params body scope [] [] f fd) (b : Binds C.K fd ps []) (Sc : GScope N ps scope) (hN : ps.length + n = N.length) (ar : ArityG ps.length sp)
    (hbody : ∀ (cdv : Value) (A : Around) (outer : List Env) (s : Shared) (H : Hp) (E : XK) (pn : List (Addr × Obj)), Room k (A.deeper (envOfC qual scope s.heap.objs.size f cdv)) → Takes (gcxOf P w C.K mg base N qual scope f cdv A outer s H E pn) (fun cls d _ H' => E cls d H') →
      PassesOwn (model P w) (gcxOf P w C.K mg base N qual scope f cdv A outer s H E pn).A (gcxOf P w C.K mg base N qual scope f cdv A outer s H E pn).env (gcxOf P w C.K mg base N qual scope f cdv A outer s H E pn).xe →
      DGns (gcxOf P w C.K mg base N qual scope f cdv A outer s H E pn) C body t)
    (pure : ∀ ds S R, sp ds S R → t (endsG S R) [] (startD n ds) S) (gm : mg x = some (.ref f)) : FnG P w C mg base (k + 1) x ps sp := by
  refine ⟨f, fd, gm, F.kp, b, ?_⟩
  obtain ⟨oc, od, dV, kV, doc, pm, an, cdv, ct, osl, rfl, lk, hcd, _, _⟩ := F.ex
  refine gfn_of lk hcd Sc (fun vs H Q E ⟨F1, μ, ds, S, R, r, s, h, _⟩ => by rw [← r.length]; exact ar _ _ _ h) fun A outer s H vs Q E pn hr ⟨F1, μ, ds, S, R, r, s1, h, hR⟩ => ?_
  refine ⟨_, hbody cdv A outer s H E pn hr takes_gcx owns_gcx, F1, μ, startD n ds, S, [], endsG S R, start_env r (by rw [ar _ _ _ h]; exact hN), s1, Reps.nil, pure ds S R h, ?_⟩
  have fin : ∀ {F' μ' H' S'} {ys : List D} {ws : List V}, Ext F1 μ H F' μ' H' → SR C F' μ' H' S' → Reps C F' μ' ys ws → (R ys S' ∨ ∃ S'', Cut S S' S'' ∧ ownLts S.length ys = true ∧ R ys S'') → Q ws H' := fun {F' μ' H' S' ys ws} x s' rs h' => by
    rcases h' with h' | ⟨S2, hc, ho, h'⟩
    · exact hR _ _ _ _ _ _ x s' rs h'
    · obtain ⟨s2, x2⟩ := s1.cut x s' hc
      exact hR _ _ _ _ _ _ x2 s2 (rs.cut x.m (by rw [s1.len]; exact ho)) h'
  refine ⟨fun F' μ' H' σ' ρ' S' ys vs x e' s' rs h' => fin x s' rs h', fun F' μ' H' v d S' ys vs x s' rv rs ⟨hd, h'⟩ => ⟨by subst hd; exact Rep.non_iff.mp rv, fin x s' rs h'⟩, fun _ _ _ _ _ _ _ _ _ _ _ _ z => z.elim, fun _ _ _ _ _ _ _ _ _ _ _ _ z => z.elim⟩
section
variable {X : Cx} {C : Ct} {W : WX} {u : TD (List D)} {x : Str} {p q pos pos2 : Pos}
/-- list(f(e, ..)) -/
def dListG (o : Bool) (sp : SpGD) (u : TD (List D)) : TD D := fun ρ S Q Xc => u ρ S (fun ds S1 => sp ds S1 fun ys S2 => mkL o ys S2 Q) Xc
theorem de_listG (o : Bool) {k j : Nat} {ps : List Str} {sp : SpGD} {a : Expr} {es : List Expr} (hK : X.K = C.K) (F : FnG X.prog X.w C X.mg X.base k x ps sp) (hr : Room j X.A) (hml : X.mg "list" = none) (ha : DA X C W (a :: es) u) (hkj : k + 3 ≤ j := by decide) (hg : Gl X x := by rfl) (hgl : Gl X "list" := by rfl)
    (hdb : (x == ("__debug__" : Str)) = false := by decide) (he : starEach (a :: es) X.env = (false, eval a X.env) :: starEach es X.env := by rfl) (hpl : (backTo pos2 (starEach es X.env)).any (·.1) = false := by rfl)
    (he2 : starEach [.Call (.Name x q) (a :: es) [] pos2] X.env = (false, eval (.Call (.Name x q) (a :: es) [] pos2) X.env) :: starEach [] X.env := by rfl) : DE X C W (.Call (.Name "list" p) [.Call (.Name x q) (a :: es) [] pos2] [] pos) (dListG o sp u) := by
  obtain ⟨f, fd, hm, hk, hb, ok⟩ := F.ex
  rw [← hK] at hk hb ok
  refine PE.imp (pe_listG (E := fun _ _ _ => False) (pgen_call ok (hr.mono (by omega)) hg hm hk hb .nil ha hdb he hpl) (fun pins σ H s e s' I h => by
    obtain ⟨_, _, _, _, _, _, _, _, _, _, _, _, z⟩ := h
    exact z.elim) (fun _ _ _ z => z.elim) (hr.mono hkj) hgl hml (by decide +kernel) (he := he2)) fun σ H Q ⟨F, μ, ρ, S, R, Xc, e, s, h, hR, hX⟩ => ?_
  refine lift_of e s h (fun F1 μ1 H1 vs ds S1 x1 s1 r1 h1 => ?_) hX
  refine ⟨F1, μ1, ds, S1, _, by rw [List.append_nil]; exact r1, s1, h1, fun F2 μ2 H2 ws ys S2 x2 s2 r2 h2 p hp => ?_⟩
  exact mk_lst s2 r2 hp h2 fun F3 μ3 H3 v d S3 x3 s3 r3 h3 => hR F3 μ3 H3 v d S3 (x1.trans (x2.trans x3)) s3 r3 h3
end
/-! steps -/
section
variable {E : GEndsD} {ys : List D} {ρ : DEnv} {S S0 : Store} {t u : TGnD} {J : List D → DEnv → Store → Prop} {d : D}
theorem st_listG {Q : D → Store → Prop} {Xc : XcD} {o : Bool} {sp : SpGD} {u : TD (List D)} (h : u ρ S (fun ds S1 => sp ds S1 fun ys S2 => mkL o ys S2 Q) Xc) : dListG o sp u ρ S Q Xc := h
theorem sg_seq (h : t (E.wn (u E)) ys ρ S) : gnSeq t u E ys ρ S := ⟨u E, h, fun _ _ _ z => z⟩
theorem sg_plain {t : TSD} (h : t (E.at ys) ρ S) : gPlain t E ys ρ S := h
theorem sg_nil (h : E.nx ys ρ S) : gnNil E ys ρ S := h
theorem sg_anx (h : E.nx ys ρ S) : (E.at ys).nx ρ S := h
theorem sg_art (h : E.rt ys d S) : (E.at ys).rt d S := h
theorem sg_wnx (h : J ys ρ S) : (E.wn J).nx ys ρ S := h
theorem sg_lnx (h : J ys ρ S) : (E.lp J).nx ys ρ S := h
theorem sg_yield {ta : TD D} (hl : ys.length < sizeLine) (h : ta ρ S (fun d S1 => E.nx (ys ++ [d]) ρ S1) noX) : gYield ta E ys ρ S := ⟨hl, h⟩
theorem sg_for {ti : TID} {g : TGD} (h : ti ρ S (fun it S1 => ∃ I : Nat → List D → DEnv → Store → Prop, I 0 ys ρ S1 ∧ ∀ i ys ρ S, I i ys ρ S → it.2 S ∧ (i = it.1.length → E.nx ys ρ S) ∧
  ∀ d, it.1[i]? = some d → g d ρ S (fun ρ1 S1 => t (E.lp fun ys2 ρ2 S2 => I (i + 1) ys2 ρ2 S2) ys ρ1 S1) noX) noX) : gFor ti g t E ys ρ S := h
theorem sg_end {R : List D → Store → Prop} (h : R ys S) : (endsG S0 R).nx ys ρ S := .inl h
theorem sg_endC {R : List D → Store → Prop} {S' : Store} (hc : Cut S0 S S') (ho : ownLts S0.length ys = true) (h : R ys S') : (endsG S0 R).nx ys ρ S := .inr ⟨S', hc, ho, h⟩
end
end OD

/-! OJ3: C.m(..) of a staticmethod; isinstance of own instances. -/
namespace OD
open PySem PySem.Spec L2
open PyProof.Rows hiding St
structure SMet (K : PySem.W.Frag) (C : Addr) (mc : Value) (m : Str) (p g : Addr) : Prop where
  at_ : PySem.W.findCls K (.ref C) mc m = some (.get (.builtin "staticmethod.__get__") (.ref p) .none (.ref C))
  rc : ∃ rest, PySem.W.recIn K p "staticmethod" = some (.ref g :: rest)
section
variable {X : Cx} {CX : CXT} {k : Nat} {f p Cc : Addr} {mc : Value} {fd : FuncData} {ps : List Str} {sp : Sp} {E : L2.St → XK} {x m : Str} {q pos apos : Pos} {e : Expr} {es : List Expr} {t : TA}
theorem pe_stat {pl : Sem Bool} (hg : Gl X x) (hm : X.mg x = some (.ref Cc)) (hdb : (x == ("__debug__" : Str)) = false) (r : ClX.CRead X.K Cc mc) (c : SMet X.K Cc mc m p f) (hk : PySem.W.keepIn X.K (.ref f) = true) (F : FnOk X.prog X.w X.K X.mg X.base CX k f fd ps sp) (hr : Room k X.A) (hb : Binds X.K fd ps [])
    (hx : ∀ σ, PassesAt CX X σ (E σ)) (ha : PA X (e :: es) t) (hst : starEach (e :: es) X.env = (false, eval e X.env) :: starEach es X.env) (hpl : (backTo pos (starEach es X.env)).any (·.1) = false)
    (ht : eval (.Call (.Attribute (.Name x q) m apos) (e :: es) [] pos) X.env = (do
      let ov ← eval (.Name x q) X.env
      standAt apos.atName
      let (f1, first) ← holding [ov] (getMethod ov m pl)
      callWith pos f1 first (backTo pos (starEach (e :: es) X.env)) (backToKw pos (keywordEach [] X.env)))) : PE X (.Call (.Attribute (.Name x q) m apos) (e :: es) [] pos) (tCallS sp E t) := by
  refine ⟨fun pins s σ H Q I h => PySem.W.methodCall_KW (pl := pl) (thn ((pe_glob hg hm (v := .ref Cc) rfl hdb).run pins s σ H (fun v H1 => v = .ref Cc ∧ H1 = H) I ⟨rfl, rfl⟩) fun u s1 ⟨y, H1, I1, rx, ey, eH⟩ => ?_) ht⟩
  subst ey; subst eH
  obtain rfl : u = Value.ref Cc := rx
  obtain ⟨rest, hp⟩ := c.rc
  refine PySem.W.method_cls I1.kIn r.ga (PySem.W.cls_bind I1.kIn r.rd c.at_ (wpAny_call (PySem.W.sm_get (s := { s1 with toks := s1.toks + 1 }) I1.kIn hp (PySem.W.handed_on rfl ?_))))
  exact PySem.W.callWith_K (first := []) (h₀ := X.base) I1.ok.mod.kin hk (thn (ha.run pos pins _ σ _ _ (I1.tok _) h) fun us s2 ⟨vs, H2, I2, r2, q2⟩ => ⟨I2.kIn, run_fnS F hr hb (hx σ) I2 r2 q2⟩) hst hpl
end
structure StaD (P : Program) (w : World) (C : Ct) (mg : Str → Option Value) (base : Heap) (k : Nat) (c m : Str) (ps : List Str) (sp : SpD) : Prop where
  ex : mg c = some (.ref (C.ca c)) ∧ ∃ mc p f fd, ClX.CRead C.K (C.ca c) mc ∧ SMet C.K (C.ca c) mc m p f ∧ PySem.W.keepIn C.K (.ref f) = true ∧ Binds C.K fd ps [] ∧ FnOk P w C.K mg base (L2.CX P w) k f fd ps (liftP C sp)
section
variable {X : Cx} {C : Ct} {W : WX} {es : List Expr} {e : Expr} {u : TD (List D)} {q pos apos : Pos} {x m : Str}
theorem de_stat {k j : Nat} {ps : List Str} {sp : SpD} {pl : Sem Bool} (hK : X.K = C.K) (F : StaD X.prog X.w C X.mg X.base k x m ps sp) (hr : Room j X.A) (tk : Takes X W) (ha : DA X C W (e :: es) u) (hkj : k ≤ j := by decide) (hg : Gl X x := by rfl)
    (hdb : (x == ("__debug__" : Str)) = false := by decide) (he : starEach (e :: es) X.env = (false, eval e X.env) :: starEach es X.env := by rfl) (hpl : (backTo pos (starEach es X.env)).any (·.1) = false := by rfl)
    (ht : eval (.Call (.Attribute (.Name x q) m apos) (e :: es) [] pos) X.env = (do
      let ov ← eval (.Name x q) X.env
      standAt apos.atName
      let (f1, first) ← holding [ov] (getMethod ov m pl)
      callWith pos f1 first (backTo pos (starEach (e :: es) X.env)) (backToKw pos (keywordEach [] X.env))) := by rfl) : DE X C W (.Call (.Attribute (.Name x q) m apos) (e :: es) [] pos) (dCall sp u) := by
  obtain ⟨hm, mc, p, f, fd, hr1, hc, hk, hb, ok⟩ := F.ex
  rw [← hK] at hr1 hc hk hb ok
  exact PE.imp (pe_stat hg hm hdb hr1 hc hk ok (hr.mono hkj) hb (fun σ => passAt tk σ) ha he hpl ht) fun σ H Q z => tCallS_of z
/-! isinstance(x, C), x an instance -/
def InsTy (C : Ct) (c : Str) : Prop := Cls C.K (C.ca c) ∧ PySem.W.findIn C.K (.ref (C.ca c)) "__class__" = some (some (.builtin "object.__class__")) ∧ PySem.W.specialIn C.K (.builtin "object.__class__") "__get__" = some (some (.builtin "getset_descriptor.__get__")) ∧
  PySem.W.takesIn C.K (.builtin "object.__class__") = some true ∧ PySem.W.mroIn C.K (C.ca c) (.type "object") = some true
def isoD (C : Ct) (c n : Str) (b : Bool) : Prop := InsTy C c ∧ PySem.W.kitOne C.K (.ref (C.ca c)) (.ref (C.ca n)) = some b
class HasIso (C : Ct) (c n : Str) (b : outParam Bool) : Prop where
  ok : isoD C c n b
def pIsiO (C : Ct) : PN := fun ds S Q => ∃ x n c fs b, ds = [x, .cls n] ∧ insD x S = some (c, fs) ∧ isoD C c n b ∧ Q (.bl b) S
theorem pIsiO_ok (hK : X.K = C.K) : PrimN C (fun xs H Q => rIsi X.K xs H Q) (pIsiO C) := fun F μ H S xs ds R Q s rs ⟨x, n, c, fs, b, e, hi, ⟨⟨T1, T2, T3, T4, T5⟩, hk⟩, h⟩ hR => by
  subst e
  obtain ⟨v1, r, rfl, r1, r9⟩ := Reps.cons_iff.mp rs
  obtain ⟨v2, r, rfl, r4, r3⟩ := Reps.cons_iff.mp r9
  rw [Reps.nil_iff] at r3; subst r3
  obtain ⟨a, dx, gs, rfl, ea, rf⟩ := insD_of s r1 hi
  rw [Rep.cls_iff.mp r4, hK]
  exact ⟨_, _, _, _, b, rfl, .own _, .base (.ins ea T1 T2 T3 T4 T5), hk, hR F μ H _ _ S (Ext.refl F μ H) s (Rep.bl_iff.mpr rfl) h⟩
theorem de_isiO (hK : X.K = C.K) (hm : X.mg "isinstance" = none) (ha : DA X C W (e :: es) u) (hg : Gl X "isinstance" := by rfl) (he : starEach (e :: es) X.env = (false, eval e X.env) :: starEach es X.env := by rfl) (hpl : (backTo pos (starEach es X.env)).any (·.1) = false := by rfl) : DE X C W (.Call (.Name "isinstance" q) (e :: es) [] pos) (dCB (pIsiO C) u) :=
  de_callB call_isi (pIsiO_ok hK) hm ha (hg := hg) (he := he) (hpl := hpl) (hv := by decide +kernel)
end
section
variable {C : Ct} {S : Store} {Q : D → Store → Prop} {c n : Str} {fs : List (Str × D)} {b : Bool}
theorem st_iso [h : HasIso C c n b] (hq : Q (.bl b) S) : pIsiO C [.obj c fs, .cls n] S Q := ⟨_, n, c, fs, b, rfl, rfl, h.ok, hq⟩
theorem st_isoW [h : HasIso C c n b] {k : Nat} (hk : S[k]? = some (.ins c fs)) (hq : Q (.bl b) S) : pIsiO C [.own k, .cls n] S Q := ⟨_, n, c, fs, b, rfl, by simp only [insD, hk], h.ok, hq⟩
end
/-! checks at the head -/
open He
def staB (K : PySem.W.Frag) (c m : Str) : Bool := PySem.W.readsIn K (ga K c) (.type "type") && (eqO (PySem.W.specialIn K (.ref (ga K c)) "__getattribute__") (some (some (.builtin "type.__getattribute__"))) && He5.wrapB K (ga K c) "staticmethod" "staticmethod.__get__" m)
theorem FnA.stat {P : Program} {w : World} {K : PySem.W.Frag} {mg : Str → Option Value} {base : Heap} {k : Nat} {c m : Str} {ps : List Str} {sp : SpD} (F : FnA P w ⟨K, ga K⟩ mg base k (He5.wf K (ga K c) "staticmethod" m) ps sp) (hm : mg c = some (.ref (ga K c))) (h : staB K c m = true) : StaD P w ⟨K, ga K⟩ mg base k c m ps sp := by
  obtain ⟨fd, h2, h3, h4⟩ := F.ex
  obtain ⟨h1, h⟩ := ba h
  obtain ⟨h5, h6⟩ := ba h
  obtain ⟨h7, h8⟩ := He5.wrapB_ok h6
  exact ⟨hm, _, _, _, fd, ⟨h1, eqO_ok h5⟩, ⟨h7, h8⟩, h2, h3, h4⟩
def isoB (K : PySem.W.Frag) (c n : Str) (b : Bool) : Bool := (Fa.cls c).ok K && (eqO (PySem.W.findIn K (.ref (ga K c)) "__class__") (some (some (.builtin "object.__class__"))) && (eqO (PySem.W.specialIn K (.builtin "object.__class__") "__get__") (some (some (.builtin "getset_descriptor.__get__"))) &&
  (decide (PySem.W.takesIn K (.builtin "object.__class__") = some true) && (decide (PySem.W.mroIn K (ga K c) (.type "object") = some true) && decide (PySem.W.kitOne K (.ref (ga K c)) (.ref (ga K n)) = some b)))))
theorem isoB_ok {K : PySem.W.Frag} {c n : Str} {b : Bool} (h : isoB K c n b = true) : isoD ⟨K, ga K⟩ c n b := by
  obtain ⟨h1, h⟩ := ba h
  obtain ⟨h2, h⟩ := ba h
  obtain ⟨h3, h⟩ := ba h
  obtain ⟨h4, h⟩ := ba h
  obtain ⟨h5, h6⟩ := ba h
  exact ⟨⟨cls_ok h1, eqO_ok h2, eqO_ok h3, of_decide_eq_true h4, of_decide_eq_true h5⟩, of_decide_eq_true h6⟩
/-! isinstance(e, T), e an own exception -/
def isxD (C : Ct) (c : Str) (n : String) (b : Bool) : Prop := ExF C.K (C.ca c) ∧ PySem.W.kitOne C.K (.ref (C.ca c)) (.type n) = some b
class HasIsx (C : Ct) (c : Str) (n : String) (b : outParam Bool) : Prop where
  ok : isxD C c n b
theorem st_isx {C : Ct} {S : Store} {Q : D → Store → Prop} {c : Str} {n : String} {fs : List (Str × D)} {b : Bool} [h : HasIsx C c n b] (hq : Q (.bl b) S) : pIsi C [.exc c fs, .ty n] S Q := st_isi_cty h.ok.1 h.ok.2 hq
def isxB (K : PySem.W.Frag) (c : Str) (n : String) (b : Bool) : Bool := exfB K (ga K c) && decide (PySem.W.kitOne K (.ref (ga K c)) (.type n) = some b)
theorem isxB_ok {K : PySem.W.Frag} {c : Str} {n : String} {b : Bool} (h : isxB K c n b = true) : isxD ⟨K, ga K⟩ c n b := by
  obtain ⟨h1, h2⟩ := ba h
  exact ⟨exfB_ok h1, of_decide_eq_true h2⟩
end OD

/-! OM4: mornings of a led depot one by one; rows joined. -/
namespace Led
/-! ### rows joined -/
def addRow (js : List (Int × List Int)) (p : Int × List Int) : List (Int × List Int) := match js.getLast? with
  | some l => if l.2 = p.2 then js.set (js.length - 1) (l.1 + p.1, p.2) else js ++ [p]
  | none => js ++ [p]
def joinRows (ps : List (Int × List Int)) : List (Int × List Int) := ps.foldl addRow []
theorem addRow_nil {p : Int × List Int} : addRow [] p = [p] := rfl
theorem addRow_snoc {js : List (Int × List Int)} {l p : Int × List Int} : addRow (js ++ [l]) p = if l.2 = p.2 then js ++ [(l.1 + p.1, p.2)] else js ++ [l] ++ [p] := by
  unfold addRow
  rw [List.getLast?_append]
  simp only [List.getLast?_singleton, Option.some_or]
  split
  · rw [List.length_append, List.length_singleton, Nat.add_sub_cancel, List.set_append_right _ _ (Nat.le_refl _), Nat.sub_self]; rfl
  · rfl
theorem join_snoc {ps : List (Int × List Int)} {p : Int × List Int} : joinRows (ps ++ [p]) = addRow (joinRows ps) p := by
  unfold joinRows; rw [List.foldl_append]; rfl
theorem addRow_len {js : List (Int × List Int)} {p : Int × List Int} : (addRow js p).length ≤ js.length + 1 := by
  rcases List.eq_nil_or_concat js with rfl | ⟨ks, l, rfl⟩
  · simp [addRow_nil]
  · rw [List.concat_eq_append, addRow_snoc]; split <;> simp
theorem addRow_sum {js : List (Int × List Int)} {p : Int × List Int} : ((addRow js p).map (·.1)).sum = (js.map (·.1)).sum + p.1 := by
  rcases List.eq_nil_or_concat js with rfl | ⟨ks, l, rfl⟩
  · simp [addRow_nil]
  · rw [List.concat_eq_append, addRow_snoc]; split <;> simp <;> omega
theorem fold_len : ∀ (ps js : List (Int × List Int)), (ps.foldl addRow js).length ≤ js.length + ps.length
  | [], js => by simp
  | p :: ps, js => by
    rw [List.foldl_cons]
    have := fold_len ps (addRow js p)
    have := addRow_len (js := js) (p := p)
    simp; omega
theorem join_len {ps : List (Int × List Int)} : (joinRows ps).length ≤ ps.length := by
  have := fold_len ps []
  simpa [joinRows] using this
theorem fold_sum : ∀ (ps js : List (Int × List Int)), ((ps.foldl addRow js).map (·.1)).sum = (js.map (·.1)).sum + (ps.map (·.1)).sum
  | [], js => by simp
  | p :: ps, js => by
    rw [List.foldl_cons, fold_sum ps, addRow_sum]
    simp; omega
theorem join_sum {ps : List (Int × List Int)} : ((joinRows ps).map (·.1)).sum = (ps.map (·.1)).sum := by
  have := fold_sum ps []
  simpa [joinRows] using this
/-- ascending driver numbers -/
structure Asc (r : List Int) : Prop where
  inc : r.Pairwise (· < ·)
  rng : ∀ i ∈ r, 0 ≤ i ∧ i ≤ 11
theorem addRow_mem {js : List (Int × List Int)} {p x : Int × List Int} (h : x ∈ addRow js p) : x ∈ js ∨ x.2 = p.2 := by
  rcases List.eq_nil_or_concat js with rfl | ⟨ks, l, rfl⟩
  · rw [addRow_nil] at h; simp at h; exact .inr (by rw [h])
  · rw [List.concat_eq_append] at h ⊢
    rw [addRow_snoc] at h
    split at h
    · rcases List.mem_append.mp h with h | h
      · exact .inl (List.mem_append_left _ h)
      · simp at h; exact .inr (by rw [h])
    · rcases List.mem_append.mp h with h | h
      · exact .inl h
      · simp at h; exact .inr (by rw [h])
theorem fold_mem {x : Int × List Int} : ∀ (ps js : List (Int × List Int)), x ∈ ps.foldl addRow js → x ∈ js ∨ ∃ p ∈ ps, x.2 = p.2
  | [], js, h => .inl h
  | p :: ps, js, h => by
    rw [List.foldl_cons] at h
    rcases fold_mem ps _ h with h | ⟨r, hr, e⟩
    · rcases addRow_mem h with h | h
      · exact .inl h
      · exact .inr ⟨p, List.mem_cons_self, h⟩
    · exact .inr ⟨r, List.mem_cons_of_mem _ hr, e⟩
theorem join_mem {ps : List (Int × List Int)} {x : Int × List Int} (h : x ∈ joinRows ps) : ∃ p ∈ ps, x.2 = p.2 := by
  rcases fold_mem ps [] h with h | h
  · cases h
  · exact h
/-- stretches that are a book -/
structure Strs (ps : List (Int × List Int)) : Prop where
  len : ps.length ≤ 400
  ok : ∀ p ∈ ps, 1 ≤ p.1 ∧ Asc p.2
  sum : (ps.map (·.1)).sum ≤ 1000000000000000000000000000000
/-! ### morning by morning -/
def dayRow (rows : List (List Int)) (t : Nat) : List Int := rows.getD (t % rows.length) []
def mst (m q : Int) (rows : List (List Int)) (fs : List Int) : Nat → List Int
  | 0 => fs
  | t + 1 => beh m (crew q (dayRow rows t) (mst m q rows fs t)) (mst m q rows fs t)
def mcr (m q : Int) (rows : List (List Int)) (fs : List Int) (t : Nat) : List Int := isort (crew q (dayRow rows t) (mst m q rows fs t))
def led (m q : Int) (rows : List (List Int)) (fs : List Int) (n : Nat) : List (Int × List Int) := (List.range n).map fun t => (1, mcr m q rows fs t)
section
variable {m q : Int} {rows : List (List Int)} {fs : List Int}
theorem led_succ {n : Nat} : led m q rows fs (n + 1) = led m q rows fs n ++ [(1, mcr m q rows fs n)] := by
  unfold led; rw [List.range_succ, List.map_append]; rfl
theorem Good.pos (G : Good m q rows fs) : 0 < rows.length := by
  have := G.len; have := G.stand.m1; omega
theorem dayRow_at (G : Good m q rows fs) (t : Nat) : rows[t % rows.length]? = some (dayRow rows t) := by
  have h := Nat.mod_lt t G.pos
  unfold dayRow
  rw [List.getD_eq_getElem?_getD, List.getElem?_eq_getElem h]; rfl
theorem dayRow_order (G : Good m q rows fs) (t : Nat) : Order fs.length (dayRow rows t) := G.ord _ (List.mem_of_getElem? (dayRow_at G t))
theorem mst_facts (G : Good m q rows fs) : ∀ t, (mst m q rows fs t).length = fs.length ∧ Stand m q (mst m q rows fs t)
  | 0 => ⟨rfl, G.stand⟩
  | t + 1 => by
    obtain ⟨h1, h2⟩ := mst_facts G t
    refine ⟨?_, ?_⟩
    · show (beh _ _ _).length = _
      rw [beh_length, h1]
    · exact Stand.next (dayRow_order G t) h1 h2
theorem isort_lt {l : List Int} (nd : l.Nodup) : (isort l).Pairwise (· < ·) := by
  have h1 := isort_sorted l
  have h2 : (isort l).Nodup := (isort_perm l).nodup_iff.mpr nd
  have := List.Pairwise.and h1 h2
  exact this.imp fun {a b} h => by have := h.1; have := h.2; omega
theorem mcr_asc (G : Good m q rows fs) (h : fs.length ≤ 12) (t : Nat) : Asc (mcr m q rows fs t) := by
  have o := dayRow_order G t
  refine ⟨isort_lt (crew_nodup o), fun i hi => ?_⟩
  have := o.rng i (crew_sub (isort_mem.mp hi)).1
  omega
theorem led_len {n : Nat} : (led m q rows fs n).length = n := by simp [led]
theorem led_sum {n : Nat} : ((led m q rows fs n).map (·.1)).sum = n := by
  induction n with
  | zero => rfl
  | succ n ih => rw [led_succ, List.map_append, List.sum_append, ih]; simp
theorem led_strs (G : Good m q rows fs) (h : fs.length ≤ 12) {n : Nat} (hn : n ≤ 400) : Strs (led m q rows fs n) := by
  refine ⟨by rw [led_len]; exact hn, fun p hp => ?_, by rw [led_sum]; omega⟩
  obtain ⟨t, _, rfl⟩ := List.mem_map.mp hp
  exact ⟨Int.le_refl _, mcr_asc G h t⟩
end
end Led

/-! OH4: rows of pairs (number, tuple of ints): last entries, ==. -/
namespace OD
open PySem PySem.Spec L2
open PyProof.Rows hiding St
def strD (p : Int × List Int) : D := .tup [.int p.1, .tup (p.2.map D.int)]
def pairPy (p : Int × List Int) : PyData := .tuple [.int p.1, .tuple (p.2.map .int)]
theorem ownLts_pairs {n : Nat} (ps : List (Int × List Int)) : ownLts n (ps.map strD) = true := ownLts_map (fun p => by simp only [strD, ownLt, ownLts, ownLts_ints, Bool.and_self]) ps
section
variable {C : Ct} {S : Store} {Q : D → Store → Prop} {k : Nat} {js : List (Int × List Int)}
theorem pairs_W {rd : Nat → Option PyData} (ps : List (Int × List Int)) : toPysW rd (ps.map strD) = some (ps.map pairPy) := toPysW_map ps fun p _ => by simp [strD, pairPy, toPyW, toPysW, toPysW_ints]
theorem top_pairsO (e : S[k]? = some (.lst (js.map strD))) : topPy S (.own k) = some (.list (js.map pairPy)) := by
  simp only [topPy, toPyW, rdPy, e, pairs_W]; rfl
theorem top_pairs : topPy S (.lst (js.map strD)) = some (.list (js.map pairPy)) := by simp [topPy, toPyW, pairs_W]
theorem top_pairsT : topPy S (.tup (js.map strD)) = some (.tuple (js.map pairPy)) := by simp [topPy, toPyW, pairs_W]
theorem eqv_pair (a b : Int × List Int) : PyData.eqv (pairPy a) (pairPy b) = decide (a = b) := by
  simp only [pairPy, PyData.eqv, PyData.eqvAll, eqv_int]
  have e := eqv_intsT a.2 b.2
  simp only [PyData.eqv] at e
  rw [e]
  obtain ⟨a1, a2⟩ := a; obtain ⟨b1, b2⟩ := b
  by_cases h1 : a1 = b1 <;> by_cases h2 : a2 = b2 <;> simp [h1, h2]
theorem pair_lay (p : Int × List Int) : PyData.canLay0 (pairPy p) = true := by
  simp only [pairPy, PyData.canLay0, PyData.canLayAll0, Bool.and_true, Bool.true_and]
  exact canLayAll_map _ fun _ _ => by simp [PyData.canLay0]
theorem pair_depth (p : Int × List Int) : PyData.depth (pairPy p) ≤ 2 := by
  simp only [pairPy, PyData.depth, PyData.depthAll]
  have := depthAll_map (f := PyData.int) (k := 0) p.2 fun _ _ => by simp [PyData.depth]
  omega
theorem shaped_pairs (js : List (Int × List Int)) : SeqAt.shaped (.list (js.map pairPy)) = true := by
  have h1 : PyData.canLay0 (.list (js.map pairPy)) = true := by
    simp only [PyData.canLay0]; exact canLayAll_map _ fun p _ => pair_lay p
  have h2 : PyData.depth (.list (js.map pairPy)) ≤ 64 := by
    simp only [PyData.depth]
    have := depthAll_map (f := pairPy) (k := 2) js fun p _ => pair_depth p
    omega
  unfold SeqAt.shaped
  rw [h1, decide_eq_true h2]; rfl
theorem shaped_pairsT (js : List (Int × List Int)) : SeqAt.shaped (.tuple (js.map pairPy)) = true := by
  have h1 : PyData.canLay0 (.tuple (js.map pairPy)) = true := by
    simp only [PyData.canLay0]; exact canLayAll_map _ fun p _ => pair_lay p
  have h2 : PyData.depth (.tuple (js.map pairPy)) ≤ 64 := by
    simp only [PyData.depth]
    have := depthAll_map (f := pairPy) (k := 2) js fun p _ => pair_depth p
    omega
  unfold SeqAt.shaped
  rw [h1, decide_eq_true h2]; rfl
theorem eqv_pairs (as bs : List (Int × List Int)) : PyData.eqv (.list (as.map pairPy)) (.list (bs.map pairPy)) = decide (as = bs) := by
  simp only [PyData.eqv]; exact eqvAll_map eqv_pair as bs
theorem eqv_pairsT (as bs : List (Int × List Int)) : PyData.eqv (.tuple (as.map pairPy)) (.tuple (bs.map pairPy)) = decide (as = bs) := by
  simp only [PyData.eqv]; exact eqvAll_map eqv_pair as bs
/-- rows != [] -/
theorem st_pairs0 {g : Bool → Bool} (e : S[k]? = some (.lst (js.map strD))) (h : Q (.bl (g (decide (js = [])))) S) : pEqG g (.own k) (.lst []) S Q :=
  st_eqP (top_pairsO e) (top_pairs (js := [])) (shaped_pairs js) (shaped_pairs []) (by rw [eqv_pairs]; exact h)
theorem st_eqTP {g : Bool → Bool} {as bs : List (Int × List Int)} (h : Q (.bl (g (decide (as = bs)))) S) : pEqG g (.tup (as.map strD)) (.tup (bs.map strD)) S Q :=
  st_eqP top_pairsT top_pairsT (shaped_pairsT as) (shaped_pairsT bs) (by rw [eqv_pairsT]; exact h)
end
theorem ixN_last {n : Nat} : ixN (n + 1) (-1) = some n := by
  unfold ixN
  rw [if_neg (by omega), if_pos (by omega)]
  congr 1; omega
theorem atI_last {ds : List D} {d : D} : atI (ds ++ [d]) (-1) = some d := by
  unfold atI
  rw [List.length_append, List.length_singleton, ixN_last]
  simp
theorem set_last {α : Type} {js : List α} {l p : α} : (js ++ [l]).set js.length p = js ++ [p] := by
  rw [List.set_append_right _ _ (Nat.le_refl _), Nat.sub_self]; rfl
theorem seq_app {S L : Store} {d : D} {ds : List D} (h : seqD d S = some ds) : seqD d (S ++ L) = some ds := by
  cases d <;> try exact h
  rename_i j
  simp only [seqD] at h ⊢
  split at h
  · rename_i e; rw [get_front e]; exact h
  · cases h
end OD

namespace K
open PySem PySem.Spec L2 OD
open PyProof.Rows hiding St
def top (i : Nat) : Stmt := PySem.Challenge.pw_outagain_k73_led_books.main.body.getD i (.Pass ⟨0, 0, 0, 0⟩)
def IsPool (c : Cell) : Prop := ∃ (ns : List Int) (a b e d : Int), c = .lst [.int a, .int b, .int e, .int d, .lst (ns.map D.int)] ∧ 0 ≤ a ∧ 0 ≤ b ∧ b < 2147483647 ∧ 0 ≤ d
def Pool (S : Store) (k : Nat) : Prop := ∃ c, S[k]? = some c ∧ IsPool c
def sp_law_take : SpD := fun ds S Q X => match ds with
  | [.own k, .int m] => Pool S k ∧ 0 < m ∧ m < 2 ^ 200 ∧ ∀ r c, 0 ≤ r → r < m → IsPool c → Q (.int r) (S.set k c)
  | _ => False
theorem ar_law_take : Arity 2 sp_law_take := fun ds S R Xc h => by
  unfold sp_law_take at h; split at h <;> first | rfl | exact h.elim
theorem to_take {S : Store} {Q : D → Store → Prop} {X : XcD} {k : Nat} {m : Int} (hp : Pool S k) (h1 : 0 < m) (h2 : m < 2 ^ 200) (h : ∀ r c, 0 ≤ r → r < m → IsPool c → Q (.int r) (S.set k c)) : sp_law_take [.own k, .int m] S Q X := ⟨hp, h1, h2, h⟩
def sp_law_number : SpD := fun ds S Q X => match ds with
  | [.int n] => Q (.bl true) S
  | _ => False
theorem ar_law_number : Arity 1 sp_law_number := fun ds S R Xc h => by
  unfold sp_law_number at h; split at h <;> first | rfl | exact h.elim
theorem to_number {S : Store} {Q : D → Store → Prop} {X : XcD} {n : Int} (h : Q (.bl true) S) : sp_law_number [.int n] S Q X := h
def sp_law_pool : SpD := fun ds S Q X => ∃ ns : List Int, ds = [.scr ns] ∧ ∀ c, IsPool c → Q (.own S.length) (S ++ [c])
theorem ar_law_pool : Arity 1 sp_law_pool := fun ds S R Xc h => by
  obtain ⟨_, rfl, _⟩ := h; rfl
theorem to_pool {S : Store} {Q : D → Store → Prop} {X : XcD} {ns : List Int} (h : ∀ c, IsPool c → Q (.own S.length) (S ++ [c])) : sp_law_pool [.scr ns] S Q X := ⟨ns, rfl, h⟩
theorem Pool.last {S : Store} {c : Cell} (h : IsPool c) : Pool (S ++ [c]) S.length := ⟨c, by simp, h⟩
theorem Pool.set {S : Store} {k : Nat} {c : Cell} (h : Pool S k) (hc : IsPool c) : Pool (S.set k c) k := by
  obtain ⟨c0, e, _⟩ := h
  exact ⟨c, get_set e, hc⟩
theorem Pool.app {S L : Store} {k : Nat} (h : Pool S k) : Pool (S ++ L) k := by
  obtain ⟨c0, e, h⟩ := h
  exact ⟨c0, get_front e, h⟩
theorem Pool.other {S : Store} {k j : Nat} {c : Cell} (h : Pool S k) (hj : j ≠ k) : Pool (S.set j c) k := by
  obtain ⟨c0, e, h⟩ := h
  exact ⟨c0, by rw [List.getElem?_set_ne hj]; exact e, h⟩
/-! the law's own sameness: by depth -/
def flatD : D → Bool
  | .int _ => true
  | .str _ => true
  | .non => true
  | .bl _ => true
  | _ => false
/-- of so little depth, without cells -/
def depD : Nat → D → Bool
  | 0, d => flatD d
  | n + 1, .tup ds => ds.all (depD n) && decide (ds.length ≤ 1000000)
  | n + 1, .lst ds => ds.all (depD n) && decide (ds.length ≤ 1000000)
  | _ + 1, d => flatD d
/-- what a value is read as: a list's cell as the list -/
def rdD (S : Store) : D → D
  | .own k => match S[k]? with
    | some (.lst ds) => .lst ds
    | _ => .own k
  | d => d
def sp_sameN : Nat → SpD
  | 0 => fun _ _ _ _ => False
  | n + 1 => fun ds S Q X => ∃ x y v, ds = [x, y] ∧ rdD S x = v ∧ rdD S y = v ∧ depD n v = true ∧ Q (.bl true) S
theorem ar_sameN {n : Nat} : Arity 2 (sp_sameN n) := fun ds S R Xc h => by
  cases n with
  | zero => exact h.elim
  | succ n => obtain ⟨x, y, v, rfl, _⟩ := h; rfl
abbrev sp_same0 : SpD := sp_sameN 0
abbrev sp_same1 : SpD := sp_sameN 1
abbrev sp_same2 : SpD := sp_sameN 2
abbrev sp_same3 : SpD := sp_sameN 3
abbrev sp_same4 : SpD := sp_sameN 4
theorem ar_law_same_1 : Arity 2 sp_same1 := ar_sameN
theorem ar_law_same_2 : Arity 2 sp_same2 := ar_sameN
theorem ar_law_same_3 : Arity 2 sp_same3 := ar_sameN
theorem ar_law_same_4 : Arity 2 sp_same4 := ar_sameN
theorem to_same {n : Nat} {S : Store} {Q : D → Store → Prop} {X : XcD} {x y v : D} (hx : rdD S x = v) (hy : rdD S y = v) (hd : depD n v = true) (h : Q (.bl true) S) : sp_sameN (n + 1) [x, y] S Q X := ⟨x, y, v, rfl, hx, hy, hd, h⟩
def IntsD (S : Store) (d : D) (ns : List Int) : Prop := seqD d S = some (ns.map D.int)
def RowsD (S : Store) (d : D) (rows : List (List Int)) : Prop := ∃ ps : List (D × List Int), seqD d S = some (ps.map (·.1)) ∧ rows = ps.map (·.2) ∧ ∀ p ∈ ps, IntsD S p.1 p.2
structure Plan (m q : Int) (fs : List Int) : Prop where
  m8 : m ≤ 8
  n12 : fs.length ≤ 12
  stand : Led.Stand m q fs
theorem Plan.qn {m q : Int} {fs : List Int} (P : Plan m q fs) : q ≤ fs.length := Int.le_trans P.stand.ones (Int.ofNat_le.mpr List.count_le_length)
theorem Plan.n1 {m q : Int} {fs : List Int} (P : Plan m q fs) : 1 ≤ fs.length := by
  have := P.qn
  have := P.stand.q1
  omega
def planD (m q : Int) (fs : List Int) : D := .lst [.int m, .int q, .lst (fs.map D.int)]
def depotF (m q : Int) (fs : List Int) : List (Str × D) := [("period", .int m), ("quota", .int q), ("firsts", .tup (fs.map D.int))]
abbrev depotD (m q : Int) (fs : List Int) : D := .obj "Depot" [("period", .int m), ("quota", .int q), ("firsts", .tup (fs.map D.int))]
def sp_check_numbers : SpD := fun ds S Q X => ∃ m q : Int, ds = [.int m, .int q] ∧ 1 ≤ m ∧ m ≤ 8 ∧ 1 ≤ q ∧ q ≤ 12 ∧ Q .non S
theorem ar_check_numbers : Arity 2 sp_check_numbers := fun ds S R Xc h => by
  obtain ⟨m, q, rfl, _⟩ := h; rfl
def sp_check_firsts : SpD := fun ds S Q X => ∃ (m q : Int) (fs : List Int) (fd : D), ds = [.int m, .int q, fd] ∧ IntsD S fd fs ∧ Plan m q fs ∧ Q .non S
theorem ar_check_firsts : Arity 3 sp_check_firsts := fun ds S R Xc h => by
  obtain ⟨m, q, fs, fd, rfl, _⟩ := h; rfl
def sp_Depot___init__ : SpD := fun ds S Q X => ∃ (k : Nat) (m q : Int) (fs : List Int) (fd : D), ds = [.own k, .int m, .int q, fd] ∧ S[k]? = some (.ins "Depot" []) ∧ IntsD S fd fs ∧ Plan m q fs ∧ Q .non (S.set k (.ins "Depot" (depotF m q fs)))
theorem ar_Depot___init__ : Arity 4 sp_Depot___init__ := fun ds S R Xc h => by
  obtain ⟨k, m, q, fs, fd, rfl, _⟩ := h; rfl
def sp_Depot_size : SpD := fun ds S Q X => ∃ (m q : Int) (fs : List Int), ds = [depotD m q fs] ∧ Q (.int fs.length) S
theorem ar_Depot_size : Arity 1 sp_Depot_size := fun ds S R Xc h => by
  obtain ⟨m, q, fs, rfl, _⟩ := h; rfl
theorem to_size {S : Store} {Q : D → Store → Prop} {X : XcD} {m q : Int} {fs : List Int} (h : Q (.int fs.length) S) : sp_Depot_size [depotD m q fs] S Q X := ⟨m, q, fs, rfl, h⟩
/-- Depot(m, q, firsts), frozen -/
theorem to_depot {S : Store} {Q : D → Store → Prop} {X : XcD} {m q : Int} {fs : List Int} {fd : D} (hf : IntsD (S ++ [.ins "Depot" []]) fd fs) (P : Plan m q fs) (h : Q (depotD m q fs) (S ++ [.gone])) :
    sp_Depot___init__ [.own S.length, .int m, .int q, fd] (S ++ [.ins "Depot" []]) (fun v S2 => v = .non ∧ ∃ d' S', frzD (.own S.length) S2 = some (d', S') ∧ Q d' S') X := by
  refine ⟨S.length, m, q, fs, fd, rfl, by simp, hf, P, rfl, depotD m q fs, S ++ [.gone], ?_, h⟩
  have e : (S ++ [Cell.ins "Depot" []]).set S.length (.ins "Depot" (depotF m q fs)) = S ++ [.ins "Depot" (depotF m q fs)] := by simp
  rw [e]
  simp [frzD, depotF]
def sp_law_depot : SpD := fun ds S Q X => ∃ (k : Nat) (nd np : Int), ds = [.own k, .int nd, .int np] ∧ Pool S k ∧ 1 ≤ nd ∧ nd ≤ 12 ∧ 1 ≤ np ∧ np ≤ 8 ∧ ∀ m q fs c, Plan m q fs → (fs.length : Int) ≤ nd → m ≤ np → IsPool c → Q (planD m q fs) (S.set k c)
theorem ar_law_depot : Arity 3 sp_law_depot := fun ds S R Xc h => by
  obtain ⟨k, nd, np, rfl, _⟩ := h; rfl
theorem to_plan {S : Store} {Q : D → Store → Prop} {X : XcD} {k : Nat} {nd np : Int} (hp : Pool S k) (h1 : 1 ≤ nd) (h2 : nd ≤ 12) (h3 : 1 ≤ np) (h4 : np ≤ 8) (h : ∀ m q fs c, Plan m q fs → (fs.length : Int) ≤ nd → m ≤ np → IsPool c → Q (planD m q fs) (S.set k c)) : sp_law_depot [.own k, .int nd, .int np] S Q X := ⟨k, nd, np, rfl, hp, h1, h2, h3, h4, h⟩
/-- next mornings behind a stretch, by the law -/
def goneI (cr : List Int) (span start m : Int) (us : List Int) : List Int := us.mapIdx fun i u => if (i : Int) ∈ cr then start + span else if u < start + span then u + m * ((start + span - u + m - 1) / m) else u
def sp_law_gone : SpD := fun ds S Q X => ∃ (us cr : List Int) (ud cd : D) (span start m : Int), ds = [ud, cd, .int span, .int start, .int m] ∧ IntsD S ud us ∧ IntsD S cd cr ∧ us.length ≤ 100 ∧ 1 ≤ m ∧ m ≤ 100 ∧ Q (.lst ((goneI cr span start m us).map D.int)) S
theorem ar_law_gone : Arity 5 sp_law_gone := fun ds S R Xc h => by
  obtain ⟨us, cr, ud, cd, span, start, m, rfl, _⟩ := h; rfl
def isOrderB (n : Nat) (row : List Int) : Bool := decide (row.length = n) && (decide row.Nodup && row.all fun i => decide (0 ≤ i) && decide (i < n))
theorem isOrderB_iff {n : Nat} {row : List Int} : isOrderB n row = true ↔ Led.Order n row := by
  unfold isOrderB
  simp only [Bool.and_eq_true, decide_eq_true_eq, List.all_eq_true]
  exact ⟨fun h => ⟨h.1, h.2.1, h.2.2⟩, fun h => ⟨h.len, h.nd, h.rng⟩⟩
def ledRef (m : Int) (n : Nat) : Option (Str × Int) := if 6 < n then some ("drivers", (n : Int)) else if 6 < m then some ("period", m) else none
def listsRef (m : Int) (n : Nat) (rows : List (List Int)) : Option (Str × Int) := if (rows.length : Int) ≠ m then some ("length", (rows.length : Int)) else (rows.findIdx? fun r => !isOrderB n r).map fun (i : Nat) => ("order", (i : Int) + 1)
def ref (m : Int) (n : Nat) (rows : List (List Int)) : Option (Str × Str × Int) := match ledRef m n with
  | some (c, a) => some ("OutOfRange", c, a)
  | none => (listsRef m n rows).map fun p => ("BadLists", p.1, p.2)
def sp_is_between : SpD := fun ds S Q X => ∃ v a b : Int, ds = [.int v, .int a, .int b] ∧ Q (.bl (decide (a ≤ v ∧ v ≤ b))) S
theorem ar_is_between : Arity 3 sp_is_between := fun ds S R Xc h => by
  obtain ⟨v, a, b, rfl, _⟩ := h; rfl
theorem to_between {S : Store} {Q : D → Store → Prop} {X : XcD} {v a b : Int} (h : Q (.bl (decide (a ≤ v ∧ v ≤ b))) S) : sp_is_between [.int v, .int a, .int b] S Q X := ⟨v, a, b, rfl, h⟩
def sp_is_order : SpD := fun ds S Q X => ∃ (rd : D) (row : List Int) (n : Nat), ds = [rd, .int n] ∧ IntsD S rd row ∧ n ≤ 12 ∧ Q (.bl (isOrderB n row)) S
theorem ar_is_order : Arity 2 sp_is_order := fun ds S R Xc h => by
  obtain ⟨rd, row, n, rfl, _⟩ := h; rfl
theorem to_order {S : Store} {Q : D → Store → Prop} {X : XcD} {rd : D} {row : List Int} {n : Nat} (h1 : IntsD S rd row) (h2 : n ≤ 12) (h : Q (.bl (isOrderB n row)) S) : sp_is_order [rd, .int n] S Q X := ⟨rd, row, n, rfl, h1, h2, h⟩
def errF (c : Str) (a : Int) : List (Str × D) := [("code", .str c), ("at", .int a)]
def sp_check_led : SpD := fun ds S Q X => ∃ (m q : Int) (fs : List Int), ds = [depotD m q fs] ∧ (∀ c a, ledRef m fs.length = some (c, a) → X "OutOfRange" [("code", .str c), ("at", .int a)] S) ∧ (ledRef m fs.length = none → Q .non S)
theorem ar_check_led : Arity 1 sp_check_led := fun ds S R Xc h => by
  obtain ⟨m, q, fs, rfl, _⟩ := h; rfl
def sp_check_lists : SpD := fun ds S Q X => ∃ (m q : Int) (fs : List Int) (ld : D) (rows : List (List Int)), ds = [depotD m q fs, ld] ∧ fs.length ≤ 12 ∧ RowsD S ld rows ∧
  (∀ c a, listsRef m fs.length rows = some (c, a) → X "BadLists" [("code", .str c), ("at", .int a)] S) ∧ (listsRef m fs.length rows = none → Q .non S)
theorem ar_check_lists : Arity 2 sp_check_lists := fun ds S R Xc h => by
  obtain ⟨m, q, fs, ld, rows, rfl, _⟩ := h; rfl
def tupI (ns : List Int) : D := .tup (ns.map D.int)
def sp_led_morning : SpD := fun ds S Q X => ∃ (m q : Int) (fs ws row : List Int) (rd : D), ds = [depotD m q fs, rd, .tup (ws.map D.int)] ∧ IntsD S rd row ∧ Led.Order ws.length row ∧ ws.length ≤ 12 ∧ 0 ≤ q ∧
  Q (.tup [.tup ((Led.isort (Led.crew q row ws)).map D.int), .tup ((Led.beh m (Led.crew q row ws) ws).map D.int)]) S
theorem ar_led_morning : Arity 3 sp_led_morning := fun ds S R Xc h => by
  obtain ⟨m, q, fs, ws, row, rd, rfl, _⟩ := h; rfl
theorem to_morning {S : Store} {Q : D → Store → Prop} {X : XcD} {m q : Int} {fs ws row : List Int} {rd : D} (h1 : IntsD S rd row) (h2 : Led.Order ws.length row) (h3 : ws.length ≤ 12) (h4 : 0 ≤ q)
    (h : Q (.tup [.tup ((Led.isort (Led.crew q row ws)).map D.int), .tup ((Led.beh m (Led.crew q row ws) ws).map D.int)]) S) : sp_led_morning [depotD m q fs, rd, .tup (ws.map D.int)] S Q X := ⟨m, q, fs, ws, row, rd, rfl, h1, h2, h3, h4, h⟩
def sp_led_round : SpD := fun ds S Q X => ∃ (m q : Int) (fs ws : List Int) (rows : List (List Int)), ds = [depotD m q fs, .lst (rows.map tupI), .tup (ws.map D.int)] ∧ (∀ r ∈ rows, Led.Order fs.length r) ∧ ws.length = fs.length ∧ fs.length ≤ 12 ∧ 0 ≤ q ∧
  Q (.tup [.lst ((Led.round m q rows (List.replicate fs.length 0, ws)).1.map D.int), .tup ((Led.round m q rows (List.replicate fs.length 0, ws)).2.map D.int)]) S
theorem ar_led_round : Arity 3 sp_led_round := fun ds S R Xc h => by
  obtain ⟨m, q, fs, ws, rows, rfl, _⟩ := h; rfl
theorem to_round {S : Store} {Q : D → Store → Prop} {X : XcD} {m q : Int} {fs ws : List Int} {rows : List (List Int)} (h1 : ∀ r ∈ rows, Led.Order fs.length r) (h2 : ws.length = fs.length) (h3 : fs.length ≤ 12) (h4 : 0 ≤ q)
    (h : Q (.tup [.lst ((Led.round m q rows (List.replicate fs.length 0, ws)).1.map D.int), .tup ((Led.round m q rows (List.replicate fs.length 0, ws)).2.map D.int)]) S) : sp_led_round [depotD m q fs, .lst (rows.map tupI), .tup (ws.map D.int)] S Q X := ⟨m, q, fs, ws, rows, rfl, h1, h2, h3, h4, h⟩
def sp_Tour___init__ : SpD := fun ds S Q X => ∃ (k : Nat) (m q : Int) (fs : List Int) (ld : D) (rows : List (List Int)), ds = [.own k, depotD m q fs, ld] ∧ S[k]? = some (.ins "Tour" []) ∧ RowsD S ld rows ∧ Led.Good m q rows fs ∧ fs.length ≤ 6 ∧ m ≤ 8 ∧
  ∀ (b l : Nat) g fs' Z, Led.Tour m q rows fs b l g → fs'.lookup ("before" : Str) = some (.int b) → fs'.lookup ("length" : Str) = some (.int l) → fs'.lookup ("gains" : Str) = some (.tup (g.map D.int)) → Q .non (S.set k (.ins "Tour" fs') ++ Z)
theorem ar_Tour___init__ : Arity 3 sp_Tour___init__ := fun ds S R Xc h => by
  obtain ⟨k, m, q, fs, ld, rows, rfl, _⟩ := h; rfl
def sp_law_lists : SpD := fun ds S Q X => ∃ (k : Nat) (m q : Int) (fs : List Int), ds = [.own k, planD m q fs] ∧ Pool S k ∧ 1 ≤ m ∧ m ≤ 8 ∧ fs.length ≤ 12 ∧ ∀ (rows : List (List Int)) c, (rows.length : Int) = m → (∀ r ∈ rows, Led.Order fs.length r) → IsPool c → Q (.lst (rows.map fun r => .lst (r.map D.int))) (S.set k c)
theorem ar_law_lists : Arity 2 sp_law_lists := fun ds S R Xc h => by
  obtain ⟨k, m, q, fs, rfl, _⟩ := h; rfl
theorem to_lists {S : Store} {Q : D → Store → Prop} {X : XcD} {k : Nat} {m q : Int} {fs : List Int} (hp : Pool S k) (h1 : 1 ≤ m) (h2 : m ≤ 8) (h3 : fs.length ≤ 12) (h : ∀ (rows : List (List Int)) c, (rows.length : Int) = m → (∀ r ∈ rows, Led.Order fs.length r) → IsPool c → Q (.lst (rows.map fun r => .lst (r.map D.int))) (S.set k c)) : sp_law_lists [.own k, planD m q fs] S Q X := ⟨k, m, q, fs, rfl, hp, h1, h2, h3, h⟩
def bookF (ps : List (Int × List Int)) : List (Str × D) := [("stretches", .tup ((Led.joinRows ps).map strD)), ("days", .int (ps.map (·.1)).sum)]
abbrev bookD (ps : List (Int × List Int)) : D := .obj "Book" [("stretches", .tup ((Led.joinRows ps).map strD)), ("days", .int (ps.map (·.1)).sum)]
def sp_check_runners : SpD := fun ds S Q X => ∃ (i : Int) (r : List Int) (rd : D), ds = [.int i, rd] ∧ IntsD S rd r ∧ Led.Asc r ∧ Q .non S
theorem ar_check_runners : Arity 2 sp_check_runners := fun ds S R Xc h => by
  obtain ⟨i, r, rd, rfl, _⟩ := h; rfl
def sp_checked_stretches : SpD := fun ds S Q X => ∃ (ps : List (Int × List Int)) (d : D), ds = [d] ∧ seqD d S = some (ps.map strD) ∧ Led.Strs ps ∧ Q (.lst (ps.map strD)) S
theorem ar_checked_stretches : Arity 1 sp_checked_stretches := fun ds S R Xc h => by
  obtain ⟨ps, d, rfl, _⟩ := h; rfl
def sp_join_rows : SpD := fun ds S Q X => ∃ (ps : List (Int × List Int)) (d : D), ds = [d] ∧ seqD d S = some (ps.map strD) ∧ ps.length ≤ 1000 ∧ Q (.lst ((Led.joinRows ps).map strD)) S
theorem ar_join_rows : Arity 1 sp_join_rows := fun ds S R Xc h => by
  obtain ⟨ps, d, rfl, _⟩ := h; rfl
def sp_Book___init__ : SpD := fun ds S Q X => ∃ (k : Nat) (ps : List (Int × List Int)) (d : D), ds = [.own k, d] ∧ S[k]? = some (.ins "Book" []) ∧ seqD d S = some (ps.map strD) ∧ Led.Strs ps ∧ Q .non (S.set k (.ins "Book" (bookF ps)))
theorem ar_Book___init__ : Arity 2 sp_Book___init__ := fun ds S R Xc h => by
  obtain ⟨k, ps, d, rfl, _⟩ := h; rfl
def sp_check_days : SpD := fun ds S Q X => ∃ n : Int, ds = [.int n] ∧ (¬ (0 ≤ n ∧ n ≤ 1000000000000000000000000000000) → X "OutOfRange" [("code", .str "days"), ("at", .int n)] S) ∧ (0 ≤ n → n ≤ 1000000000000000000000000000000 → Q .non S)
theorem ar_check_days : Arity 1 sp_check_days := fun ds S R Xc h => by
  obtain ⟨n, rfl, _⟩ := h; rfl
theorem to_book {S : Store} {Q : D → Store → Prop} {X : XcD} {ps : List (Int × List Int)} {d : D} (hd : seqD d (S ++ [.ins "Book" []]) = some (ps.map strD)) (P : Led.Strs ps) (h : Q (bookD ps) (S ++ [.gone])) :
    sp_Book___init__ [.own S.length, d] (S ++ [.ins "Book" []]) (fun v S2 => v = .non ∧ ∃ d' S', frzD (.own S.length) S2 = some (d', S') ∧ Q d' S') X := by
  refine ⟨S.length, ps, d, rfl, by simp, hd, P, rfl, bookD ps, S ++ [.gone], ?_, h⟩
  have e : (S ++ [Cell.ins "Book" []]).set S.length (.ins "Book" (bookF ps)) = S ++ [.ins "Book" (bookF ps)] := by simp
  rw [e]
  simp [frzD, bookF]
def sp_Book_of_rows : SpD := fun ds S Q X => ∃ (rs : List (List Int)) (d : D), ds = [d] ∧ seqD d S = some (rs.map tupI) ∧ Led.Strs (rs.map fun r => (1, r)) ∧ Q (bookD (rs.map fun r => (1, r))) S
theorem ar_Book_of_rows : Arity 1 sp_Book_of_rows := fun ds S R Xc h => by
  obtain ⟨rs, d, rfl, _⟩ := h; rfl
def sp_led_runners : SpGD := fun ds S R => ∃ (m q : Int) (fs : List Int) (ld : D) (rows : List (List Int)) (n : Nat), ds = [depotD m q fs, ld, .int n] ∧ RowsD S ld rows ∧ Led.Good m q rows fs ∧ fs.length ≤ 12 ∧ n ≤ 400 ∧ R ((List.range n).map fun t => tupI (Led.mcr m q rows fs t)) S
theorem ar_led_runners : ArityG 3 sp_led_runners := fun ds S R h => by
  obtain ⟨m, q, fs, ld, rows, n, rfl, _⟩ := h; rfl
/-- what is refused: the size of the depot, the lists, the days -/
def ref3 (m : Int) (n : Nat) (rows : List (List Int)) (span : Int) : Option (Str × Str × Int) := match ref m n rows with
  | some p => some p
  | none => if span < 0 ∨ 400 < span then some ("OutOfRange", "days", span) else none
def sp_lead : SpD := fun ds S Q X => ∃ (m q : Int) (fs : List Int) (ld : D) (rows : List (List Int)) (span : Int), ds = [depotD m q fs, ld, .int span] ∧ Plan m q fs ∧ RowsD S ld rows ∧
  (∀ x c a, ref3 m fs.length rows span = some (x, c, a) → X x [("code", .str c), ("at", .int a)] S) ∧ (ref3 m fs.length rows span = none → Q (bookD (Led.led m q rows fs span.toNat)) S)
theorem ar_lead : Arity 3 sp_lead := fun ds S R Xc h => by
  obtain ⟨m, q, fs, ld, rows, span, rfl, _⟩ := h; rfl
def refD (x c : Str) (a : Int) : D := .tup [.str "refused", .str x, .int a, .str c]
def sp_law_ask : SpD := fun ds S Q X => ∃ (m q : Int) (fs : List Int) (ld : D) (rows : List (List Int)) (span : Int), ds = [planD m q fs, ld, .int span] ∧ Plan m q fs ∧ RowsD S ld rows ∧
  (∀ x c a, ref3 m fs.length rows span = some (x, c, a) → Q (refD x c a) S) ∧ (ref3 m fs.length rows span = none → Q (bookD (Led.led m q rows fs span.toNat)) S)
theorem ar_law_ask : Arity 3 sp_law_ask := fun ds S R Xc h => by
  obtain ⟨m, q, fs, ld, rows, span, rfl, _⟩ := h; rfl
def sp_law_by_base : SpD := fun ds S Q X => ∃ (m q : Int) (fs : List Int) (ld : D) (rows : List (List Int)) (span : Int), ds = [planD m q fs, ld, .int span] ∧ Plan m q fs ∧ RowsD S ld rows ∧ (ref3 m fs.length rows span).isSome = true ∧ Q (.bl true) S
theorem ar_law_by_base : Arity 3 sp_law_by_base := fun ds S R Xc h => by
  obtain ⟨m, q, fs, ld, rows, span, rfl, _⟩ := h; rfl
def sp_law_is_book : SpD := fun ds S Q X => ∃ (ps js : List (Int × List Int)) (n : Int), ds = [bookD ps, .tup (js.map strD), .int n] ∧ js = Led.joinRows ps ∧ n = (ps.map (·.1)).sum ∧ Led.Strs ps ∧ Q (.bl true) S
theorem ar_law_is_book : Arity 3 sp_law_is_book := fun ds S R Xc h => by
  obtain ⟨ps, js, n, rfl, _⟩ := h; rfl
def sp_law_led : SpD := fun ds S Q X => ∃ (m q : Int) (fs : List Int) (ld : D) (rows : List (List Int)) (n : Nat), ds = [planD m q fs, ld, .int n] ∧ Plan m q fs ∧ RowsD S ld rows ∧ Led.Good m q rows fs ∧ n ≤ 400 ∧ Q (.tup ((Led.joinRows (Led.led m q rows fs n)).map strD)) S
theorem ar_law_led : Arity 3 sp_law_led := fun ds S R Xc h => by
  obtain ⟨m, q, fs, ld, rows, n, rfl, _⟩ := h; rfl
/-- entries that are lists -/
def RowsLd (S : Store) (d : D) (rows : List (List Int)) : Prop := ∃ ps : List (D × List Int), seqD d S = some (ps.map (·.1)) ∧ rows = ps.map (·.2) ∧ ∀ p ∈ ps, seqL p.1 S = some (p.2.map D.int)
def sp_law_refused : SpD := fun ds S Q X => ∃ (m q : Int) (fs : List Int) (ld : D) (rows : List (List Int)) (span : Int), ds = [planD m q fs, ld, .int span] ∧ Plan m q fs ∧ RowsLd S ld rows ∧ rows.length ≤ 1000 ∧
  (∀ x c a, ref3 m fs.length rows span = some (x, c, a) → Q (refD x c a) S) ∧ (ref3 m fs.length rows span = none → Q (.tup []) S)
theorem ar_law_refused : Arity 3 sp_law_refused := fun ds S R Xc h => by
  obtain ⟨m, q, fs, ld, rows, span, rfl, _⟩ := h; rfl
def sp_law_bent_lists : SpD := fun ds S Q X => ∃ (k : Nat) (m q : Int) (fs : List Int) (rows : List (List Int)), ds = [.own k, planD m q fs, .lst (rows.map fun r => .lst (r.map D.int))] ∧ Pool S k ∧ Plan m q fs ∧ (rows.length : Int) = m ∧ (∀ r ∈ rows, Led.Order fs.length r) ∧
  ∀ c T j rows', IsPool c → RowsLd (S.set k c ++ T) (.own j) rows' → rows'.length ≤ 1000 → Q (.own j) (S.set k c ++ T)
theorem ar_law_bent_lists : Arity 3 sp_law_bent_lists := fun ds S R Xc h => by
  obtain ⟨k, m, q, fs, rows, rfl, _⟩ := h; rfl
def sp_law : SpD := fun ds S Q X => ∃ ns : List Int, ds = [.scr ns] ∧ Q (.bl true) S
theorem ar_law : Arity 1 sp_law := fun ds S R Xc h => by
  obtain ⟨ns, rfl, _⟩ := h; rfl
class LawF (C : Ct) : Prop where
  f_Book_days : FldOk C "Book" "days"
  f_Book_stretches : FldOk C "Book" "stretches"
  f_Depot_firsts : FldOk C "Depot" "firsts"
  f_Depot_period : FldOk C "Depot" "period"
  f_Depot_quota : FldOk C "Depot" "quota"
  e_BadLists_BadLists : exmD C "BadLists" "BadLists" true
  e_BadLists_OutOfRange : exmD C "BadLists" "OutOfRange" false
  e_BadLists_OutagainError : exmD C "BadLists" "OutagainError" true
  e_OutOfRange_BadLists : exmD C "OutOfRange" "BadLists" false
  e_OutOfRange_OutOfRange : exmD C "OutOfRange" "OutOfRange" true
  e_OutOfRange_OutagainError : exmD C "OutOfRange" "OutagainError" true
  x_BadLists_at : XfD C "BadLists" "at"
  x_BadLists_code : XfD C "BadLists" "code"
  x_OutOfRange_at : XfD C "OutOfRange" "at"
  x_OutOfRange_code : XfD C "OutOfRange" "code"
  o_Book_Book : isoD C "Book" "Book" true
  o_Depot_Book : isoD C "Depot" "Book" false
  v_BadLists_ValueError : isxD C "BadLists" "ValueError" true
  v_OutOfRange_ValueError : isxD C "OutOfRange" "ValueError" true
instance {C : Ct} [LawF C] : HasFld C "Book" "days" := ⟨LawF.f_Book_days⟩
instance {C : Ct} [LawF C] : HasFld C "Book" "stretches" := ⟨LawF.f_Book_stretches⟩
instance {C : Ct} [LawF C] : HasFld C "Depot" "firsts" := ⟨LawF.f_Depot_firsts⟩
instance {C : Ct} [LawF C] : HasFld C "Depot" "period" := ⟨LawF.f_Depot_period⟩
instance {C : Ct} [LawF C] : HasFld C "Depot" "quota" := ⟨LawF.f_Depot_quota⟩
instance {C : Ct} [LawF C] : HasExm C "BadLists" "BadLists" true := ⟨LawF.e_BadLists_BadLists⟩
instance {C : Ct} [LawF C] : HasExm C "BadLists" "OutOfRange" false := ⟨LawF.e_BadLists_OutOfRange⟩
instance {C : Ct} [LawF C] : HasExm C "BadLists" "OutagainError" true := ⟨LawF.e_BadLists_OutagainError⟩
instance {C : Ct} [LawF C] : HasExm C "OutOfRange" "BadLists" false := ⟨LawF.e_OutOfRange_BadLists⟩
instance {C : Ct} [LawF C] : HasExm C "OutOfRange" "OutOfRange" true := ⟨LawF.e_OutOfRange_OutOfRange⟩
instance {C : Ct} [LawF C] : HasExm C "OutOfRange" "OutagainError" true := ⟨LawF.e_OutOfRange_OutagainError⟩
instance {C : Ct} [LawF C] : HasXf C "BadLists" "at" := ⟨LawF.x_BadLists_at⟩
instance {C : Ct} [LawF C] : HasXf C "BadLists" "code" := ⟨LawF.x_BadLists_code⟩
instance {C : Ct} [LawF C] : HasXf C "OutOfRange" "at" := ⟨LawF.x_OutOfRange_at⟩
instance {C : Ct} [LawF C] : HasXf C "OutOfRange" "code" := ⟨LawF.x_OutOfRange_code⟩
instance {C : Ct} [LawF C] : HasIso C "Book" "Book" true := ⟨LawF.o_Book_Book⟩
instance {C : Ct} [LawF C] : HasIso C "Depot" "Book" false := ⟨LawF.o_Depot_Book⟩
instance {C : Ct} [LawF C] : HasIsx C "BadLists" "ValueError" true := ⟨LawF.v_BadLists_ValueError⟩
instance {C : Ct} [LawF C] : HasIsx C "OutOfRange" "ValueError" true := ⟨LawF.v_OutOfRange_ValueError⟩
abbrev s_check_firsts : Stmt := top 36
def r_check_firsts (C : Ct) : TSD :=
  (dSeq (dIf (dNot (dB (dChain pLe pLe (dC (.int 1)) (dCB pLen (dCons (dVar 2) dNil)) (dC (.int 12)))))
  (dRaise2 "BadDepot" "at" "code" (dCons (dCB pLen (dCons (dVar 2) dNil)) (dCons (dC (.str "drivers")) dNil)))
  dNext)
  (dSeq (dAsg (dC (.int 0)) (gN 3))
  (dSeq (dFor (iRange1 (dCB pLen (dCons (dVar 2) dNil))) (gN 4)
  (dSeq (dIf (dNot (dB (dChain pLe pLe (dC (.int 1)) (dOp pIx (dVar 2) (dVar 4)) (dVar 0))))
  (dRaise2 "BadDepot" "at" "code" (dCons (dVar 4) (dCons (dC (.str "first")) dNil)))
  dNext)
  (dIf (dB (dOp pEq (dOp pIx (dVar 2) (dVar 4)) (dC (.int 1))))
  (dAug 3 (dC (.int 1)) (pIp fun i j => i + j))
  dNext)))
  (dIf (dB (dOp pLt (dVar 3) (dVar 1)))
  (dRaise2 "BadDepot" "at" "code" (dCons (dVar 3) (dCons (dC (.str "ones")) dNil)))
  dNext))))
theorem sc_check_firsts : FnScope ["period", "quota", "firsts", "ones", "driver"] ["period", "quota", "firsts"] (defScope s_check_firsts) := ⟨rfl, rfl, rfl, by decide +kernel, rfl, by decide +kernel, by decide +kernel⟩
abbrev s_check_numbers : Stmt := top 35
def r_check_numbers (C : Ct) : TSD :=
  (dSeq (dIf (dNot (dB (dChain pLe pLe (dC (.int 1)) (dVar 0) (dC (.int 8)))))
  (dRaise2 "BadDepot" "at" "code" (dCons (dVar 0) (dCons (dC (.str "period")) dNil)))
  dNext)
  (dIf (dNot (dB (dChain pLe pLe (dC (.int 1)) (dVar 1) (dC (.int 12)))))
  (dRaise2 "BadDepot" "at" "code" (dCons (dVar 1) (dCons (dC (.str "quota")) dNil)))
  dNext))
theorem sc_check_numbers : FnScope ["period", "quota"] ["period", "quota"] (defScope s_check_numbers) := ⟨rfl, rfl, rfl, by decide +kernel, rfl, by decide +kernel, by decide +kernel⟩
abbrev s_Depot___init__ : Stmt := inClass (top 37) 2
def r_Depot___init__ (C : Ct) : TSD :=
  (dSeq (dDrop (dCall sp_check_numbers (dCons (dVar 1) (dCons (dVar 2) dNil))))
  (dSeq (dDrop (dCall sp_check_firsts (dCons (dVar 1) (dCons (dVar 2) (dCons (dVar 3) dNil)))))
  (dSeq (dSetF C "period" (dVar 0) (dVar 1))
  (dSeq (dSetF C "quota" (dVar 0) (dVar 2))
  (dSetF C "firsts" (dVar 0) (dCB pTuple (dCons (dVar 3) dNil)))))))
theorem sc_Depot___init__ : FnScope ["self", "period", "quota", "firsts"] ["self", "period", "quota", "firsts"] (defScope s_Depot___init__) := ⟨rfl, rfl, rfl, by decide +kernel, rfl, by decide +kernel, by decide +kernel⟩
abbrev s_check_runners : Stmt := top 16
def r_check_runners (C : Ct) : TSD :=
  (dSeq (dAsg (dC (.int 0)) (gN 2))
  (dFor (iSeq (dVar 1)) (gN 3)
  (dSeq (dIf (dNot (dB (dChain pLe pLe (dVar 2) (dVar 3) (dC (.int 11)))))
  dNever
  dNext)
  (dAsg (dOp (pAdd false) (dVar 3) (dC (.int 1))) (gN 2)))))
theorem sc_check_runners : FnScope ["index", "runners", "least", "runner"] ["index", "runners"] (defScope s_check_runners) := ⟨rfl, rfl, rfl, by decide +kernel, rfl, by decide +kernel, by decide +kernel⟩
abbrev s_checked_stretches : Stmt := top 17
def r_checked_stretches (C : Ct) : TSD :=
  (dSeq (dIf (dB (dOp pGt (dCB pLen (dCons (dVar 0) dNil)) (dC (.int 400))))
  dNever
  dNext)
  (dSeq (dAsg (dLst true dNil) (gN 1))
  (dSeq (dAsg (dC (.int 0)) (gN 2))
  (dSeq (dFor (iRange1 (dCB pLen (dCons (dVar 0) dNil))) (gN 3)
  (dSeq (dAsg (dOp pIx (dVar 0) (dVar 3)) (gT 2 (gCons (gN 4) (gCons (gN 5) gNil))))
  (dSeq (dIf (dNot (dB (dChain pLe pLe (dC (.int 1)) (dVar 4) (dC (.int 1000000000000000000000000000000)))))
  dNever
  dNext)
  (dSeq (dDrop (dCall sp_check_runners (dCons (dVar 3) (dCons (dVar 5) dNil))))
  (dSeq (dAsg (dOp (pAdd false) (dVar 2) (dVar 4)) (gN 2))
  (dSeq (dIf (dB (dOp pGt (dVar 2) (dC (.int 1000000000000000000000000000000))))
  dNever
  dNext)
  (dDrop (dBM isLst pAppend (dVar 1) (dCons (dTup (dCons (dVar 4) (dCons (dCB pTuple (dCons (dVar 5) dNil)) dNil))) dNil)))))))))
  (dRet (dFrz (dVar 1)))))))
theorem sc_checked_stretches : FnScope ["stretches", "rows", "total", "index", "days", "runners"] ["stretches"] (defScope s_checked_stretches) := ⟨rfl, rfl, rfl, by decide +kernel, rfl, by decide +kernel, by decide +kernel⟩
abbrev s_join_rows : Stmt := top 11
def r_join_rows (C : Ct) : TSD :=
  (dSeq (dAsg (dLst true dNil) (gN 1))
  (dSeq (dFor (iSeq (dVar 0)) (gT 2 (gCons (gN 2) (gCons (gN 3) gNil)))
  (dIf (dAnd (dB (dOp pNe (dVar 1) (dLst false dNil))) (dB (dOp pEq (dOp pIx (dOp pIx (dVar 1) (dUn pNeg (dC (.int 1)))) (dC (.int 1))) (dVar 3))))
  (dAsg (dTup (dCons (dOp (pAdd false) (dOp pIx (dOp pIx (dVar 1) (dUn pNeg (dC (.int 1)))) (dC (.int 0))) (dVar 2)) (dCons (dVar 3) dNil))) (gS (dVar 1) (dUn pNeg (dC (.int 1)))))
  (dDrop (dBM isLst pAppend (dVar 1) (dCons (dTup (dCons (dVar 2) (dCons (dVar 3) dNil))) dNil)))))
  (dRet (dFrz (dVar 1)))))
theorem sc_join_rows : FnScope ["rows", "joined", "number", "group"] ["rows"] (defScope s_join_rows) := ⟨rfl, rfl, rfl, by decide +kernel, rfl, by decide +kernel, by decide +kernel⟩
abbrev s_Book___init__ : Stmt := inClass (top 18) 0
def r_Book___init__ (C : Ct) : TSD :=
  (dSeq (dAsg (dCall sp_join_rows (dCons (dCall sp_checked_stretches (dCons (dVar 1) dNil)) dNil)) (gN 2))
  (dSeq (dSetF C "stretches" (dVar 0) (dCB pTuple (dCons (dVar 2) dNil)))
  (dSetF C "days" (dVar 0) (dCB pSum (dCons (dLc false (iSeq (dVar 2)) (g1 3) dYes (dOp pIx (dVar 3) (dC (.int 0))) [3]) dNil)))))
theorem sc_Book___init__ : FnScope ["self", "stretches", "rows", "row"] ["self", "stretches"] (defScope s_Book___init__) := ⟨rfl, rfl, rfl, by decide +kernel, rfl, by decide +kernel, by decide +kernel⟩
abbrev s_Book_of_rows : Stmt := inClass (top 18) 9
def r_Book_of_rows (C : Ct) : TSD :=
  (dRet (dFrz (dMake "Book" sp_Book___init__ (dCons (dLc false (iSeq (dVar 0)) (g1 1) dYes (dTup (dCons (dC (.int 1)) (dCons (dVar 1) dNil))) [1]) dNil))))
theorem sc_Book_of_rows : FnScope ["rows", "runners"] ["rows"] (defScope s_Book_of_rows) := ⟨rfl, rfl, rfl, by decide +kernel, rfl, by decide +kernel, by decide +kernel⟩
abbrev s_check_days : Stmt := top 9
def r_check_days (C : Ct) : TSD :=
  (dIf (dNot (dB (dChain pLe pLe (dC (.int 0)) (dVar 0) (dC (.int 1000000000000000000000000000000)))))
  (dRaise2 "OutOfRange" "at" "code" (dCons (dVar 0) (dCons (dC (.str "days")) dNil)))
  dNext)
theorem sc_check_days : FnScope ["days"] ["days"] (defScope s_check_days) := ⟨rfl, rfl, rfl, by decide +kernel, rfl, by decide +kernel, by decide +kernel⟩
abbrev s_Depot_size : Stmt := inClass (top 37) 4
def r_Depot_size (C : Ct) : TSD :=
  (dRet (dCB pLen (dCons (dFld C "firsts" (dVar 0)) dNil)))
theorem sc_Depot_size : FnScope ["self"] ["self"] (defScope s_Depot_size) := ⟨rfl, rfl, rfl, by decide +kernel, rfl, by decide +kernel, by decide +kernel⟩
abbrev s_check_led : Stmt := top 24
def r_check_led (C : Ct) : TSD :=
  (dSeq (dIf (dB (dOp pGt (dProp "Depot" sp_Depot_size (dVar 0)) (dC (.int 6))))
  (dRaise2 "OutOfRange" "at" "code" (dCons (dProp "Depot" sp_Depot_size (dVar 0)) (dCons (dC (.str "drivers")) dNil)))
  dNext)
  (dIf (dB (dOp pGt (dFld C "period" (dVar 0)) (dC (.int 6))))
  (dRaise2 "OutOfRange" "at" "code" (dCons (dFld C "period" (dVar 0)) (dCons (dC (.str "period")) dNil)))
  dNext))
theorem sc_check_led : FnScope ["depot"] ["depot"] (defScope s_check_led) := ⟨rfl, rfl, rfl, by decide +kernel, rfl, by decide +kernel, by decide +kernel⟩
abbrev s_is_between : Stmt := top 20
def r_is_between (C : Ct) : TSD :=
  (dSeq (dIf (dOr (dTru truD (dCB (pIsi C) (dCons (dVar 0) (dCons (dC (.ty "bool")) dNil)))) (dNot (dTru truD (dCB (pIsi C) (dCons (dVar 0) (dCons (dC (.ty "int")) dNil))))))
  (dRet (dC (.bl false)))
  dNext)
  (dRet (dChain pLe pLe (dVar 1) (dVar 0) (dVar 2))))
theorem sc_is_between : FnScope ["value", "least", "most"] ["value", "least", "most"] (defScope s_is_between) := ⟨rfl, rfl, rfl, by decide +kernel, rfl, by decide +kernel, by decide +kernel⟩
abbrev s_is_order : Stmt := top 25
def r_is_order (C : Ct) : TSD :=
  (dSeq (dAsg (dOp (pMul true) (dLst false (dCons (dC (.bl false)) dNil)) (dVar 1)) (gN 2))
  (dSeq (dFor (iSeq (dVar 0)) (gN 3)
  (dSeq (dIf (dOr (dNot (dTru truD (dCall sp_is_between (dCons (dVar 3) (dCons (dC (.int 0)) (dCons (dOp pSub (dVar 1) (dC (.int 1))) dNil)))))) (dTru truD (dOp pIx (dVar 2) (dVar 3))))
  (dRet (dC (.bl false)))
  dNext)
  (dAsg (dC (.bl true)) (gS (dVar 2) (dVar 3)))))
  (dRet (dOp pEq (dCB pLen (dCons (dVar 0) dNil)) (dVar 1)))))
theorem sc_is_order : FnScope ["row", "size", "named", "driver"] ["row", "size"] (defScope s_is_order) := ⟨rfl, rfl, rfl, by decide +kernel, rfl, by decide +kernel, by decide +kernel⟩
abbrev s_check_lists : Stmt := top 26
def r_check_lists (C : Ct) : TSD :=
  (dSeq (dIf (dB (dOp pNe (dCB pLen (dCons (dVar 1) dNil)) (dFld C "period" (dVar 0))))
  (dRaise2 "BadLists" "at" "code" (dCons (dCB pLen (dCons (dVar 1) dNil)) (dCons (dC (.str "length")) dNil)))
  dNext)
  (dFor (iEnum (dVar 1)) (gT 2 (gCons (gN 2) (gCons (gN 3) gNil)))
  (dIf (dNot (dTru truD (dCall sp_is_order (dCons (dVar 3) (dCons (dProp "Depot" sp_Depot_size (dVar 0)) dNil)))))
  (dRaise2 "BadLists" "at" "code" (dCons (dOp (pAdd false) (dVar 2) (dC (.int 1))) (dCons (dC (.str "order")) dNil)))
  dNext)))
theorem sc_check_lists : FnScope ["depot", "rows", "index", "row"] ["depot", "rows"] (defScope s_check_lists) := ⟨rfl, rfl, rfl, by decide +kernel, rfl, by decide +kernel, by decide +kernel⟩
abbrev s_led_morning : Stmt := top 28
def r_led_morning (C : Ct) : TSD :=
  (dSeq (dAsg (dLc false (iSeq (dVar 1)) (g1 6) (dB (dOp pEq (dOp pIx (dVar 2) (dVar 6)) (dC (.int 1)))) (dVar 6) [6]) (gN 3))
  (dSeq (dAsg (dCB (pSorted false) (dCons (dSl false (dVar 3) dNoP (dPart (dFld C "quota" (dVar 0)))) dNil)) (gN 4))
  (dSeq (dAsg (dLst true dNil) (gN 5))
  (dSeq (dFor (iEnum (dVar 2)) (gT 2 (gCons (gN 6) (gCons (gN 7) gNil)))
  (dIf (dB (dOp pGt (dVar 7) (dC (.int 1))))
  (dDrop (dBM isLst pAppend (dVar 5) (dCons (dOp pSub (dVar 7) (dC (.int 1))) dNil)))
  (dIf (dB (dOp pIn (dVar 6) (dVar 4)))
  (dDrop (dBM isLst pAppend (dVar 5) (dCons (dC (.int 1)) dNil)))
  (dDrop (dBM isLst pAppend (dVar 5) (dCons (dFld C "period" (dVar 0)) dNil))))))
  (dRet (dTup (dCons (dCB pTuple (dCons (dVar 4) dNil)) (dCons (dCB pTuple (dCons (dVar 5) dNil)) dNil))))))))
theorem sc_led_morning : FnScope ["depot", "row", "firsts", "reporting", "runners", "behind", "driver", "first"] ["depot", "row", "firsts"] (defScope s_led_morning) := ⟨rfl, rfl, rfl, by decide +kernel, rfl, by decide +kernel, by decide +kernel⟩
abbrev s_led_runners : Stmt := top 29
def r_led_runners (C : Ct) : TGnD :=
  (gnSeq (gPlain (dAsg (dFld C "firsts" (dVar 0)) (gN 3)))
  (gFor (iRange1 (dVar 2)) (gN 4)
  (gnSeq (gPlain (dAsg (dCall sp_led_morning (dCons (dVar 0) (dCons (dOp pIx (dVar 1) (dOp pMod (dVar 4) (dFld C "period" (dVar 0)))) (dCons (dVar 3) dNil)))) (gT 2 (gCons (gN 5) (gCons (gN 3) gNil)))))
  (gYield (dVar 5)))))
theorem sc_led_runners : GScope ["depot", "rows", "days", "firsts", "day", "runners"] ["depot", "rows", "days"] (defScope s_led_runners) := ⟨rfl, rfl, rfl, by decide +kernel, rfl, by decide +kernel, by decide +kernel⟩
abbrev s_lead : Stmt := top 32
def r_lead (C : Ct) : TSD :=
  (dSeq (dDrop (dCall sp_check_led (dCons (dVar 0) dNil)))
  (dSeq (dDrop (dCall sp_check_lists (dCons (dVar 0) (dCons (dVar 1) dNil))))
  (dSeq (dDrop (dCall sp_check_days (dCons (dVar 2) dNil)))
  (dSeq (dIf (dB (dOp pGt (dVar 2) (dC (.int 400))))
  (dRaise2 "OutOfRange" "at" "code" (dCons (dVar 2) (dCons (dC (.str "days")) dNil)))
  dNext)
  (dRet (dCall sp_Book_of_rows (dCons (dListG false sp_led_runners (dCons (dVar 0) (dCons (dVar 1) (dCons (dVar 2) dNil)))) dNil)))))))
theorem sc_lead : FnScope ["depot", "rows", "days"] ["depot", "rows", "days"] (defScope s_lead) := ⟨rfl, rfl, rfl, by decide +kernel, rfl, by decide +kernel, by decide +kernel⟩
abbrev s_law_ask : Stmt := top 49
def r_law_ask (C : Ct) : TSD :=
  (dSeq (dAsg (dFrz (dMake "Depot" sp_Depot___init__ (dCons (dOp pIx (dVar 0) (dC (.int 0))) (dCons (dOp pIx (dVar 0) (dC (.int 1))) (dCons (dCB (pList false) (dCons (dOp pIx (dVar 0) (dC (.int 2))) dNil)) dNil))))) (gN 3))
  (dTry C (dRet (dCall sp_lead (dCons (dVar 3) (dCons (dVar 1) (dCons (dVar 2) dNil)))))
  (("OutOfRange", some 4, (dRet (dTup (dCons (dC (.str "refused")) (dCons (dC (.str "OutOfRange")) (dCons (dXf C "at" (dVar 4)) (dCons (dXf C "code" (dVar 4)) dNil))))))) :: (("BadLists", some 4, (dRet (dTup (dCons (dC (.str "refused")) (dCons (dC (.str "BadLists")) (dCons (dXf C "at" (dVar 4)) (dCons (dXf C "code" (dVar 4)) dNil))))))) :: []))))
theorem sc_law_ask : FnScope ["plan", "lists", "span", "depot", "e"] ["plan", "lists", "span"] (defScope s_law_ask) := ⟨rfl, rfl, rfl, by decide +kernel, rfl, by decide +kernel, by decide +kernel⟩
abbrev s_law_take : Stmt := top 42
def r_law_take (C : Ct) : TSD :=
  (dSeq (dIf (dAnd (dB (dOp pEq (dOp pIx (dVar 0) (dC (.int 0))) (dC (.int 0)))) (dB (dOp pLt (dOp pIx (dVar 0) (dC (.int 3))) (dCB pLen (dCons (dOp pIx (dVar 0) (dC (.int 4))) dNil)))))
  (dSeq (dAsg (dCB pAbs (dCons (dOp pIx (dOp pIx (dVar 0) (dC (.int 4))) (dOp pIx (dVar 0) (dC (.int 3)))) dNil)) (gN 4))
  (dSeq (dAsg (dOp (pAdd false) (dOp pIx (dVar 0) (dC (.int 3))) (dC (.int 1))) (gS (dVar 0) (dC (.int 3))))
  (dIf (dB (dOp pGe (dVar 4) (dOp pPow (dC (.int 10)) (dC (.int 18)))))
  (dAsg (dVar 4) (gS (dVar 0) (dC (.int 0))))
  (dAsg (dOp pMod (dCB pInt (dCons (dOp (pAdd false) (dOp (pAdd false) (dOp (pMul false) (dOp pIx (dVar 0) (dC (.int 1))) (dC (.int 48271))) (dVar 4)) (dC (.int 1))) dNil)) (dC (.int 2147483399))) (gS (dVar 0) (dC (.int 1)))))))
  dNext)
  (dSeq (dIf (dB (dOp pGt (dOp pIx (dVar 0) (dC (.int 0))) (dC (.int 0))))
  (dSeq (dAsg (dOp pMod (dCB pInt (dCons (dOp pIx (dVar 0) (dC (.int 0))) dNil)) (dVar 1)) (gN 5))
  (dSeq (dAsg (dOp pDiv (dOp pIx (dVar 0) (dC (.int 0))) (dVar 1)) (gS (dVar 0) (dC (.int 0))))
  (dRet (dVar 5))))
  dNext)
  (dSeq (dAsg (dOp (pAdd false) (dOp pIx (dVar 0) (dC (.int 2))) (dC (.int 1))) (gN 2))
  (dSeq (dAsg (dVar 2) (gS (dVar 0) (dC (.int 2))))
  (dSeq (dAsg (dOp pIx (dVar 0) (dC (.int 1))) (gN 3))
  (dSeq (dAsg (dOp pMod (dCB pInt (dCons (dOp (pAdd false) (dOp (pAdd false) (dOp (pMul false) (dVar 3) (dVar 3)) (dOp (pMul false) (dVar 2) (dC (.int 3571)))) (dC (.int 40692))) dNil)) (dC (.int 2147483399))) (gN 3))
  (dSeq (dAsg (dOp pMod (dCB pInt (dCons (dOp (pAdd false) (dOp (pMul false) (dVar 3) (dVar 3)) (dOp pDiv (dVar 3) (dC (.int 97)))) dNil)) (dC (.int 2147483629))) (gN 3))
  (dSeq (dAsg (dVar 3) (gS (dVar 0) (dC (.int 1))))
  (dRet (dOp pMod (dCB pInt (dCons (dOp pDiv (dVar 3) (dC (.int 8))) dNil)) (dVar 1)))))))))))
theorem sc_law_take : FnScope ["pool", "limit", "k", "mixed", "cell", "got"] ["pool", "limit"] (defScope s_law_take) := ⟨rfl, rfl, rfl, by decide +kernel, rfl, by decide +kernel, by decide +kernel⟩
abbrev s_law_bent_lists : Stmt := top 46
def r_law_bent_lists (C : Ct) : TSD :=
  (dSeq (dAsg (dCB pLen (dCons (dOp pIx (dVar 1) (dC (.int 2))) dNil)) (gN 3))
  (dSeq (dAsg (dLc true (iSeq (dVar 2)) (g1 10) dYes (dCB (pList true) (dCons (dVar 10) dNil)) [10]) (gN 4))
  (dSeq (dFor (iRange1 (dOp (pAdd false) (dC (.int 1)) (dCall sp_law_take (dCons (dVar 0) (dCons (dC (.int 2)) dNil))))) (gN 5)
  (dSeq (dAsg (dCall sp_law_take (dCons (dVar 0) (dCons (dOp pIx (dVar 1) (dC (.int 0))) dNil))) (gN 6))
  (dSeq (dAsg (dCall sp_law_take (dCons (dVar 0) (dCons (dVar 3) dNil))) (gN 7))
  (dSeq (dAsg (dCall sp_law_take (dCons (dVar 0) (dCons (dVar 3) dNil))) (gN 8))
  (dSeq (dAsg (dCall sp_law_take (dCons (dVar 0) (dCons (dC (.int 8)) dNil))) (gN 9))
  (dSeq (dIf (dOr (dB (dOp pGe (dVar 6) (dCB pLen (dCons (dVar 4) dNil)))) (dB (dOp pGe (dCB pMax2 (dCons (dVar 7) (dCons (dVar 8) dNil))) (dCB pLen (dCons (dOp pIx (dVar 4) (dVar 6)) dNil)))))
  (dAsg (dC (.int 8)) (gN 9))
  dNext)
  (dSeq (dIf (dB (dOp pEq (dVar 9) (dC (.int 0))))
  (dDrop (dBM isLst pPopAt (dOp pIx (dVar 4) (dVar 6)) (dCons (dVar 7) dNil)))
  dNext)
  (dSeq (dIf (dB (dOp pEq (dVar 9) (dC (.int 1))))
  (dAsg (dOp pIx (dOp pIx (dVar 4) (dVar 6)) (dVar 8)) (gS (dOp pIx (dVar 4) (dVar 6)) (dVar 7)))
  dNext)
  (dSeq (dIf (dB (dOp pEq (dVar 9) (dC (.int 2))))
  (dAsg (dVar 3) (gS (dOp pIx (dVar 4) (dVar 6)) (dVar 7)))
  dNext)
  (dSeq (dIf (dB (dOp pEq (dVar 9) (dC (.int 3))))
  (dAsg (dUn pNeg (dC (.int 1))) (gS (dOp pIx (dVar 4) (dVar 6)) (dVar 7)))
  dNext)
  (dSeq (dIf (dB (dOp pEq (dVar 9) (dC (.int 4))))
  (dDrop (dBM isLst pInsert (dOp pIx (dVar 4) (dVar 6)) (dCons (dVar 7) (dCons (dOp pIx (dOp pIx (dVar 4) (dVar 6)) (dVar 8)) dNil))))
  dNext)
  (dSeq (dIf (dB (dOp pEq (dVar 9) (dC (.int 5))))
  (dDrop (dBM isLst pAppend (dOp pIx (dVar 4) (dVar 6)) (dCons (dVar 3) dNil)))
  dNext)
  (dSeq (dIf (dB (dOp pEq (dVar 9) (dC (.int 6))))
  (dDrop (dBM isLst pAppend (dVar 4) (dCons (dCB (pList true) (dCons (dOp pIx (dVar 4) (dVar 6)) dNil)) dNil)))
  dNext)
  (dIf (dB (dOp pEq (dVar 9) (dC (.int 7))))
  (dDrop (dBM isLst pPopAt (dVar 4) (dCons (dVar 6) dNil)))
  dNext))))))))))))))
  (dRet (dVar 4)))))
theorem sc_law_bent_lists : FnScope ["pool", "plan", "lists", "n", "rows", "k", "c", "a", "b", "way", "row"] ["pool", "plan", "lists"] (defScope s_law_bent_lists) := ⟨rfl, rfl, rfl, by decide +kernel, rfl, by decide +kernel, by decide +kernel⟩
abbrev s_law_by_base : Stmt := top 50
def r_law_by_base (C : Ct) : TSD :=
  (dSeq (dAsg (dFrz (dMake "Depot" sp_Depot___init__ (dCons (dOp pIx (dVar 0) (dC (.int 0))) (dCons (dOp pIx (dVar 0) (dC (.int 1))) (dCons (dCB (pList false) (dCons (dOp pIx (dVar 0) (dC (.int 2))) dNil)) dNil))))) (gN 3))
  (dSeq (dTry C (dDrop (dCall sp_lead (dCons (dVar 3) (dCons (dVar 1) (dCons (dVar 2) dNil)))))
  (("OutagainError", some 4, (dRet (dCB (pIsi C) (dCons (dVar 4) (dCons (dC (.ty "ValueError")) dNil))))) :: []))
  (dRet (dC (.bl false)))))
theorem sc_law_by_base : FnScope ["plan", "lists", "span", "depot", "e"] ["plan", "lists", "span"] (defScope s_law_by_base) := ⟨rfl, rfl, rfl, by decide +kernel, rfl, by decide +kernel, by decide +kernel⟩
abbrev s_law_depot : Stmt := top 43
def r_law_depot (C : Ct) : TSD :=
  (dSeq (dAsg (dOp (pAdd false) (dC (.int 1)) (dCall sp_law_take (dCons (dVar 0) (dCons (dVar 2) dNil)))) (gN 3))
  (dSeq (dAsg (dOp (pAdd false) (dC (.int 1)) (dCall sp_law_take (dCons (dVar 0) (dCons (dVar 1) dNil)))) (gN 4))
  (dSeq (dAsg (dOp (pAdd false) (dC (.int 1)) (dCall sp_law_take (dCons (dVar 0) (dCons (dVar 4) dNil)))) (gN 5))
  (dSeq (dIf (dB (dOp pGt (dCall sp_law_take (dCons (dVar 0) (dCons (dC (.int 3)) dNil))) (dC (.int 0))))
  (dAsg (dOp (pAdd false) (dC (.int 1)) (dCall sp_law_take (dCons (dVar 0) (dCons (dCB pMin2 (dCons (dVar 4) (dCons (dC (.int 2)) dNil))) dNil)))) (gN 5))
  dNext)
  (dSeq (dAsg (dOp (pMul true) (dLst false (dCons (dC (.int 1)) dNil)) (dVar 5)) (gN 6))
  (dSeq (dFor (iRange1 (dOp pSub (dVar 4) (dVar 5))) (gN 7)
  (dDrop (dBM isLst pInsert (dVar 6) (dCons (dCall sp_law_take (dCons (dVar 0) (dCons (dOp (pAdd false) (dCB pLen (dCons (dVar 6) dNil)) (dC (.int 1))) dNil))) (dCons (dOp (pAdd false) (dC (.int 1)) (dCall sp_law_take (dCons (dVar 0) (dCons (dVar 3) dNil)))) dNil)))))
  (dRet (dLst false (dCons (dVar 3) (dCons (dVar 5) (dCons (dFrz (dVar 6)) dNil)))))))))))
theorem sc_law_depot : FnScope ["pool", "drivers", "period", "m", "n", "q", "firsts", "k"] ["pool", "drivers", "period"] (defScope s_law_depot) := ⟨rfl, rfl, rfl, by decide +kernel, rfl, by decide +kernel, by decide +kernel⟩
abbrev s_law_number : Stmt := top 39
def r_law_number (C : Ct) : TSD :=
  (dRet (dAndV (dCB (pIsi C) (dCons (dVar 0) (dCons (dC (.ty "int")) dNil))) (dNotV (dCB (pIsi C) (dCons (dVar 0) (dCons (dC (.ty "bool")) dNil))))))
theorem sc_law_number : FnScope ["got"] ["got"] (defScope s_law_number) := ⟨rfl, rfl, rfl, by decide +kernel, rfl, by decide +kernel, by decide +kernel⟩
abbrev s_law_same : Stmt := top 40
def r_law_same (C : Ct) (spS : SpD) : TSD :=
  (dSeq (dIf (dB (dOp pIs (dVar 1) (dC .non)))
  (dRet (dOp pIs (dVar 0) (dC .non)))
  dNext)
  (dSeq (dIf (dTru truD (dCB (pIsi C) (dCons (dVar 1) (dCons (dC (.ty "bool")) dNil))))
  (dRet (dAndV (dCB (pIsi C) (dCons (dVar 0) (dCons (dC (.ty "bool")) dNil))) (dOp pEq (dVar 0) (dVar 1))))
  dNext)
  (dSeq (dIf (dTru truD (dCB (pIsi C) (dCons (dVar 1) (dCons (dC (.ty "int")) dNil))))
  (dRet (dAndV (dCall sp_law_number (dCons (dVar 0) dNil)) (dOp pEq (dVar 0) (dVar 1))))
  dNext)
  (dSeq (dIf (dTru truD (dCB (pIsi C) (dCons (dVar 1) (dCons (dC (.ty "str")) dNil))))
  (dRet (dAndV (dCB (pIsi C) (dCons (dVar 0) (dCons (dC (.ty "str")) dNil))) (dOp pEq (dVar 0) (dVar 1))))
  dNext)
  (dSeq (dIf (dAnd (dTru truD (dCB (pIsi C) (dCons (dVar 1) (dCons (dC (.ty "list")) dNil)))) (dNot (dTru truD (dCB (pIsi C) (dCons (dVar 0) (dCons (dC (.ty "list")) dNil))))))
  (dRet (dC (.bl false)))
  dNext)
  (dSeq (dIf (dAnd (dTru truD (dCB (pIsi C) (dCons (dVar 1) (dCons (dC (.ty "tuple")) dNil)))) (dNot (dTru truD (dCB (pIsi C) (dCons (dVar 0) (dCons (dC (.ty "tuple")) dNil))))))
  (dRet (dC (.bl false)))
  dNext)
  (dSeq (dIf (dB (dOp pNe (dCB pLen (dCons (dVar 0) dNil)) (dCB pLen (dCons (dVar 1) dNil))))
  (dRet (dC (.bl false)))
  dNext)
  (dSeq (dFor (iRange1 (dCB pLen (dCons (dVar 1) dNil))) (gN 2)
  (dIf (dNot (dTru truD (dCall spS (dCons (dOp pIx (dVar 0) (dVar 2)) (dCons (dOp pIx (dVar 1) (dVar 2)) dNil)))))
  (dRet (dC (.bl false)))
  dNext))
  (dRet (dC (.bl true)))))))))))
theorem sc_law_same : FnScope ["got", "due", "k"] ["got", "due"] (defScope s_law_same) := ⟨rfl, rfl, rfl, by decide +kernel, rfl, by decide +kernel, by decide +kernel⟩
abbrev s_law_is_book : Stmt := top 51
def r_law_is_book (C : Ct) : TSD :=
  (dSeq (dIf (dNot (dTru truD (dCB (pIsiO C) (dCons (dVar 0) (dCons (dC (.cls "Book")) dNil)))))
  (dRet (dC (.bl false)))
  dNext)
  (dRet (dAndV (dCall sp_same4 (dCons (dFld C "stretches" (dVar 0)) (dCons (dVar 1) dNil))) (dCall sp_same4 (dCons (dFld C "days" (dVar 0)) (dCons (dVar 2) dNil))))))
theorem sc_law_is_book : FnScope ["got", "rows", "span"] ["got", "rows", "span"] (defScope s_law_is_book) := ⟨rfl, rfl, rfl, by decide +kernel, rfl, by decide +kernel, by decide +kernel⟩
abbrev s_law_gone : Stmt := top 44
def r_law_gone (C : Ct) : TSD :=
  (dSeq (dAsg (dLst true dNil) (gN 5))
  (dSeq (dFor (iRange1 (dCB pLen (dCons (dVar 0) dNil))) (gN 6)
  (dSeq (dAsg (dOp pIx (dVar 0) (dVar 6)) (gN 7))
  (dSeq (dIf (dB (dOp pIn (dVar 6) (dVar 1)))
  (dAsg (dOp (pAdd false) (dVar 3) (dVar 2)) (gN 7))
  (dIf (dB (dOp pLt (dVar 7) (dOp (pAdd false) (dVar 3) (dVar 2))))
  (dAsg (dOp (pAdd false) (dVar 7) (dOp (pMul false) (dVar 4) (dOp pDiv (dOp pSub (dOp (pAdd false) (dOp pSub (dOp (pAdd false) (dVar 3) (dVar 2)) (dVar 7)) (dVar 4)) (dC (.int 1))) (dVar 4)))) (gN 7))
  dNext))
  (dDrop (dBM isLst pAppend (dVar 5) (dCons (dVar 7) dNil))))))
  (dRet (dFrz (dVar 5)))))
theorem sc_law_gone : FnScope ["nexts", "crew", "span", "start", "m", "row", "i", "u"] ["nexts", "crew", "span", "start", "m"] (defScope s_law_gone) := ⟨rfl, rfl, rfl, by decide +kernel, rfl, by decide +kernel, by decide +kernel⟩
abbrev s_law_led : Stmt := top 48
def r_law_led (C : Ct) : TSD :=
  (dSeq (dAsg (dCB (pList false) (dCons (dOp pIx (dVar 0) (dC (.int 2))) dNil)) (gN 3))
  (dSeq (dAsg (dLst true dNil) (gN 4))
  (dSeq (dFor (iRange2 (dC (.int 1)) (dOp (pAdd false) (dVar 2) (dC (.int 1)))) (gN 5)
  (dSeq (dAsg (dLc false (iSeq (dOp pIx (dVar 1) (dOp pMod (dCB pInt (dCons (dOp pSub (dVar 5) (dC (.int 1))) dNil)) (dOp pIx (dVar 0) (dC (.int 0)))))) (g1 8) (dB (dOp pEq (dOp pIx (dVar 3) (dVar 8)) (dVar 5))) (dVar 8) [8]) (gN 6))
  (dSeq (dAsg (dCB pTuple (dCons (dCB (pSorted false) (dCons (dSl false (dVar 6) dNoP (dPart (dOp pIx (dVar 0) (dC (.int 1))))) dNil)) dNil)) (gN 7))
  (dSeq (dAsg (dCall sp_law_gone (dCons (dVar 3) (dCons (dVar 7) (dCons (dC (.int 1)) (dCons (dVar 5) (dCons (dOp pIx (dVar 0) (dC (.int 0))) dNil)))))) (gN 3))
  (dIf (dAnd (dB (dOp pNe (dVar 4) (dLst false dNil))) (dB (dOp pEq (dOp pIx (dOp pIx (dVar 4) (dUn pNeg (dC (.int 1)))) (dC (.int 1))) (dVar 7))))
  (dAsg (dTup (dCons (dOp (pAdd false) (dOp pIx (dOp pIx (dVar 4) (dUn pNeg (dC (.int 1)))) (dC (.int 0))) (dC (.int 1))) (dCons (dVar 7) dNil))) (gS (dVar 4) (dUn pNeg (dC (.int 1)))))
  (dDrop (dBM isLst pAppend (dVar 4) (dCons (dTup (dCons (dC (.int 1)) (dCons (dVar 7) dNil))) dNil))))))))
  (dRet (dCB pTuple (dCons (dVar 4) dNil))))))
theorem sc_law_led : FnScope ["plan", "lists", "span", "nexts", "rows", "start", "ahead", "crew", "i"] ["plan", "lists", "span"] (defScope s_law_led) := ⟨rfl, rfl, rfl, by decide +kernel, rfl, by decide +kernel, by decide +kernel⟩
abbrev s_law_lists : Stmt := top 45
def r_law_lists (C : Ct) : TSD :=
  (dSeq (dAsg (dLst true dNil) (gN 2))
  (dSeq (dFor (iRange1 (dOp pIx (dVar 1) (dC (.int 0)))) (gN 3)
  (dSeq (dAsg (dListR1 true (dCB pLen (dCons (dOp pIx (dVar 1) (dC (.int 2))) dNil))) (gN 4))
  (dSeq (dAsg (dLst true dNil) (gN 5))
  (dSeq (dFor (iRange1 (dCB pLen (dCons (dOp pIx (dVar 1) (dC (.int 2))) dNil))) (gN 6)
  (dDrop (dBM isLst pAppend (dVar 5) (dCons (dBM isLst pPopAt (dVar 4) (dCons (dCall sp_law_take (dCons (dVar 0) (dCons (dCB pLen (dCons (dVar 4) dNil)) dNil))) dNil)) dNil))))
  (dDrop (dBM isLst pAppend (dVar 2) (dCons (dFrz (dVar 5)) dNil)))))))
  (dRet (dFrz (dVar 2)))))
theorem sc_law_lists : FnScope ["pool", "plan", "rows", "c", "rest", "row", "k"] ["pool", "plan"] (defScope s_law_lists) := ⟨rfl, rfl, rfl, by decide +kernel, rfl, by decide +kernel, by decide +kernel⟩
abbrev s_law_pool : Stmt := top 41
def r_law_pool (C : Ct) : TSD :=
  (dRet (dLst true (dCons (dC (.int 0)) (dCons (dC (.int 1)) (dCons (dC (.int 0)) (dCons (dC (.int 0)) (dCons (dCB (pList false) (dCons (dVar 0) dNil)) dNil)))))))
theorem sc_law_pool : FnScope ["script"] ["script"] (defScope s_law_pool) := ⟨rfl, rfl, rfl, by decide +kernel, rfl, by decide +kernel, by decide +kernel⟩
abbrev s_law_refused : Stmt := top 47
def r_law_refused (C : Ct) : TSD :=
  (dSeq (dAsg (dCB pLen (dCons (dOp pIx (dVar 0) (dC (.int 2))) dNil)) (gN 3))
  (dSeq (dIf (dB (dOp pGt (dVar 3) (dC (.int 6))))
  (dRet (dTup (dCons (dC (.str "refused")) (dCons (dC (.str "OutOfRange")) (dCons (dVar 3) (dCons (dC (.str "drivers")) dNil))))))
  dNext)
  (dSeq (dIf (dB (dOp pGt (dOp pIx (dVar 0) (dC (.int 0))) (dC (.int 6))))
  (dRet (dTup (dCons (dC (.str "refused")) (dCons (dC (.str "OutOfRange")) (dCons (dOp pIx (dVar 0) (dC (.int 0))) (dCons (dC (.str "period")) dNil))))))
  dNext)
  (dSeq (dIf (dB (dOp pNe (dCB pLen (dCons (dVar 1) dNil)) (dOp pIx (dVar 0) (dC (.int 0)))))
  (dRet (dTup (dCons (dC (.str "refused")) (dCons (dC (.str "BadLists")) (dCons (dCB pLen (dCons (dVar 1) dNil)) (dCons (dC (.str "length")) dNil))))))
  dNext)
  (dSeq (dFor (iRange1 (dCB pLen (dCons (dVar 1) dNil))) (gN 4)
  (dIf (dB (dOp pNe (dCB (pSorted false) (dCons (dOp pIx (dVar 1) (dVar 4)) dNil)) (dListR1 false (dVar 3))))
  (dRet (dTup (dCons (dC (.str "refused")) (dCons (dC (.str "BadLists")) (dCons (dOp (pAdd false) (dVar 4) (dC (.int 1))) (dCons (dC (.str "order")) dNil))))))
  dNext))
  (dSeq (dIf (dOr (dB (dOp pLt (dVar 2) (dC (.int 0)))) (dB (dOp pGt (dVar 2) (dC (.int 400)))))
  (dRet (dTup (dCons (dC (.str "refused")) (dCons (dC (.str "OutOfRange")) (dCons (dVar 2) (dCons (dC (.str "days")) dNil))))))
  dNext)
  (dRet (dTup dNil))))))))
theorem sc_law_refused : FnScope ["plan", "lists", "span", "n", "c"] ["plan", "lists", "span"] (defScope s_law_refused) := ⟨rfl, rfl, rfl, by decide +kernel, rfl, by decide +kernel, by decide +kernel⟩
abbrev s_law : Stmt := top 52
def r_law (C : Ct) : TSD :=
  (dSeq (dAsg (dCall sp_law_pool (dCons (dVar 0) dNil)) (gN 1))
  (dSeq (dIf (dB (dOp pEq (dCall sp_law_take (dCons (dVar 1) (dCons (dC (.int 8)) dNil))) (dC (.int 0))))
  (dAsg (dCall sp_law_depot (dCons (dVar 1) (dCons (dC (.int 12)) (dCons (dC (.int 8)) dNil)))) (gN 11))
  (dAsg (dCall sp_law_depot (dCons (dVar 1) (dCons (dC (.int 6)) (dCons (dC (.int 6)) dNil)))) (gN 11)))
  (dSeq (dAsg (dCall sp_law_lists (dCons (dVar 1) (dCons (dVar 11) dNil))) (gN 2))
  (dSeq (dAsg (dCall sp_law_take (dCons (dVar 1) (dCons (dC (.int 61)) dNil))) (gN 3))
  (dSeq (dAsg (dCall sp_law_take (dCons (dVar 1) (dCons (dC (.int 16)) dNil))) (gN 4))
  (dSeq (dIf (dB (dOp pLt (dVar 4) (dC (.int 2))))
  (dAsg (dCall sp_law_take (dCons (dVar 1) (dCons (dC (.int 402)) dNil))) (gN 3))
  dNext)
  (dSeq (dIf (dB (dOp pEq (dVar 4) (dC (.int 2))))
  (dAsg (dOp pIx (dLst false (dCons (dUn pNeg (dC (.int 1))) (dCons (dC (.int 401)) (dCons (dOp pPow (dC (.int 10)) (dC (.int 30))) (dCons (dOp (pAdd false) (dOp pPow (dC (.int 10)) (dC (.int 30))) (dC (.int 1))) dNil))))) (dCall sp_law_take (dCons (dVar 1) (dCons (dC (.int 4)) dNil)))) (gN 3))
  dNext)
  (dSeq (dAsg (dVar 2) (gN 5))
  (dSeq (dIf (dB (dOp pEq (dCall sp_law_take (dCons (dVar 1) (dCons (dC (.int 3)) dNil))) (dC (.int 0))))
  (dAsg (dCall sp_law_bent_lists (dCons (dVar 1) (dCons (dVar 11) (dCons (dVar 2) dNil)))) (gN 5))
  dNext)
  (dSeq (dAsg (dCall sp_law_refused (dCons (dVar 11) (dCons (dVar 5) (dCons (dVar 3) dNil)))) (gN 6))
  (dSeq (dIf (dB (dOp pNe (dVar 6) (dTup dNil)))
  (dSeq (dIf (dNot (dTru truD (dCall sp_same4 (dCons (dCall sp_law_ask (dCons (dVar 11) (dCons (dLc false (iSeq (dVar 5)) (g1 12) dYes (dCB (pList false) (dCons (dVar 12) dNil)) [12]) (dCons (dVar 3) dNil)))) (dCons (dVar 6) dNil)))))
  (dRet (dC (.bl false)))
  dNext)
  (dIf (dNot (dTru truD (dCall sp_law_by_base (dCons (dVar 11) (dCons (dLc false (iSeq (dVar 5)) (g1 12) dYes (dCB pTuple (dCons (dVar 12) dNil)) [12]) (dCons (dVar 3) dNil))))))
  (dRet (dC (.bl false)))
  dNext))
  dNext)
  (dSeq (dIf (dOr (dB (dOp pGt (dCB pLen (dCons (dOp pIx (dVar 11) (dC (.int 2))) dNil)) (dC (.int 6)))) (dB (dOp pGt (dOp pIx (dVar 11) (dC (.int 0))) (dC (.int 6)))))
  (dRet (dC (.bl true)))
  dNext)
  (dSeq (dAsg (dCB pMax2 (dCons (dC (.int 0)) (dCons (dCB pMin2 (dCons (dVar 3) (dCons (dC (.int 400)) dNil))) dNil))) (gN 3))
  (dSeq (dAsg (dCall sp_law_led (dCons (dVar 11) (dCons (dVar 2) (dCons (dVar 3) dNil)))) (gN 7))
  (dSeq (dIf (dNot (dTru truD (dCall sp_law_is_book (dCons (dCall sp_law_ask (dCons (dVar 11) (dCons (dCB pTuple (dCons (dLc false (iSeq (dVar 2)) (g1 12) dYes (dCB pTuple (dCons (dVar 12) dNil)) [12]) dNil)) (dCons (dVar 3) dNil)))) (dCons (dVar 7) (dCons (dVar 3) dNil))))))
  (dRet (dC (.bl false)))
  dNext)
  (dSeq (dAsg (dLc true (iSeq (dVar 2)) (g1 12) dYes (dCB (pList true) (dCons (dVar 12) dNil)) [12]) (gN 8))
  (dSeq (dAsg (dCall sp_law_ask (dCons (dVar 11) (dCons (dVar 8) (dCons (dVar 3) dNil)))) (gN 9))
  (dSeq (dIf (dOr (dNot (dTru truD (dCall sp_law_is_book (dCons (dVar 9) (dCons (dVar 7) (dCons (dVar 3) dNil)))))) (dB (dOp pNe (dVar 8) (dVar 2))))
  (dRet (dC (.bl false)))
  dNext)
  (dSeq (dAsg (dCall sp_law_take (dCons (dVar 1) (dCons (dOp pIx (dVar 11) (dC (.int 0))) dNil))) (gN 10))
  (dSeq (dDrop (dBM isLst pAppend (dOp pIx (dVar 8) (dVar 10)) (dCons (dBM isLst pPopAt (dOp pIx (dVar 8) (dVar 10)) (dCons (dC (.int 0)) dNil)) dNil)))
  (dSeq (dIf (dNot (dTru truD (dCall sp_law_is_book (dCons (dVar 9) (dCons (dVar 7) (dCons (dVar 3) dNil))))))
  (dRet (dC (.bl false)))
  dNext)
  (dRet (dCall sp_law_is_book (dCons (dCall sp_law_ask (dCons (dVar 11) (dCons (dVar 8) (dCons (dVar 3) dNil)))) (dCons (dCall sp_law_led (dCons (dVar 11) (dCons (dVar 8) (dCons (dVar 3) dNil)))) (dCons (dVar 3) dNil))))))))))))))))))))))))))
theorem sc_law : FnScope ["script", "pool", "lists", "span", "way", "bad", "due", "rows", "given", "got", "c", "plan", "row"] ["script"] (defScope s_law) := ⟨rfl, rfl, rfl, by decide +kernel, rfl, by decide +kernel, by decide +kernel⟩
end K

namespace K
open PySem PySem.Spec L2 OD
open PyProof.Rows hiding St
local macro_rules | `(tactic| walk_at "od1") => `(tactic| with_reducible first
  | refine st_seq ?_ | refine st_asg ?_ | refine st_if ?_ | refine st_ret ?_ | refine st_drop ?_ | refine st_next ?_ | refine st_retN ?_
  | refine st_wnx ?_ | refine st_wrt ?_ | refine st_lnx ?_ | refine st_lct ?_ | refine st_lbk ?_ | refine st_lrt ?_ | refine st_wbk ?_ | refine st_wct ?_ | refine st_wex ?_ | refine st_lex ?_
  | refine st_var rfl ?_ | refine st_c ?_ | refine st_op ?_ | refine st_un ?_ | refine st_cb ?_ | refine st_call ?_ | refine st_cons ?_ | refine st_nil ?_
  | refine st_b ?_ | refine st_bl ?_ | refine st_blV ?_ | refine st_and ?_ | refine st_or ?_ | refine st_not ?_ | refine st_andV ?_ | refine st_orV ?_ | refine st_notV ?_ | refine st_ifE ?_ | refine st_chain ?_
  | refine st_dTru ?_ | refine st_tru ?_ | refine st_gN ?_ | refine st_gS ?_ | refine st_gC ?_ | refine st_gNil ?_
  | refine st_iteT ?_ | refine st_iteF ?_ | refine st_iteNT ?_ | refine st_iteNF ?_
  | refine st_addI ?_ | refine st_subI ?_ | refine st_negI ?_ | refine st_ltI ?_ | refine st_leI ?_ | refine st_gtI ?_ | refine st_geI ?_ | refine st_eqI ?_ | refine st_neI ?_ | refine st_eqS ?_ | refine st_neS ?_ | refine st_eqB ?_ | refine st_isI ?_ | refine st_isS ?_ | refine st_isT ?_ | refine st_isL ?_ | refine st_isB ?_ | refine st_isN ?_ | refine st_isx ?_ | refine st_iso ?_ | refine st_isi_int_bool ?_ | refine st_isi_int_int ?_ | refine st_isi_int_str ?_ | refine st_isi_int_list ?_ | refine st_isi_int_tuple ?_ | refine st_isi_str_bool ?_ | refine st_isi_str_int ?_ | refine st_isi_str_str ?_ | refine st_isi_str_list ?_ | refine st_isi_str_tuple ?_ | refine st_isi_tuple_bool ?_ | refine st_isi_tuple_int ?_ | refine st_isi_tuple_str ?_ | refine st_isi_tuple_list ?_ | refine st_isi_tuple_tuple ?_ | refine st_isi_list_bool ?_ | refine st_isi_list_int ?_ | refine st_isi_list_str ?_ | refine st_isi_list_list ?_ | refine st_isi_list_tuple ?_ | refine st_isi_bool_bool ?_ | refine st_isi_bool_int ?_ | refine st_isi_bool_str ?_ | refine st_isi_bool_list ?_ | refine st_isi_bool_tuple ?_ | refine st_isi_NoneType_bool ?_ | refine st_isi_NoneType_int ?_ | refine st_isi_NoneType_str ?_ | refine st_isi_NoneType_list ?_ | refine st_isi_NoneType_tuple ?_ | refine st_is ?_ | refine st_isNot ?_
  | refine st_pow8 ?_ | refine st_pow18 ?_ | refine st_pow20 ?_ | refine st_pow30 ?_ | refine st_pow31 ?_
  | refine st_tup ?_ | refine st_lst ?_ | refine st_mkF ?_ | refine st_mkO ?_ | refine st_frz ?_ | refine st_bm ?_ | refine st_isStr ?_
  | refine st_lenL ?_ | refine st_lenT ?_ | refine st_abs ?_ | refine st_int ?_ | refine st_max2 ?_ | refine st_min2 ?_ | refine st_listS ?_ | refine st_listL ?_ | refine st_listT ?_ | refine st_tupleL ?_ | refine st_tupleT ?_
  | refine st_for ?_ | refine st_range1 ?_ | refine st_lc ?_ | refine st_fld ?_ | refine st_setF ?_ | refine st_make ?_ | refine st_non ?_ | refine st_meth ?_ | refine st_prop ?_ | refine st_propO ?_ | refine st_raise2 ?_ | refine st_raise1 ?_ | refine st_try ?_ | refine st_augS ?_ | refine st_seqI ?_ | refine st_seqT ?_ | refine st_seqL ?_ | refine st_range2 ?_ | refine st_enum ?_ | refine st_zip ?_ | refine st_dnewT ?_ | refine st_dnewK ?_ | refine st_dget ?_ | refine st_din ?_ | refine st_dput ?_ | refine st_sl ?_ | refine st_noP ?_ | refine st_part ?_ | refine st_partI ?_ | refine st_slT ?_  | refine st_slL ?_ | refine st_listR1 ?_ | refine st_listR2 ?_ | refine st_ip ?_ | refine st_aug rfl ?_ | refine st_grt ?_ | refine st_gnx ?_ | refine st_crt ?_ | refine st_cnx ?_ | refine st_xrt ?_ | refine st_xnx ?_ | refine st_xex ?_ | refine st_h0 ?_ | refine st_truF ?_ | refine st_yes ?_ | refine st_mk2 ?_ | refine st_mk2e ?_ | refine st_mk1 ?_ | refine st_mk1e ?_ | refine st_mk0 ?_ | refine st_xf ?_)
local macro_rules | `(tactic| walk_at "od2") => `(tactic| first
  | ((with_reducible show dVar _ _ _ _ _); refine st_var rfl ?_)
  | ((with_reducible show pIx (.own _) (.int _) _ _); refine st_ixO (by assumption) (by first | rfl | assumption) ?_)
  | ((with_reducible show pIx (.lst _) (.int _) _ _); refine st_ixL (by first | rfl | assumption) ?_)
  | ((with_reducible show pIx (.tup _) (.int _) _ _); refine st_ixT (by first | rfl | assumption) ?_)
  | ((with_reducible show List.length _ ≤ sizeLine ∧ _); refine ⟨small_line (by simp), ?_⟩)
  | ((with_reducible show pAppend (.own _) [_] _ _); refine st_append (by assumption) (by assumption) ?_)
  | ((with_reducible show pInG false (.int _) (.lst (List.map D.int _)) _ _); refine st_inF rfl ?_)
  | ((with_reducible show pInG false (.int _) (.tup (List.map D.int _)) _ _); refine st_inF rfl ?_)
  | ((with_reducible show pInG true (.int _) (.lst (List.map D.int _)) _ _); refine st_inT rfl ?_)
  | ((with_reducible show pInG true (.int _) (.tup (List.map D.int _)) _ _); refine st_inT rfl ?_)
  | ((with_reducible show pInG false (.int _) _ _ _); refine st_inF (by assumption) ?_)
  | ((with_reducible show pInG true (.int _) _ _ _); refine st_inT (by assumption) ?_)
  | ((with_reducible show pSum [.lst (List.map D.int _)] _ _); refine st_sumI rfl ?_)
  | ((with_reducible show pEqG _ (.lst (List.map D.int _)) (.lst (List.map D.int _)) _ _); refine st_eqLL ?_)
  | ((with_reducible show pEqG _ (.tup (List.map D.int _)) (.tup (List.map D.int _)) _ _); refine st_eqTT ?_)
  | ((with_reducible show pIsi _ [_, .ty "bool"] _ _); refine st_isiL_bool (by first | assumption | exact tyO (by assumption)) ?_)
  | ((with_reducible show pIsi _ [_, .ty "int"] _ _); refine st_isiL_int (by first | assumption | exact tyO (by assumption)) ?_)
  | ((with_reducible show pIsi _ [_, .ty "str"] _ _); refine st_isiL_str (by first | assumption | exact tyO (by assumption)) ?_)
  | ((with_reducible show pIsi _ [_, .ty "tuple"] _ _); refine st_isiL_tuple (by first | assumption | exact tyO (by assumption)) ?_)
  | ((with_reducible show pIsi _ [_, .ty "list"] _ _); refine st_isiL_list (by first | assumption | exact tyO (by assumption)) ?_)
  | ((with_reducible show pIx _ (.int _) _ _); refine st_ixV (by assumption) (by first | rfl | assumption) ?_)
  | ((with_reducible show pLen [_] _ _); refine st_lenV (by assumption) ?_)
  | ((with_reducible show pTuple [_] _ _); refine st_tupleV (by assumption) ?_)
  | ((with_reducible show pList _ [_] _ _); refine st_listV (by assumption) ?_)
  | ((with_reducible show ∃ _, seqD _ _ = some _ ∧ _); refine st_seqV (by assumption) ?_)
  | ((with_reducible show pLen [.own _] _ _); refine st_lenO (by assumption) ?_)
  | ((with_reducible show pTuple [.own _] _ _); refine st_tupleO (by assumption) ?_)
  | ((with_reducible show pList _ [.own _] _ _); refine st_listO (by assumption) ?_)
  | ((with_reducible show setD (.own _) (.int _) _ (List.set _ _ (.lst _)) _); refine st_setS (by assumption) (by first | rfl | assumption) ?_)
  | ((with_reducible show setD (.own _) (.int _) _ _ _); refine st_set (by assumption) (by first | rfl | assumption) ?_)
  | ((with_reducible show isLst (.own _) _ ∧ _); refine st_isLst (by assumption) ?_)
  | ((with_reducible show ∃ _ _ _, insD (.obj _ _) _ = _ ∧ _); refine st_fldO rfl ?_)
  | ((with_reducible show ∃ _ _ _, insD (.own _) _ = _ ∧ _); refine st_fldC (by assumption) rfl ?_)
  | ((with_reducible show ∃ _, insD (.obj _ _) _ = _ ∧ _); refine st_methO rfl ?_)
  | ((with_reducible show ∃ _, insD (.own _) _ = _ ∧ _); refine st_methC (by assumption) rfl ?_)
  | ((with_reducible show dHs _ _ ((_, some _, _) :: _) _ _ _ _); refine st_hdS ?_)
  | ((with_reducible show dHs _ _ ((_, none, _) :: _) _ _ _ _); refine st_hdN ?_)
  | ((with_reducible show dHs _ _ (_ :: _) _ _ _ _); refine st_hn ?_)
  | ((with_reducible show ∃ _ _ _, D.exc _ _ = _ ∧ _); refine st_xfe' rfl ?_)
  | ((with_reducible show dAug _ _ _ _ _ _); refine st_aug rfl ?_)
  | ((with_reducible show ∃ _, seqD (.own _) _ = _ ∧ _); refine st_seqO (by assumption) ?_)
  | ((with_reducible show pSl _ (.own _) _ _ _ _); refine st_slO (by assumption) ?_)
  | ((with_reducible show pMod (.int _) (.int _) _ _); refine st_modI (by first | assumption | decide | omega) ?_))
local macro_rules | `(tactic| walk_at "od") => `(tactic| repeat' (first | walk_at "od1" | walk_at "od2"))
local macro_rules | `(tactic| walk_at "odj") => `(tactic| repeat' (first | walk_at "od1" | walk_at "od2" | refine st_iteDT (by decide) ?_ | refine st_iteDF (by decide) ?_))
local macro_rules | `(tactic| walk_at "od1n") => `(tactic| with_reducible first
  | refine st_asg ?_ | refine st_if ?_ | refine st_ret ?_ | refine st_drop ?_ | refine st_next ?_ | refine st_retN ?_
  | refine st_wnx ?_ | refine st_wrt ?_ | refine st_lnx ?_ | refine st_lct ?_ | refine st_lbk ?_ | refine st_lrt ?_ | refine st_wbk ?_ | refine st_wct ?_ | refine st_wex ?_ | refine st_lex ?_
  | refine st_var rfl ?_ | refine st_c ?_ | refine st_op ?_ | refine st_un ?_ | refine st_cb ?_ | refine st_call ?_ | refine st_cons ?_ | refine st_nil ?_
  | refine st_b ?_ | refine st_bl ?_ | refine st_blV ?_ | refine st_and ?_ | refine st_or ?_ | refine st_not ?_ | refine st_andV ?_ | refine st_orV ?_ | refine st_notV ?_ | refine st_ifE ?_ | refine st_chain ?_
  | refine st_dTru ?_ | refine st_tru ?_ | refine st_gN ?_ | refine st_gS ?_ | refine st_gC ?_ | refine st_gNil ?_
  | refine st_iteT ?_ | refine st_iteF ?_ | refine st_iteNT ?_ | refine st_iteNF ?_
  | refine st_addI ?_ | refine st_subI ?_ | refine st_negI ?_ | refine st_ltI ?_ | refine st_leI ?_ | refine st_gtI ?_ | refine st_geI ?_ | refine st_eqI ?_ | refine st_neI ?_ | refine st_eqS ?_ | refine st_neS ?_ | refine st_eqB ?_ | refine st_isI ?_ | refine st_isS ?_ | refine st_isT ?_ | refine st_isL ?_ | refine st_isB ?_ | refine st_isN ?_ | refine st_isx ?_ | refine st_iso ?_ | refine st_isi_int_bool ?_ | refine st_isi_int_int ?_ | refine st_isi_int_str ?_ | refine st_isi_int_list ?_ | refine st_isi_int_tuple ?_ | refine st_isi_str_bool ?_ | refine st_isi_str_int ?_ | refine st_isi_str_str ?_ | refine st_isi_str_list ?_ | refine st_isi_str_tuple ?_ | refine st_isi_tuple_bool ?_ | refine st_isi_tuple_int ?_ | refine st_isi_tuple_str ?_ | refine st_isi_tuple_list ?_ | refine st_isi_tuple_tuple ?_ | refine st_isi_list_bool ?_ | refine st_isi_list_int ?_ | refine st_isi_list_str ?_ | refine st_isi_list_list ?_ | refine st_isi_list_tuple ?_ | refine st_isi_bool_bool ?_ | refine st_isi_bool_int ?_ | refine st_isi_bool_str ?_ | refine st_isi_bool_list ?_ | refine st_isi_bool_tuple ?_ | refine st_isi_NoneType_bool ?_ | refine st_isi_NoneType_int ?_ | refine st_isi_NoneType_str ?_ | refine st_isi_NoneType_list ?_ | refine st_isi_NoneType_tuple ?_ | refine st_is ?_ | refine st_isNot ?_
  | refine st_pow8 ?_ | refine st_pow18 ?_ | refine st_pow20 ?_ | refine st_pow30 ?_ | refine st_pow31 ?_
  | refine st_tup ?_ | refine st_lst ?_ | refine st_mkF ?_ | refine st_mkO ?_ | refine st_frz ?_ | refine st_bm ?_ | refine st_isStr ?_
  | refine st_lenL ?_ | refine st_lenT ?_ | refine st_abs ?_ | refine st_int ?_ | refine st_max2 ?_ | refine st_min2 ?_ | refine st_listS ?_ | refine st_listL ?_ | refine st_listT ?_ | refine st_tupleL ?_ | refine st_tupleT ?_
  | refine st_for ?_ | refine st_range1 ?_ | refine st_lc ?_ | refine st_fld ?_ | refine st_setF ?_ | refine st_make ?_ | refine st_non ?_ | refine st_meth ?_ | refine st_prop ?_ | refine st_propO ?_ | refine st_raise2 ?_ | refine st_raise1 ?_ | refine st_try ?_ | refine st_augS ?_ | refine st_seqI ?_ | refine st_seqT ?_ | refine st_seqL ?_ | refine st_range2 ?_ | refine st_enum ?_ | refine st_zip ?_ | refine st_dnewT ?_ | refine st_dnewK ?_ | refine st_dget ?_ | refine st_din ?_ | refine st_dput ?_ | refine st_sl ?_ | refine st_noP ?_ | refine st_part ?_ | refine st_partI ?_ | refine st_slT ?_  | refine st_slL ?_ | refine st_listR1 ?_ | refine st_listR2 ?_ | refine st_ip ?_ | refine st_aug rfl ?_ | refine st_grt ?_ | refine st_gnx ?_ | refine st_crt ?_ | refine st_cnx ?_ | refine st_xrt ?_ | refine st_xnx ?_ | refine st_xex ?_ | refine st_h0 ?_ | refine st_truF ?_ | refine st_yes ?_ | refine st_mk2 ?_ | refine st_mk2e ?_ | refine st_mk1 ?_ | refine st_mk1e ?_ | refine st_mk0 ?_ | refine st_xf ?_)
local macro_rules | `(tactic| walk_at "odn") => `(tactic| repeat' (first | walk_at "od1n" | walk_at "od2"))
section
variable {C : Ct}
theorem pure_law_take {C : Ct} : ∀ ds S R Xc, sp_law_take ds S R Xc → r_law_take C (endsD S R Xc) (startD 4 ds) S := by
  intro ds S R Xc h
  unfold sp_law_take at h
  split at h
  · rename_i k m
    obtain ⟨⟨c, hc, ns, a, b, e, d, rfl, h1, h2, h3, h4⟩, hm, hm2, hQ⟩ := h
    unfold r_law_take
    have key : ∀ ρ' S', (∃ x4, ρ' = [some (D.own k), some (.int m), none, none, x4, none] ∧ ∃ c', S' = S.set k c' ∧ IsPool c') → (dSeq (dIf (dB (dOp pGt (dOp pIx (dVar 0) (dC (.int 0))) (dC (.int 0))))
  (dSeq (dAsg (dOp pMod (dCB pInt (dCons (dOp pIx (dVar 0) (dC (.int 0))) dNil)) (dVar 1)) (gN 5))
  (dSeq (dAsg (dOp pDiv (dOp pIx (dVar 0) (dC (.int 0))) (dVar 1)) (gS (dVar 0) (dC (.int 0))))
  (dRet (dVar 5))))
  dNext)
  (dSeq (dAsg (dOp (pAdd false) (dOp pIx (dVar 0) (dC (.int 2))) (dC (.int 1))) (gN 2))
  (dSeq (dAsg (dVar 2) (gS (dVar 0) (dC (.int 2))))
  (dSeq (dAsg (dOp pIx (dVar 0) (dC (.int 1))) (gN 3))
  (dSeq (dAsg (dOp pMod (dCB pInt (dCons (dOp (pAdd false) (dOp (pAdd false) (dOp (pMul false) (dVar 3) (dVar 3)) (dOp (pMul false) (dVar 2) (dC (.int 3571)))) (dC (.int 40692))) dNil)) (dC (.int 2147483399))) (gN 3))
  (dSeq (dAsg (dOp pMod (dCB pInt (dCons (dOp (pAdd false) (dOp (pMul false) (dVar 3) (dVar 3)) (dOp pDiv (dVar 3) (dC (.int 97)))) dNil)) (dC (.int 2147483629))) (gN 3))
  (dSeq (dAsg (dVar 3) (gS (dVar 0) (dC (.int 1))))
  (dRet (dOp pMod (dCB pInt (dCons (dOp pDiv (dVar 3) (dC (.int 8))) dNil)) (dVar 1)))))))))) (endsD S R Xc) ρ' S' := by
      rintro ρ' S' ⟨x4, rfl, c', rfl, ns, a, b, e, d, rfl, h1, h2, h3, h4⟩
      have hS := get_set (c' := .lst [.int a, .int b, .int e, .int d, .lst (ns.map D.int)]) hc
      walk_at "od"
      refine st_ite (fun h5 => ?_) (fun h5 => ?_)
      · walk_at "od"
        refine st_divI ?_ ?_
        · exact wide_div hm (b := 200) (by omega) (by decide) (by decide)
        walk_at "od"
        refine st_end (hQ _ _ (Int.emod_nonneg _ (by omega)) (Int.emod_lt_of_pos _ hm) ⟨ns, a / m, b, e, d, rfl, Int.ediv_nonneg h1 (by omega), h2, h3, h4⟩)
      · walk_at "od"
        have hS2 := get_set (c' := .lst [.int a, .int b, .int (e + 1), .int d, .lst (ns.map D.int)]) hc
        walk_at "od"
        refine st_mulI (.inl (.inl ⟨by omega, by omega⟩)) ?_
        walk_at "od"
        refine st_mulI (.inl (.inr ⟨by omega, by omega⟩)) ?_
        walk_at "od"
        generalize hx : (b * b + (e + 1) * 3571 + 40692) % 2147483399 = x
        have hx0 : 0 ≤ x := by rw [← hx]; exact Int.emod_nonneg _ (by decide)
        have hx1 : x < 2147483399 := by rw [← hx]; exact Int.emod_lt_of_pos _ (by decide)
        refine st_mulI (.inl (.inl ⟨by omega, by omega⟩)) ?_
        walk_at "od"
        refine st_divI (wide_div (by decide) (b := 200) (by decide) (by decide) (by decide)) ?_
        walk_at "od"
        refine st_divI (wide_div (by decide) (b := 200) (by decide) (by decide) (by decide)) ?_
        walk_at "od"
        refine st_end (hQ _ _ (Int.emod_nonneg _ (by omega)) (Int.emod_lt_of_pos _ hm) ⟨ns, a, _, e + 1, d, rfl, h1, Int.emod_nonneg _ (by decide), Int.lt_of_lt_of_le (Int.emod_lt_of_pos _ (by decide)) (by decide), h4⟩)
    refine st_join (fun ρ' S' => ∃ x4, ρ' = [some (D.own k), some (.int m), none, none, x4, none] ∧ ∃ c', S' = S.set k c' ∧ IsPool c') ?_ key
    have same : ∃ c', S = S.set k c' ∧ IsPool c' := ⟨_, (set_self hc).symm, ns, a, b, e, d, rfl, h1, h2, h3, h4⟩
    walk_at "od"
    refine st_ite (fun h5 => ?_) (fun h5 => ?_)
    · walk_at "od"
      refine st_ite (fun h6 => ?_) (fun h6 => ?_)
      · walk_at "od"
        obtain ⟨v, hv⟩ := atI_int (ns := ns) h4 (by simpa using h6)
        walk_at "od"
        have hS1 := get_set (c' := .lst [.int a, .int b, .int e, .int (d + 1), .lst (ns.map D.int)]) hc
        have hv0 : (0 : Int) ≤ (if v < 0 then -v else v) := by split <;> omega
        generalize (if v < 0 then -v else v) = cell at hv0 ⊢
        refine st_ite (fun h7 => ?_) (fun h7 => ?_)
        · walk_at "od"
          exact ⟨_, rfl, _, rfl, ns, cell, b, e, d + 1, rfl, hv0, h2, h3, by omega⟩
        · walk_at "od"
          refine st_mulI (.inl (.inr ⟨by decide, by decide⟩)) ?_
          walk_at "od"
          exact ⟨_, rfl, _, rfl, ns, a, _, e, d + 1, rfl, h1, Int.emod_nonneg _ (by decide), Int.lt_trans (Int.emod_lt_of_pos _ (by decide)) (by decide), by omega⟩
      · walk_at "od"
        exact ⟨none, rfl, same⟩
    · walk_at "od"
      exact ⟨none, rfl, same⟩
  · exact h.elim


theorem pure_law_pool : ∀ ds S R Xc, sp_law_pool ds S R Xc → r_law_pool C (endsD S R Xc) (startD 0 ds) S := by
  rintro ds S R Xc ⟨ns, rfl, h⟩
  unfold r_law_pool
  walk_at "od"
  exact st_end (h _ ⟨ns, 0, 1, 0, 0, rfl, by decide, by decide, by decide, by decide⟩)
theorem pure_law_number : ∀ ds S R Xc, sp_law_number ds S R Xc → r_law_number C (endsD S R Xc) (startD 0 ds) S := by
  intro ds S R Xc h
  unfold sp_law_number at h
  split at h
  · unfold r_law_number
    walk_at "od"
    exact st_end h
  · exact h.elim
theorem rd_flat {S : Store} {x v : D} (hf : flatD v = true) (h : rdD S x = v) : x = v := by
  cases x <;> try exact h
  rename_i k
  simp only [rdD] at h
  split at h <;> (subst h; simp [flatD] at hf)
theorem rd_tup {S : Store} {x : D} {ds : List D} (h : rdD S x = .tup ds) : x = .tup ds := by
  cases x <;> try exact h
  rename_i k
  simp only [rdD] at h
  split at h <;> cases h
theorem rd_lst {S : Store} {x : D} {ds : List D} (h : rdD S x = .lst ds) : seqD x S = some ds ∧ tyD C x S = some (.type "list") ∧ isNoneD x = false := by
  cases x <;> simp only [rdD] at h <;> try (cases h)
  · exact ⟨rfl, rfl, rfl⟩
  · rename_i k
    split at h
    · rename_i ds' e
      cases h
      exact ⟨by simp only [seqD, e], by simp only [tyD, e], rfl⟩
    · cases h
theorem pure_law_same (n : Nat) : ∀ ds S R Xc, sp_sameN (n + 1) ds S R Xc → r_law_same C (sp_sameN n) (endsD S R Xc) (startD 1 ds) S := by
  rintro ds S R Xc ⟨x, y, v, rfl, hx, hy, hd, hQ⟩
  have flat : flatD v = true → r_law_same C (sp_sameN n) (endsD S R Xc) (startD 1 [x, y]) S := by
    intro hf
    have e1 := rd_flat hf hx
    have e2 := rd_flat hf hy
    rw [e1, e2]
    clear e1 e2 hx hy hd
    unfold r_law_same
    cases v <;> simp only [flatD] at hf <;> try (cases hf)
    · walk_at "od"; exact st_end hQ
    · walk_at "od"; simp only [decide_true]; exact st_end hQ
    · walk_at "od"; refine to_number ?_; walk_at "od"; simp only [decide_true]; exact st_end hQ
    · walk_at "od"; simp only [decide_true]; exact st_end hQ
  have loop : ∀ (E : EndsD) (ds : List D), seqD x S = some ds → seqD y S = some ds → ds.all (depD (n - 1)) = true → ds.length ≤ 1000000 → 0 < n → E.rt (.bl true) S →
      (dSeq (dFor (iRange1 (dCB pLen (dCons (dVar 1) dNil))) (gN 2)
  (dIf (dNot (dTru truD (dCall (sp_sameN n) (dCons (dOp pIx (dVar 0) (dVar 2)) (dCons (dOp pIx (dVar 1) (dVar 2)) dNil)))))
  (dRet (dC (.bl false)))
  dNext))
  (dRet (dC (.bl true)))) E [some x, some y, none] S := by
    intro E ds h1 h2 h3 h4 h5 hE
    walk_at "od"
    refine ⟨by omega, by omega, ?_⟩
    refine st_walkR 0 _ rfl (fun i ρ S' => S' = S ∧ ∃ z, ρ = [some x, some y, z]) ⟨rfl, _, rfl⟩ (fun _ _ _ _ => trivial) ?_ ?_
    · rintro i ρ' S' hi ⟨rfl, z, rfl⟩
      obtain ⟨d, hd1, hd2⟩ := atI_lt (xs := ds) (d := 0 + (i : Int)) (by omega) (by omega)
      walk_at "od"
      obtain ⟨n', rfl⟩ : ∃ n', n = n' + 1 := ⟨n - 1, by omega⟩
      have hdd : depD n' d = true := List.all_eq_true.mp h3 d (List.mem_of_getElem? hd2)
      have hr : rdD S' d = d := by
        cases d <;> try rfl
        cases n' <;> simp [depD, flatD] at hdd
      refine to_same hr hr hdd ?_
      walk_at "od"
      exact ⟨_, _, Shr.keep, rfl, _, rfl⟩
    · rintro ρ' S' ⟨rfl, z, rfl⟩
      walk_at "od"
      exact hE
  cases n with
  | zero => exact flat (by simpa [depD] using hd)
  | succ n =>
    cases v with
    | tup es =>
      simp only [depD, Bool.and_eq_true, decide_eq_true_eq] at hd
      have e1 := rd_tup hx
      have e2 := rd_tup hy
      subst e1
      subst e2
      unfold r_law_same
      refine st_seq ?_
      refine st_if ?_
      walk_at "od"
      simp only [decide_true, Bool.not_true]
      refine st_iteF ?_
      refine st_next ?_
      refine st_wnx ?_
      exact loop _ es rfl rfl hd.1 hd.2 (by omega) (st_end hQ)
    | lst es =>
      simp only [depD, Bool.and_eq_true, decide_eq_true_eq] at hd
      obtain ⟨s1, t1, n1⟩ := rd_lst (C := C) hx
      obtain ⟨s2, t2, n2⟩ := rd_lst (C := C) hy
      unfold r_law_same
      walk_at "od"
      simp only [n2]
      walk_at "od"
      simp only [decide_true, Bool.not_true]
      refine st_iteF ?_
      refine st_next ?_
      refine st_wnx ?_
      exact loop _ es s1 s2 hd.1 hd.2 (by omega) (st_end hQ)
    | _ => exact flat (by simpa [depD] using hd)
theorem pure_law_same_1 : ∀ ds S R Xc, sp_same1 ds S R Xc → r_law_same C sp_same0 (endsD S R Xc) (startD 1 ds) S := pure_law_same 0
theorem pure_law_same_2 : ∀ ds S R Xc, sp_same2 ds S R Xc → r_law_same C sp_same1 (endsD S R Xc) (startD 1 ds) S := pure_law_same 1
theorem pure_law_same_3 : ∀ ds S R Xc, sp_same3 ds S R Xc → r_law_same C sp_same2 (endsD S R Xc) (startD 1 ds) S := pure_law_same 2
theorem pure_law_same_4 : ∀ ds S R Xc, sp_same4 ds S R Xc → r_law_same C sp_same3 (endsD S R Xc) (startD 1 ds) S := pure_law_same 3
end

end K

namespace K
open PySem PySem.Spec L2 OD
open PyProof.Rows hiding St
local macro_rules | `(tactic| walk_at "od1") => `(tactic| with_reducible first
  | refine st_seq ?_ | refine st_asg ?_ | refine st_if ?_ | refine st_ret ?_ | refine st_drop ?_ | refine st_next ?_ | refine st_retN ?_
  | refine st_wnx ?_ | refine st_wrt ?_ | refine st_lnx ?_ | refine st_lct ?_ | refine st_lbk ?_ | refine st_lrt ?_ | refine st_wbk ?_ | refine st_wct ?_ | refine st_wex ?_ | refine st_lex ?_
  | refine st_var rfl ?_ | refine st_c ?_ | refine st_op ?_ | refine st_un ?_ | refine st_cb ?_ | refine st_call ?_ | refine st_cons ?_ | refine st_nil ?_
  | refine st_b ?_ | refine st_bl ?_ | refine st_blV ?_ | refine st_and ?_ | refine st_or ?_ | refine st_not ?_ | refine st_andV ?_ | refine st_orV ?_ | refine st_notV ?_ | refine st_ifE ?_ | refine st_chain ?_
  | refine st_dTru ?_ | refine st_tru ?_ | refine st_gN ?_ | refine st_gS ?_ | refine st_gC ?_ | refine st_gNil ?_
  | refine st_iteT ?_ | refine st_iteF ?_ | refine st_iteNT ?_ | refine st_iteNF ?_
  | refine st_addI ?_ | refine st_subI ?_ | refine st_negI ?_ | refine st_ltI ?_ | refine st_leI ?_ | refine st_gtI ?_ | refine st_geI ?_ | refine st_eqI ?_ | refine st_neI ?_ | refine st_eqS ?_ | refine st_neS ?_ | refine st_eqB ?_ | refine st_isI ?_ | refine st_isS ?_ | refine st_isT ?_ | refine st_isL ?_ | refine st_isB ?_ | refine st_isN ?_ | refine st_isx ?_ | refine st_iso ?_ | refine st_isi_int_bool ?_ | refine st_isi_int_int ?_ | refine st_isi_int_str ?_ | refine st_isi_int_list ?_ | refine st_isi_int_tuple ?_ | refine st_isi_str_bool ?_ | refine st_isi_str_int ?_ | refine st_isi_str_str ?_ | refine st_isi_str_list ?_ | refine st_isi_str_tuple ?_ | refine st_isi_tuple_bool ?_ | refine st_isi_tuple_int ?_ | refine st_isi_tuple_str ?_ | refine st_isi_tuple_list ?_ | refine st_isi_tuple_tuple ?_ | refine st_isi_list_bool ?_ | refine st_isi_list_int ?_ | refine st_isi_list_str ?_ | refine st_isi_list_list ?_ | refine st_isi_list_tuple ?_ | refine st_isi_bool_bool ?_ | refine st_isi_bool_int ?_ | refine st_isi_bool_str ?_ | refine st_isi_bool_list ?_ | refine st_isi_bool_tuple ?_ | refine st_isi_NoneType_bool ?_ | refine st_isi_NoneType_int ?_ | refine st_isi_NoneType_str ?_ | refine st_isi_NoneType_list ?_ | refine st_isi_NoneType_tuple ?_ | refine st_is ?_ | refine st_isNot ?_
  | refine st_pow8 ?_ | refine st_pow18 ?_ | refine st_pow20 ?_ | refine st_pow30 ?_ | refine st_pow31 ?_
  | refine st_tup ?_ | refine st_lst ?_ | refine st_mkF ?_ | refine st_mkO ?_ | refine st_frz ?_ | refine st_bm ?_ | refine st_isStr ?_
  | refine st_lenL ?_ | refine st_lenT ?_ | refine st_abs ?_ | refine st_int ?_ | refine st_max2 ?_ | refine st_min2 ?_ | refine st_listS ?_ | refine st_listL ?_ | refine st_listT ?_ | refine st_tupleL ?_ | refine st_tupleT ?_
  | refine st_for ?_ | refine st_range1 ?_ | refine st_lc ?_ | refine st_fld ?_ | refine st_setF ?_ | refine st_make ?_ | refine st_non ?_ | refine st_meth ?_ | refine st_prop ?_ | refine st_propO ?_ | refine st_raise2 ?_ | refine st_raise1 ?_ | refine st_try ?_ | refine st_augS ?_ | refine st_seqI ?_ | refine st_seqT ?_ | refine st_seqL ?_ | refine st_range2 ?_ | refine st_enum ?_ | refine st_zip ?_ | refine st_dnewT ?_ | refine st_dnewK ?_ | refine st_dget ?_ | refine st_din ?_ | refine st_dput ?_ | refine st_sl ?_ | refine st_noP ?_ | refine st_part ?_ | refine st_partI ?_ | refine st_slT ?_  | refine st_slL ?_ | refine st_listR1 ?_ | refine st_listR2 ?_ | refine st_ip ?_ | refine st_aug rfl ?_ | refine st_grt ?_ | refine st_gnx ?_ | refine st_crt ?_ | refine st_cnx ?_ | refine st_xrt ?_ | refine st_xnx ?_ | refine st_xex ?_ | refine st_h0 ?_ | refine st_truF ?_ | refine st_yes ?_ | refine st_mk2 ?_ | refine st_mk2e ?_ | refine st_mk1 ?_ | refine st_mk1e ?_ | refine st_mk0 ?_ | refine st_xf ?_)
local macro_rules | `(tactic| walk_at "od2") => `(tactic| first
  | ((with_reducible show dVar _ _ _ _ _); refine st_var rfl ?_)
  | ((with_reducible show pIx (.own _) (.int _) _ _); refine st_ixO (by assumption) (by first | rfl | assumption) ?_)
  | ((with_reducible show pIx (.lst _) (.int _) _ _); refine st_ixL (by first | rfl | assumption) ?_)
  | ((with_reducible show pIx (.tup _) (.int _) _ _); refine st_ixT (by first | rfl | assumption) ?_)
  | ((with_reducible show List.length _ ≤ sizeLine ∧ _); refine ⟨small_line (by simp), ?_⟩)
  | ((with_reducible show pAppend (.own _) [_] _ _); refine st_append (by assumption) (by assumption) ?_)
  | ((with_reducible show pInG false (.int _) (.lst (List.map D.int _)) _ _); refine st_inF rfl ?_)
  | ((with_reducible show pInG false (.int _) (.tup (List.map D.int _)) _ _); refine st_inF rfl ?_)
  | ((with_reducible show pInG true (.int _) (.lst (List.map D.int _)) _ _); refine st_inT rfl ?_)
  | ((with_reducible show pInG true (.int _) (.tup (List.map D.int _)) _ _); refine st_inT rfl ?_)
  | ((with_reducible show pInG false (.int _) _ _ _); refine st_inF (by assumption) ?_)
  | ((with_reducible show pInG true (.int _) _ _ _); refine st_inT (by assumption) ?_)
  | ((with_reducible show pSum [.lst (List.map D.int _)] _ _); refine st_sumI rfl ?_)
  | ((with_reducible show pEqG _ (.lst (List.map D.int _)) (.lst (List.map D.int _)) _ _); refine st_eqLL ?_)
  | ((with_reducible show pEqG _ (.tup (List.map D.int _)) (.tup (List.map D.int _)) _ _); refine st_eqTT ?_)
  | ((with_reducible show pIsi _ [_, .ty "bool"] _ _); refine st_isiL_bool (by first | assumption | exact tyO (by assumption)) ?_)
  | ((with_reducible show pIsi _ [_, .ty "int"] _ _); refine st_isiL_int (by first | assumption | exact tyO (by assumption)) ?_)
  | ((with_reducible show pIsi _ [_, .ty "str"] _ _); refine st_isiL_str (by first | assumption | exact tyO (by assumption)) ?_)
  | ((with_reducible show pIsi _ [_, .ty "tuple"] _ _); refine st_isiL_tuple (by first | assumption | exact tyO (by assumption)) ?_)
  | ((with_reducible show pIsi _ [_, .ty "list"] _ _); refine st_isiL_list (by first | assumption | exact tyO (by assumption)) ?_)
  | ((with_reducible show pIx _ (.int _) _ _); refine st_ixV (by assumption) (by first | rfl | assumption) ?_)
  | ((with_reducible show pLen [_] _ _); refine st_lenV (by assumption) ?_)
  | ((with_reducible show pTuple [_] _ _); refine st_tupleV (by assumption) ?_)
  | ((with_reducible show pList _ [_] _ _); refine st_listV (by assumption) ?_)
  | ((with_reducible show ∃ _, seqD _ _ = some _ ∧ _); refine st_seqV (by assumption) ?_)
  | ((with_reducible show pLen [.own _] _ _); refine st_lenO (by assumption) ?_)
  | ((with_reducible show pTuple [.own _] _ _); refine st_tupleO (by assumption) ?_)
  | ((with_reducible show pList _ [.own _] _ _); refine st_listO (by assumption) ?_)
  | ((with_reducible show setD (.own _) (.int _) _ (List.set _ _ (.lst _)) _); refine st_setS (by assumption) (by first | rfl | assumption) ?_)
  | ((with_reducible show setD (.own _) (.int _) _ _ _); refine st_set (by assumption) (by first | rfl | assumption) ?_)
  | ((with_reducible show isLst (.own _) _ ∧ _); refine st_isLst (by assumption) ?_)
  | ((with_reducible show ∃ _ _ _, insD (.obj _ _) _ = _ ∧ _); refine st_fldO rfl ?_)
  | ((with_reducible show ∃ _ _ _, insD (.own _) _ = _ ∧ _); refine st_fldC (by assumption) rfl ?_)
  | ((with_reducible show ∃ _, insD (.obj _ _) _ = _ ∧ _); refine st_methO rfl ?_)
  | ((with_reducible show ∃ _, insD (.own _) _ = _ ∧ _); refine st_methC (by assumption) rfl ?_)
  | ((with_reducible show dHs _ _ ((_, some _, _) :: _) _ _ _ _); refine st_hdS ?_)
  | ((with_reducible show dHs _ _ ((_, none, _) :: _) _ _ _ _); refine st_hdN ?_)
  | ((with_reducible show dHs _ _ (_ :: _) _ _ _ _); refine st_hn ?_)
  | ((with_reducible show ∃ _ _ _, D.exc _ _ = _ ∧ _); refine st_xfe' rfl ?_)
  | ((with_reducible show dAug _ _ _ _ _ _); refine st_aug rfl ?_)
  | ((with_reducible show ∃ _, seqD (.own _) _ = _ ∧ _); refine st_seqO (by assumption) ?_)
  | ((with_reducible show pSl _ (.own _) _ _ _ _); refine st_slO (by assumption) ?_)
  | ((with_reducible show pMod (.int _) (.int _) _ _); refine st_modI (by first | assumption | decide | omega) ?_))
local macro_rules | `(tactic| walk_at "od") => `(tactic| repeat' (first | walk_at "od1" | walk_at "od2"))
local macro_rules | `(tactic| walk_at "odj") => `(tactic| repeat' (first | walk_at "od1" | walk_at "od2" | refine st_iteDT (by decide) ?_ | refine st_iteDF (by decide) ?_))
local macro_rules | `(tactic| walk_at "od1n") => `(tactic| with_reducible first
  | refine st_asg ?_ | refine st_if ?_ | refine st_ret ?_ | refine st_drop ?_ | refine st_next ?_ | refine st_retN ?_
  | refine st_wnx ?_ | refine st_wrt ?_ | refine st_lnx ?_ | refine st_lct ?_ | refine st_lbk ?_ | refine st_lrt ?_ | refine st_wbk ?_ | refine st_wct ?_ | refine st_wex ?_ | refine st_lex ?_
  | refine st_var rfl ?_ | refine st_c ?_ | refine st_op ?_ | refine st_un ?_ | refine st_cb ?_ | refine st_call ?_ | refine st_cons ?_ | refine st_nil ?_
  | refine st_b ?_ | refine st_bl ?_ | refine st_blV ?_ | refine st_and ?_ | refine st_or ?_ | refine st_not ?_ | refine st_andV ?_ | refine st_orV ?_ | refine st_notV ?_ | refine st_ifE ?_ | refine st_chain ?_
  | refine st_dTru ?_ | refine st_tru ?_ | refine st_gN ?_ | refine st_gS ?_ | refine st_gC ?_ | refine st_gNil ?_
  | refine st_iteT ?_ | refine st_iteF ?_ | refine st_iteNT ?_ | refine st_iteNF ?_
  | refine st_addI ?_ | refine st_subI ?_ | refine st_negI ?_ | refine st_ltI ?_ | refine st_leI ?_ | refine st_gtI ?_ | refine st_geI ?_ | refine st_eqI ?_ | refine st_neI ?_ | refine st_eqS ?_ | refine st_neS ?_ | refine st_eqB ?_ | refine st_isI ?_ | refine st_isS ?_ | refine st_isT ?_ | refine st_isL ?_ | refine st_isB ?_ | refine st_isN ?_ | refine st_isx ?_ | refine st_iso ?_ | refine st_isi_int_bool ?_ | refine st_isi_int_int ?_ | refine st_isi_int_str ?_ | refine st_isi_int_list ?_ | refine st_isi_int_tuple ?_ | refine st_isi_str_bool ?_ | refine st_isi_str_int ?_ | refine st_isi_str_str ?_ | refine st_isi_str_list ?_ | refine st_isi_str_tuple ?_ | refine st_isi_tuple_bool ?_ | refine st_isi_tuple_int ?_ | refine st_isi_tuple_str ?_ | refine st_isi_tuple_list ?_ | refine st_isi_tuple_tuple ?_ | refine st_isi_list_bool ?_ | refine st_isi_list_int ?_ | refine st_isi_list_str ?_ | refine st_isi_list_list ?_ | refine st_isi_list_tuple ?_ | refine st_isi_bool_bool ?_ | refine st_isi_bool_int ?_ | refine st_isi_bool_str ?_ | refine st_isi_bool_list ?_ | refine st_isi_bool_tuple ?_ | refine st_isi_NoneType_bool ?_ | refine st_isi_NoneType_int ?_ | refine st_isi_NoneType_str ?_ | refine st_isi_NoneType_list ?_ | refine st_isi_NoneType_tuple ?_ | refine st_is ?_ | refine st_isNot ?_
  | refine st_pow8 ?_ | refine st_pow18 ?_ | refine st_pow20 ?_ | refine st_pow30 ?_ | refine st_pow31 ?_
  | refine st_tup ?_ | refine st_lst ?_ | refine st_mkF ?_ | refine st_mkO ?_ | refine st_frz ?_ | refine st_bm ?_ | refine st_isStr ?_
  | refine st_lenL ?_ | refine st_lenT ?_ | refine st_abs ?_ | refine st_int ?_ | refine st_max2 ?_ | refine st_min2 ?_ | refine st_listS ?_ | refine st_listL ?_ | refine st_listT ?_ | refine st_tupleL ?_ | refine st_tupleT ?_
  | refine st_for ?_ | refine st_range1 ?_ | refine st_lc ?_ | refine st_fld ?_ | refine st_setF ?_ | refine st_make ?_ | refine st_non ?_ | refine st_meth ?_ | refine st_prop ?_ | refine st_propO ?_ | refine st_raise2 ?_ | refine st_raise1 ?_ | refine st_try ?_ | refine st_augS ?_ | refine st_seqI ?_ | refine st_seqT ?_ | refine st_seqL ?_ | refine st_range2 ?_ | refine st_enum ?_ | refine st_zip ?_ | refine st_dnewT ?_ | refine st_dnewK ?_ | refine st_dget ?_ | refine st_din ?_ | refine st_dput ?_ | refine st_sl ?_ | refine st_noP ?_ | refine st_part ?_ | refine st_partI ?_ | refine st_slT ?_  | refine st_slL ?_ | refine st_listR1 ?_ | refine st_listR2 ?_ | refine st_ip ?_ | refine st_aug rfl ?_ | refine st_grt ?_ | refine st_gnx ?_ | refine st_crt ?_ | refine st_cnx ?_ | refine st_xrt ?_ | refine st_xnx ?_ | refine st_xex ?_ | refine st_h0 ?_ | refine st_truF ?_ | refine st_yes ?_ | refine st_mk2 ?_ | refine st_mk2e ?_ | refine st_mk1 ?_ | refine st_mk1e ?_ | refine st_mk0 ?_ | refine st_xf ?_)
local macro_rules | `(tactic| walk_at "odn") => `(tactic| repeat' (first | walk_at "od1n" | walk_at "od2"))
section
variable {C : Ct} [LawF C]
theorem pure_check_numbers : ∀ ds S R Xc, sp_check_numbers ds S R Xc → r_check_numbers C (endsD S R Xc) (startD 0 ds) S := by
  rintro ds S R Xc ⟨m, q, rfl, h1, h2, h3, h4, hQ⟩
  unfold r_check_numbers
  walk_at "od"
  refine st_iteDT h1 ?_
  walk_at "od"
  simp only [decide_eq_true h2, Bool.not_true]
  walk_at "od"
  refine st_iteDT h3 ?_
  walk_at "od"
  simp only [decide_eq_true h4, Bool.not_true]
  walk_at "od"
  exact st_endNs hQ
theorem pure_check_firsts : ∀ ds S R Xc, sp_check_firsts ds S R Xc → r_check_firsts C (endsD S R Xc) (startD 2 ds) S := by
  rintro ds S R Xc ⟨m, q, fs, fd, rfl, hf, P, hQ⟩
  have hf' : seqD fd S = some (fs.map D.int) := hf
  have n1 := P.n1
  have n12 := P.n12
  unfold r_check_firsts
  walk_at "od"
  rw [List.length_map]
  refine st_iteDT (by omega) ?_
  walk_at "od"
  rw [decide_eq_true (show (fs.length : Int) ≤ 12 by omega)]
  walk_at "od"
  rw [List.length_map]
  refine ⟨by omega, by omega, ?_⟩
  refine st_walkR 0 _ rfl (fun i ρ S' => S' = S ∧ ∃ z, ρ = [some (.int m), some (.int q), some fd, some (.int ((fs.take i).count 1 : Nat)), z]) ⟨rfl, _, rfl⟩ (fun _ _ _ _ => trivial) ?_ ?_
  · rintro i ρ' S' hi ⟨rfl, z, rfl⟩
    have hi' : i < fs.length := by omega
    have hx := atI_ints (ns := fs) (i := 0 + (i : Int)) (by omega) (by omega)
    have hw : fs.getD (0 + (i : Int)).toNat 0 = fs[i] := by simp [hi']
    rw [hw] at hx
    have hr := P.stand.rng fs[i] (List.getElem_mem hi')
    have ht : fs.take (i + 1) = fs.take i ++ [fs[i]] := by rw [List.take_append_getElem]
    walk_at "od"
    refine st_iteDT hr.1 ?_
    walk_at "od"
    rw [decide_eq_true hr.2]
    walk_at "od"
    refine st_ite (fun h => ?_) (fun h => ?_)
    · walk_at "od"
      refine ⟨_, _, Shr.keep, rfl, some (.int (0 + (i : Int))), ?_⟩
      rw [ht, List.count_append, h]
      rfl
    · walk_at "od"
      refine ⟨_, _, Shr.keep, rfl, some (.int (0 + (i : Int))), ?_⟩
      rw [ht, List.count_append]
      have : ([fs[i]] : List Int).count 1 = 0 := by simp [List.count_cons, h]
      rw [this]
      rfl
  · rintro ρ' S' ⟨rfl, z, rfl⟩
    walk_at "od"
    have h1 := P.stand.ones
    refine st_iteDF ?_ ?_
    · rw [List.take_of_length_le (by omega)]
      omega
    · walk_at "od"
      exact st_endNs hQ
theorem pure_Depot___init__ : ∀ ds S R Xc, sp_Depot___init__ ds S R Xc → r_Depot___init__ C (endsD S R Xc) (startD 0 ds) S := by
  rintro ds S R Xc ⟨k, m, q, fs, fd, rfl, hk, hf, P, hQ⟩
  unfold r_Depot___init__
  have h1 := P.stand.m1
  have h2 := P.m8
  have h3 := P.stand.q1
  have h4 := P.qn
  have h5 := P.n12
  walk_at "od"
  refine ⟨m, q, rfl, h1, h2, h3, by omega, ?_⟩
  walk_at "od"
  refine ⟨m, q, fs, fd, rfl, hf, P, ?_⟩
  have hf' : seqD fd S = some (fs.map D.int) := hf
  walk_at "od"
  refine st_setFI (fs' := [("period", .int m)]) hk (by decide) rfl ?_
  walk_at "od"
  refine st_setFI (fs' := [("period", .int m), ("quota", .int q)]) (get_set hk) (by simp) rfl ?_
  rw [List.set_set]
  have hne : ∀ c, seqD fd (S.set k (.ins "Depot" c)) = some (fs.map D.int) := fun c => by
    cases fd <;> try exact hf'
    rename_i j
    simp only [seqD] at hf' ⊢
    by_cases e : k = j
    · subst e
      rw [hk] at hf'; cases hf'
    · rw [List.getElem?_set_ne e]; exact hf'
  walk_at "od"
  refine st_tupleV (hne _) ?_
  walk_at "od"
  refine st_setFI (fs' := depotF m q fs) (get_set hk) (by simp) rfl ?_
  rw [List.set_set]
  walk_at "od"
  have hl := (List.getElem?_eq_some_iff.mp hk).1
  have hcl : cellLt S.length (.ins "Depot" (depotF m q fs)) = true := by
    have : ∀ ns : List Int, ownLts S.length (ns.map D.int) = true := fun ns => by
      induction ns with
      | nil => simp [ownLts]
      | cons n ns ih => simp [ownLts, ownLt, ih]
    simp [cellLt, depotF, ownLtF, ownLt, this]
  refine st_endN (S' := S.set k (.ins "Depot" (depotF m q fs))) ?_ hQ
  have := Cut.set S [] k (.ins "Depot" (depotF m q fs)) hcl
  rw [List.append_nil] at this
  exact this
theorem pure_Depot_size : ∀ ds S R Xc, sp_Depot_size ds S R Xc → r_Depot_size C (endsD S R Xc) (startD 0 ds) S := by
  rintro ds S R Xc ⟨m, q, fs, rfl, hQ⟩
  unfold r_Depot_size
  walk_at "od"
  rw [List.length_map]
  exact st_end hQ
end

end K

namespace K
open PySem PySem.Spec L2 OD
open PyProof.Rows hiding St
local macro_rules | `(tactic| walk_at "od1") => `(tactic| with_reducible first
  | refine st_seq ?_ | refine st_asg ?_ | refine st_if ?_ | refine st_ret ?_ | refine st_drop ?_ | refine st_next ?_ | refine st_retN ?_
  | refine st_wnx ?_ | refine st_wrt ?_ | refine st_lnx ?_ | refine st_lct ?_ | refine st_lbk ?_ | refine st_lrt ?_ | refine st_wbk ?_ | refine st_wct ?_ | refine st_wex ?_ | refine st_lex ?_
  | refine st_var rfl ?_ | refine st_c ?_ | refine st_op ?_ | refine st_un ?_ | refine st_cb ?_ | refine st_call ?_ | refine st_cons ?_ | refine st_nil ?_
  | refine st_b ?_ | refine st_bl ?_ | refine st_blV ?_ | refine st_and ?_ | refine st_or ?_ | refine st_not ?_ | refine st_andV ?_ | refine st_orV ?_ | refine st_notV ?_ | refine st_ifE ?_ | refine st_chain ?_
  | refine st_dTru ?_ | refine st_tru ?_ | refine st_gN ?_ | refine st_gS ?_ | refine st_gC ?_ | refine st_gNil ?_
  | refine st_iteT ?_ | refine st_iteF ?_ | refine st_iteNT ?_ | refine st_iteNF ?_
  | refine st_addI ?_ | refine st_subI ?_ | refine st_negI ?_ | refine st_ltI ?_ | refine st_leI ?_ | refine st_gtI ?_ | refine st_geI ?_ | refine st_eqI ?_ | refine st_neI ?_ | refine st_eqS ?_ | refine st_neS ?_ | refine st_eqB ?_ | refine st_isI ?_ | refine st_isS ?_ | refine st_isT ?_ | refine st_isL ?_ | refine st_isB ?_ | refine st_isN ?_ | refine st_isx ?_ | refine st_iso ?_ | refine st_isi_int_bool ?_ | refine st_isi_int_int ?_ | refine st_isi_int_str ?_ | refine st_isi_int_list ?_ | refine st_isi_int_tuple ?_ | refine st_isi_str_bool ?_ | refine st_isi_str_int ?_ | refine st_isi_str_str ?_ | refine st_isi_str_list ?_ | refine st_isi_str_tuple ?_ | refine st_isi_tuple_bool ?_ | refine st_isi_tuple_int ?_ | refine st_isi_tuple_str ?_ | refine st_isi_tuple_list ?_ | refine st_isi_tuple_tuple ?_ | refine st_isi_list_bool ?_ | refine st_isi_list_int ?_ | refine st_isi_list_str ?_ | refine st_isi_list_list ?_ | refine st_isi_list_tuple ?_ | refine st_isi_bool_bool ?_ | refine st_isi_bool_int ?_ | refine st_isi_bool_str ?_ | refine st_isi_bool_list ?_ | refine st_isi_bool_tuple ?_ | refine st_isi_NoneType_bool ?_ | refine st_isi_NoneType_int ?_ | refine st_isi_NoneType_str ?_ | refine st_isi_NoneType_list ?_ | refine st_isi_NoneType_tuple ?_ | refine st_is ?_ | refine st_isNot ?_
  | refine st_pow8 ?_ | refine st_pow18 ?_ | refine st_pow20 ?_ | refine st_pow30 ?_ | refine st_pow31 ?_
  | refine st_tup ?_ | refine st_lst ?_ | refine st_mkF ?_ | refine st_mkO ?_ | refine st_frz ?_ | refine st_bm ?_ | refine st_isStr ?_
  | refine st_lenL ?_ | refine st_lenT ?_ | refine st_abs ?_ | refine st_int ?_ | refine st_max2 ?_ | refine st_min2 ?_ | refine st_listS ?_ | refine st_listL ?_ | refine st_listT ?_ | refine st_tupleL ?_ | refine st_tupleT ?_
  | refine st_for ?_ | refine st_range1 ?_ | refine st_lc ?_ | refine st_fld ?_ | refine st_setF ?_ | refine st_make ?_ | refine st_non ?_ | refine st_meth ?_ | refine st_prop ?_ | refine st_propO ?_ | refine st_raise2 ?_ | refine st_raise1 ?_ | refine st_try ?_ | refine st_augS ?_ | refine st_seqI ?_ | refine st_seqT ?_ | refine st_seqL ?_ | refine st_range2 ?_ | refine st_enum ?_ | refine st_zip ?_ | refine st_dnewT ?_ | refine st_dnewK ?_ | refine st_dget ?_ | refine st_din ?_ | refine st_dput ?_ | refine st_sl ?_ | refine st_noP ?_ | refine st_part ?_ | refine st_partI ?_ | refine st_slT ?_  | refine st_slL ?_ | refine st_listR1 ?_ | refine st_listR2 ?_ | refine st_ip ?_ | refine st_aug rfl ?_ | refine st_grt ?_ | refine st_gnx ?_ | refine st_crt ?_ | refine st_cnx ?_ | refine st_xrt ?_ | refine st_xnx ?_ | refine st_xex ?_ | refine st_h0 ?_ | refine st_truF ?_ | refine st_yes ?_ | refine st_mk2 ?_ | refine st_mk2e ?_ | refine st_mk1 ?_ | refine st_mk1e ?_ | refine st_mk0 ?_ | refine st_xf ?_)
local macro_rules | `(tactic| walk_at "od2") => `(tactic| first
  | ((with_reducible show dVar _ _ _ _ _); refine st_var rfl ?_)
  | ((with_reducible show pIx (.own _) (.int _) _ _); refine st_ixO (by assumption) (by first | rfl | assumption) ?_)
  | ((with_reducible show pIx (.lst _) (.int _) _ _); refine st_ixL (by first | rfl | assumption) ?_)
  | ((with_reducible show pIx (.tup _) (.int _) _ _); refine st_ixT (by first | rfl | assumption) ?_)
  | ((with_reducible show List.length _ ≤ sizeLine ∧ _); refine ⟨small_line (by simp), ?_⟩)
  | ((with_reducible show pAppend (.own _) [_] _ _); refine st_append (by assumption) (by assumption) ?_)
  | ((with_reducible show pInG false (.int _) (.lst (List.map D.int _)) _ _); refine st_inF rfl ?_)
  | ((with_reducible show pInG false (.int _) (.tup (List.map D.int _)) _ _); refine st_inF rfl ?_)
  | ((with_reducible show pInG true (.int _) (.lst (List.map D.int _)) _ _); refine st_inT rfl ?_)
  | ((with_reducible show pInG true (.int _) (.tup (List.map D.int _)) _ _); refine st_inT rfl ?_)
  | ((with_reducible show pInG false (.int _) _ _ _); refine st_inF (by assumption) ?_)
  | ((with_reducible show pInG true (.int _) _ _ _); refine st_inT (by assumption) ?_)
  | ((with_reducible show pSum [.lst (List.map D.int _)] _ _); refine st_sumI rfl ?_)
  | ((with_reducible show pEqG _ (.lst (List.map D.int _)) (.lst (List.map D.int _)) _ _); refine st_eqLL ?_)
  | ((with_reducible show pEqG _ (.tup (List.map D.int _)) (.tup (List.map D.int _)) _ _); refine st_eqTT ?_)
  | ((with_reducible show pIsi _ [_, .ty "bool"] _ _); refine st_isiL_bool (by first | assumption | exact tyO (by assumption)) ?_)
  | ((with_reducible show pIsi _ [_, .ty "int"] _ _); refine st_isiL_int (by first | assumption | exact tyO (by assumption)) ?_)
  | ((with_reducible show pIsi _ [_, .ty "str"] _ _); refine st_isiL_str (by first | assumption | exact tyO (by assumption)) ?_)
  | ((with_reducible show pIsi _ [_, .ty "tuple"] _ _); refine st_isiL_tuple (by first | assumption | exact tyO (by assumption)) ?_)
  | ((with_reducible show pIsi _ [_, .ty "list"] _ _); refine st_isiL_list (by first | assumption | exact tyO (by assumption)) ?_)
  | ((with_reducible show pIx _ (.int _) _ _); refine st_ixV (by assumption) (by first | rfl | assumption) ?_)
  | ((with_reducible show pLen [_] _ _); refine st_lenV (by assumption) ?_)
  | ((with_reducible show pTuple [_] _ _); refine st_tupleV (by assumption) ?_)
  | ((with_reducible show pList _ [_] _ _); refine st_listV (by assumption) ?_)
  | ((with_reducible show ∃ _, seqD _ _ = some _ ∧ _); refine st_seqV (by assumption) ?_)
  | ((with_reducible show pLen [.own _] _ _); refine st_lenO (by assumption) ?_)
  | ((with_reducible show pTuple [.own _] _ _); refine st_tupleO (by assumption) ?_)
  | ((with_reducible show pList _ [.own _] _ _); refine st_listO (by assumption) ?_)
  | ((with_reducible show setD (.own _) (.int _) _ (List.set _ _ (.lst _)) _); refine st_setS (by assumption) (by first | rfl | assumption) ?_)
  | ((with_reducible show setD (.own _) (.int _) _ _ _); refine st_set (by assumption) (by first | rfl | assumption) ?_)
  | ((with_reducible show isLst (.own _) _ ∧ _); refine st_isLst (by assumption) ?_)
  | ((with_reducible show ∃ _ _ _, insD (.obj _ _) _ = _ ∧ _); refine st_fldO rfl ?_)
  | ((with_reducible show ∃ _ _ _, insD (.own _) _ = _ ∧ _); refine st_fldC (by assumption) rfl ?_)
  | ((with_reducible show ∃ _, insD (.obj _ _) _ = _ ∧ _); refine st_methO rfl ?_)
  | ((with_reducible show ∃ _, insD (.own _) _ = _ ∧ _); refine st_methC (by assumption) rfl ?_)
  | ((with_reducible show dHs _ _ ((_, some _, _) :: _) _ _ _ _); refine st_hdS ?_)
  | ((with_reducible show dHs _ _ ((_, none, _) :: _) _ _ _ _); refine st_hdN ?_)
  | ((with_reducible show dHs _ _ (_ :: _) _ _ _ _); refine st_hn ?_)
  | ((with_reducible show ∃ _ _ _, D.exc _ _ = _ ∧ _); refine st_xfe' rfl ?_)
  | ((with_reducible show dAug _ _ _ _ _ _); refine st_aug rfl ?_)
  | ((with_reducible show ∃ _, seqD (.own _) _ = _ ∧ _); refine st_seqO (by assumption) ?_)
  | ((with_reducible show pSl _ (.own _) _ _ _ _); refine st_slO (by assumption) ?_)
  | ((with_reducible show pMod (.int _) (.int _) _ _); refine st_modI (by first | assumption | decide | omega) ?_))
local macro_rules | `(tactic| walk_at "od") => `(tactic| repeat' (first | walk_at "od1" | walk_at "od2"))
local macro_rules | `(tactic| walk_at "odj") => `(tactic| repeat' (first | walk_at "od1" | walk_at "od2" | refine st_iteDT (by decide) ?_ | refine st_iteDF (by decide) ?_))
local macro_rules | `(tactic| walk_at "od1n") => `(tactic| with_reducible first
  | refine st_asg ?_ | refine st_if ?_ | refine st_ret ?_ | refine st_drop ?_ | refine st_next ?_ | refine st_retN ?_
  | refine st_wnx ?_ | refine st_wrt ?_ | refine st_lnx ?_ | refine st_lct ?_ | refine st_lbk ?_ | refine st_lrt ?_ | refine st_wbk ?_ | refine st_wct ?_ | refine st_wex ?_ | refine st_lex ?_
  | refine st_var rfl ?_ | refine st_c ?_ | refine st_op ?_ | refine st_un ?_ | refine st_cb ?_ | refine st_call ?_ | refine st_cons ?_ | refine st_nil ?_
  | refine st_b ?_ | refine st_bl ?_ | refine st_blV ?_ | refine st_and ?_ | refine st_or ?_ | refine st_not ?_ | refine st_andV ?_ | refine st_orV ?_ | refine st_notV ?_ | refine st_ifE ?_ | refine st_chain ?_
  | refine st_dTru ?_ | refine st_tru ?_ | refine st_gN ?_ | refine st_gS ?_ | refine st_gC ?_ | refine st_gNil ?_
  | refine st_iteT ?_ | refine st_iteF ?_ | refine st_iteNT ?_ | refine st_iteNF ?_
  | refine st_addI ?_ | refine st_subI ?_ | refine st_negI ?_ | refine st_ltI ?_ | refine st_leI ?_ | refine st_gtI ?_ | refine st_geI ?_ | refine st_eqI ?_ | refine st_neI ?_ | refine st_eqS ?_ | refine st_neS ?_ | refine st_eqB ?_ | refine st_isI ?_ | refine st_isS ?_ | refine st_isT ?_ | refine st_isL ?_ | refine st_isB ?_ | refine st_isN ?_ | refine st_isx ?_ | refine st_iso ?_ | refine st_isi_int_bool ?_ | refine st_isi_int_int ?_ | refine st_isi_int_str ?_ | refine st_isi_int_list ?_ | refine st_isi_int_tuple ?_ | refine st_isi_str_bool ?_ | refine st_isi_str_int ?_ | refine st_isi_str_str ?_ | refine st_isi_str_list ?_ | refine st_isi_str_tuple ?_ | refine st_isi_tuple_bool ?_ | refine st_isi_tuple_int ?_ | refine st_isi_tuple_str ?_ | refine st_isi_tuple_list ?_ | refine st_isi_tuple_tuple ?_ | refine st_isi_list_bool ?_ | refine st_isi_list_int ?_ | refine st_isi_list_str ?_ | refine st_isi_list_list ?_ | refine st_isi_list_tuple ?_ | refine st_isi_bool_bool ?_ | refine st_isi_bool_int ?_ | refine st_isi_bool_str ?_ | refine st_isi_bool_list ?_ | refine st_isi_bool_tuple ?_ | refine st_isi_NoneType_bool ?_ | refine st_isi_NoneType_int ?_ | refine st_isi_NoneType_str ?_ | refine st_isi_NoneType_list ?_ | refine st_isi_NoneType_tuple ?_ | refine st_is ?_ | refine st_isNot ?_
  | refine st_pow8 ?_ | refine st_pow18 ?_ | refine st_pow20 ?_ | refine st_pow30 ?_ | refine st_pow31 ?_
  | refine st_tup ?_ | refine st_lst ?_ | refine st_mkF ?_ | refine st_mkO ?_ | refine st_frz ?_ | refine st_bm ?_ | refine st_isStr ?_
  | refine st_lenL ?_ | refine st_lenT ?_ | refine st_abs ?_ | refine st_int ?_ | refine st_max2 ?_ | refine st_min2 ?_ | refine st_listS ?_ | refine st_listL ?_ | refine st_listT ?_ | refine st_tupleL ?_ | refine st_tupleT ?_
  | refine st_for ?_ | refine st_range1 ?_ | refine st_lc ?_ | refine st_fld ?_ | refine st_setF ?_ | refine st_make ?_ | refine st_non ?_ | refine st_meth ?_ | refine st_prop ?_ | refine st_propO ?_ | refine st_raise2 ?_ | refine st_raise1 ?_ | refine st_try ?_ | refine st_augS ?_ | refine st_seqI ?_ | refine st_seqT ?_ | refine st_seqL ?_ | refine st_range2 ?_ | refine st_enum ?_ | refine st_zip ?_ | refine st_dnewT ?_ | refine st_dnewK ?_ | refine st_dget ?_ | refine st_din ?_ | refine st_dput ?_ | refine st_sl ?_ | refine st_noP ?_ | refine st_part ?_ | refine st_partI ?_ | refine st_slT ?_  | refine st_slL ?_ | refine st_listR1 ?_ | refine st_listR2 ?_ | refine st_ip ?_ | refine st_aug rfl ?_ | refine st_grt ?_ | refine st_gnx ?_ | refine st_crt ?_ | refine st_cnx ?_ | refine st_xrt ?_ | refine st_xnx ?_ | refine st_xex ?_ | refine st_h0 ?_ | refine st_truF ?_ | refine st_yes ?_ | refine st_mk2 ?_ | refine st_mk2e ?_ | refine st_mk1 ?_ | refine st_mk1e ?_ | refine st_mk0 ?_ | refine st_xf ?_)
local macro_rules | `(tactic| walk_at "odn") => `(tactic| repeat' (first | walk_at "od1n" | walk_at "od2"))
section
variable {C : Ct} [LawF C]
theorem pure_is_between : ∀ ds S R Xc, sp_is_between ds S R Xc → r_is_between C (endsD S R Xc) (startD 0 ds) S := by
  rintro ds S R Xc ⟨v, a, b, rfl, hQ⟩
  unfold r_is_between
  walk_at "od"
  refine st_ite (fun h => ?_) (fun h => ?_)
  · walk_at "od"
    have e : decide (a ≤ v ∧ v ≤ b) = decide (v ≤ b) := by simp [h]
    rw [e] at hQ
    exact st_end hQ
  · walk_at "od"
    have e : decide (a ≤ v ∧ v ≤ b) = false := by simp [h]
    rw [e] at hQ
    exact st_end hQ
theorem named_get {row : List Int} {n : Nat} {v : Int} (h0 : 0 ≤ v) (h1 : v < n) : atI ((List.range n).map fun (i : Nat) => D.bl (decide ((i : Int) ∈ row))) v = some (.bl (decide (v ∈ row))) := by
  obtain ⟨k, rfl⟩ : ∃ k : Nat, v = k := ⟨v.toNat, by omega⟩
  exact atI_nat (by simp [show k < n by omega])
theorem named_set {row : List Int} {n : Nat} {v : Int} (h0 : 0 ≤ v) (h1 : v < n) : ((List.range n).map fun (i : Nat) => D.bl (decide ((i : Int) ∈ row))).set v.toNat (.bl true) = (List.range n).map fun (i : Nat) => D.bl (decide ((i : Int) ∈ row ++ [v])) := by
  apply List.ext_getElem
  · simp
  · intro i h2 h3
    simp only [List.length_set, List.length_map, List.length_range] at h2
    rw [List.getElem_set]
    simp only [List.getElem_map, List.getElem_range, List.mem_append, List.mem_singleton]
    split
    · rename_i e
      have : (i : Int) = v := by omega
      simp [this]
    · rename_i e
      have : (i : Int) ≠ v := by omega
      simp [this]
theorem pure_is_order : ∀ ds S R Xc, sp_is_order ds S R Xc → r_is_order C (endsD S R Xc) (startD 2 ds) S := by
  rintro ds S R Xc ⟨rd, row, n, rfl, hr, hn, hQ⟩
  have hr' : seqD rd S = some (row.map D.int) := hr
  have hlt : ∀ (c : Cell), seqD rd (S ++ [c]) = some (row.map D.int) := fun c => by
    cases rd <;> try exact hr'
    rename_i j
    simp only [seqD] at hr' ⊢
    split at hr'
    · rename_i e; rw [get_front e]; exact hr'
    · cases hr'
  unfold r_is_order
  walk_at "od"
  refine st_mulL (ds := [D.bl false]) (b := (n : Int)) (by omega) (by omega) (by simp; exact small_line (by omega)) ?_
  walk_at "od"
  refine ⟨_, hlt _, ?_⟩
  refine st_walk row D.int rfl (fun pre ρ S' => (∀ v ∈ pre, 0 ≤ v ∧ v < (n : Int)) ∧ pre.Nodup ∧ S' = S ++ [.lst ((List.range n).map fun (i : Nat) => .bl (decide ((i : Int) ∈ pre)))] ∧ ∃ z, ρ = [some rd, some (.int n), some (.own S.length), z])
    ⟨by simp, List.nodup_nil, ?_, _, rfl⟩ (fun pre ρ' S' h => by rw [h.2.2.1]; exact hlt _) ?_ ?_
  · congr 1
    simp only [List.cons.injEq, Cell.lst.injEq, and_true]
    apply List.ext_getElem
    · simp
    · intro i h1 h2
      simp
  · rintro pre v post ρ' S' sp ⟨h1, h2, rfl, z, rfl⟩
    walk_at "od"
    refine to_between ?_
    walk_at "od"
    by_cases hv : 0 ≤ v ∧ v ≤ (n : Int) - 1
    · rw [decide_eq_true hv]
      walk_at "od"
      refine st_ixO get_last (named_get hv.1 (by omega)) ?_
      walk_at "od"
      refine st_ite (fun h => ?_) (fun h => ?_)
      · walk_at "od"
        have e : isOrderB n row = false := by
          rw [Bool.eq_false_iff]
          intro hb
          have o := (isOrderB_iff.mp hb).nd
          rw [sp] at o
          have := (List.nodup_append.mp o).2.2 v h v List.mem_cons_self
          exact this rfl
        rw [e] at hQ
        exact st_endC (Cut.app S _) rfl hQ
      · walk_at "od"
        refine st_set get_last (n := v.toNat) ?_ ?_
        · exact ixN_in hv.1 (by simp; omega)
        · walk_at "od"
          refine ⟨_, _, Shr.keep, ?_, ?_, ?_, _, rfl⟩
          · intro w hw
            rcases List.mem_append.mp hw with hw | hw
            · exact h1 w hw
            · simp at hw; subst hw; omega
          · exact List.nodup_append.mpr ⟨h2, by simp, fun a ha b hb => by simp at hb; subst hb; exact fun e => h (e ▸ ha)⟩
          · rw [set_snoc, named_set hv.1 (by omega)]
    · rw [decide_eq_false hv]
      walk_at "od"
      have e : isOrderB n row = false := by
        rw [Bool.eq_false_iff]
        intro hb
        have o := (isOrderB_iff.mp hb).rng v (by rw [sp]; simp)
        omega
      rw [e] at hQ
      exact st_endC (Cut.app S _) rfl hQ
  · rintro ρ' S' ⟨h1, h2, rfl, z, rfl⟩
    walk_at "od"
    refine st_lenV (hlt _) ?_
    walk_at "od"
    rw [List.length_map]
    have e : isOrderB n row = decide ((row.length : Int) = (n : Int)) := by
      by_cases hl : row.length = n
      · rw [decide_eq_true (by omega)]
        exact isOrderB_iff.mpr ⟨hl, h2, h1⟩
      · rw [decide_eq_false (by omega), Bool.eq_false_iff]
        intro hb
        exact hl (isOrderB_iff.mp hb).len
    rw [e] at hQ
    exact st_endC (Cut.app S _) rfl hQ
theorem pure_check_led : ∀ ds S R Xc, sp_check_led ds S R Xc → r_check_led C (endsD S R Xc) (startD 0 ds) S := by
  rintro ds S R Xc ⟨m, q, fs, rfl, h1, h2⟩
  unfold r_check_led
  walk_at "od"
  refine to_size ?_
  walk_at "od"
  refine st_ite (fun h => ?_) (fun h => ?_)
  · walk_at "od"
    refine to_size ?_
    walk_at "od"
    exact st_endXs rfl (h1 _ _ (by unfold ledRef; rw [if_pos (by omega)]))
  · walk_at "od"
    refine st_ite (fun h' => ?_) (fun h' => ?_)
    · walk_at "od"
      exact st_endXs rfl (h1 _ _ (by unfold ledRef; rw [if_neg (by omega), if_pos h']))
    · walk_at "od"
      exact st_endNs (h2 (by unfold ledRef; rw [if_neg (by omega), if_neg h']))
theorem zip_at {α : Type} {ps pre post : List α} {i : Nat} {x : α} {pr po : List (Nat × α)} (h : (List.range ps.length).zip ps = pr ++ (i, x) :: po) : i = pr.length ∧ ps = ps.take i ++ x :: ps.drop (i + 1) ∧ pr.map (·.2) = ps.take i := by
  have hl : ((List.range ps.length).zip ps).length = ps.length := by simp
  have hi : pr.length < ps.length := by rw [h] at hl; simp at hl; omega
  have e1 : ((List.range ps.length).zip ps)[pr.length]? = some (i, x) := by rw [h]; simp
  rw [List.getElem?_zip_eq_some] at e1
  have e2 : i = pr.length := by
    have := e1.1
    rw [List.getElem?_range hi] at this
    exact (Option.some.inj this).symm
  refine ⟨e2, by rw [e2]; exact split_at e1.2, ?_⟩
  have e3 : ((List.range ps.length).zip ps).take pr.length = pr := by rw [h]; simp
  rw [← e3, List.map_take, List.map_snd_zip (by simp), e2]
theorem find_none {n : Nat} {rows : List (List Int)} (h : ∀ r ∈ rows, Led.Order n r) : (rows.findIdx? fun r => !isOrderB n r) = none := by
  rw [List.findIdx?_eq_none_iff]
  intro r hr
  simp [isOrderB_iff.mpr (h r hr)]
theorem find_first {n : Nat} {pre post : List (List Int)} {r : List Int} (h : ∀ r ∈ pre, Led.Order n r) (hr : isOrderB n r = false) : ((pre ++ r :: post).findIdx? fun r => !isOrderB n r) = some pre.length := by
  rw [List.findIdx?_append, find_none h, List.findIdx?_cons, hr]
  simp
theorem pure_check_lists : ∀ ds S R Xc, sp_check_lists ds S R Xc → r_check_lists C (endsD S R Xc) (startD 2 ds) S := by
  rintro ds S R Xc ⟨m, q, fs, ld, rows, rfl, hn, ⟨ps, hs, rfl, hp⟩, h1, h2⟩
  unfold r_check_lists
  walk_at "od"
  unfold listsRef at h1 h2
  simp only [List.length_map] at h1 h2 ⊢
  by_cases hm : (ps.length : Int) = m
  · rw [decide_eq_true hm]
    rw [if_neg (by simp [hm])] at h1 h2
    walk_at "od"
    rw [show (0 : Int) = ((0 : Nat) : Int) from rfl, enumD_map 0]
    refine st_walk ((List.range ps.length).zip ps) (fun p => D.tup [.int (0 + p.1 : Nat), p.2.1]) ?_ (fun pre ρ S' => S' = S ∧ (∀ p ∈ pre, Led.Order fs.length p.2.2) ∧ ∃ x y, ρ = [some (depotD m q fs), some ld, x, y]) ⟨rfl, by simp, _, _, rfl⟩ (fun pre ρ' S' h => by rw [h.1]; exact hs) ?_ ?_
    · rw [List.length_map, List.zip_map_right, List.map_map]; rfl
    · rintro pre ⟨i, d, row⟩ post ρ' S' sp ⟨rfl, h3, x, y, rfl⟩
      obtain ⟨hi, sp2, sp3⟩ := zip_at (pre := []) (post := []) sp
      have hmem : (d, row) ∈ ps := by rw [sp2]; simp
      refine st_gT rfl rfl ?_
      walk_at "od"
      refine to_size ?_
      walk_at "od"
      refine to_order (hp (d, row) hmem) hn ?_
      walk_at "od"
      cases hb : isOrderB fs.length row with
      | true =>
        walk_at "od"
        refine ⟨_, _, Shr.keep, rfl, ?_, _, _, rfl⟩
        intro p hp'
        rcases List.mem_append.mp hp' with hp' | hp'
        · exact h3 p hp'
        · simp at hp'; subst hp'
          exact isOrderB_iff.mp hb
      | false =>
        walk_at "od"
        refine st_endXs rfl (h1 _ _ ?_)
        have : ps.map (·.2) = (pre.map (·.2)).map (·.2) ++ row :: (ps.drop (i + 1)).map (·.2) := by
          rw [sp3]
          conv => lhs; rw [sp2]
          simp
        rw [this, find_first (fun r hr => by
          obtain ⟨p, hp2, rfl⟩ := List.mem_map.mp hr
          obtain ⟨p3, hp3, rfl⟩ := List.mem_map.mp hp2
          exact h3 p3 hp3) hb]
        simp [hi]
    · rintro ρ' S' ⟨rfl, h3, x, y, rfl⟩
      refine st_endNs (h2 ?_)
      rw [find_none]
      · rfl
      · intro r hr
        obtain ⟨p, hp2, rfl⟩ := List.mem_map.mp hr
        obtain ⟨i, hi⟩ := List.getElem?_of_mem hp2
        refine h3 (i, p) (List.mem_of_getElem? (i := i) ?_)
        rw [List.getElem?_zip_eq_some]
        exact ⟨List.getElem?_range (List.getElem?_eq_some_iff.mp hi).1, hi⟩
  · rw [decide_eq_false hm]
    rw [if_pos (by simpa using hm)] at h1 h2
    walk_at "od"
    rw [List.length_map]
    exact st_endXs rfl (h1 _ _ rfl)
theorem pure_led_morning : ∀ ds S R Xc, sp_led_morning ds S R Xc → r_led_morning C (endsD S R Xc) (startD 5 ds) S := by
  rintro ds S R Xc ⟨m, q, fs, ws, row, rd, rfl, hr, o, hn, hq, hQ⟩
  have hr' : seqD rd S = some (row.map D.int) := hr
  unfold r_led_morning
  walk_at "od"
  refine st_comp row D.int rfl (fun i => decide (Led.atI ws i = 1)) D.int hr' (small_line (by rw [o.len]; omega)) ?_ ?_
  · intro pre i post sp R' N h1 h2
    refine ⟨_, rfl, ?_⟩
    have hi := o.rng i (by rw [sp]; simp)
    have hx := atI_ints (ns := ws) hi.1 hi.2
    walk_at "od"
    exact st_ite (fun h => by walk_at "od"; exact h1 (decide_eq_true h)) (fun h => h2 (decide_eq_false h))
  · walk_at "od"
    rw [cut_to hq, ← List.map_take]
    refine st_sortedI (ns := Led.crew q row ws) rfl fun ns' p1 p2 => ?_
    have e := Led.isort_unique p1 p2
    subst e
    walk_at "od"
    rw [show (0 : Int) = ((0 : Nat) : Int) from rfl, enumD_ints]
    refine st_walk ws.zipIdx (fun p => D.tup [.int (p.2 : Nat), .int p.1]) rfl (fun pre ρ S' => S' = S ++ [.lst ((pre.map fun p => if 1 < p.1 then p.1 - 1 else if ((p.2 : Nat) : Int) ∈ Led.crew q row ws then 1 else m).map D.int)] ∧ ∃ x y, ρ = [some (depotD m q fs), some rd, some (.tup (ws.map D.int)), some (.lst ((Led.rep row ws).map D.int)), some (.lst ((Led.isort (Led.crew q row ws)).map D.int)), some (.own S.length), x, y])
      ⟨rfl, none, none, rfl⟩ (fun pre ρ' S' h => rfl) ?_ ?_
    · rintro pre ⟨w, i⟩ post ρ' S' sp ⟨rfl, x, y, rfl⟩
      have hlen : (ws.zipIdx).length = ws.length := by simp
      have hl : (((pre.map fun p => if 1 < p.1 then p.1 - 1 else if ((p.2 : Nat) : Int) ∈ Led.crew q row ws then 1 else m).map D.int)).length < sizeLine := by
        rw [sp] at hlen
        simp at hlen ⊢
        exact Nat.lt_of_lt_of_le (show pre.length < 1000 by omega) (small_line (Nat.le_refl _))
      have hg := get_last (S := S) (c := .lst ((pre.map fun p => if 1 < p.1 then p.1 - 1 else if ((p.2 : Nat) : Int) ∈ Led.crew q row ws then 1 else m).map D.int))
      refine st_gT rfl rfl ?_
      walk_at "od"
      refine st_ite (fun h => ?_) (fun h => ?_)
      · walk_at "od"
        refine ⟨_, _, Shr.keep, ?_, _, _, rfl⟩
        rw [set_snoc, List.map_append, List.map_append]
        simp [h]
      · walk_at "od"
        refine st_ite (fun h' => ?_) (fun h' => ?_)
        · rw [Led.isort_mem] at h'
          walk_at "od"
          refine ⟨_, _, Shr.keep, ?_, _, _, rfl⟩
          rw [set_snoc, List.map_append, List.map_append]
          simp [h, h']
        · rw [Led.isort_mem] at h'
          walk_at "od"
          refine ⟨_, _, Shr.keep, ?_, _, _, rfl⟩
          rw [set_snoc, List.map_append, List.map_append]
          simp [h, h']
    · rintro ρ' S' ⟨rfl, x, y, rfl⟩
      have hg := get_last (S := S) (c := .lst ((ws.zipIdx.map fun p => if 1 < p.1 then p.1 - 1 else if ((p.2 : Nat) : Int) ∈ Led.crew q row ws then 1 else m).map D.int))
      walk_at "od"
      refine st_endC (Cut.app S _) (by simp only [ownLt, ownLts, ownLts_ints, Bool.and_self]) ?_
      have e : Led.beh m (Led.crew q row ws) ws = ws.zipIdx.map fun p => if 1 < p.1 then p.1 - 1 else if ((p.2 : Nat) : Int) ∈ Led.crew q row ws then 1 else m := by
        unfold Led.beh
        rw [List.mapIdx_eq_zipIdx_map]
      rw [e] at hQ
      exact hQ
end

end K

namespace K
open PySem PySem.Spec L2 OD
open PyProof.Rows hiding St
local macro_rules | `(tactic| walk_at "od1") => `(tactic| with_reducible first
  | refine st_seq ?_ | refine st_asg ?_ | refine st_if ?_ | refine st_ret ?_ | refine st_drop ?_ | refine st_next ?_ | refine st_retN ?_
  | refine st_wnx ?_ | refine st_wrt ?_ | refine st_lnx ?_ | refine st_lct ?_ | refine st_lbk ?_ | refine st_lrt ?_ | refine st_wbk ?_ | refine st_wct ?_ | refine st_wex ?_ | refine st_lex ?_
  | refine st_var rfl ?_ | refine st_c ?_ | refine st_op ?_ | refine st_un ?_ | refine st_cb ?_ | refine st_call ?_ | refine st_cons ?_ | refine st_nil ?_
  | refine st_b ?_ | refine st_bl ?_ | refine st_blV ?_ | refine st_and ?_ | refine st_or ?_ | refine st_not ?_ | refine st_andV ?_ | refine st_orV ?_ | refine st_notV ?_ | refine st_ifE ?_ | refine st_chain ?_
  | refine st_dTru ?_ | refine st_tru ?_ | refine st_gN ?_ | refine st_gS ?_ | refine st_gC ?_ | refine st_gNil ?_
  | refine st_iteT ?_ | refine st_iteF ?_ | refine st_iteNT ?_ | refine st_iteNF ?_
  | refine st_addI ?_ | refine st_subI ?_ | refine st_negI ?_ | refine st_ltI ?_ | refine st_leI ?_ | refine st_gtI ?_ | refine st_geI ?_ | refine st_eqI ?_ | refine st_neI ?_ | refine st_eqS ?_ | refine st_neS ?_ | refine st_eqB ?_ | refine st_isI ?_ | refine st_isS ?_ | refine st_isT ?_ | refine st_isL ?_ | refine st_isB ?_ | refine st_isN ?_ | refine st_isx ?_ | refine st_iso ?_ | refine st_isi_int_bool ?_ | refine st_isi_int_int ?_ | refine st_isi_int_str ?_ | refine st_isi_int_list ?_ | refine st_isi_int_tuple ?_ | refine st_isi_str_bool ?_ | refine st_isi_str_int ?_ | refine st_isi_str_str ?_ | refine st_isi_str_list ?_ | refine st_isi_str_tuple ?_ | refine st_isi_tuple_bool ?_ | refine st_isi_tuple_int ?_ | refine st_isi_tuple_str ?_ | refine st_isi_tuple_list ?_ | refine st_isi_tuple_tuple ?_ | refine st_isi_list_bool ?_ | refine st_isi_list_int ?_ | refine st_isi_list_str ?_ | refine st_isi_list_list ?_ | refine st_isi_list_tuple ?_ | refine st_isi_bool_bool ?_ | refine st_isi_bool_int ?_ | refine st_isi_bool_str ?_ | refine st_isi_bool_list ?_ | refine st_isi_bool_tuple ?_ | refine st_isi_NoneType_bool ?_ | refine st_isi_NoneType_int ?_ | refine st_isi_NoneType_str ?_ | refine st_isi_NoneType_list ?_ | refine st_isi_NoneType_tuple ?_ | refine st_is ?_ | refine st_isNot ?_
  | refine st_pow8 ?_ | refine st_pow18 ?_ | refine st_pow20 ?_ | refine st_pow30 ?_ | refine st_pow31 ?_
  | refine st_tup ?_ | refine st_lst ?_ | refine st_mkF ?_ | refine st_mkO ?_ | refine st_frz ?_ | refine st_bm ?_ | refine st_isStr ?_
  | refine st_lenL ?_ | refine st_lenT ?_ | refine st_abs ?_ | refine st_int ?_ | refine st_max2 ?_ | refine st_min2 ?_ | refine st_listS ?_ | refine st_listL ?_ | refine st_listT ?_ | refine st_tupleL ?_ | refine st_tupleT ?_
  | refine st_for ?_ | refine st_range1 ?_ | refine st_lc ?_ | refine st_fld ?_ | refine st_setF ?_ | refine st_make ?_ | refine st_non ?_ | refine st_meth ?_ | refine st_prop ?_ | refine st_propO ?_ | refine st_raise2 ?_ | refine st_raise1 ?_ | refine st_try ?_ | refine st_augS ?_ | refine st_seqI ?_ | refine st_seqT ?_ | refine st_seqL ?_ | refine st_range2 ?_ | refine st_enum ?_ | refine st_zip ?_ | refine st_dnewT ?_ | refine st_dnewK ?_ | refine st_dget ?_ | refine st_din ?_ | refine st_dput ?_ | refine st_sl ?_ | refine st_noP ?_ | refine st_part ?_ | refine st_partI ?_ | refine st_slT ?_  | refine st_slL ?_ | refine st_listR1 ?_ | refine st_listR2 ?_ | refine st_ip ?_ | refine st_aug rfl ?_ | refine st_grt ?_ | refine st_gnx ?_ | refine st_crt ?_ | refine st_cnx ?_ | refine st_xrt ?_ | refine st_xnx ?_ | refine st_xex ?_ | refine st_h0 ?_ | refine st_truF ?_ | refine st_yes ?_ | refine st_mk2 ?_ | refine st_mk2e ?_ | refine st_mk1 ?_ | refine st_mk1e ?_ | refine st_mk0 ?_ | refine st_xf ?_)
local macro_rules | `(tactic| walk_at "od2") => `(tactic| first
  | ((with_reducible show dVar _ _ _ _ _); refine st_var rfl ?_)
  | ((with_reducible show pIx (.own _) (.int _) _ _); refine st_ixO (by assumption) (by first | rfl | assumption) ?_)
  | ((with_reducible show pIx (.lst _) (.int _) _ _); refine st_ixL (by first | rfl | assumption) ?_)
  | ((with_reducible show pIx (.tup _) (.int _) _ _); refine st_ixT (by first | rfl | assumption) ?_)
  | ((with_reducible show List.length _ ≤ sizeLine ∧ _); refine ⟨small_line (by simp), ?_⟩)
  | ((with_reducible show pAppend (.own _) [_] _ _); refine st_append (by assumption) (by assumption) ?_)
  | ((with_reducible show pInG false (.int _) (.lst (List.map D.int _)) _ _); refine st_inF rfl ?_)
  | ((with_reducible show pInG false (.int _) (.tup (List.map D.int _)) _ _); refine st_inF rfl ?_)
  | ((with_reducible show pInG true (.int _) (.lst (List.map D.int _)) _ _); refine st_inT rfl ?_)
  | ((with_reducible show pInG true (.int _) (.tup (List.map D.int _)) _ _); refine st_inT rfl ?_)
  | ((with_reducible show pInG false (.int _) _ _ _); refine st_inF (by assumption) ?_)
  | ((with_reducible show pInG true (.int _) _ _ _); refine st_inT (by assumption) ?_)
  | ((with_reducible show pSum [.lst (List.map D.int _)] _ _); refine st_sumI rfl ?_)
  | ((with_reducible show pEqG _ (.lst (List.map D.int _)) (.lst (List.map D.int _)) _ _); refine st_eqLL ?_)
  | ((with_reducible show pEqG _ (.tup (List.map D.int _)) (.tup (List.map D.int _)) _ _); refine st_eqTT ?_)
  | ((with_reducible show pIsi _ [_, .ty "bool"] _ _); refine st_isiL_bool (by first | assumption | exact tyO (by assumption)) ?_)
  | ((with_reducible show pIsi _ [_, .ty "int"] _ _); refine st_isiL_int (by first | assumption | exact tyO (by assumption)) ?_)
  | ((with_reducible show pIsi _ [_, .ty "str"] _ _); refine st_isiL_str (by first | assumption | exact tyO (by assumption)) ?_)
  | ((with_reducible show pIsi _ [_, .ty "tuple"] _ _); refine st_isiL_tuple (by first | assumption | exact tyO (by assumption)) ?_)
  | ((with_reducible show pIsi _ [_, .ty "list"] _ _); refine st_isiL_list (by first | assumption | exact tyO (by assumption)) ?_)
  | ((with_reducible show pIx _ (.int _) _ _); refine st_ixV (by assumption) (by first | rfl | assumption) ?_)
  | ((with_reducible show pLen [_] _ _); refine st_lenV (by assumption) ?_)
  | ((with_reducible show pTuple [_] _ _); refine st_tupleV (by assumption) ?_)
  | ((with_reducible show pList _ [_] _ _); refine st_listV (by assumption) ?_)
  | ((with_reducible show ∃ _, seqD _ _ = some _ ∧ _); refine st_seqV (by assumption) ?_)
  | ((with_reducible show pLen [.own _] _ _); refine st_lenO (by assumption) ?_)
  | ((with_reducible show pTuple [.own _] _ _); refine st_tupleO (by assumption) ?_)
  | ((with_reducible show pList _ [.own _] _ _); refine st_listO (by assumption) ?_)
  | ((with_reducible show setD (.own _) (.int _) _ (List.set _ _ (.lst _)) _); refine st_setS (by assumption) (by first | rfl | assumption) ?_)
  | ((with_reducible show setD (.own _) (.int _) _ _ _); refine st_set (by assumption) (by first | rfl | assumption) ?_)
  | ((with_reducible show isLst (.own _) _ ∧ _); refine st_isLst (by assumption) ?_)
  | ((with_reducible show ∃ _ _ _, insD (.obj _ _) _ = _ ∧ _); refine st_fldO rfl ?_)
  | ((with_reducible show ∃ _ _ _, insD (.own _) _ = _ ∧ _); refine st_fldC (by assumption) rfl ?_)
  | ((with_reducible show ∃ _, insD (.obj _ _) _ = _ ∧ _); refine st_methO rfl ?_)
  | ((with_reducible show ∃ _, insD (.own _) _ = _ ∧ _); refine st_methC (by assumption) rfl ?_)
  | ((with_reducible show dHs _ _ ((_, some _, _) :: _) _ _ _ _); refine st_hdS ?_)
  | ((with_reducible show dHs _ _ ((_, none, _) :: _) _ _ _ _); refine st_hdN ?_)
  | ((with_reducible show dHs _ _ (_ :: _) _ _ _ _); refine st_hn ?_)
  | ((with_reducible show ∃ _ _ _, D.exc _ _ = _ ∧ _); refine st_xfe' rfl ?_)
  | ((with_reducible show dAug _ _ _ _ _ _); refine st_aug rfl ?_)
  | ((with_reducible show ∃ _, seqD (.own _) _ = _ ∧ _); refine st_seqO (by assumption) ?_)
  | ((with_reducible show pSl _ (.own _) _ _ _ _); refine st_slO (by assumption) ?_)
  | ((with_reducible show pMod (.int _) (.int _) _ _); refine st_modI (by first | assumption | decide | omega) ?_))
local macro_rules | `(tactic| walk_at "od") => `(tactic| repeat' (first | walk_at "od1" | walk_at "od2"))
local macro_rules | `(tactic| walk_at "odj") => `(tactic| repeat' (first | walk_at "od1" | walk_at "od2" | refine st_iteDT (by decide) ?_ | refine st_iteDF (by decide) ?_))
local macro_rules | `(tactic| walk_at "od1n") => `(tactic| with_reducible first
  | refine st_asg ?_ | refine st_if ?_ | refine st_ret ?_ | refine st_drop ?_ | refine st_next ?_ | refine st_retN ?_
  | refine st_wnx ?_ | refine st_wrt ?_ | refine st_lnx ?_ | refine st_lct ?_ | refine st_lbk ?_ | refine st_lrt ?_ | refine st_wbk ?_ | refine st_wct ?_ | refine st_wex ?_ | refine st_lex ?_
  | refine st_var rfl ?_ | refine st_c ?_ | refine st_op ?_ | refine st_un ?_ | refine st_cb ?_ | refine st_call ?_ | refine st_cons ?_ | refine st_nil ?_
  | refine st_b ?_ | refine st_bl ?_ | refine st_blV ?_ | refine st_and ?_ | refine st_or ?_ | refine st_not ?_ | refine st_andV ?_ | refine st_orV ?_ | refine st_notV ?_ | refine st_ifE ?_ | refine st_chain ?_
  | refine st_dTru ?_ | refine st_tru ?_ | refine st_gN ?_ | refine st_gS ?_ | refine st_gC ?_ | refine st_gNil ?_
  | refine st_iteT ?_ | refine st_iteF ?_ | refine st_iteNT ?_ | refine st_iteNF ?_
  | refine st_addI ?_ | refine st_subI ?_ | refine st_negI ?_ | refine st_ltI ?_ | refine st_leI ?_ | refine st_gtI ?_ | refine st_geI ?_ | refine st_eqI ?_ | refine st_neI ?_ | refine st_eqS ?_ | refine st_neS ?_ | refine st_eqB ?_ | refine st_isI ?_ | refine st_isS ?_ | refine st_isT ?_ | refine st_isL ?_ | refine st_isB ?_ | refine st_isN ?_ | refine st_isx ?_ | refine st_iso ?_ | refine st_isi_int_bool ?_ | refine st_isi_int_int ?_ | refine st_isi_int_str ?_ | refine st_isi_int_list ?_ | refine st_isi_int_tuple ?_ | refine st_isi_str_bool ?_ | refine st_isi_str_int ?_ | refine st_isi_str_str ?_ | refine st_isi_str_list ?_ | refine st_isi_str_tuple ?_ | refine st_isi_tuple_bool ?_ | refine st_isi_tuple_int ?_ | refine st_isi_tuple_str ?_ | refine st_isi_tuple_list ?_ | refine st_isi_tuple_tuple ?_ | refine st_isi_list_bool ?_ | refine st_isi_list_int ?_ | refine st_isi_list_str ?_ | refine st_isi_list_list ?_ | refine st_isi_list_tuple ?_ | refine st_isi_bool_bool ?_ | refine st_isi_bool_int ?_ | refine st_isi_bool_str ?_ | refine st_isi_bool_list ?_ | refine st_isi_bool_tuple ?_ | refine st_isi_NoneType_bool ?_ | refine st_isi_NoneType_int ?_ | refine st_isi_NoneType_str ?_ | refine st_isi_NoneType_list ?_ | refine st_isi_NoneType_tuple ?_ | refine st_is ?_ | refine st_isNot ?_
  | refine st_pow8 ?_ | refine st_pow18 ?_ | refine st_pow20 ?_ | refine st_pow30 ?_ | refine st_pow31 ?_
  | refine st_tup ?_ | refine st_lst ?_ | refine st_mkF ?_ | refine st_mkO ?_ | refine st_frz ?_ | refine st_bm ?_ | refine st_isStr ?_
  | refine st_lenL ?_ | refine st_lenT ?_ | refine st_abs ?_ | refine st_int ?_ | refine st_max2 ?_ | refine st_min2 ?_ | refine st_listS ?_ | refine st_listL ?_ | refine st_listT ?_ | refine st_tupleL ?_ | refine st_tupleT ?_
  | refine st_for ?_ | refine st_range1 ?_ | refine st_lc ?_ | refine st_fld ?_ | refine st_setF ?_ | refine st_make ?_ | refine st_non ?_ | refine st_meth ?_ | refine st_prop ?_ | refine st_propO ?_ | refine st_raise2 ?_ | refine st_raise1 ?_ | refine st_try ?_ | refine st_augS ?_ | refine st_seqI ?_ | refine st_seqT ?_ | refine st_seqL ?_ | refine st_range2 ?_ | refine st_enum ?_ | refine st_zip ?_ | refine st_dnewT ?_ | refine st_dnewK ?_ | refine st_dget ?_ | refine st_din ?_ | refine st_dput ?_ | refine st_sl ?_ | refine st_noP ?_ | refine st_part ?_ | refine st_partI ?_ | refine st_slT ?_  | refine st_slL ?_ | refine st_listR1 ?_ | refine st_listR2 ?_ | refine st_ip ?_ | refine st_aug rfl ?_ | refine st_grt ?_ | refine st_gnx ?_ | refine st_crt ?_ | refine st_cnx ?_ | refine st_xrt ?_ | refine st_xnx ?_ | refine st_xex ?_ | refine st_h0 ?_ | refine st_truF ?_ | refine st_yes ?_ | refine st_mk2 ?_ | refine st_mk2e ?_ | refine st_mk1 ?_ | refine st_mk1e ?_ | refine st_mk0 ?_ | refine st_xf ?_)
local macro_rules | `(tactic| walk_at "odn") => `(tactic| repeat' (first | walk_at "od1n" | walk_at "od2"))
section
variable {C : Ct} [LawF C]
theorem pure_check_days : ∀ ds S R Xc, sp_check_days ds S R Xc → r_check_days C (endsD S R Xc) (startD 0 ds) S := by
  rintro ds S R Xc ⟨n, rfl, h1, h2⟩
  unfold r_check_days
  walk_at "od"
  refine st_ite (fun h => ?_) (fun h => ?_)
  · walk_at "od"
    by_cases h' : n ≤ 1000000000000000000000000000000
    · rw [decide_eq_true h']
      walk_at "od"
      exact st_endNs (h2 h h')
    · rw [decide_eq_false h']
      walk_at "od"
      exact st_endXs rfl (h1 fun z => h' z.2)
  · walk_at "od"
    exact st_endXs rfl (h1 fun z => h z.1)
theorem pure_check_runners : ∀ ds S R Xc, sp_check_runners ds S R Xc → r_check_runners C (endsD S R Xc) (startD 2 ds) S := by
  rintro ds S R Xc ⟨i, r, rd, rfl, hr, A, hQ⟩
  have hr' : seqD rd S = some (r.map D.int) := hr
  unfold r_check_runners
  walk_at "od"
  refine st_walk r D.int rfl (fun pre ρ S' => S' = S ∧ ∃ l x, (∀ v ∈ r.drop pre.length, l ≤ v) ∧ ρ = [some (.int i), some rd, some (.int l), x]) ⟨rfl, 0, none, ?_, rfl⟩ (fun pre ρ' S' h => by rw [h.1]; exact hr') ?_ ?_
  · intro v hv
    exact (A.rng v (List.mem_of_mem_drop hv)).1
  · rintro pre v post ρ' S' sp ⟨rfl, l, x, hl, rfl⟩
    have hd : r.drop pre.length = v :: post := by rw [sp]; simp
    have h1 := hl v (by rw [hd]; simp)
    have h2 := (A.rng v (by rw [sp]; simp)).2
    walk_at "od"
    refine st_iteDT h1 ?_
    walk_at "od"
    rw [decide_eq_true h2]
    walk_at "od"
    refine ⟨_, _, Shr.keep, rfl, v + 1, some (.int v), ?_, rfl⟩
    intro w hw
    have hw' : w ∈ post := by
      rw [sp] at hw
      simpa using hw
    have inc := A.inc
    rw [sp] at inc
    have := (List.pairwise_cons.mp (List.pairwise_append.mp inc).2.1).1 w hw'
    omega
  · rintro ρ' S' ⟨rfl, l, x, _, rfl⟩
    exact st_endNs hQ
theorem sum_take_le {ps : List (Int × List Int)} (h : ∀ p ∈ ps, 1 ≤ p.1) : ∀ i, ((ps.take i).map (·.1)).sum ≤ (ps.map (·.1)).sum := fun i => by
  have e : (ps.map (·.1)).sum = ((ps.take i).map (·.1)).sum + ((ps.drop i).map (·.1)).sum := by
    rw [← List.sum_append, ← List.map_append, List.take_append_drop]
  have h0 : ∀ qs : List (Int × List Int), (∀ p ∈ qs, 1 ≤ p.1) → 0 ≤ (qs.map (·.1)).sum := by
    intro qs
    induction qs with
    | nil => intro _; simp
    | cons q qs ih =>
      intro h
      have := ih fun p hp => h p (List.mem_cons_of_mem _ hp)
      have := h q List.mem_cons_self
      rw [List.map_cons, List.sum_cons]; omega
  have := h0 (ps.drop i) fun p hp => h p (List.mem_of_mem_drop hp)
  omega
theorem pure_checked_stretches : ∀ ds S R Xc, sp_checked_stretches ds S R Xc → r_checked_stretches C (endsD S R Xc) (startD 5 ds) S := by
  rintro ds S R Xc ⟨ps, d, rfl, hs, P, hQ⟩
  have hl := P.len
  unfold r_checked_stretches
  walk_at "od"
  rw [List.length_map]
  refine st_iteDF (by omega) ?_
  walk_at "od"
  have hs1 : ∀ c : Cell, seqD d (S ++ [c]) = some (ps.map strD) := fun c => seq_app hs
  refine st_lenV (hs1 _) ?_
  walk_at "od"
  rw [List.length_map]
  refine ⟨by omega, by omega, ?_⟩
  refine st_walkR 0 _ rfl (fun i ρ S' => ∃ x y z, S' = S ++ [.lst ((ps.take i).map strD)] ∧ ρ = [some d, some (.own S.length), some (.int ((ps.take i).map (·.1)).sum), x, y, z]) ⟨none, none, none, rfl, rfl⟩ (fun _ _ _ _ => trivial) ?_ ?_
  · rintro i ρ' S' hi ⟨x, y, z, rfl, rfl⟩
    have hi' : i < ps.length := by omega
    have hat : atI (ps.map strD) (i : Int) = some (strD ps[i]) := atI_nat (by simp [hi'])
    have hp := P.ok ps[i] (List.getElem_mem hi')
    have ht : ps.take (i + 1) = ps.take i ++ [ps[i]] := by rw [List.take_append_getElem]
    have hsum := sum_take_le (fun p hp => (P.ok p hp).1) (i + 1)
    have hsum2 := P.sum
    have hsn : ((ps.take (i + 1)).map (·.1)).sum = ((ps.take i).map (·.1)).sum + ps[i].1 := by
      rw [ht, List.map_append, List.sum_append]
      show _ + (ps[i].1 + 0) = _
      omega
    have hle : ps[i].1 ≤ ((ps.take (i + 1)).map (·.1)).sum := by
      rw [hsn]
      have : 0 ≤ ((ps.take i).map (·.1)).sum := by
        have h0 : ∀ qs : List (Int × List Int), (∀ p ∈ qs, 1 ≤ p.1) → 0 ≤ (qs.map (·.1)).sum := by
          intro qs
          induction qs with
          | nil => intro _; simp
          | cons q qs ih =>
            intro h
            have := ih fun p hp => h p (List.mem_cons_of_mem _ hp)
            have := h q List.mem_cons_self
            rw [List.map_cons, List.sum_cons]; omega
        exact h0 _ fun p hp => (P.ok p (List.mem_of_mem_take hp)).1
      omega
    have hln : ((ps.take i).map strD).length < sizeLine := Nat.lt_of_lt_of_le (show _ < 1000 by simp; omega) (small_line (Nat.le_refl _))
    have hg := get_last (S := S) (c := Cell.lst ((ps.take i).map strD))
    have hsx := hs1 (Cell.lst ((ps.take i).map strD))
    rw [Int.zero_add]
    walk_at "od"
    refine st_gT rfl rfl ?_
    walk_at "od"
    refine st_iteDT hp.1 ?_
    walk_at "od"
    rw [decide_eq_true (show ps[i].1 ≤ 1000000000000000000000000000000 by omega)]
    walk_at "od"
    refine ⟨_, ps[i].2, _, rfl, rfl, hp.2, ?_⟩
    walk_at "od"
    refine st_iteDF (by omega) ?_
    walk_at "od"
    refine ⟨_, _, Shr.keep, some (.int i), some (.int ps[i].1), some (.tup (ps[i].2.map D.int)), ?_, ?_⟩
    · rw [set_snoc, ht, List.map_append]; rfl
    · rw [hsn]; rfl
  · rintro ρ' S' ⟨x, y, z, rfl, rfl⟩
    rw [List.take_of_length_le (by omega)]
    have hg := get_last (S := S) (c := Cell.lst (ps.map strD))
    walk_at "od"
    refine st_frzV (x := .lst (ps.map strD)) (S0 := S ++ [.gone]) (by simp [frzD]) ?_
    walk_at "od"
    exact st_endC (Cut.app S _) (by simp only [ownLt]; exact ownLts_pairs ps) hQ
theorem pure_join_rows : ∀ ds S R Xc, sp_join_rows ds S R Xc → r_join_rows C (endsD S R Xc) (startD 3 ds) S := by
  rintro ds S R Xc ⟨ps, d, rfl, hs, hl, hQ⟩
  unfold r_join_rows
  have hs1 : ∀ c : Cell, seqD d (S ++ [c]) = some (ps.map strD) := fun c => seq_app hs
  walk_at "od"
  refine ⟨_, hs1 _, ?_⟩
  refine st_walk ps strD rfl (fun pre ρ S' => S' = S ++ [.lst ((Led.joinRows pre).map strD)] ∧ ∃ x y, ρ = [some d, some (.own S.length), x, y]) ⟨rfl, none, none, rfl⟩ (fun pre ρ' S' h => by rw [h.1]; exact hs1 _) ?_ ?_
  · rintro pre p post ρ' S' sp ⟨rfl, x, y, rfl⟩
    have hpl : pre.length < ps.length := by rw [sp]; simp
    have hjl := Led.join_len (ps := pre)
    rw [Led.join_snoc]
    have hlen : ((Led.joinRows pre).map strD).length < sizeLine := Nat.lt_of_lt_of_le (show _ < 1001 by simp; omega) (by decide)
    have hg := get_last (S := S) (c := .lst ((Led.joinRows pre).map strD))
    refine st_gT rfl rfl ?_
    walk_at "od"
    refine st_pairs0 hg ?_
    rcases List.eq_nil_or_concat (Led.joinRows pre) with e | ⟨js, l, e⟩
    · rw [e] at hg hlen ⊢
      rw [decide_eq_true (rfl : ([] : List (Int × List Int)) = [])]
      simp only [List.map_nil] at hg hlen ⊢
      walk_at "od"
      refine ⟨_, _, Shr.keep, ?_, some (.int p.1), some (.tup (p.2.map D.int)), rfl⟩
      rw [set_snoc, Led.addRow_nil]; rfl
    · rw [List.concat_eq_append] at e
      rw [e] at hg hlen ⊢
      rw [decide_eq_false (by simp)]
      have hat : atI ((js ++ [l]).map strD) (-1) = some (strD l) := by rw [List.map_append]; exact atI_last
      walk_at "od"
      refine st_ixT rfl ?_
      walk_at "od"
      refine st_ite (fun h => ?_) (fun h => ?_)
      · walk_at "od"
        refine st_ixT rfl ?_
        walk_at "od"
        refine st_set hg (n := js.length) (by rw [List.length_map, List.length_append, List.length_singleton]; exact ixN_last) ?_
        walk_at "od"
        refine ⟨_, _, Shr.keep, ?_, some (.int p.1), some (.tup (p.2.map D.int)), rfl⟩
        rw [set_snoc, Led.addRow_snoc, if_pos h, List.map_append, List.map_append]
        congr 3
        have := set_last (js := js.map strD) (l := strD l) (p := strD (l.1 + p.1, p.2))
        rw [List.length_map] at this
        exact this
      · walk_at "od"
        refine ⟨_, _, Shr.keep, ?_, some (.int p.1), some (.tup (p.2.map D.int)), rfl⟩
        rw [set_snoc, Led.addRow_snoc, if_neg h, List.map_append (l₁ := js ++ [l])]; rfl
  · rintro ρ' S' ⟨rfl, x, y, rfl⟩
    have hg := get_last (S := S) (c := .lst ((Led.joinRows ps).map strD))
    walk_at "od"
    refine st_frzV (x := .lst ((Led.joinRows ps).map strD)) (S0 := S ++ [.gone]) (by simp [frzD]) ?_
    walk_at "od"
    exact st_endC (Cut.app S _) (by simp only [ownLt]; exact ownLts_pairs _) hQ
theorem pure_Book___init__ : ∀ ds S R Xc, sp_Book___init__ ds S R Xc → r_Book___init__ C (endsD S R Xc) (startD 2 ds) S := by
  rintro ds S R Xc ⟨k, ps, d, rfl, hk, hs, P, hQ⟩
  have hl := P.len
  have hjl := Led.join_len (ps := ps)
  unfold r_Book___init__
  walk_at "od"
  refine ⟨ps, d, rfl, hs, P, ?_⟩
  walk_at "od"
  refine ⟨ps, _, rfl, rfl, by omega, ?_⟩
  walk_at "od"
  refine st_setFI (fs' := [("stretches", .tup ((Led.joinRows ps).map strD))]) hk (by decide) rfl ?_
  walk_at "od"
  refine st_comp1 (Led.joinRows ps) strD rfl (fun p => .int p.1) rfl (small_line (by omega)) ?_ ?_
  · intro pre p post sp R' hR'
    refine ⟨_, rfl, ?_⟩
    walk_at "od"
    refine st_ixT rfl ?_
    exact hR'
  walk_at "od"
  have e : (Led.joinRows ps).map (fun p => D.int p.1) = ((Led.joinRows ps).map (·.1)).map D.int := by rw [List.map_map]; rfl
  rw [e]
  refine st_sumI rfl ?_
  walk_at "od"
  rw [Led.join_sum]
  refine st_setFI (fs' := bookF ps) (get_set hk) (by simp) rfl ?_
  rw [List.set_set]
  exact st_endN0 hQ
end

end K

namespace K
open PySem PySem.Spec L2 OD
open PyProof.Rows hiding St
local macro_rules | `(tactic| walk_at "od1") => `(tactic| with_reducible first
  | refine st_seq ?_ | refine st_asg ?_ | refine st_if ?_ | refine st_ret ?_ | refine st_drop ?_ | refine st_next ?_ | refine st_retN ?_
  | refine st_wnx ?_ | refine st_wrt ?_ | refine st_lnx ?_ | refine st_lct ?_ | refine st_lbk ?_ | refine st_lrt ?_ | refine st_wbk ?_ | refine st_wct ?_ | refine st_wex ?_ | refine st_lex ?_
  | refine st_var rfl ?_ | refine st_c ?_ | refine st_op ?_ | refine st_un ?_ | refine st_cb ?_ | refine st_call ?_ | refine st_cons ?_ | refine st_nil ?_
  | refine st_b ?_ | refine st_bl ?_ | refine st_blV ?_ | refine st_and ?_ | refine st_or ?_ | refine st_not ?_ | refine st_andV ?_ | refine st_orV ?_ | refine st_notV ?_ | refine st_ifE ?_ | refine st_chain ?_
  | refine st_dTru ?_ | refine st_tru ?_ | refine st_gN ?_ | refine st_gS ?_ | refine st_gC ?_ | refine st_gNil ?_
  | refine st_iteT ?_ | refine st_iteF ?_ | refine st_iteNT ?_ | refine st_iteNF ?_
  | refine st_addI ?_ | refine st_subI ?_ | refine st_negI ?_ | refine st_ltI ?_ | refine st_leI ?_ | refine st_gtI ?_ | refine st_geI ?_ | refine st_eqI ?_ | refine st_neI ?_ | refine st_eqS ?_ | refine st_neS ?_ | refine st_eqB ?_ | refine st_isI ?_ | refine st_isS ?_ | refine st_isT ?_ | refine st_isL ?_ | refine st_isB ?_ | refine st_isN ?_ | refine st_isx ?_ | refine st_iso ?_ | refine st_isi_int_bool ?_ | refine st_isi_int_int ?_ | refine st_isi_int_str ?_ | refine st_isi_int_list ?_ | refine st_isi_int_tuple ?_ | refine st_isi_str_bool ?_ | refine st_isi_str_int ?_ | refine st_isi_str_str ?_ | refine st_isi_str_list ?_ | refine st_isi_str_tuple ?_ | refine st_isi_tuple_bool ?_ | refine st_isi_tuple_int ?_ | refine st_isi_tuple_str ?_ | refine st_isi_tuple_list ?_ | refine st_isi_tuple_tuple ?_ | refine st_isi_list_bool ?_ | refine st_isi_list_int ?_ | refine st_isi_list_str ?_ | refine st_isi_list_list ?_ | refine st_isi_list_tuple ?_ | refine st_isi_bool_bool ?_ | refine st_isi_bool_int ?_ | refine st_isi_bool_str ?_ | refine st_isi_bool_list ?_ | refine st_isi_bool_tuple ?_ | refine st_isi_NoneType_bool ?_ | refine st_isi_NoneType_int ?_ | refine st_isi_NoneType_str ?_ | refine st_isi_NoneType_list ?_ | refine st_isi_NoneType_tuple ?_ | refine st_is ?_ | refine st_isNot ?_
  | refine st_pow8 ?_ | refine st_pow18 ?_ | refine st_pow20 ?_ | refine st_pow30 ?_ | refine st_pow31 ?_
  | refine st_tup ?_ | refine st_lst ?_ | refine st_mkF ?_ | refine st_mkO ?_ | refine st_frz ?_ | refine st_bm ?_ | refine st_isStr ?_
  | refine st_lenL ?_ | refine st_lenT ?_ | refine st_abs ?_ | refine st_int ?_ | refine st_max2 ?_ | refine st_min2 ?_ | refine st_listS ?_ | refine st_listL ?_ | refine st_listT ?_ | refine st_tupleL ?_ | refine st_tupleT ?_
  | refine st_for ?_ | refine st_range1 ?_ | refine st_lc ?_ | refine st_fld ?_ | refine st_setF ?_ | refine st_make ?_ | refine st_non ?_ | refine st_meth ?_ | refine st_prop ?_ | refine st_propO ?_ | refine st_raise2 ?_ | refine st_raise1 ?_ | refine st_try ?_ | refine st_augS ?_ | refine st_seqI ?_ | refine st_seqT ?_ | refine st_seqL ?_ | refine st_range2 ?_ | refine st_enum ?_ | refine st_zip ?_ | refine st_dnewT ?_ | refine st_dnewK ?_ | refine st_dget ?_ | refine st_din ?_ | refine st_dput ?_ | refine st_sl ?_ | refine st_noP ?_ | refine st_part ?_ | refine st_partI ?_ | refine st_slT ?_  | refine st_slL ?_ | refine st_listR1 ?_ | refine st_listR2 ?_ | refine st_ip ?_ | refine st_aug rfl ?_ | refine st_grt ?_ | refine st_gnx ?_ | refine st_crt ?_ | refine st_cnx ?_ | refine st_xrt ?_ | refine st_xnx ?_ | refine st_xex ?_ | refine st_h0 ?_ | refine st_truF ?_ | refine st_yes ?_ | refine st_mk2 ?_ | refine st_mk2e ?_ | refine st_mk1 ?_ | refine st_mk1e ?_ | refine st_mk0 ?_ | refine st_xf ?_)
local macro_rules | `(tactic| walk_at "od2") => `(tactic| first
  | ((with_reducible show dVar _ _ _ _ _); refine st_var rfl ?_)
  | ((with_reducible show pIx (.own _) (.int _) _ _); refine st_ixO (by assumption) (by first | rfl | assumption) ?_)
  | ((with_reducible show pIx (.lst _) (.int _) _ _); refine st_ixL (by first | rfl | assumption) ?_)
  | ((with_reducible show pIx (.tup _) (.int _) _ _); refine st_ixT (by first | rfl | assumption) ?_)
  | ((with_reducible show List.length _ ≤ sizeLine ∧ _); refine ⟨small_line (by simp), ?_⟩)
  | ((with_reducible show pAppend (.own _) [_] _ _); refine st_append (by assumption) (by assumption) ?_)
  | ((with_reducible show pInG false (.int _) (.lst (List.map D.int _)) _ _); refine st_inF rfl ?_)
  | ((with_reducible show pInG false (.int _) (.tup (List.map D.int _)) _ _); refine st_inF rfl ?_)
  | ((with_reducible show pInG true (.int _) (.lst (List.map D.int _)) _ _); refine st_inT rfl ?_)
  | ((with_reducible show pInG true (.int _) (.tup (List.map D.int _)) _ _); refine st_inT rfl ?_)
  | ((with_reducible show pInG false (.int _) _ _ _); refine st_inF (by assumption) ?_)
  | ((with_reducible show pInG true (.int _) _ _ _); refine st_inT (by assumption) ?_)
  | ((with_reducible show pSum [.lst (List.map D.int _)] _ _); refine st_sumI rfl ?_)
  | ((with_reducible show pEqG _ (.lst (List.map D.int _)) (.lst (List.map D.int _)) _ _); refine st_eqLL ?_)
  | ((with_reducible show pEqG _ (.tup (List.map D.int _)) (.tup (List.map D.int _)) _ _); refine st_eqTT ?_)
  | ((with_reducible show pIsi _ [_, .ty "bool"] _ _); refine st_isiL_bool (by first | assumption | exact tyO (by assumption)) ?_)
  | ((with_reducible show pIsi _ [_, .ty "int"] _ _); refine st_isiL_int (by first | assumption | exact tyO (by assumption)) ?_)
  | ((with_reducible show pIsi _ [_, .ty "str"] _ _); refine st_isiL_str (by first | assumption | exact tyO (by assumption)) ?_)
  | ((with_reducible show pIsi _ [_, .ty "tuple"] _ _); refine st_isiL_tuple (by first | assumption | exact tyO (by assumption)) ?_)
  | ((with_reducible show pIsi _ [_, .ty "list"] _ _); refine st_isiL_list (by first | assumption | exact tyO (by assumption)) ?_)
  | ((with_reducible show pIx _ (.int _) _ _); refine st_ixV (by assumption) (by first | rfl | assumption) ?_)
  | ((with_reducible show pLen [_] _ _); refine st_lenV (by assumption) ?_)
  | ((with_reducible show pTuple [_] _ _); refine st_tupleV (by assumption) ?_)
  | ((with_reducible show pList _ [_] _ _); refine st_listV (by assumption) ?_)
  | ((with_reducible show ∃ _, seqD _ _ = some _ ∧ _); refine st_seqV (by assumption) ?_)
  | ((with_reducible show pLen [.own _] _ _); refine st_lenO (by assumption) ?_)
  | ((with_reducible show pTuple [.own _] _ _); refine st_tupleO (by assumption) ?_)
  | ((with_reducible show pList _ [.own _] _ _); refine st_listO (by assumption) ?_)
  | ((with_reducible show setD (.own _) (.int _) _ (List.set _ _ (.lst _)) _); refine st_setS (by assumption) (by first | rfl | assumption) ?_)
  | ((with_reducible show setD (.own _) (.int _) _ _ _); refine st_set (by assumption) (by first | rfl | assumption) ?_)
  | ((with_reducible show isLst (.own _) _ ∧ _); refine st_isLst (by assumption) ?_)
  | ((with_reducible show ∃ _ _ _, insD (.obj _ _) _ = _ ∧ _); refine st_fldO rfl ?_)
  | ((with_reducible show ∃ _ _ _, insD (.own _) _ = _ ∧ _); refine st_fldC (by assumption) rfl ?_)
  | ((with_reducible show ∃ _, insD (.obj _ _) _ = _ ∧ _); refine st_methO rfl ?_)
  | ((with_reducible show ∃ _, insD (.own _) _ = _ ∧ _); refine st_methC (by assumption) rfl ?_)
  | ((with_reducible show dHs _ _ ((_, some _, _) :: _) _ _ _ _); refine st_hdS ?_)
  | ((with_reducible show dHs _ _ ((_, none, _) :: _) _ _ _ _); refine st_hdN ?_)
  | ((with_reducible show dHs _ _ (_ :: _) _ _ _ _); refine st_hn ?_)
  | ((with_reducible show ∃ _ _ _, D.exc _ _ = _ ∧ _); refine st_xfe' rfl ?_)
  | ((with_reducible show dAug _ _ _ _ _ _); refine st_aug rfl ?_)
  | ((with_reducible show ∃ _, seqD (.own _) _ = _ ∧ _); refine st_seqO (by assumption) ?_)
  | ((with_reducible show pSl _ (.own _) _ _ _ _); refine st_slO (by assumption) ?_)
  | ((with_reducible show pMod (.int _) (.int _) _ _); refine st_modI (by first | assumption | decide | omega) ?_))
local macro_rules | `(tactic| walk_at "od") => `(tactic| repeat' (first | walk_at "od1" | walk_at "od2"))
local macro_rules | `(tactic| walk_at "odj") => `(tactic| repeat' (first | walk_at "od1" | walk_at "od2" | refine st_iteDT (by decide) ?_ | refine st_iteDF (by decide) ?_))
local macro_rules | `(tactic| walk_at "od1n") => `(tactic| with_reducible first
  | refine st_asg ?_ | refine st_if ?_ | refine st_ret ?_ | refine st_drop ?_ | refine st_next ?_ | refine st_retN ?_
  | refine st_wnx ?_ | refine st_wrt ?_ | refine st_lnx ?_ | refine st_lct ?_ | refine st_lbk ?_ | refine st_lrt ?_ | refine st_wbk ?_ | refine st_wct ?_ | refine st_wex ?_ | refine st_lex ?_
  | refine st_var rfl ?_ | refine st_c ?_ | refine st_op ?_ | refine st_un ?_ | refine st_cb ?_ | refine st_call ?_ | refine st_cons ?_ | refine st_nil ?_
  | refine st_b ?_ | refine st_bl ?_ | refine st_blV ?_ | refine st_and ?_ | refine st_or ?_ | refine st_not ?_ | refine st_andV ?_ | refine st_orV ?_ | refine st_notV ?_ | refine st_ifE ?_ | refine st_chain ?_
  | refine st_dTru ?_ | refine st_tru ?_ | refine st_gN ?_ | refine st_gS ?_ | refine st_gC ?_ | refine st_gNil ?_
  | refine st_iteT ?_ | refine st_iteF ?_ | refine st_iteNT ?_ | refine st_iteNF ?_
  | refine st_addI ?_ | refine st_subI ?_ | refine st_negI ?_ | refine st_ltI ?_ | refine st_leI ?_ | refine st_gtI ?_ | refine st_geI ?_ | refine st_eqI ?_ | refine st_neI ?_ | refine st_eqS ?_ | refine st_neS ?_ | refine st_eqB ?_ | refine st_isI ?_ | refine st_isS ?_ | refine st_isT ?_ | refine st_isL ?_ | refine st_isB ?_ | refine st_isN ?_ | refine st_isx ?_ | refine st_iso ?_ | refine st_isi_int_bool ?_ | refine st_isi_int_int ?_ | refine st_isi_int_str ?_ | refine st_isi_int_list ?_ | refine st_isi_int_tuple ?_ | refine st_isi_str_bool ?_ | refine st_isi_str_int ?_ | refine st_isi_str_str ?_ | refine st_isi_str_list ?_ | refine st_isi_str_tuple ?_ | refine st_isi_tuple_bool ?_ | refine st_isi_tuple_int ?_ | refine st_isi_tuple_str ?_ | refine st_isi_tuple_list ?_ | refine st_isi_tuple_tuple ?_ | refine st_isi_list_bool ?_ | refine st_isi_list_int ?_ | refine st_isi_list_str ?_ | refine st_isi_list_list ?_ | refine st_isi_list_tuple ?_ | refine st_isi_bool_bool ?_ | refine st_isi_bool_int ?_ | refine st_isi_bool_str ?_ | refine st_isi_bool_list ?_ | refine st_isi_bool_tuple ?_ | refine st_isi_NoneType_bool ?_ | refine st_isi_NoneType_int ?_ | refine st_isi_NoneType_str ?_ | refine st_isi_NoneType_list ?_ | refine st_isi_NoneType_tuple ?_ | refine st_is ?_ | refine st_isNot ?_
  | refine st_pow8 ?_ | refine st_pow18 ?_ | refine st_pow20 ?_ | refine st_pow30 ?_ | refine st_pow31 ?_
  | refine st_tup ?_ | refine st_lst ?_ | refine st_mkF ?_ | refine st_mkO ?_ | refine st_frz ?_ | refine st_bm ?_ | refine st_isStr ?_
  | refine st_lenL ?_ | refine st_lenT ?_ | refine st_abs ?_ | refine st_int ?_ | refine st_max2 ?_ | refine st_min2 ?_ | refine st_listS ?_ | refine st_listL ?_ | refine st_listT ?_ | refine st_tupleL ?_ | refine st_tupleT ?_
  | refine st_for ?_ | refine st_range1 ?_ | refine st_lc ?_ | refine st_fld ?_ | refine st_setF ?_ | refine st_make ?_ | refine st_non ?_ | refine st_meth ?_ | refine st_prop ?_ | refine st_propO ?_ | refine st_raise2 ?_ | refine st_raise1 ?_ | refine st_try ?_ | refine st_augS ?_ | refine st_seqI ?_ | refine st_seqT ?_ | refine st_seqL ?_ | refine st_range2 ?_ | refine st_enum ?_ | refine st_zip ?_ | refine st_dnewT ?_ | refine st_dnewK ?_ | refine st_dget ?_ | refine st_din ?_ | refine st_dput ?_ | refine st_sl ?_ | refine st_noP ?_ | refine st_part ?_ | refine st_partI ?_ | refine st_slT ?_  | refine st_slL ?_ | refine st_listR1 ?_ | refine st_listR2 ?_ | refine st_ip ?_ | refine st_aug rfl ?_ | refine st_grt ?_ | refine st_gnx ?_ | refine st_crt ?_ | refine st_cnx ?_ | refine st_xrt ?_ | refine st_xnx ?_ | refine st_xex ?_ | refine st_h0 ?_ | refine st_truF ?_ | refine st_yes ?_ | refine st_mk2 ?_ | refine st_mk2e ?_ | refine st_mk1 ?_ | refine st_mk1e ?_ | refine st_mk0 ?_ | refine st_xf ?_)
local macro_rules | `(tactic| walk_at "odn") => `(tactic| repeat' (first | walk_at "od1n" | walk_at "od2"))
section
variable {C : Ct} [LawF C]
/-! rows that are cells -/
def rowsC (rows : List (List Int)) : Store := rows.map fun r => Cell.lst (r.map D.int)
def owns (L n : Nat) : List D := (List.range n).map fun i => D.own (L + i)
def nest (S : Store) (rows : List (List Int)) : Store := S ++ (rowsC rows ++ [Cell.lst (owns S.length rows.length)])
theorem rowsC_len {rows : List (List Int)} : (rowsC rows).length = rows.length := by simp [rowsC]
theorem owns_len {L n : Nat} : (owns L n).length = n := by simp [owns]
theorem nest_len {S : Store} {rows : List (List Int)} : (nest S rows).length = S.length + rows.length + 1 := by simp [nest, rowsC_len]; omega
theorem nest_row {S : Store} {rows : List (List Int)} {c : Nat} {r : List Int} (h : rows[c]? = some r) : (nest S rows)[S.length + c]? = some (.lst (r.map D.int)) := by
  have hc := (List.getElem?_eq_some_iff.mp h).1
  unfold nest
  rw [List.getElem?_append_right (by omega), Nat.add_sub_cancel_left, List.getElem?_append_left (by rw [rowsC_len]; exact hc)]
  unfold rowsC
  rw [List.getElem?_map, h]; rfl
theorem nest_top {S : Store} {rows : List (List Int)} : (nest S rows)[S.length + rows.length]? = some (.lst (owns S.length rows.length)) := by
  unfold nest
  rw [List.getElem?_append_right (by omega), Nat.add_sub_cancel_left, List.getElem?_append_right (by rw [rowsC_len]; omega), rowsC_len, Nat.sub_self]; rfl
theorem nest_set {S : Store} {rows : List (List Int)} {c : Nat} {r : List Int} (hc : c < rows.length) : (nest S rows).set (S.length + c) (.lst (r.map D.int)) = nest S (rows.set c r) := by
  unfold nest
  rw [List.set_append_right _ _ (by omega), Nat.add_sub_cancel_left, List.set_append_left _ _ (by rw [rowsC_len]; exact hc), List.length_set]
  congr 2
  unfold rowsC
  rw [List.map_set]
theorem nest_pool {S : Store} {rows : List (List Int)} {k : Nat} {x : Cell} (h : k < S.length) : (nest S rows).set k x = nest (S.set k x) rows := by
  unfold nest
  rw [List.set_append_left _ _ h, List.length_set]
theorem owns_at {L n c : Nat} (h : c < n) : atI (owns L n) (c : Int) = some (.own (L + c)) := atI_map_range h
theorem IntsD.app {S L : Store} {d : D} {ns : List Int} (h : IntsD S d ns) : IntsD (S ++ L) d ns := by
  unfold IntsD at h ⊢
  cases d <;> try exact h
  rename_i j
  simp only [seqD] at h ⊢
  split at h
  · rename_i e; rw [get_front e]; exact h
  · cases h
theorem RowsD.app {S L : Store} {d : D} {rows : List (List Int)} (h : RowsD S d rows) : RowsD (S ++ L) d rows := by
  obtain ⟨ps, h1, h2, h3⟩ := h
  refine ⟨ps, ?_, h2, fun p hp => (h3 p hp).app⟩
  cases d <;> try exact h1
  rename_i j
  simp only [seqD] at h1 ⊢
  split at h1
  · rename_i e; rw [get_front e]; exact h1
  · cases h1
theorem rows_lst {S : Store} {rows : List (List Int)} : RowsD S (.lst (rows.map fun r => .lst (r.map D.int))) rows := by
  refine ⟨rows.map fun r => (.lst (r.map D.int), r), ?_, ?_, ?_⟩
  · simp only [seqD, List.map_map]; rfl
  · rw [List.map_map]; exact (List.map_id' rows).symm
  · intro p hp
    obtain ⟨r, _, rfl⟩ := List.mem_map.mp hp
    rfl
theorem rows_tup {S : Store} {rows : List (List Int)} : RowsD S (.tup (rows.map fun r => .tup (r.map D.int))) rows := by
  refine ⟨rows.map fun r => (.tup (r.map D.int), r), ?_, ?_, ?_⟩
  · simp only [seqD, List.map_map]; rfl
  · rw [List.map_map]; exact (List.map_id' rows).symm
  · intro p hp
    obtain ⟨r, _, rfl⟩ := List.mem_map.mp hp
    rfl
/-- a list's cell of cells (and frozen rows behind) -/
theorem rows_own {S : Store} {k : Nat} {ds : List D} {rows : List (List Int)} (e : S[k]? = some (.lst ds)) (hl : ds.length = rows.length) (h : ∀ (i : Nat) (d : D) (r : List Int), ds[i]? = some d → rows[i]? = some r → IntsD S d r) : RowsD S (.own k) rows := by
  refine ⟨ds.zip rows, ?_, ?_, ?_⟩
  · simp only [seqD, e]
    rw [List.map_fst_zip (by omega)]
  · rw [List.map_snd_zip (by omega)]
  · intro p hp
    obtain ⟨i, hi⟩ := List.getElem?_of_mem hp
    rw [List.getElem?_zip_eq_some] at hi
    exact h i _ _ hi.1 hi.2
theorem rows_nest {S L : Store} {rows : List (List Int)} : RowsD (nest S rows ++ L) (.own (S.length + rows.length)) rows := by
  refine rows_own (get_front nest_top) owns_len fun i d r hd hr => ?_
  have hi := (List.getElem?_eq_some_iff.mp hr).1
  have : d = .own (S.length + i) := by
    unfold owns at hd
    rw [List.getElem?_map, List.getElem?_range hi] at hd
    exact (Option.some.inj hd).symm
  subst this
  show seqD _ _ = _
  simp only [seqD, get_front (nest_row hr)]
theorem rows_nest0 {S : Store} {rows : List (List Int)} : RowsD (nest S rows) (.own (S.length + rows.length)) rows := by
  have := rows_nest (S := S) (L := []) (rows := rows)
  rwa [List.append_nil] at this
theorem top_nest {S : Store} {rows : List (List Int)} : topPy (nest S rows) (.own (S.length + rows.length)) = some (rowsPy rows) := by
  have h : toPysW (rdPy (nest S rows) 2) (owns S.length rows.length) = some (rows.map fun r => .list (r.map .int)) := by
    have e : owns S.length rows.length = (List.range rows.length).map fun i => D.own (S.length + i) := rfl
    have e2 : rows.map (fun r => PyData.list (r.map .int)) = (List.range rows.length).map fun i => PyData.list ((rows.getD i []).map .int) := by
      apply List.ext_getElem
      · simp
      · intro i h1 h2
        simp at h1
        simp [h1]
    rw [e, e2]
    have e3 : ∀ x ∈ List.range rows.length, toPyW (rdPy (nest S rows) 2) (D.own (S.length + x)) = some (PyData.list ((rows.getD x []).map .int)) := fun x hx => by
      have hx' := List.mem_range.mp hx
      have hr : rows[x]? = some rows[x] := List.getElem?_eq_getElem hx'
      simp [toPyW, rdPy, nest_row hr, toPysW_ints, hx']
    clear e e2
    generalize List.range rows.length = xs at e3
    exact toPysW_map xs e3
  have h0 : topPy (nest S rows) (.own (S.length + rows.length)) = (toPysW (rdPy (nest S rows) 2) (owns S.length rows.length)).map .list := by
    show rdPy (nest S rows) 3 (S.length + rows.length) = _
    unfold rdPy
    rw [nest_top]
  rw [h0, h]; rfl
/-- [list(row) for row in rows], all cells -/
theorem st_nest {ρ : DEnv} {S : Store} {Q : D → Store → Prop} {items : List D} {G : Store → Prop} {te : TD D} {gd : GD} {vs : List Nat} (xs : List (List Int)) (e : List Int → D) (hx : items = xs.map e) (hG : ∀ S', G S') (hl : xs.length ≤ 1000)
    (turn : ∀ r ∈ xs, ∀ L (R : D → Store → Prop), R (.own (S ++ L).length) (S ++ L ++ [.lst (r.map D.int)]) → ∃ ρ1, gd (e r) (wipeD ρ vs) (S ++ L) = some ρ1 ∧ te ρ1 (S ++ L) R noX)
    (hend : Q (.own (S.length + xs.length)) (nest S xs)) :
    ∃ I : Nat → List D → Store → Prop, I 0 [] S ∧ ∀ i acc S, I i acc S → G S ∧ (i = items.length → mkL true acc S Q) ∧
      ∀ d, items[i]? = some d → ∃ ρ1, gd d (wipeD ρ vs) S = some ρ1 ∧ dYes ρ1 S (fun k S2 => if k = true then te ρ1 S2 (fun y S3 => acc.length < sizeLine ∧ I (i + 1) (acc ++ [y]) S3) noX else I (i + 1) acc S2) noX := by
  refine st_compS (A := dYes) xs e hx (fun pre acc S' => pre.length ≤ xs.length ∧ acc = owns S.length pre.length ∧ S' = S ++ rowsC pre) ⟨Nat.zero_le _, rfl, by simp [rowsC]⟩ (fun _ _ S' _ => hG S') ?_ ?_
  · rintro pre r post acc S' sp ⟨h1, rfl, rfl⟩
    have hpl : pre.length < xs.length := by rw [sp]; simp
    obtain ⟨ρ1, h2, h3⟩ := turn r (by rw [sp]; simp) (rowsC pre) (fun y S3 => (owns S.length pre.length).length < sizeLine ∧ (pre ++ [r]).length ≤ xs.length ∧ owns S.length pre.length ++ [y] = owns S.length (pre ++ [r]).length ∧ S3 = S ++ rowsC (pre ++ [r])) (by
      refine ⟨?_, by simp; omega, ?_, ?_⟩
      · rw [owns_len]
        exact Nat.lt_of_lt_of_le (show _ < 1000 by omega) (small_line (Nat.le_refl _))
      · unfold owns
        rw [List.length_append (as := pre), List.length_singleton, List.range_succ, List.map_append, List.length_append, rowsC_len]; rfl
      · unfold rowsC; simp)
    exact ⟨ρ1, h2, h3⟩
  · rintro acc S' ⟨_, rfl, rfl⟩
    show Q (.own (S ++ rowsC xs).length) (S ++ rowsC xs ++ [.lst (owns S.length xs.length)])
    rw [List.length_append, rowsC_len, List.append_assoc]
    exact hend
/-- [list(row) for row in rows], the rows cells -/
theorem st_nestF {ρ : DEnv} {S : Store} {Q : D → Store → Prop} {items : List D} {G : Store → Prop} {te : TD D} {gd : GD} {vs : List Nat} (xs : List (List Int)) (e : List Int → D) (hx : items = xs.map e) (hG : ∀ S', G S') (hl : xs.length ≤ 1000)
    (turn : ∀ r ∈ xs, ∀ L (R : D → Store → Prop), R (.own (S ++ L).length) (S ++ L ++ [.lst (r.map D.int)]) → ∃ ρ1, gd (e r) (wipeD ρ vs) (S ++ L) = some ρ1 ∧ te ρ1 (S ++ L) R noX)
    (hend : Q (.lst (owns S.length xs.length)) (S ++ rowsC xs)) :
    ∃ I : Nat → List D → Store → Prop, I 0 [] S ∧ ∀ i acc S, I i acc S → G S ∧ (i = items.length → mkL false acc S Q) ∧
      ∀ d, items[i]? = some d → ∃ ρ1, gd d (wipeD ρ vs) S = some ρ1 ∧ dYes ρ1 S (fun k S2 => if k = true then te ρ1 S2 (fun y S3 => acc.length < sizeLine ∧ I (i + 1) (acc ++ [y]) S3) noX else I (i + 1) acc S2) noX := by
  refine st_compS (A := dYes) xs e hx (fun pre acc S' => pre.length ≤ xs.length ∧ acc = owns S.length pre.length ∧ S' = S ++ rowsC pre) ⟨Nat.zero_le _, rfl, by simp [rowsC]⟩ (fun _ _ S' _ => hG S') ?_ ?_
  · rintro pre r post acc S' sp ⟨h1, rfl, rfl⟩
    have hpl : pre.length < xs.length := by rw [sp]; simp
    obtain ⟨ρ1, h2, h3⟩ := turn r (by rw [sp]; simp) (rowsC pre) (fun y S3 => (owns S.length pre.length).length < sizeLine ∧ (pre ++ [r]).length ≤ xs.length ∧ owns S.length pre.length ++ [y] = owns S.length (pre ++ [r]).length ∧ S3 = S ++ rowsC (pre ++ [r])) (by
      refine ⟨?_, by simp; omega, ?_, ?_⟩
      · rw [owns_len]
        exact Nat.lt_of_lt_of_le (show _ < 1000 by omega) (small_line (Nat.le_refl _))
      · unfold owns
        rw [List.length_append (as := pre), List.length_singleton, List.range_succ, List.map_append, List.length_append, rowsC_len]; rfl
      · unfold rowsC; simp)
    exact ⟨ρ1, h2, h3⟩
  · rintro acc S' ⟨_, rfl, rfl⟩
    exact hend
theorem ref_cases {m : Int} {n : Nat} {rows : List (List Int)} {x c : Str} {a : Int} (h : ref m n rows = some (x, c, a)) : x = "OutOfRange" ∨ x = "BadLists" := by
  unfold ref at h
  split at h
  · cases h; exact .inl rfl
  · cases e : listsRef m n rows with
    | none => rw [e] at h; cases h
    | some p => rw [e] at h; cases h; exact .inr rfl
theorem good_of {m q : Int} {fs : List Int} {rows : List (List Int)} (P : Plan m q fs) (h : ref m fs.length rows = none) : Led.Good m q rows fs ∧ fs.length ≤ 6 ∧ m ≤ 6 := by
  unfold ref at h
  split at h
  · cases h
  · rename_i e
    unfold ledRef at e
    have h1 : listsRef m fs.length rows = none := by
      cases e : listsRef m fs.length rows with
      | none => rfl
      | some p => rw [e] at h; cases h
    unfold listsRef at h1
    by_cases c1 : 6 < fs.length
    · rw [if_pos c1] at e; cases e
    rw [if_neg c1] at e
    by_cases c2 : 6 < m
    · rw [if_pos c2] at e; cases e
    by_cases c3 : (rows.length : Int) ≠ m
    · rw [if_pos c3] at h1; cases h1
    rw [if_neg c3] at h1
    rw [Option.map_eq_none_iff, List.findIdx?_eq_none_iff] at h1
    refine ⟨⟨P.stand, by simpa using c3, fun r hr => ?_⟩, by omega, by omega⟩
    have := h1 r hr
    simp at this
    exact isOrderB_iff.mp this
theorem ref_none {m q : Int} {fs : List Int} {rows : List (List Int)} (h6 : fs.length ≤ 6) (m6 : m ≤ 6) (G : Led.Good m q rows fs) : ref m fs.length rows = none := by
  unfold ref ledRef
  rw [if_neg (by omega), if_neg (by omega)]
  show (listsRef m fs.length rows).map _ = none
  unfold listsRef
  rw [if_neg (by simp [G.len])]
  rw [show (rows.findIdx? fun r => !isOrderB fs.length r) = none by
    rw [List.findIdx?_eq_none_iff]
    intro r hr
    simp [isOrderB_iff.mpr (G.ord r hr)]]
  rfl
theorem ref_order {m : Int} {n : Nat} {rows : List (List Int)} {c : Nat} {r : List Int} (h6 : n ≤ 6) (m6 : m ≤ 6) (hl : (rows.length : Int) = m) (ho : ∀ r ∈ rows, Led.Order n r) (hc : c < rows.length) (hr : ¬ Led.Order n r) : ref m n (rows.set c r) = some (("BadLists" : Str), ("order" : Str), (c : Int) + 1) := by
  unfold ref ledRef
  rw [if_neg (by omega), if_neg (by omega)]
  show (listsRef m n (rows.set c r)).map _ = _
  unfold listsRef
  rw [if_neg (by simp [hl])]
  have e : rows.set c r = rows.take c ++ r :: rows.drop (c + 1) := by rw [List.set_eq_take_append_cons_drop, if_pos hc]
  have h1 : ((rows.take c).findIdx? fun r => !isOrderB n r) = none := by
    rw [List.findIdx?_eq_none_iff]
    intro r hr
    simp [isOrderB_iff.mpr (ho r (List.mem_of_mem_take hr))]
  have h2 : (!isOrderB n r) = true := by
    cases hb : isOrderB n r with
    | true => exact absurd (isOrderB_iff.mp hb) hr
    | false => rfl
  rw [e, List.findIdx?_append, h1, List.findIdx?_cons, h2]
  simp
  omega
theorem ref_length {m : Int} {n : Nat} {rows : List (List Int)} (h6 : n ≤ 6) (m6 : m ≤ 6) (hl : (rows.length : Int) ≠ m) : ref m n rows = some (("BadLists" : Str), ("length" : Str), (rows.length : Int)) := by
  unfold ref ledRef
  rw [if_neg (by omega), if_neg (by omega)]
  show (listsRef m n rows).map _ = _
  unfold listsRef
  rw [if_pos hl]; rfl
theorem depD_ints {n : Nat} {ns : List Int} (h : ns.length ≤ 1000000) : depD (n + 1) (.tup (ns.map D.int)) = true := by
  simp only [depD, Bool.and_eq_true, decide_eq_true_eq, List.length_map]
  refine ⟨List.all_eq_true.mpr fun d hd => ?_, h⟩
  obtain ⟨x, _, rfl⟩ := List.mem_map.mp hd
  cases n <;> rfl
theorem depD_intsL {n : Nat} {ns : List Int} (h : ns.length ≤ 1000000) : depD (n + 1) (.lst (ns.map D.int)) = true := by
  simp only [depD, Bool.and_eq_true, decide_eq_true_eq, List.length_map]
  refine ⟨List.all_eq_true.mpr fun d hd => ?_, h⟩
  obtain ⟨x, _, rfl⟩ := List.mem_map.mp hd
  cases n <;> rfl
theorem st_addV {S : Store} {Q : D → Store → Prop} {o : Bool} {k : Nat} {as bs : List D} (e : S[k]? = some (.lst as)) (hl : as.length + bs.length ≤ sizeLine) (h : mkL o (as ++ bs) S Q) : pAdd o (.own k) (.lst bs) S Q := ⟨as, bs, by simp only [seqL, e], rfl, hl, h⟩
theorem not_order_len {n : Nat} {r : List Int} (h : r.length ≠ n) : ¬ Led.Order n r := fun o => h o.len
end

end K

namespace K
open PySem PySem.Spec L2 OD
open PyProof.Rows hiding St
local macro_rules | `(tactic| walk_at "od1") => `(tactic| with_reducible first
  | refine st_seq ?_ | refine st_asg ?_ | refine st_if ?_ | refine st_ret ?_ | refine st_drop ?_ | refine st_next ?_ | refine st_retN ?_
  | refine st_wnx ?_ | refine st_wrt ?_ | refine st_lnx ?_ | refine st_lct ?_ | refine st_lbk ?_ | refine st_lrt ?_ | refine st_wbk ?_ | refine st_wct ?_ | refine st_wex ?_ | refine st_lex ?_
  | refine st_var rfl ?_ | refine st_c ?_ | refine st_op ?_ | refine st_un ?_ | refine st_cb ?_ | refine st_call ?_ | refine st_cons ?_ | refine st_nil ?_
  | refine st_b ?_ | refine st_bl ?_ | refine st_blV ?_ | refine st_and ?_ | refine st_or ?_ | refine st_not ?_ | refine st_andV ?_ | refine st_orV ?_ | refine st_notV ?_ | refine st_ifE ?_ | refine st_chain ?_
  | refine st_dTru ?_ | refine st_tru ?_ | refine st_gN ?_ | refine st_gS ?_ | refine st_gC ?_ | refine st_gNil ?_
  | refine st_iteT ?_ | refine st_iteF ?_ | refine st_iteNT ?_ | refine st_iteNF ?_
  | refine st_addI ?_ | refine st_subI ?_ | refine st_negI ?_ | refine st_ltI ?_ | refine st_leI ?_ | refine st_gtI ?_ | refine st_geI ?_ | refine st_eqI ?_ | refine st_neI ?_ | refine st_eqS ?_ | refine st_neS ?_ | refine st_eqB ?_ | refine st_isI ?_ | refine st_isS ?_ | refine st_isT ?_ | refine st_isL ?_ | refine st_isB ?_ | refine st_isN ?_ | refine st_isx ?_ | refine st_iso ?_ | refine st_isi_int_bool ?_ | refine st_isi_int_int ?_ | refine st_isi_int_str ?_ | refine st_isi_int_list ?_ | refine st_isi_int_tuple ?_ | refine st_isi_str_bool ?_ | refine st_isi_str_int ?_ | refine st_isi_str_str ?_ | refine st_isi_str_list ?_ | refine st_isi_str_tuple ?_ | refine st_isi_tuple_bool ?_ | refine st_isi_tuple_int ?_ | refine st_isi_tuple_str ?_ | refine st_isi_tuple_list ?_ | refine st_isi_tuple_tuple ?_ | refine st_isi_list_bool ?_ | refine st_isi_list_int ?_ | refine st_isi_list_str ?_ | refine st_isi_list_list ?_ | refine st_isi_list_tuple ?_ | refine st_isi_bool_bool ?_ | refine st_isi_bool_int ?_ | refine st_isi_bool_str ?_ | refine st_isi_bool_list ?_ | refine st_isi_bool_tuple ?_ | refine st_isi_NoneType_bool ?_ | refine st_isi_NoneType_int ?_ | refine st_isi_NoneType_str ?_ | refine st_isi_NoneType_list ?_ | refine st_isi_NoneType_tuple ?_ | refine st_is ?_ | refine st_isNot ?_
  | refine st_pow8 ?_ | refine st_pow18 ?_ | refine st_pow20 ?_ | refine st_pow30 ?_ | refine st_pow31 ?_
  | refine st_tup ?_ | refine st_lst ?_ | refine st_mkF ?_ | refine st_mkO ?_ | refine st_frz ?_ | refine st_bm ?_ | refine st_isStr ?_
  | refine st_lenL ?_ | refine st_lenT ?_ | refine st_abs ?_ | refine st_int ?_ | refine st_max2 ?_ | refine st_min2 ?_ | refine st_listS ?_ | refine st_listL ?_ | refine st_listT ?_ | refine st_tupleL ?_ | refine st_tupleT ?_
  | refine st_for ?_ | refine st_range1 ?_ | refine st_lc ?_ | refine st_fld ?_ | refine st_setF ?_ | refine st_make ?_ | refine st_non ?_ | refine st_meth ?_ | refine st_prop ?_ | refine st_propO ?_ | refine st_raise2 ?_ | refine st_raise1 ?_ | refine st_try ?_ | refine st_augS ?_ | refine st_seqI ?_ | refine st_seqT ?_ | refine st_seqL ?_ | refine st_range2 ?_ | refine st_enum ?_ | refine st_zip ?_ | refine st_dnewT ?_ | refine st_dnewK ?_ | refine st_dget ?_ | refine st_din ?_ | refine st_dput ?_ | refine st_sl ?_ | refine st_noP ?_ | refine st_part ?_ | refine st_partI ?_ | refine st_slT ?_  | refine st_slL ?_ | refine st_listR1 ?_ | refine st_listR2 ?_ | refine st_ip ?_ | refine st_aug rfl ?_ | refine st_grt ?_ | refine st_gnx ?_ | refine st_crt ?_ | refine st_cnx ?_ | refine st_xrt ?_ | refine st_xnx ?_ | refine st_xex ?_ | refine st_h0 ?_ | refine st_truF ?_ | refine st_yes ?_ | refine st_mk2 ?_ | refine st_mk2e ?_ | refine st_mk1 ?_ | refine st_mk1e ?_ | refine st_mk0 ?_ | refine st_xf ?_)
local macro_rules | `(tactic| walk_at "od2") => `(tactic| first
  | ((with_reducible show dVar _ _ _ _ _); refine st_var rfl ?_)
  | ((with_reducible show pIx (.own _) (.int _) _ _); refine st_ixO (by assumption) (by first | rfl | assumption) ?_)
  | ((with_reducible show pIx (.lst _) (.int _) _ _); refine st_ixL (by first | rfl | assumption) ?_)
  | ((with_reducible show pIx (.tup _) (.int _) _ _); refine st_ixT (by first | rfl | assumption) ?_)
  | ((with_reducible show List.length _ ≤ sizeLine ∧ _); refine ⟨small_line (by simp), ?_⟩)
  | ((with_reducible show pAppend (.own _) [_] _ _); refine st_append (by assumption) (by assumption) ?_)
  | ((with_reducible show pInG false (.int _) (.lst (List.map D.int _)) _ _); refine st_inF rfl ?_)
  | ((with_reducible show pInG false (.int _) (.tup (List.map D.int _)) _ _); refine st_inF rfl ?_)
  | ((with_reducible show pInG true (.int _) (.lst (List.map D.int _)) _ _); refine st_inT rfl ?_)
  | ((with_reducible show pInG true (.int _) (.tup (List.map D.int _)) _ _); refine st_inT rfl ?_)
  | ((with_reducible show pInG false (.int _) _ _ _); refine st_inF (by assumption) ?_)
  | ((with_reducible show pInG true (.int _) _ _ _); refine st_inT (by assumption) ?_)
  | ((with_reducible show pSum [.lst (List.map D.int _)] _ _); refine st_sumI rfl ?_)
  | ((with_reducible show pEqG _ (.lst (List.map D.int _)) (.lst (List.map D.int _)) _ _); refine st_eqLL ?_)
  | ((with_reducible show pEqG _ (.tup (List.map D.int _)) (.tup (List.map D.int _)) _ _); refine st_eqTT ?_)
  | ((with_reducible show pIsi _ [_, .ty "bool"] _ _); refine st_isiL_bool (by first | assumption | exact tyO (by assumption)) ?_)
  | ((with_reducible show pIsi _ [_, .ty "int"] _ _); refine st_isiL_int (by first | assumption | exact tyO (by assumption)) ?_)
  | ((with_reducible show pIsi _ [_, .ty "str"] _ _); refine st_isiL_str (by first | assumption | exact tyO (by assumption)) ?_)
  | ((with_reducible show pIsi _ [_, .ty "tuple"] _ _); refine st_isiL_tuple (by first | assumption | exact tyO (by assumption)) ?_)
  | ((with_reducible show pIsi _ [_, .ty "list"] _ _); refine st_isiL_list (by first | assumption | exact tyO (by assumption)) ?_)
  | ((with_reducible show pIx _ (.int _) _ _); refine st_ixV (by assumption) (by first | rfl | assumption) ?_)
  | ((with_reducible show pLen [_] _ _); refine st_lenV (by assumption) ?_)
  | ((with_reducible show pTuple [_] _ _); refine st_tupleV (by assumption) ?_)
  | ((with_reducible show pList _ [_] _ _); refine st_listV (by assumption) ?_)
  | ((with_reducible show ∃ _, seqD _ _ = some _ ∧ _); refine st_seqV (by assumption) ?_)
  | ((with_reducible show pLen [.own _] _ _); refine st_lenO (by assumption) ?_)
  | ((with_reducible show pTuple [.own _] _ _); refine st_tupleO (by assumption) ?_)
  | ((with_reducible show pList _ [.own _] _ _); refine st_listO (by assumption) ?_)
  | ((with_reducible show setD (.own _) (.int _) _ (List.set _ _ (.lst _)) _); refine st_setS (by assumption) (by first | rfl | assumption) ?_)
  | ((with_reducible show setD (.own _) (.int _) _ _ _); refine st_set (by assumption) (by first | rfl | assumption) ?_)
  | ((with_reducible show isLst (.own _) _ ∧ _); refine st_isLst (by assumption) ?_)
  | ((with_reducible show ∃ _ _ _, insD (.obj _ _) _ = _ ∧ _); refine st_fldO rfl ?_)
  | ((with_reducible show ∃ _ _ _, insD (.own _) _ = _ ∧ _); refine st_fldC (by assumption) rfl ?_)
  | ((with_reducible show ∃ _, insD (.obj _ _) _ = _ ∧ _); refine st_methO rfl ?_)
  | ((with_reducible show ∃ _, insD (.own _) _ = _ ∧ _); refine st_methC (by assumption) rfl ?_)
  | ((with_reducible show dHs _ _ ((_, some _, _) :: _) _ _ _ _); refine st_hdS ?_)
  | ((with_reducible show dHs _ _ ((_, none, _) :: _) _ _ _ _); refine st_hdN ?_)
  | ((with_reducible show dHs _ _ (_ :: _) _ _ _ _); refine st_hn ?_)
  | ((with_reducible show ∃ _ _ _, D.exc _ _ = _ ∧ _); refine st_xfe' rfl ?_)
  | ((with_reducible show dAug _ _ _ _ _ _); refine st_aug rfl ?_)
  | ((with_reducible show ∃ _, seqD (.own _) _ = _ ∧ _); refine st_seqO (by assumption) ?_)
  | ((with_reducible show pSl _ (.own _) _ _ _ _); refine st_slO (by assumption) ?_)
  | ((with_reducible show pMod (.int _) (.int _) _ _); refine st_modI (by first | assumption | decide | omega) ?_))
local macro_rules | `(tactic| walk_at "od") => `(tactic| repeat' (first | walk_at "od1" | walk_at "od2"))
local macro_rules | `(tactic| walk_at "odj") => `(tactic| repeat' (first | walk_at "od1" | walk_at "od2" | refine st_iteDT (by decide) ?_ | refine st_iteDF (by decide) ?_))
local macro_rules | `(tactic| walk_at "od1n") => `(tactic| with_reducible first
  | refine st_asg ?_ | refine st_if ?_ | refine st_ret ?_ | refine st_drop ?_ | refine st_next ?_ | refine st_retN ?_
  | refine st_wnx ?_ | refine st_wrt ?_ | refine st_lnx ?_ | refine st_lct ?_ | refine st_lbk ?_ | refine st_lrt ?_ | refine st_wbk ?_ | refine st_wct ?_ | refine st_wex ?_ | refine st_lex ?_
  | refine st_var rfl ?_ | refine st_c ?_ | refine st_op ?_ | refine st_un ?_ | refine st_cb ?_ | refine st_call ?_ | refine st_cons ?_ | refine st_nil ?_
  | refine st_b ?_ | refine st_bl ?_ | refine st_blV ?_ | refine st_and ?_ | refine st_or ?_ | refine st_not ?_ | refine st_andV ?_ | refine st_orV ?_ | refine st_notV ?_ | refine st_ifE ?_ | refine st_chain ?_
  | refine st_dTru ?_ | refine st_tru ?_ | refine st_gN ?_ | refine st_gS ?_ | refine st_gC ?_ | refine st_gNil ?_
  | refine st_iteT ?_ | refine st_iteF ?_ | refine st_iteNT ?_ | refine st_iteNF ?_
  | refine st_addI ?_ | refine st_subI ?_ | refine st_negI ?_ | refine st_ltI ?_ | refine st_leI ?_ | refine st_gtI ?_ | refine st_geI ?_ | refine st_eqI ?_ | refine st_neI ?_ | refine st_eqS ?_ | refine st_neS ?_ | refine st_eqB ?_ | refine st_isI ?_ | refine st_isS ?_ | refine st_isT ?_ | refine st_isL ?_ | refine st_isB ?_ | refine st_isN ?_ | refine st_isx ?_ | refine st_iso ?_ | refine st_isi_int_bool ?_ | refine st_isi_int_int ?_ | refine st_isi_int_str ?_ | refine st_isi_int_list ?_ | refine st_isi_int_tuple ?_ | refine st_isi_str_bool ?_ | refine st_isi_str_int ?_ | refine st_isi_str_str ?_ | refine st_isi_str_list ?_ | refine st_isi_str_tuple ?_ | refine st_isi_tuple_bool ?_ | refine st_isi_tuple_int ?_ | refine st_isi_tuple_str ?_ | refine st_isi_tuple_list ?_ | refine st_isi_tuple_tuple ?_ | refine st_isi_list_bool ?_ | refine st_isi_list_int ?_ | refine st_isi_list_str ?_ | refine st_isi_list_list ?_ | refine st_isi_list_tuple ?_ | refine st_isi_bool_bool ?_ | refine st_isi_bool_int ?_ | refine st_isi_bool_str ?_ | refine st_isi_bool_list ?_ | refine st_isi_bool_tuple ?_ | refine st_isi_NoneType_bool ?_ | refine st_isi_NoneType_int ?_ | refine st_isi_NoneType_str ?_ | refine st_isi_NoneType_list ?_ | refine st_isi_NoneType_tuple ?_ | refine st_is ?_ | refine st_isNot ?_
  | refine st_pow8 ?_ | refine st_pow18 ?_ | refine st_pow20 ?_ | refine st_pow30 ?_ | refine st_pow31 ?_
  | refine st_tup ?_ | refine st_lst ?_ | refine st_mkF ?_ | refine st_mkO ?_ | refine st_frz ?_ | refine st_bm ?_ | refine st_isStr ?_
  | refine st_lenL ?_ | refine st_lenT ?_ | refine st_abs ?_ | refine st_int ?_ | refine st_max2 ?_ | refine st_min2 ?_ | refine st_listS ?_ | refine st_listL ?_ | refine st_listT ?_ | refine st_tupleL ?_ | refine st_tupleT ?_
  | refine st_for ?_ | refine st_range1 ?_ | refine st_lc ?_ | refine st_fld ?_ | refine st_setF ?_ | refine st_make ?_ | refine st_non ?_ | refine st_meth ?_ | refine st_prop ?_ | refine st_propO ?_ | refine st_raise2 ?_ | refine st_raise1 ?_ | refine st_try ?_ | refine st_augS ?_ | refine st_seqI ?_ | refine st_seqT ?_ | refine st_seqL ?_ | refine st_range2 ?_ | refine st_enum ?_ | refine st_zip ?_ | refine st_dnewT ?_ | refine st_dnewK ?_ | refine st_dget ?_ | refine st_din ?_ | refine st_dput ?_ | refine st_sl ?_ | refine st_noP ?_ | refine st_part ?_ | refine st_partI ?_ | refine st_slT ?_  | refine st_slL ?_ | refine st_listR1 ?_ | refine st_listR2 ?_ | refine st_ip ?_ | refine st_aug rfl ?_ | refine st_grt ?_ | refine st_gnx ?_ | refine st_crt ?_ | refine st_cnx ?_ | refine st_xrt ?_ | refine st_xnx ?_ | refine st_xex ?_ | refine st_h0 ?_ | refine st_truF ?_ | refine st_yes ?_ | refine st_mk2 ?_ | refine st_mk2e ?_ | refine st_mk1 ?_ | refine st_mk1e ?_ | refine st_mk0 ?_ | refine st_xf ?_)
local macro_rules | `(tactic| walk_at "odn") => `(tactic| repeat' (first | walk_at "od1n" | walk_at "od2"))
section
variable {C : Ct} [LawF C]
theorem ins_count {l : List Int} {i : Nat} {x v : Int} : (l.take i ++ [x] ++ l.drop i).count v = l.count v + [x].count v := by
  rw [List.count_append, List.count_append]
  have : l.count v = (l.take i).count v + (l.drop i).count v := by rw [← List.count_append, List.take_append_drop]
  omega
theorem pure_law_depot : ∀ ds S R Xc, sp_law_depot ds S R Xc → r_law_depot C (endsD S R Xc) (startD 5 ds) S := by
  rintro ds S R Xc ⟨k, nd, np, rfl, hp, h1, h2, h3, h4, hQ⟩
  unfold r_law_depot
  walk_at "od"
  refine to_take hp (by omega) (by omega) fun m0 c hm0 hm1 hc => ?_
  have hp := hp.set hc
  walk_at "od"
  refine to_take hp (by omega) (by omega) fun n0 c hn0 hn1 hc => ?_
  have hp := hp.set hc
  rw [List.set_set] at hp ⊢
  walk_at "od"
  refine to_take hp (by omega) (by omega) fun q0 c hq0 hq1 hc => ?_
  have hp := hp.set hc
  rw [List.set_set] at hp ⊢
  walk_at "odn"
  refine st_join (fun ρ' S' => ∃ q c, 1 ≤ q ∧ q ≤ 1 + n0 ∧ IsPool c ∧ S' = S.set k c ∧ ρ' = [some (.own k), some (.int nd), some (.int np), some (.int (1 + m0)), some (.int (1 + n0)), some (.int q), none, none]) ?_ ?_
  · walk_at "od"
    refine to_take hp (by decide) (by decide) fun w c hw0 hw1 hc => ?_
    have hp := hp.set hc
    rw [List.set_set] at hp ⊢
    walk_at "od"
    refine st_ite (fun h => ?_) (fun h => ?_)
    · walk_at "od"
      refine to_take hp (by split <;> omega) (by split <;> omega) fun w2 c2 hw20 hw21 hc => ?_
      rw [List.set_set]
      walk_at "od"
      exact ⟨1 + w2, c2, by omega, by revert hw21; split <;> omega, hc, rfl, rfl⟩
    · walk_at "od"
      exact ⟨1 + q0, c, by omega, by omega, hc, rfl, rfl⟩
  · rintro ρ' S' ⟨q, c, hq1, hqn, hc, rfl, rfl⟩
    have hp := hp.set hc
    rw [List.set_set] at hp
    have hkl : k < S.length := by
      obtain ⟨_, e, _⟩ := hp
      have := (List.getElem?_eq_some_iff.mp e).1
      simpa using this
    have hlen : ∀ c, (S.set k c).length = S.length := fun c => by simp
    walk_at "od"
    refine st_mulL (ds := [D.int 1]) (b := q) (by omega) (by omega) (by show 1 * q.toNat ≤ sizeLine; rw [Nat.one_mul]; exact small_line (by omega)) ?_
    walk_at "od"
    rw [hlen]
    refine ⟨by omega, by omega, ?_⟩
    refine st_walkR 0 _ rfl (fun i ρ S' => ∃ (fs : List Int) (c : Cell) (z : Option D), fs.length = q.toNat + i ∧ (∀ f ∈ fs, 1 ≤ f ∧ f ≤ 1 + m0) ∧ q ≤ fs.count 1 ∧ IsPool c ∧ S' = S.set k c ++ [.lst (fs.map D.int)] ∧
      ρ = [some (.own k), some (.int nd), some (.int np), some (.int (1 + m0)), some (.int (1 + n0)), some (.int q), some (.own S.length), z]) ⟨List.replicate q.toNat 1, c, none, by simp, fun f hf => by rw [List.eq_of_mem_replicate hf]; omega, by simp; omega, hc, by simp, rfl⟩ (fun _ _ _ _ => trivial) ?_ ?_
    · rintro i ρ' S' hi ⟨fs, c, z, hl, hr, ho, hc, rfl, rfl⟩
      have hg : (S.set k c ++ [Cell.lst (fs.map D.int)])[S.length]? = some (.lst (fs.map D.int)) := by rw [← hlen c]; exact get_last
      have hp : Pool (S.set k c ++ [Cell.lst (fs.map D.int)]) k := by
        have h := (hp.set hc).app (L := [Cell.lst (fs.map D.int)])
        rw [List.set_set] at h
        exact h
      walk_at "od"
      rw [List.length_map]
      refine to_take hp (by omega) (by omega) fun w1 c1 hw0 hw1 hc1 => ?_
      have hp := hp.set hc1
      rw [setF (by rw [hlen]; exact hkl), List.set_set] at hp ⊢
      walk_at "od"
      refine to_take hp (by omega) (by omega) fun w2 c2 hw2 hw3 hc2 => ?_
      rw [setF (by rw [hlen]; exact hkl), List.set_set]
      walk_at "od"
      have hg : (S.set k c2 ++ [Cell.lst (fs.map D.int)])[S.length]? = some (.lst (fs.map D.int)) := by rw [← hlen c2]; exact get_last
      refine st_insert hg (Nat.lt_of_lt_of_le (show _ < 1000 by simp; omega) (small_line (Nat.le_refl _))) hw0 (by omega) ?_
      walk_at "od"
      refine ⟨_, _, Shr.keep, fs.take w1.toNat ++ [1 + w2] ++ fs.drop w1.toNat, c2, some (.int (0 + (i : Int))), ?_, ?_, ?_, hc2, ?_, rfl⟩
      · simp; omega
      · intro f hf
        simp only [List.mem_append, List.mem_singleton] at hf
        rcases hf with (hf | hf) | hf
        · exact hr f (List.mem_of_mem_take hf)
        · omega
        · exact hr f (List.mem_of_mem_drop hf)
      · rw [ins_count]; omega
      · have e := set_snoc (S := S.set k c2) (c := Cell.lst (fs.map D.int)) (c' := Cell.lst ((fs.map D.int).take w1.toNat ++ [D.int (1 + w2)] ++ (fs.map D.int).drop w1.toNat))
        rw [hlen] at e
        rw [e]
        simp [List.map_take, List.map_drop]
    · rintro ρ' S' ⟨fs, c, z, hl, hr, ho, hc, rfl, rfl⟩
      have e := set_snoc (S := S.set k c) (c := Cell.lst (fs.map D.int)) (c' := Cell.gone)
      rw [hlen] at e
      have hg : (S.set k c ++ [Cell.lst (fs.map D.int)])[S.length]? = some (.lst (fs.map D.int)) := by rw [← hlen c]; exact get_last
      walk_at "od"
      refine st_frzV (x := .lst (fs.map D.int)) (S0 := S.set k c ++ [.gone]) (by simp only [frzD, hg, e]) ?_
      walk_at "od"
      refine st_endC (S' := S.set k c) ?_ (by simp only [ownLt, ownLts, ownLts_ints, Bool.and_self]) ?_
      · refine Cut.set S _ k c ?_
        obtain ⟨ns, a, b, e, d, rfl, _⟩ := hc
        simp [cellLt, ownLts, ownLt, ownLts_ints]
      · exact hQ (1 + m0) q fs c ⟨by omega, by omega, ⟨by omega, hq1, hr, ho⟩⟩ (by omega) (by omega) hc
theorem Pool.cell {n : Nat} {c : Cell} (hc : IsPool c) : cellLt n c = true := by
  obtain ⟨ns, a, b, e, d, rfl, _⟩ := hc
  simp [cellLt, ownLts, ownLt, ownLts_ints]
theorem gone_take {us cr : List Int} {span start m : Int} {i : Nat} (hi : i < us.length) : (goneI cr span start m us).take (i + 1) = (goneI cr span start m us).take i ++ [if (i : Int) ∈ cr then start + span else if us[i] < start + span then us[i] + m * ((start + span - us[i] + m - 1) / m) else us[i]] := by
  have hl : i < (goneI cr span start m us).length := by unfold goneI; simpa using hi
  rw [← List.take_append_getElem hl]
  have e : (goneI cr span start m us)[i] = if (i : Int) ∈ cr then start + span else if us[i] < start + span then us[i] + m * ((start + span - us[i] + m - 1) / m) else us[i] := by
    simp only [goneI, List.getElem_mapIdx]
  rw [e]
theorem pure_law_gone : ∀ ds S R Xc, sp_law_gone ds S R Xc → r_law_gone C (endsD S R Xc) (startD 3 ds) S := by
  rintro ds S R Xc ⟨us, cr, ud, cd, span, start, m, rfl, hu, hc, hl, h1, h2, hQ⟩
  have hu' : seqD ud S = some (us.map D.int) := hu
  unfold r_law_gone
  have app : ∀ {d : D} {c : Cell} {ds : List D}, seqD d S = some ds → seqD d (S ++ [c]) = some ds := fun {d} {c} {ds} h => by
    cases d <;> try exact h
    rename_i j
    simp only [seqD] at h ⊢
    split at h
    · rename_i e; rw [get_front e]; exact h
    · cases h
  walk_at "od"
  refine st_lenV (app hu') ?_
  walk_at "od"
  rw [List.length_map]
  refine ⟨by omega, by omega, ?_⟩
  refine st_walkR 0 _ rfl (fun i ρ S' => ∃ y z, S' = S ++ [.lst (((goneI cr span start m us).take i).map D.int)] ∧ ρ = [some ud, some cd, some (.int span), some (.int start), some (.int m), some (.own S.length), y, z]) ⟨none, none, rfl, rfl⟩ (fun _ _ _ _ => trivial) ?_ ?_
  · rintro i ρ' S' hi ⟨y, z, rfl, rfl⟩
    have hi' : i < us.length := by omega
    have hx := atI_ints (ns := us) (i := 0 + (i : Int)) (by omega) (by omega)
    have hw : us.getD (0 + (i : Int)).toNat 0 = us[i] := by simp [hi']
    rw [hw] at hx
    have hu2 : seqD ud (S ++ [Cell.lst (((goneI cr span start m us).take i).map D.int)]) = some (us.map D.int) := app hu'
    have hc2 : seqD cd (S ++ [Cell.lst (((goneI cr span start m us).take i).map D.int)]) = some (cr.map D.int) := app hc
    have hg := get_last (S := S) (c := Cell.lst (((goneI cr span start m us).take i).map D.int))
    have hln : (((goneI cr span start m us).take i).map D.int).length < sizeLine := Nat.lt_of_lt_of_le (show _ < 1000 by simp; omega) (small_line (Nat.le_refl _))
    have hgt := gone_take (cr := cr) (span := span) (start := start) (m := m) hi'
    rw [Int.zero_add] at hx ⊢
    walk_at "odn"
    refine st_seq ?_
    walk_at "odn"
    refine st_join (fun ρ' S' => S' = S ++ [Cell.lst (((goneI cr span start m us).take i).map D.int)] ∧ ρ' = [some ud, some cd, some (.int span), some (.int start), some (.int m), some (.own S.length), some (.int i), some (.int (if (i : Int) ∈ cr then start + span else if us[i] < start + span then us[i] + m * ((start + span - us[i] + m - 1) / m) else us[i]))]) ?_ ?_
    · walk_at "od"
      refine st_ite (fun h => ?_) (fun h => ?_)
      · walk_at "od"
        rw [if_pos h]
        exact ⟨rfl, rfl⟩
      · rw [if_neg h]
        walk_at "od"
        refine st_ite (fun h' => ?_) (fun h' => ?_)
        · rw [if_pos h']
          walk_at "od"
          refine st_divI (wide_div (by omega) (b := 200) (by omega) (by decide) (by decide)) ?_
          walk_at "od"
          refine st_mulI (.inl (.inl ⟨by omega, by omega⟩)) ?_
          walk_at "od"
          exact ⟨rfl, rfl⟩
        · rw [if_neg h']
          walk_at "od"
          exact ⟨rfl, rfl⟩
    · rintro ρ' S' ⟨rfl, rfl⟩
      walk_at "od"
      refine ⟨_, _, Shr.keep, some (.int i), some (.int (if (i : Int) ∈ cr then start + span else if us[i] < start + span then us[i] + m * ((start + span - us[i] + m - 1) / m) else us[i])), ?_, rfl⟩
      rw [set_snoc, hgt, List.map_append]; rfl
  · rintro ρ' S' ⟨y, z, rfl, rfl⟩
    have hlen : ((us.length : Nat) : Int).toNat = us.length := by simp
    rw [hlen, List.take_of_length_le (by unfold goneI; simp)]
    walk_at "od"
    refine st_frzV (x := .lst ((goneI cr span start m us).map D.int)) (S0 := S ++ [.gone]) (by simp [frzD]) ?_
    exact st_endC (Cut.app S _) (by simp only [ownLt, ownLts_ints]) hQ
theorem set_set2 {S : Store} {k : Nat} {a b x : Cell} {L : Store} (h : k < S.length) : (S.set k a ++ L).set k b = S.set k b ++ L := by
  rw [setF (by simpa using h), List.set_set]
theorem pure_law_lists : ∀ ds S R Xc, sp_law_lists ds S R Xc → r_law_lists C (endsD S R Xc) (startD 5 ds) S := by
  rintro ds S R Xc ⟨k, m, q, fs, rfl, hp, h1, h2, h3, hQ⟩
  have hkl : k < S.length := by
    obtain ⟨_, e, _⟩ := hp
    exact (List.getElem?_eq_some_iff.mp e).1
  obtain ⟨c0, hc00, hc0⟩ := hp
  have hS0 : S = S.set k c0 := (set_self hc00).symm
  have hlen : ∀ c, (S.set k c).length = S.length := fun c => by simp
  have hpool : ∀ c L, IsPool c → Pool (S.set k c ++ L) k := fun c L hc => ⟨c, get_front (get_set hc00), hc⟩
  unfold r_law_lists planD
  walk_at "od"
  refine ⟨by omega, by omega, ?_⟩
  refine st_walkR 0 _ rfl (fun i ρ S' => ∃ (rows : List (List Int)) (c : Cell) (x y z w : Option D), rows.length = i ∧ (∀ r ∈ rows, Led.Order fs.length r) ∧ IsPool c ∧ S' = S.set k c ++ [.lst (rows.map fun r => .lst (r.map D.int))] ∧
      ρ = [some (.own k), some (planD m q fs), some (.own S.length), x, y, z, w]) ⟨[], c0, none, none, none, none, rfl, by simp, hc0, by rw [← hS0]; rfl, rfl⟩ (fun _ _ _ _ => trivial) ?_ ?_
  · rintro i ρ' S' hi ⟨rows, c, x, y, z, w, hrl, hro, hc, rfl, rfl⟩
    unfold planD
    walk_at "od"
    rw [List.length_map]
    refine ⟨⟨by omega, by omega, by omega, by omega, by omega⟩, ?_⟩
    walk_at "od"
    have hl1 : (S.set k c ++ [Cell.lst (rows.map fun r => D.lst (r.map D.int))]).length = S.length + 1 := by simp
    have hl2 : (S.set k c ++ [Cell.lst (rows.map fun r => D.lst (r.map D.int))] ++ [Cell.lst (intsFrom 0 ((fs.length : Int)).toNat)]).length = S.length + 2 := by simp
    rw [hl1, hl2, List.append_assoc, List.append_assoc]
    rw [List.length_map]
    refine ⟨by omega, by omega, ?_⟩
    have hi0 : intsFrom 0 ((fs.length : Int)).toNat = ((List.range fs.length).map fun (i : Nat) => (i : Int)).map D.int := by
      rw [intsFrom_map, List.map_map]; simp
    rw [hi0]
    refine st_walkR 0 _ hi0.symm (fun j ρ S' => ∃ (rest row : List Int) (c : Cell) (w : Option D), (row ++ rest).Perm ((List.range fs.length).map fun (i : Nat) => (i : Int)) ∧ row.length = j ∧ IsPool c ∧ S' = S.set k c ++ [.lst (rows.map fun r => .lst (r.map D.int)), .lst (rest.map D.int), .lst (row.map D.int)] ∧
      ρ = [some (.own k), some (planD m q fs), some (.own S.length), some (.int (0 + (i : Int))), some (.own (S.length + 1)), some (.own (S.length + 2)), w]) ⟨_, [], c, w, List.Perm.refl _, rfl, hc, rfl, rfl⟩ (fun _ _ _ _ => trivial) ?_ ?_
    · rintro j ρ' S' hj ⟨rest, row, c, w, hperm, hrow, hc, rfl, rfl⟩
      have hpl := hperm.length_eq
      simp at hpl
      have hjn : j < fs.length := by simpa using hj
      have hA := hlen c
      have e1 := get3_1 (a := .lst (rows.map fun r => D.lst (r.map D.int))) (b := .lst (rest.map D.int)) (c := .lst (row.map D.int)) hA
      have e2 := get3_2 (a := .lst (rows.map fun r => D.lst (r.map D.int))) (b := .lst (rest.map D.int)) (c := .lst (row.map D.int)) hA
      walk_at "od"
      rw [List.length_map]
      refine to_take (hpool c _ hc) (by omega) (by omega) fun v c1 hv0 hv1 hc1 => ?_
      rw [set_set2 (x := c) hkl]
      have hA := hlen c1
      have e1 := get3_1 (a := .lst (rows.map fun r => D.lst (r.map D.int))) (b := .lst (rest.map D.int)) (c := .lst (row.map D.int)) hA
      walk_at "od"
      have hvl : v.toNat < rest.length := by omega
      refine st_popAt (y := .int rest[v.toNat]) e1 hv0 (by simpa using hv1) (by simp; exact small_line (by omega)) (by simp [hvl]) ?_
      rw [set3_1 hA, map_eraseIdx]
      have e2 := get3_2 (a := .lst (rows.map fun r => D.lst (r.map D.int))) (b := .lst ((rest.eraseIdx v.toNat).map D.int)) (c := .lst (row.map D.int)) hA
      have hln : (row.map D.int).length < sizeLine := Nat.lt_of_lt_of_le (show _ < 1000 by simp; omega) (small_line (Nat.le_refl _))
      walk_at "od"
      rw [set3_2 hA]
      refine ⟨_, _, Shr.keep, rest.eraseIdx v.toNat, row ++ [rest[v.toNat]], c1, some (.int (0 + (j : Int))), ?_, by simp [hrow], hc1, by simp, rfl⟩
      refine List.Perm.trans ?_ hperm
      rw [List.append_assoc]
      refine List.Perm.append_left row ?_
      exact perm_eraseIdx hvl
    · rintro ρ' S' ⟨rest, row, c, w, hperm, hrow, hc, rfl, rfl⟩
      have hpl := hperm.length_eq
      simp at hpl hrow
      have hr0 : rest = [] := List.length_eq_zero_iff.mp (by omega)
      subst hr0
      rw [List.append_nil] at hperm
      have hA := hlen c
      have e0 := get3_0 (a := .lst (rows.map fun r => D.lst (r.map D.int))) (b := .lst (([] : List Int).map D.int)) (c := .gone) hA
      have hln : (rows.map fun r => D.lst (r.map D.int)).length < sizeLine := Nat.lt_of_lt_of_le (show _ < 1000 by simp; omega) (small_line (Nat.le_refl _))
      have e2 := get3_2 (a := .lst (rows.map fun r => D.lst (r.map D.int))) (b := .lst (([] : List Int).map D.int)) (c := .lst (row.map D.int)) hA
      have e0' := get3_0 (a := .lst (rows.map fun r => D.lst (r.map D.int))) (b := .lst (([] : List Int).map D.int)) (c := .lst (row.map D.int)) hA
      walk_at "od"
      refine st_frzV (x := .lst (row.map D.int)) (S0 := S.set k c ++ [.lst (rows.map fun r => .lst (r.map D.int)), .lst (([] : List Int).map D.int), .gone]) (by simp only [frzD, e2]; rw [set3_2 hA]) ?_
      walk_at "od"
      rw [set3_0 hA]
      have o : Led.Order fs.length row := by
        refine ⟨by omega, ?_, fun v hv => ?_⟩
        · refine hperm.nodup_iff.mpr ?_
          refine List.Pairwise.map _ ?_ List.nodup_range
          intro a b h e
          exact h (by omega)
        · obtain ⟨a, ha, rfl⟩ := List.mem_map.mp (hperm.mem_iff.mp hv)
          have := List.mem_range.mp ha
          omega
      have hap : (rows.map fun r => D.lst (r.map D.int)) ++ [D.lst (row.map D.int)] = (rows ++ [row]).map fun r => D.lst (r.map D.int) := by simp
      rw [hap]
      refine ⟨[some (.own k), some (planD m q fs), some (.own S.length), some (.int (0 + (i : Int))), none, none, none], S.set k c ++ [.lst ((rows ++ [row]).map fun r => .lst (r.map D.int))], ?_, rows ++ [row], c, _, _, _, _, by simp [hrl], ?_, hc, rfl, rfl⟩
      · have e3 : ∀ a b c' : Cell, S.set k c ++ [a, b, c'] = (S.set k c ++ [a]) ++ [b, c'] := fun a b c' => by simp
        rw [e3]
        refine shr_cut (by simp) ?_ ?_
        · refine cells_app (by simp) ?_ ?_
          · exact fun j e => cells_set (Pool.cell hc) j e
          · simp only [cellLt]
            exact ownLts_map (fun r => by simp only [ownLt, ownLts_ints]) _
        · refine env_keep ?_ (env_keep ?_ (env_keep ?_ (env_keep rfl (env_none (env_none (env_none env_nil))))))
          · simp [ownLt]; omega
          · simp [ownLt, ownLts, planD, ownLts_ints]
          · simp [ownLt]
      · intro r hr
        rcases List.mem_append.mp hr with hr | hr
        · exact hro r hr
        · simp at hr; subst hr; exact o
  · rintro ρ' S' ⟨rows, c, x, y, z, w, hrl, hro, hc, rfl, rfl⟩
    have hg : (S.set k c ++ [Cell.lst (rows.map fun r => D.lst (r.map D.int))])[S.length]? = some (.lst (rows.map fun r => D.lst (r.map D.int))) := by rw [← hlen c]; exact get_last
    have e := set_snoc (S := S.set k c) (c := Cell.lst (rows.map fun r => D.lst (r.map D.int))) (c' := Cell.gone)
    rw [hlen] at e
    walk_at "od"
    refine st_frzV (x := .lst (rows.map fun r => D.lst (r.map D.int))) (S0 := S.set k c ++ [.gone]) (by simp only [frzD, hg, e]) ?_
    refine st_endC (S' := S.set k c) (Cut.set S _ k c (Pool.cell hc)) (by simp only [ownLt]; exact ownLts_map (fun r => by simp only [ownLt, ownLts_ints]) _) ?_
    exact hQ rows c (by omega) hro hc
end

end K

namespace K
open PySem PySem.Spec L2 OD
open PyProof.Rows hiding St
local macro_rules | `(tactic| walk_at "od1") => `(tactic| with_reducible first
  | refine st_seq ?_ | refine st_asg ?_ | refine st_if ?_ | refine st_ret ?_ | refine st_drop ?_ | refine st_next ?_ | refine st_retN ?_
  | refine st_wnx ?_ | refine st_wrt ?_ | refine st_lnx ?_ | refine st_lct ?_ | refine st_lbk ?_ | refine st_lrt ?_ | refine st_wbk ?_ | refine st_wct ?_ | refine st_wex ?_ | refine st_lex ?_
  | refine st_var rfl ?_ | refine st_c ?_ | refine st_op ?_ | refine st_un ?_ | refine st_cb ?_ | refine st_call ?_ | refine st_cons ?_ | refine st_nil ?_
  | refine st_b ?_ | refine st_bl ?_ | refine st_blV ?_ | refine st_and ?_ | refine st_or ?_ | refine st_not ?_ | refine st_andV ?_ | refine st_orV ?_ | refine st_notV ?_ | refine st_ifE ?_ | refine st_chain ?_
  | refine st_dTru ?_ | refine st_tru ?_ | refine st_gN ?_ | refine st_gS ?_ | refine st_gC ?_ | refine st_gNil ?_
  | refine st_iteT ?_ | refine st_iteF ?_ | refine st_iteNT ?_ | refine st_iteNF ?_
  | refine st_addI ?_ | refine st_subI ?_ | refine st_negI ?_ | refine st_ltI ?_ | refine st_leI ?_ | refine st_gtI ?_ | refine st_geI ?_ | refine st_eqI ?_ | refine st_neI ?_ | refine st_eqS ?_ | refine st_neS ?_ | refine st_eqB ?_ | refine st_isI ?_ | refine st_isS ?_ | refine st_isT ?_ | refine st_isL ?_ | refine st_isB ?_ | refine st_isN ?_ | refine st_isx ?_ | refine st_iso ?_ | refine st_isi_int_bool ?_ | refine st_isi_int_int ?_ | refine st_isi_int_str ?_ | refine st_isi_int_list ?_ | refine st_isi_int_tuple ?_ | refine st_isi_str_bool ?_ | refine st_isi_str_int ?_ | refine st_isi_str_str ?_ | refine st_isi_str_list ?_ | refine st_isi_str_tuple ?_ | refine st_isi_tuple_bool ?_ | refine st_isi_tuple_int ?_ | refine st_isi_tuple_str ?_ | refine st_isi_tuple_list ?_ | refine st_isi_tuple_tuple ?_ | refine st_isi_list_bool ?_ | refine st_isi_list_int ?_ | refine st_isi_list_str ?_ | refine st_isi_list_list ?_ | refine st_isi_list_tuple ?_ | refine st_isi_bool_bool ?_ | refine st_isi_bool_int ?_ | refine st_isi_bool_str ?_ | refine st_isi_bool_list ?_ | refine st_isi_bool_tuple ?_ | refine st_isi_NoneType_bool ?_ | refine st_isi_NoneType_int ?_ | refine st_isi_NoneType_str ?_ | refine st_isi_NoneType_list ?_ | refine st_isi_NoneType_tuple ?_ | refine st_is ?_ | refine st_isNot ?_
  | refine st_pow8 ?_ | refine st_pow18 ?_ | refine st_pow20 ?_ | refine st_pow30 ?_ | refine st_pow31 ?_
  | refine st_tup ?_ | refine st_lst ?_ | refine st_mkF ?_ | refine st_mkO ?_ | refine st_frz ?_ | refine st_bm ?_ | refine st_isStr ?_
  | refine st_lenL ?_ | refine st_lenT ?_ | refine st_abs ?_ | refine st_int ?_ | refine st_max2 ?_ | refine st_min2 ?_ | refine st_listS ?_ | refine st_listL ?_ | refine st_listT ?_ | refine st_tupleL ?_ | refine st_tupleT ?_
  | refine st_for ?_ | refine st_range1 ?_ | refine st_lc ?_ | refine st_fld ?_ | refine st_setF ?_ | refine st_make ?_ | refine st_non ?_ | refine st_meth ?_ | refine st_prop ?_ | refine st_propO ?_ | refine st_raise2 ?_ | refine st_raise1 ?_ | refine st_try ?_ | refine st_augS ?_ | refine st_seqI ?_ | refine st_seqT ?_ | refine st_seqL ?_ | refine st_range2 ?_ | refine st_enum ?_ | refine st_zip ?_ | refine st_dnewT ?_ | refine st_dnewK ?_ | refine st_dget ?_ | refine st_din ?_ | refine st_dput ?_ | refine st_sl ?_ | refine st_noP ?_ | refine st_part ?_ | refine st_partI ?_ | refine st_slT ?_  | refine st_slL ?_ | refine st_listR1 ?_ | refine st_listR2 ?_ | refine st_ip ?_ | refine st_aug rfl ?_ | refine st_grt ?_ | refine st_gnx ?_ | refine st_crt ?_ | refine st_cnx ?_ | refine st_xrt ?_ | refine st_xnx ?_ | refine st_xex ?_ | refine st_h0 ?_ | refine st_truF ?_ | refine st_yes ?_ | refine st_mk2 ?_ | refine st_mk2e ?_ | refine st_mk1 ?_ | refine st_mk1e ?_ | refine st_mk0 ?_ | refine st_xf ?_)
local macro_rules | `(tactic| walk_at "od2") => `(tactic| first
  | ((with_reducible show dVar _ _ _ _ _); refine st_var rfl ?_)
  | ((with_reducible show pIx (.own _) (.int _) _ _); refine st_ixO (by assumption) (by first | rfl | assumption) ?_)
  | ((with_reducible show pIx (.lst _) (.int _) _ _); refine st_ixL (by first | rfl | assumption) ?_)
  | ((with_reducible show pIx (.tup _) (.int _) _ _); refine st_ixT (by first | rfl | assumption) ?_)
  | ((with_reducible show List.length _ ≤ sizeLine ∧ _); refine ⟨small_line (by simp), ?_⟩)
  | ((with_reducible show pAppend (.own _) [_] _ _); refine st_append (by assumption) (by assumption) ?_)
  | ((with_reducible show pInG false (.int _) (.lst (List.map D.int _)) _ _); refine st_inF rfl ?_)
  | ((with_reducible show pInG false (.int _) (.tup (List.map D.int _)) _ _); refine st_inF rfl ?_)
  | ((with_reducible show pInG true (.int _) (.lst (List.map D.int _)) _ _); refine st_inT rfl ?_)
  | ((with_reducible show pInG true (.int _) (.tup (List.map D.int _)) _ _); refine st_inT rfl ?_)
  | ((with_reducible show pInG false (.int _) _ _ _); refine st_inF (by assumption) ?_)
  | ((with_reducible show pInG true (.int _) _ _ _); refine st_inT (by assumption) ?_)
  | ((with_reducible show pSum [.lst (List.map D.int _)] _ _); refine st_sumI rfl ?_)
  | ((with_reducible show pEqG _ (.lst (List.map D.int _)) (.lst (List.map D.int _)) _ _); refine st_eqLL ?_)
  | ((with_reducible show pEqG _ (.tup (List.map D.int _)) (.tup (List.map D.int _)) _ _); refine st_eqTT ?_)
  | ((with_reducible show pIsi _ [_, .ty "bool"] _ _); refine st_isiL_bool (by first | assumption | exact tyO (by assumption)) ?_)
  | ((with_reducible show pIsi _ [_, .ty "int"] _ _); refine st_isiL_int (by first | assumption | exact tyO (by assumption)) ?_)
  | ((with_reducible show pIsi _ [_, .ty "str"] _ _); refine st_isiL_str (by first | assumption | exact tyO (by assumption)) ?_)
  | ((with_reducible show pIsi _ [_, .ty "tuple"] _ _); refine st_isiL_tuple (by first | assumption | exact tyO (by assumption)) ?_)
  | ((with_reducible show pIsi _ [_, .ty "list"] _ _); refine st_isiL_list (by first | assumption | exact tyO (by assumption)) ?_)
  | ((with_reducible show pIx _ (.int _) _ _); refine st_ixV (by assumption) (by first | rfl | assumption) ?_)
  | ((with_reducible show pLen [_] _ _); refine st_lenV (by assumption) ?_)
  | ((with_reducible show pTuple [_] _ _); refine st_tupleV (by assumption) ?_)
  | ((with_reducible show pList _ [_] _ _); refine st_listV (by assumption) ?_)
  | ((with_reducible show ∃ _, seqD _ _ = some _ ∧ _); refine st_seqV (by assumption) ?_)
  | ((with_reducible show pLen [.own _] _ _); refine st_lenO (by assumption) ?_)
  | ((with_reducible show pTuple [.own _] _ _); refine st_tupleO (by assumption) ?_)
  | ((with_reducible show pList _ [.own _] _ _); refine st_listO (by assumption) ?_)
  | ((with_reducible show setD (.own _) (.int _) _ (List.set _ _ (.lst _)) _); refine st_setS (by assumption) (by first | rfl | assumption) ?_)
  | ((with_reducible show setD (.own _) (.int _) _ _ _); refine st_set (by assumption) (by first | rfl | assumption) ?_)
  | ((with_reducible show isLst (.own _) _ ∧ _); refine st_isLst (by assumption) ?_)
  | ((with_reducible show ∃ _ _ _, insD (.obj _ _) _ = _ ∧ _); refine st_fldO rfl ?_)
  | ((with_reducible show ∃ _ _ _, insD (.own _) _ = _ ∧ _); refine st_fldC (by assumption) rfl ?_)
  | ((with_reducible show ∃ _, insD (.obj _ _) _ = _ ∧ _); refine st_methO rfl ?_)
  | ((with_reducible show ∃ _, insD (.own _) _ = _ ∧ _); refine st_methC (by assumption) rfl ?_)
  | ((with_reducible show dHs _ _ ((_, some _, _) :: _) _ _ _ _); refine st_hdS ?_)
  | ((with_reducible show dHs _ _ ((_, none, _) :: _) _ _ _ _); refine st_hdN ?_)
  | ((with_reducible show dHs _ _ (_ :: _) _ _ _ _); refine st_hn ?_)
  | ((with_reducible show ∃ _ _ _, D.exc _ _ = _ ∧ _); refine st_xfe' rfl ?_)
  | ((with_reducible show dAug _ _ _ _ _ _); refine st_aug rfl ?_)
  | ((with_reducible show ∃ _, seqD (.own _) _ = _ ∧ _); refine st_seqO (by assumption) ?_)
  | ((with_reducible show pSl _ (.own _) _ _ _ _); refine st_slO (by assumption) ?_)
  | ((with_reducible show pMod (.int _) (.int _) _ _); refine st_modI (by first | assumption | decide | omega) ?_))
local macro_rules | `(tactic| walk_at "od") => `(tactic| repeat' (first | walk_at "od1" | walk_at "od2"))
local macro_rules | `(tactic| walk_at "odj") => `(tactic| repeat' (first | walk_at "od1" | walk_at "od2" | refine st_iteDT (by decide) ?_ | refine st_iteDF (by decide) ?_))
local macro_rules | `(tactic| walk_at "od1n") => `(tactic| with_reducible first
  | refine st_asg ?_ | refine st_if ?_ | refine st_ret ?_ | refine st_drop ?_ | refine st_next ?_ | refine st_retN ?_
  | refine st_wnx ?_ | refine st_wrt ?_ | refine st_lnx ?_ | refine st_lct ?_ | refine st_lbk ?_ | refine st_lrt ?_ | refine st_wbk ?_ | refine st_wct ?_ | refine st_wex ?_ | refine st_lex ?_
  | refine st_var rfl ?_ | refine st_c ?_ | refine st_op ?_ | refine st_un ?_ | refine st_cb ?_ | refine st_call ?_ | refine st_cons ?_ | refine st_nil ?_
  | refine st_b ?_ | refine st_bl ?_ | refine st_blV ?_ | refine st_and ?_ | refine st_or ?_ | refine st_not ?_ | refine st_andV ?_ | refine st_orV ?_ | refine st_notV ?_ | refine st_ifE ?_ | refine st_chain ?_
  | refine st_dTru ?_ | refine st_tru ?_ | refine st_gN ?_ | refine st_gS ?_ | refine st_gC ?_ | refine st_gNil ?_
  | refine st_iteT ?_ | refine st_iteF ?_ | refine st_iteNT ?_ | refine st_iteNF ?_
  | refine st_addI ?_ | refine st_subI ?_ | refine st_negI ?_ | refine st_ltI ?_ | refine st_leI ?_ | refine st_gtI ?_ | refine st_geI ?_ | refine st_eqI ?_ | refine st_neI ?_ | refine st_eqS ?_ | refine st_neS ?_ | refine st_eqB ?_ | refine st_isI ?_ | refine st_isS ?_ | refine st_isT ?_ | refine st_isL ?_ | refine st_isB ?_ | refine st_isN ?_ | refine st_isx ?_ | refine st_iso ?_ | refine st_isi_int_bool ?_ | refine st_isi_int_int ?_ | refine st_isi_int_str ?_ | refine st_isi_int_list ?_ | refine st_isi_int_tuple ?_ | refine st_isi_str_bool ?_ | refine st_isi_str_int ?_ | refine st_isi_str_str ?_ | refine st_isi_str_list ?_ | refine st_isi_str_tuple ?_ | refine st_isi_tuple_bool ?_ | refine st_isi_tuple_int ?_ | refine st_isi_tuple_str ?_ | refine st_isi_tuple_list ?_ | refine st_isi_tuple_tuple ?_ | refine st_isi_list_bool ?_ | refine st_isi_list_int ?_ | refine st_isi_list_str ?_ | refine st_isi_list_list ?_ | refine st_isi_list_tuple ?_ | refine st_isi_bool_bool ?_ | refine st_isi_bool_int ?_ | refine st_isi_bool_str ?_ | refine st_isi_bool_list ?_ | refine st_isi_bool_tuple ?_ | refine st_isi_NoneType_bool ?_ | refine st_isi_NoneType_int ?_ | refine st_isi_NoneType_str ?_ | refine st_isi_NoneType_list ?_ | refine st_isi_NoneType_tuple ?_ | refine st_is ?_ | refine st_isNot ?_
  | refine st_pow8 ?_ | refine st_pow18 ?_ | refine st_pow20 ?_ | refine st_pow30 ?_ | refine st_pow31 ?_
  | refine st_tup ?_ | refine st_lst ?_ | refine st_mkF ?_ | refine st_mkO ?_ | refine st_frz ?_ | refine st_bm ?_ | refine st_isStr ?_
  | refine st_lenL ?_ | refine st_lenT ?_ | refine st_abs ?_ | refine st_int ?_ | refine st_max2 ?_ | refine st_min2 ?_ | refine st_listS ?_ | refine st_listL ?_ | refine st_listT ?_ | refine st_tupleL ?_ | refine st_tupleT ?_
  | refine st_for ?_ | refine st_range1 ?_ | refine st_lc ?_ | refine st_fld ?_ | refine st_setF ?_ | refine st_make ?_ | refine st_non ?_ | refine st_meth ?_ | refine st_prop ?_ | refine st_propO ?_ | refine st_raise2 ?_ | refine st_raise1 ?_ | refine st_try ?_ | refine st_augS ?_ | refine st_seqI ?_ | refine st_seqT ?_ | refine st_seqL ?_ | refine st_range2 ?_ | refine st_enum ?_ | refine st_zip ?_ | refine st_dnewT ?_ | refine st_dnewK ?_ | refine st_dget ?_ | refine st_din ?_ | refine st_dput ?_ | refine st_sl ?_ | refine st_noP ?_ | refine st_part ?_ | refine st_partI ?_ | refine st_slT ?_  | refine st_slL ?_ | refine st_listR1 ?_ | refine st_listR2 ?_ | refine st_ip ?_ | refine st_aug rfl ?_ | refine st_grt ?_ | refine st_gnx ?_ | refine st_crt ?_ | refine st_cnx ?_ | refine st_xrt ?_ | refine st_xnx ?_ | refine st_xex ?_ | refine st_h0 ?_ | refine st_truF ?_ | refine st_yes ?_ | refine st_mk2 ?_ | refine st_mk2e ?_ | refine st_mk1 ?_ | refine st_mk1e ?_ | refine st_mk0 ?_ | refine st_xf ?_)
local macro_rules | `(tactic| walk_at "odn") => `(tactic| repeat' (first | walk_at "od1n" | walk_at "od2"))
section
variable {C : Ct} [LawF C]
theorem pure_Book_of_rows : ∀ ds S R Xc, sp_Book_of_rows ds S R Xc → r_Book_of_rows C (endsD S R Xc) (startD 1 ds) S := by
  rintro ds S R Xc ⟨rs, d, rfl, hs, P, hQ⟩
  have hl := P.len
  rw [List.length_map] at hl
  unfold r_Book_of_rows
  walk_at "od"
  refine st_comp1 rs tupI rfl (fun r => strD (1, r)) hs (small_line (by omega)) ?_ ?_
  · intro pre r post sp R' hR'
    refine ⟨_, rfl, ?_⟩
    walk_at "od"
    exact hR'
  walk_at "od"
  refine to_book (ps := rs.map fun r => (1, r)) (by simp only [seqD, List.map_map]; rfl) P ?_
  walk_at "od"
  exact st_endC (Cut.app S _) (by simp only [ownLt, ownLts, ownLtF, ownLts_pairs, Bool.and_self]) hQ
theorem pure_led_runners : ∀ ds S R, sp_led_runners ds S R → r_led_runners C (endsG S R) [] (startD 3 ds) S := by
  rintro ds S R ⟨m, q, fs, ld, rows, n, rfl, ⟨ps, hs, hrows, hp⟩, G, hn, hn4, hR⟩
  have hm := G.len
  have hpos := G.pos
  have m1 := G.stand.m1
  unfold r_led_runners
  refine sg_seq (sg_plain ?_)
  walk_at "od"
  refine sg_anx (sg_wnx (sg_for ?_))
  walk_at "od"
  refine ⟨by omega, by omega, ?_⟩
  refine ⟨fun i ys ρ S' => i ≤ n ∧ S' = S ∧ ys = (List.range i).map (fun t => tupI (Led.mcr m q rows fs t)) ∧ ∃ x y, ρ = [some (depotD m q fs), some ld, some (.int n), some (tupI (Led.mst m q rows fs i)), x, y], ⟨Nat.zero_le _, rfl, rfl, none, none, rfl⟩, ?_⟩
  rintro i ys ρ' S' ⟨hi, rfl, rfl, x, y, rfl⟩
  refine ⟨trivial, fun e => ?_, fun d hd => ?_⟩
  · have : i = n := by simpa [OD.intsFrom] using e
    subst this
    exact sg_end hR
  · have hin : i < n := by
      have := (List.getElem?_eq_some_iff.mp hd).1
      simpa [OD.intsFrom] using this
    have e : d = .int (i : Int) := by
      simp only [OD.intsFrom, List.getElem?_map] at hd
      rw [List.getElem?_range (by simpa using hin)] at hd
      have := Option.some.inj hd
      rw [← this]; simp
    subst e
    have hmod : (i : Int) % m = ((i % rows.length : Nat) : Int) := by rw [← hm]; simp
    have hml := Nat.mod_lt i hpos
    have hpl : ps.length = rows.length := by rw [hrows]; simp
    have hpi : i % rows.length < ps.length := by omega
    have hrow : Led.dayRow rows i = ps[i % rows.length].2 := by
      have := Led.dayRow_at G i
      rw [hrows, List.getElem?_map] at this
      rw [← hrows] at this
      rw [List.getElem?_eq_getElem hpi] at this
      exact (Option.some.inj this).symm
    have hat : atI (ps.map (·.1)) ((i : Int) % m) = some ps[i % rows.length].1 := by rw [hmod]; exact atI_nat (by simp [hpi])
    have f := Led.mst_facts G i
    walk_at "od"
    refine sg_seq (sg_plain ?_)
    walk_at "od"
    refine to_morning (row := Led.dayRow rows i) (ws := Led.mst m q rows fs i) ?_ (by rw [f.1]; exact Led.dayRow_order G i) (by rw [f.1]; exact hn) (by have := G.stand.q1; omega) ?_
    · rw [hrow]; exact hp _ (List.getElem_mem hpi)
    refine st_gT rfl rfl ?_
    walk_at "od"
    refine sg_anx (sg_wnx (sg_yield (Nat.lt_of_lt_of_le (show _ < 1000 by simp; omega) (small_line (Nat.le_refl _))) ?_))
    walk_at "od"
    refine sg_lnx ⟨hin, rfl, ?_, _, _, rfl⟩
    rw [List.range_succ, List.map_append]; rfl
theorem ref3_none {m : Int} {n : Nat} {rows : List (List Int)} {span : Int} (h : ref m n rows = none) (h0 : 0 ≤ span) (h4 : span ≤ 400) : ref3 m n rows span = none := by
  unfold ref3
  rw [h]
  show (if _ then _ else _) = _
  rw [if_neg (by omega)]
theorem pure_lead : ∀ ds S R Xc, sp_lead ds S R Xc → r_lead C (endsD S R Xc) (startD 0 ds) S := by
  rintro ds S R Xc ⟨m, q, fs, ld, rows, span, rfl, P, hR, h1, h2⟩
  unfold r_lead
  walk_at "od"
  refine ⟨m, q, fs, rfl, fun c a h => ?_, fun hled => ?_⟩
  · walk_at "od"
    exact st_endX0 (h1 "OutOfRange" c a (by unfold ref3 ref; rw [h]))
  walk_at "od"
  refine ⟨m, q, fs, ld, rows, rfl, P.n12, hR, fun c a h => ?_, fun hlists => ?_⟩
  · walk_at "od"
    exact st_endX0 (h1 "BadLists" c a (by unfold ref3 ref; rw [hled, h]; rfl))
  have hn : ref m fs.length rows = none := by unfold ref; rw [hled, hlists]; rfl
  obtain ⟨G, h6, m6⟩ := good_of P hn
  have hbad : span < 0 ∨ 400 < span → ref3 m fs.length rows span = some (("OutOfRange" : Str), ("days" : Str), span) := fun h => by
    unfold ref3; rw [hn]; show (if _ then _ else _) = _; rw [if_pos h]
  walk_at "od"
  refine ⟨span, rfl, fun h => ?_, fun h0 h30 => ?_⟩
  · walk_at "od"
    exact st_endX0 (h1 _ _ _ (hbad (by omega)))
  walk_at "od"
  refine st_ite (fun h => ?_) (fun h => ?_)
  · walk_at "od"
    exact st_endXs rfl (h1 _ _ _ (hbad (.inr h)))
  walk_at "od"
  refine st_listG ?_
  walk_at "od"
  obtain ⟨n, rfl⟩ : ∃ n : Nat, span = n := ⟨span.toNat, by omega⟩
  have hQ := h2 (ref3_none hn (by omega) (by omega))
  rw [Int.toNat_natCast] at hQ
  have e : Led.led m q rows fs n = ((List.range n).map fun t => Led.mcr m q rows fs t).map fun r => (1, r) := by unfold Led.led; rw [List.map_map]; rfl
  refine ⟨m, q, fs, ld, rows, n, rfl, hR, G, P.n12, by omega, ?_⟩
  walk_at "od"
  refine ⟨(List.range n).map fun t => Led.mcr m q rows fs t, _, rfl, ?_, ?_, ?_⟩
  · simp only [seqD, List.map_map]; rfl
  · rw [← e]; exact Led.led_strs G P.n12 (by omega)
  · rw [← e]
    walk_at "od"
    exact st_end hQ
theorem ref3_cases {m : Int} {n : Nat} {rows : List (List Int)} {span : Int} {x c : Str} {a : Int} (h : ref3 m n rows span = some (x, c, a)) : x = "OutOfRange" ∨ x = "BadLists" := by
  unfold ref3 at h
  split at h
  · rename_i p e
    cases h
    exact ref_cases e
  · split at h
    · cases h; exact .inl rfl
    · cases h
theorem pure_law_ask : ∀ ds S R Xc, sp_law_ask ds S R Xc → r_law_ask C (endsD S R Xc) (startD 2 ds) S := by
  rintro ds S R Xc ⟨m, q, fs, ld, rows, span, rfl, P, hR, h1, h2⟩
  unfold r_law_ask planD
  walk_at "od"
  refine to_depot rfl P ?_
  walk_at "od"
  refine ⟨m, q, fs, ld, rows, span, rfl, P, hR.app, fun x c a h => ?_, fun h => ?_⟩
  · rcases ref3_cases h with rfl | rfl
    · walk_at "od"
      exact st_endC (Cut.app S _) rfl (h1 _ _ _ h)
    · walk_at "od"
      exact st_endC (Cut.app S _) rfl (h1 _ _ _ h)
  · walk_at "od"
    exact st_endC (Cut.app S _) (by simp only [ownLt, ownLts, ownLtF, ownLts_pairs, Bool.and_self]) (h2 h)
theorem pure_law_by_base : ∀ ds S R Xc, sp_law_by_base ds S R Xc → r_law_by_base C (endsD S R Xc) (startD 2 ds) S := by
  rintro ds S R Xc ⟨m, q, fs, ld, rows, span, rfl, P, hR, h1, h2⟩
  unfold r_law_by_base planD
  walk_at "od"
  refine to_depot rfl P ?_
  walk_at "od"
  refine ⟨m, q, fs, ld, rows, span, rfl, P, hR.app, fun x c a h => ?_, fun h => ?_⟩
  · rcases ref3_cases h with rfl | rfl
    · walk_at "od"
      exact st_endC (Cut.app S _) rfl h2
    · walk_at "od"
      exact st_endC (Cut.app S _) rfl h2
  · rw [h] at h1; cases h1
theorem depD_pairs {n : Nat} {js : List (Int × List Int)} (h : js.length ≤ 1000000) (h2 : ∀ p ∈ js, p.2.length ≤ 1000000) : depD (n + 3) (.tup (js.map strD)) = true := by
  simp only [depD, Bool.and_eq_true, decide_eq_true_eq, List.length_map]
  refine ⟨List.all_eq_true.mpr fun d hd => ?_, h⟩
  obtain ⟨p, hp, rfl⟩ := List.mem_map.mp hd
  have := depD_ints (n := n) (h2 p hp)
  simp only [strD, depD, List.all_cons, flatD, List.all_nil, Bool.and_true, Bool.true_and, Bool.and_eq_true, decide_eq_true_eq, List.length_cons, List.length_nil]
  simp only [depD, Bool.and_eq_true, decide_eq_true_eq] at this
  exact ⟨this, by omega⟩
theorem asc_le : ∀ {r : List Int} {lo : Int}, r.Pairwise (· < ·) → (∀ i ∈ r, lo ≤ i ∧ i ≤ 11) → lo ≤ 12 → (r.length : Int) ≤ 12 - lo
  | [], lo, _, _, h => by simp; omega
  | x :: r, lo, h1, h2, h => by
    have hx := h2 x List.mem_cons_self
    have := asc_le (r := r) (lo := x + 1) (List.pairwise_cons.mp h1).2 (fun i hi => ⟨by have := (List.pairwise_cons.mp h1).1 i hi; omega, (h2 i (List.mem_cons_of_mem _ hi)).2⟩) (by omega)
    rw [List.length_cons]; omega
theorem asc_len {r : List Int} (A : Led.Asc r) : r.length ≤ 12 := by
  have := asc_le A.inc A.rng (by omega)
  omega
theorem pure_law_is_book : ∀ ds S R Xc, sp_law_is_book ds S R Xc → r_law_is_book C (endsD S R Xc) (startD 0 ds) S := by
  rintro ds S R Xc ⟨ps, js, n, rfl, rfl, rfl, P, hQ⟩
  have hd : depD 3 (.tup ((Led.joinRows ps).map strD)) = true := depD_pairs (n := 0) (by have := Led.join_len (ps := ps); have := P.len; omega) fun p hp => by
    obtain ⟨p2, h2, e⟩ := Led.join_mem hp
    rw [e]
    have := asc_len (P.ok p2 h2).2
    omega
  unfold r_law_is_book
  walk_at "od"
  refine to_same rfl rfl hd ?_
  walk_at "od"
  refine to_same rfl rfl rfl ?_
  walk_at "od"
  exact st_end hQ
theorem to_isbook {S : Store} {Q : D → Store → Prop} {X : XcD} {ps js : List (Int × List Int)} {n : Int} (e1 : js = Led.joinRows ps) (e2 : n = (ps.map (·.1)).sum) (P : Led.Strs ps) (h : Q (.bl true) S) : sp_law_is_book [bookD ps, .tup (js.map strD), .int n] S Q X := ⟨ps, js, n, rfl, e1, e2, P, h⟩
end

end K

namespace K
open PySem PySem.Spec L2 OD
open PyProof.Rows hiding St
local macro_rules | `(tactic| walk_at "od1") => `(tactic| with_reducible first
  | refine st_seq ?_ | refine st_asg ?_ | refine st_if ?_ | refine st_ret ?_ | refine st_drop ?_ | refine st_next ?_ | refine st_retN ?_
  | refine st_wnx ?_ | refine st_wrt ?_ | refine st_lnx ?_ | refine st_lct ?_ | refine st_lbk ?_ | refine st_lrt ?_ | refine st_wbk ?_ | refine st_wct ?_ | refine st_wex ?_ | refine st_lex ?_
  | refine st_var rfl ?_ | refine st_c ?_ | refine st_op ?_ | refine st_un ?_ | refine st_cb ?_ | refine st_call ?_ | refine st_cons ?_ | refine st_nil ?_
  | refine st_b ?_ | refine st_bl ?_ | refine st_blV ?_ | refine st_and ?_ | refine st_or ?_ | refine st_not ?_ | refine st_andV ?_ | refine st_orV ?_ | refine st_notV ?_ | refine st_ifE ?_ | refine st_chain ?_
  | refine st_dTru ?_ | refine st_tru ?_ | refine st_gN ?_ | refine st_gS ?_ | refine st_gC ?_ | refine st_gNil ?_
  | refine st_iteT ?_ | refine st_iteF ?_ | refine st_iteNT ?_ | refine st_iteNF ?_
  | refine st_addI ?_ | refine st_subI ?_ | refine st_negI ?_ | refine st_ltI ?_ | refine st_leI ?_ | refine st_gtI ?_ | refine st_geI ?_ | refine st_eqI ?_ | refine st_neI ?_ | refine st_eqS ?_ | refine st_neS ?_ | refine st_eqB ?_ | refine st_isI ?_ | refine st_isS ?_ | refine st_isT ?_ | refine st_isL ?_ | refine st_isB ?_ | refine st_isN ?_ | refine st_isx ?_ | refine st_iso ?_ | refine st_isi_int_bool ?_ | refine st_isi_int_int ?_ | refine st_isi_int_str ?_ | refine st_isi_int_list ?_ | refine st_isi_int_tuple ?_ | refine st_isi_str_bool ?_ | refine st_isi_str_int ?_ | refine st_isi_str_str ?_ | refine st_isi_str_list ?_ | refine st_isi_str_tuple ?_ | refine st_isi_tuple_bool ?_ | refine st_isi_tuple_int ?_ | refine st_isi_tuple_str ?_ | refine st_isi_tuple_list ?_ | refine st_isi_tuple_tuple ?_ | refine st_isi_list_bool ?_ | refine st_isi_list_int ?_ | refine st_isi_list_str ?_ | refine st_isi_list_list ?_ | refine st_isi_list_tuple ?_ | refine st_isi_bool_bool ?_ | refine st_isi_bool_int ?_ | refine st_isi_bool_str ?_ | refine st_isi_bool_list ?_ | refine st_isi_bool_tuple ?_ | refine st_isi_NoneType_bool ?_ | refine st_isi_NoneType_int ?_ | refine st_isi_NoneType_str ?_ | refine st_isi_NoneType_list ?_ | refine st_isi_NoneType_tuple ?_ | refine st_is ?_ | refine st_isNot ?_
  | refine st_pow8 ?_ | refine st_pow18 ?_ | refine st_pow20 ?_ | refine st_pow30 ?_ | refine st_pow31 ?_
  | refine st_tup ?_ | refine st_lst ?_ | refine st_mkF ?_ | refine st_mkO ?_ | refine st_frz ?_ | refine st_bm ?_ | refine st_isStr ?_
  | refine st_lenL ?_ | refine st_lenT ?_ | refine st_abs ?_ | refine st_int ?_ | refine st_max2 ?_ | refine st_min2 ?_ | refine st_listS ?_ | refine st_listL ?_ | refine st_listT ?_ | refine st_tupleL ?_ | refine st_tupleT ?_
  | refine st_for ?_ | refine st_range1 ?_ | refine st_lc ?_ | refine st_fld ?_ | refine st_setF ?_ | refine st_make ?_ | refine st_non ?_ | refine st_meth ?_ | refine st_prop ?_ | refine st_propO ?_ | refine st_raise2 ?_ | refine st_raise1 ?_ | refine st_try ?_ | refine st_augS ?_ | refine st_seqI ?_ | refine st_seqT ?_ | refine st_seqL ?_ | refine st_range2 ?_ | refine st_enum ?_ | refine st_zip ?_ | refine st_dnewT ?_ | refine st_dnewK ?_ | refine st_dget ?_ | refine st_din ?_ | refine st_dput ?_ | refine st_sl ?_ | refine st_noP ?_ | refine st_part ?_ | refine st_partI ?_ | refine st_slT ?_  | refine st_slL ?_ | refine st_listR1 ?_ | refine st_listR2 ?_ | refine st_ip ?_ | refine st_aug rfl ?_ | refine st_grt ?_ | refine st_gnx ?_ | refine st_crt ?_ | refine st_cnx ?_ | refine st_xrt ?_ | refine st_xnx ?_ | refine st_xex ?_ | refine st_h0 ?_ | refine st_truF ?_ | refine st_yes ?_ | refine st_mk2 ?_ | refine st_mk2e ?_ | refine st_mk1 ?_ | refine st_mk1e ?_ | refine st_mk0 ?_ | refine st_xf ?_)
local macro_rules | `(tactic| walk_at "od2") => `(tactic| first
  | ((with_reducible show dVar _ _ _ _ _); refine st_var rfl ?_)
  | ((with_reducible show pIx (.own _) (.int _) _ _); refine st_ixO (by assumption) (by first | rfl | assumption) ?_)
  | ((with_reducible show pIx (.lst _) (.int _) _ _); refine st_ixL (by first | rfl | assumption) ?_)
  | ((with_reducible show pIx (.tup _) (.int _) _ _); refine st_ixT (by first | rfl | assumption) ?_)
  | ((with_reducible show List.length _ ≤ sizeLine ∧ _); refine ⟨small_line (by simp), ?_⟩)
  | ((with_reducible show pAppend (.own _) [_] _ _); refine st_append (by assumption) (by assumption) ?_)
  | ((with_reducible show pInG false (.int _) (.lst (List.map D.int _)) _ _); refine st_inF rfl ?_)
  | ((with_reducible show pInG false (.int _) (.tup (List.map D.int _)) _ _); refine st_inF rfl ?_)
  | ((with_reducible show pInG true (.int _) (.lst (List.map D.int _)) _ _); refine st_inT rfl ?_)
  | ((with_reducible show pInG true (.int _) (.tup (List.map D.int _)) _ _); refine st_inT rfl ?_)
  | ((with_reducible show pInG false (.int _) _ _ _); refine st_inF (by assumption) ?_)
  | ((with_reducible show pInG true (.int _) _ _ _); refine st_inT (by assumption) ?_)
  | ((with_reducible show pSum [.lst (List.map D.int _)] _ _); refine st_sumI rfl ?_)
  | ((with_reducible show pEqG _ (.lst (List.map D.int _)) (.lst (List.map D.int _)) _ _); refine st_eqLL ?_)
  | ((with_reducible show pEqG _ (.tup (List.map D.int _)) (.tup (List.map D.int _)) _ _); refine st_eqTT ?_)
  | ((with_reducible show pIsi _ [_, .ty "bool"] _ _); refine st_isiL_bool (by first | assumption | exact tyO (by assumption)) ?_)
  | ((with_reducible show pIsi _ [_, .ty "int"] _ _); refine st_isiL_int (by first | assumption | exact tyO (by assumption)) ?_)
  | ((with_reducible show pIsi _ [_, .ty "str"] _ _); refine st_isiL_str (by first | assumption | exact tyO (by assumption)) ?_)
  | ((with_reducible show pIsi _ [_, .ty "tuple"] _ _); refine st_isiL_tuple (by first | assumption | exact tyO (by assumption)) ?_)
  | ((with_reducible show pIsi _ [_, .ty "list"] _ _); refine st_isiL_list (by first | assumption | exact tyO (by assumption)) ?_)
  | ((with_reducible show pIx _ (.int _) _ _); refine st_ixV (by assumption) (by first | rfl | assumption) ?_)
  | ((with_reducible show pLen [_] _ _); refine st_lenV (by assumption) ?_)
  | ((with_reducible show pTuple [_] _ _); refine st_tupleV (by assumption) ?_)
  | ((with_reducible show pList _ [_] _ _); refine st_listV (by assumption) ?_)
  | ((with_reducible show ∃ _, seqD _ _ = some _ ∧ _); refine st_seqV (by assumption) ?_)
  | ((with_reducible show pLen [.own _] _ _); refine st_lenO (by assumption) ?_)
  | ((with_reducible show pTuple [.own _] _ _); refine st_tupleO (by assumption) ?_)
  | ((with_reducible show pList _ [.own _] _ _); refine st_listO (by assumption) ?_)
  | ((with_reducible show setD (.own _) (.int _) _ (List.set _ _ (.lst _)) _); refine st_setS (by assumption) (by first | rfl | assumption) ?_)
  | ((with_reducible show setD (.own _) (.int _) _ _ _); refine st_set (by assumption) (by first | rfl | assumption) ?_)
  | ((with_reducible show isLst (.own _) _ ∧ _); refine st_isLst (by assumption) ?_)
  | ((with_reducible show ∃ _ _ _, insD (.obj _ _) _ = _ ∧ _); refine st_fldO rfl ?_)
  | ((with_reducible show ∃ _ _ _, insD (.own _) _ = _ ∧ _); refine st_fldC (by assumption) rfl ?_)
  | ((with_reducible show ∃ _, insD (.obj _ _) _ = _ ∧ _); refine st_methO rfl ?_)
  | ((with_reducible show ∃ _, insD (.own _) _ = _ ∧ _); refine st_methC (by assumption) rfl ?_)
  | ((with_reducible show dHs _ _ ((_, some _, _) :: _) _ _ _ _); refine st_hdS ?_)
  | ((with_reducible show dHs _ _ ((_, none, _) :: _) _ _ _ _); refine st_hdN ?_)
  | ((with_reducible show dHs _ _ (_ :: _) _ _ _ _); refine st_hn ?_)
  | ((with_reducible show ∃ _ _ _, D.exc _ _ = _ ∧ _); refine st_xfe' rfl ?_)
  | ((with_reducible show dAug _ _ _ _ _ _); refine st_aug rfl ?_)
  | ((with_reducible show ∃ _, seqD (.own _) _ = _ ∧ _); refine st_seqO (by assumption) ?_)
  | ((with_reducible show pSl _ (.own _) _ _ _ _); refine st_slO (by assumption) ?_)
  | ((with_reducible show pMod (.int _) (.int _) _ _); refine st_modI (by first | assumption | decide | omega) ?_))
local macro_rules | `(tactic| walk_at "od") => `(tactic| repeat' (first | walk_at "od1" | walk_at "od2"))
local macro_rules | `(tactic| walk_at "odj") => `(tactic| repeat' (first | walk_at "od1" | walk_at "od2" | refine st_iteDT (by decide) ?_ | refine st_iteDF (by decide) ?_))
local macro_rules | `(tactic| walk_at "od1n") => `(tactic| with_reducible first
  | refine st_asg ?_ | refine st_if ?_ | refine st_ret ?_ | refine st_drop ?_ | refine st_next ?_ | refine st_retN ?_
  | refine st_wnx ?_ | refine st_wrt ?_ | refine st_lnx ?_ | refine st_lct ?_ | refine st_lbk ?_ | refine st_lrt ?_ | refine st_wbk ?_ | refine st_wct ?_ | refine st_wex ?_ | refine st_lex ?_
  | refine st_var rfl ?_ | refine st_c ?_ | refine st_op ?_ | refine st_un ?_ | refine st_cb ?_ | refine st_call ?_ | refine st_cons ?_ | refine st_nil ?_
  | refine st_b ?_ | refine st_bl ?_ | refine st_blV ?_ | refine st_and ?_ | refine st_or ?_ | refine st_not ?_ | refine st_andV ?_ | refine st_orV ?_ | refine st_notV ?_ | refine st_ifE ?_ | refine st_chain ?_
  | refine st_dTru ?_ | refine st_tru ?_ | refine st_gN ?_ | refine st_gS ?_ | refine st_gC ?_ | refine st_gNil ?_
  | refine st_iteT ?_ | refine st_iteF ?_ | refine st_iteNT ?_ | refine st_iteNF ?_
  | refine st_addI ?_ | refine st_subI ?_ | refine st_negI ?_ | refine st_ltI ?_ | refine st_leI ?_ | refine st_gtI ?_ | refine st_geI ?_ | refine st_eqI ?_ | refine st_neI ?_ | refine st_eqS ?_ | refine st_neS ?_ | refine st_eqB ?_ | refine st_isI ?_ | refine st_isS ?_ | refine st_isT ?_ | refine st_isL ?_ | refine st_isB ?_ | refine st_isN ?_ | refine st_isx ?_ | refine st_iso ?_ | refine st_isi_int_bool ?_ | refine st_isi_int_int ?_ | refine st_isi_int_str ?_ | refine st_isi_int_list ?_ | refine st_isi_int_tuple ?_ | refine st_isi_str_bool ?_ | refine st_isi_str_int ?_ | refine st_isi_str_str ?_ | refine st_isi_str_list ?_ | refine st_isi_str_tuple ?_ | refine st_isi_tuple_bool ?_ | refine st_isi_tuple_int ?_ | refine st_isi_tuple_str ?_ | refine st_isi_tuple_list ?_ | refine st_isi_tuple_tuple ?_ | refine st_isi_list_bool ?_ | refine st_isi_list_int ?_ | refine st_isi_list_str ?_ | refine st_isi_list_list ?_ | refine st_isi_list_tuple ?_ | refine st_isi_bool_bool ?_ | refine st_isi_bool_int ?_ | refine st_isi_bool_str ?_ | refine st_isi_bool_list ?_ | refine st_isi_bool_tuple ?_ | refine st_isi_NoneType_bool ?_ | refine st_isi_NoneType_int ?_ | refine st_isi_NoneType_str ?_ | refine st_isi_NoneType_list ?_ | refine st_isi_NoneType_tuple ?_ | refine st_is ?_ | refine st_isNot ?_
  | refine st_pow8 ?_ | refine st_pow18 ?_ | refine st_pow20 ?_ | refine st_pow30 ?_ | refine st_pow31 ?_
  | refine st_tup ?_ | refine st_lst ?_ | refine st_mkF ?_ | refine st_mkO ?_ | refine st_frz ?_ | refine st_bm ?_ | refine st_isStr ?_
  | refine st_lenL ?_ | refine st_lenT ?_ | refine st_abs ?_ | refine st_int ?_ | refine st_max2 ?_ | refine st_min2 ?_ | refine st_listS ?_ | refine st_listL ?_ | refine st_listT ?_ | refine st_tupleL ?_ | refine st_tupleT ?_
  | refine st_for ?_ | refine st_range1 ?_ | refine st_lc ?_ | refine st_fld ?_ | refine st_setF ?_ | refine st_make ?_ | refine st_non ?_ | refine st_meth ?_ | refine st_prop ?_ | refine st_propO ?_ | refine st_raise2 ?_ | refine st_raise1 ?_ | refine st_try ?_ | refine st_augS ?_ | refine st_seqI ?_ | refine st_seqT ?_ | refine st_seqL ?_ | refine st_range2 ?_ | refine st_enum ?_ | refine st_zip ?_ | refine st_dnewT ?_ | refine st_dnewK ?_ | refine st_dget ?_ | refine st_din ?_ | refine st_dput ?_ | refine st_sl ?_ | refine st_noP ?_ | refine st_part ?_ | refine st_partI ?_ | refine st_slT ?_  | refine st_slL ?_ | refine st_listR1 ?_ | refine st_listR2 ?_ | refine st_ip ?_ | refine st_aug rfl ?_ | refine st_grt ?_ | refine st_gnx ?_ | refine st_crt ?_ | refine st_cnx ?_ | refine st_xrt ?_ | refine st_xnx ?_ | refine st_xex ?_ | refine st_h0 ?_ | refine st_truF ?_ | refine st_yes ?_ | refine st_mk2 ?_ | refine st_mk2e ?_ | refine st_mk1 ?_ | refine st_mk1e ?_ | refine st_mk0 ?_ | refine st_xf ?_)
local macro_rules | `(tactic| walk_at "odn") => `(tactic| repeat' (first | walk_at "od1n" | walk_at "od2"))
section
theorem gone_beh {cr ws : List Int} {m t : Int} (hm : 1 ≤ m) (h1 : ∀ w ∈ ws, 1 ≤ w) (hc : ∀ i ∈ cr, Led.atI ws i = 1) : goneI cr 1 (t + 1) m (ws.map (· + t)) = (Led.beh m cr ws).map (· + (t + 1)) := by
  unfold goneI Led.beh
  apply List.ext_getElem
  · simp
  · intro i h2 h3
    simp only [List.length_mapIdx, List.length_map] at h2
    simp only [List.getElem_mapIdx, List.getElem_map]
    have hw := h1 ws[i] (List.getElem_mem h2)
    have ha : Led.atI ws (i : Int) = ws[i] := by simp [Led.atI, h2]
    by_cases hi : (i : Int) ∈ cr
    · have e := hc i hi
      rw [ha] at e
      rw [if_pos hi, if_neg (by omega), if_pos hi]
      omega
    · rw [if_neg hi]
      by_cases hw1 : 1 < ws[i]
      · rw [if_neg (by omega), if_pos hw1]; omega
      · have e : ws[i] = 1 := by omega
        rw [e, if_pos (by omega), if_neg (by omega), if_neg hi]
        have : (t + 1 + 1 - (1 + t) + m - 1) / m = 1 := by
          rw [show t + 1 + 1 - (1 + t) + m - 1 = m by omega]
          exact Int.ediv_self (by omega)
        rw [this]; omega
theorem getD_add {ws : List Int} {t i : Int} (h0 : 0 ≤ i) (h1 : i < ws.length) : (ws.map (· + t)).getD i.toNat 0 = Led.atI ws i + t := by
  have hi : i.toNat < ws.length := by omega
  simp [Led.atI, hi]
theorem map_back {ws : List Int} {t : Int} : (ws.map (· + t)).map (fun u => D.int (u - t)) = ws.map D.int := by
  rw [List.map_map]
  apply List.map_congr_left
  intro w _
  show D.int (w + t - t) = _
  rw [Int.add_sub_cancel]
theorem map_zero {ws : List Int} {t : Int} (h : t = 0) : ws = ws.map (· + t) := by
  subst h; simp
theorem sorted_order {n : Nat} {row ns : List Int} (p : ns.Perm row) (s : ns.Pairwise (· ≤ ·)) : (ns = (List.range n).map fun (i : Nat) => (i : Int)) ↔ isOrderB n row = true := by
  rw [isOrderB_iff]
  have hr : ((List.range n).map fun (i : Nat) => (i : Int)).Pairwise (· ≤ ·) := by
    rw [List.pairwise_map]
    exact List.pairwise_lt_range.imp fun {a b} h => by omega
  have hnd : ((List.range n).map fun (i : Nat) => (i : Int)).Nodup := by
    rw [List.Nodup, List.pairwise_map]
    exact List.pairwise_lt_range.imp fun {a b} h => by omega
  constructor
  · intro e
    subst e
    refine ⟨by rw [← p.length_eq]; simp, p.nodup_iff.mp hnd, fun i hi => ?_⟩
    obtain ⟨k, hk, rfl⟩ := List.mem_map.mp (p.mem_iff.mpr hi)
    have := List.mem_range.mp hk
    omega
  · intro o
    rw [Led.isort_unique p s]
    exact (Led.isort_unique o.perm.symm hr).symm
theorem ints_range {n : Nat} : OD.intsFrom 0 n = ((List.range n).map fun (i : Nat) => (i : Int)).map D.int := by
  unfold OD.intsFrom
  rw [List.map_map]
  apply List.map_congr_left
  intro i _
  show D.int (0 + (i : Int)) = _
  rw [Int.zero_add]; rfl
theorem seqD_L {S : Store} {d : D} {ds : List D} (h : seqL d S = some ds) : seqD d S = some ds := by
  cases d <;> simp only [seqL] at h <;> try (cases h)
  · rfl
  · simp only [seqD]; exact h
theorem RowsLd.D {S : Store} {d : D} {rows : List (List Int)} (h : RowsLd S d rows) : RowsD S d rows := by
  obtain ⟨ps, h1, h2, h3⟩ := h
  exact ⟨ps, h1, h2, fun p hp => seqD_L (h3 p hp)⟩
theorem rowsL_lst {S : Store} {rows : List (List Int)} : RowsLd S (.lst (rows.map fun r => .lst (r.map D.int))) rows := by
  refine ⟨rows.map fun r => (.lst (r.map D.int), r), ?_, ?_, ?_⟩
  · simp only [seqD, List.map_map]; rfl
  · rw [List.map_map]; exact (List.map_id' rows).symm
  · intro p hp
    obtain ⟨r, _, rfl⟩ := List.mem_map.mp hp
    rfl
end

end K

namespace K
open PySem PySem.Spec L2 OD
open PyProof.Rows hiding St
local macro_rules | `(tactic| walk_at "od1") => `(tactic| with_reducible first
  | refine st_seq ?_ | refine st_asg ?_ | refine st_if ?_ | refine st_ret ?_ | refine st_drop ?_ | refine st_next ?_ | refine st_retN ?_
  | refine st_wnx ?_ | refine st_wrt ?_ | refine st_lnx ?_ | refine st_lct ?_ | refine st_lbk ?_ | refine st_lrt ?_ | refine st_wbk ?_ | refine st_wct ?_ | refine st_wex ?_ | refine st_lex ?_
  | refine st_var rfl ?_ | refine st_c ?_ | refine st_op ?_ | refine st_un ?_ | refine st_cb ?_ | refine st_call ?_ | refine st_cons ?_ | refine st_nil ?_
  | refine st_b ?_ | refine st_bl ?_ | refine st_blV ?_ | refine st_and ?_ | refine st_or ?_ | refine st_not ?_ | refine st_andV ?_ | refine st_orV ?_ | refine st_notV ?_ | refine st_ifE ?_ | refine st_chain ?_
  | refine st_dTru ?_ | refine st_tru ?_ | refine st_gN ?_ | refine st_gS ?_ | refine st_gC ?_ | refine st_gNil ?_
  | refine st_iteT ?_ | refine st_iteF ?_ | refine st_iteNT ?_ | refine st_iteNF ?_
  | refine st_addI ?_ | refine st_subI ?_ | refine st_negI ?_ | refine st_ltI ?_ | refine st_leI ?_ | refine st_gtI ?_ | refine st_geI ?_ | refine st_eqI ?_ | refine st_neI ?_ | refine st_eqS ?_ | refine st_neS ?_ | refine st_eqB ?_ | refine st_isI ?_ | refine st_isS ?_ | refine st_isT ?_ | refine st_isL ?_ | refine st_isB ?_ | refine st_isN ?_ | refine st_isx ?_ | refine st_iso ?_ | refine st_isi_int_bool ?_ | refine st_isi_int_int ?_ | refine st_isi_int_str ?_ | refine st_isi_int_list ?_ | refine st_isi_int_tuple ?_ | refine st_isi_str_bool ?_ | refine st_isi_str_int ?_ | refine st_isi_str_str ?_ | refine st_isi_str_list ?_ | refine st_isi_str_tuple ?_ | refine st_isi_tuple_bool ?_ | refine st_isi_tuple_int ?_ | refine st_isi_tuple_str ?_ | refine st_isi_tuple_list ?_ | refine st_isi_tuple_tuple ?_ | refine st_isi_list_bool ?_ | refine st_isi_list_int ?_ | refine st_isi_list_str ?_ | refine st_isi_list_list ?_ | refine st_isi_list_tuple ?_ | refine st_isi_bool_bool ?_ | refine st_isi_bool_int ?_ | refine st_isi_bool_str ?_ | refine st_isi_bool_list ?_ | refine st_isi_bool_tuple ?_ | refine st_isi_NoneType_bool ?_ | refine st_isi_NoneType_int ?_ | refine st_isi_NoneType_str ?_ | refine st_isi_NoneType_list ?_ | refine st_isi_NoneType_tuple ?_ | refine st_is ?_ | refine st_isNot ?_
  | refine st_pow8 ?_ | refine st_pow18 ?_ | refine st_pow20 ?_ | refine st_pow30 ?_ | refine st_pow31 ?_
  | refine st_tup ?_ | refine st_lst ?_ | refine st_mkF ?_ | refine st_mkO ?_ | refine st_frz ?_ | refine st_bm ?_ | refine st_isStr ?_
  | refine st_lenL ?_ | refine st_lenT ?_ | refine st_abs ?_ | refine st_int ?_ | refine st_max2 ?_ | refine st_min2 ?_ | refine st_listS ?_ | refine st_listL ?_ | refine st_listT ?_ | refine st_tupleL ?_ | refine st_tupleT ?_
  | refine st_for ?_ | refine st_range1 ?_ | refine st_lc ?_ | refine st_fld ?_ | refine st_setF ?_ | refine st_make ?_ | refine st_non ?_ | refine st_meth ?_ | refine st_prop ?_ | refine st_propO ?_ | refine st_raise2 ?_ | refine st_raise1 ?_ | refine st_try ?_ | refine st_augS ?_ | refine st_seqI ?_ | refine st_seqT ?_ | refine st_seqL ?_ | refine st_range2 ?_ | refine st_enum ?_ | refine st_zip ?_ | refine st_dnewT ?_ | refine st_dnewK ?_ | refine st_dget ?_ | refine st_din ?_ | refine st_dput ?_ | refine st_sl ?_ | refine st_noP ?_ | refine st_part ?_ | refine st_partI ?_ | refine st_slT ?_  | refine st_slL ?_ | refine st_listR1 ?_ | refine st_listR2 ?_ | refine st_ip ?_ | refine st_aug rfl ?_ | refine st_grt ?_ | refine st_gnx ?_ | refine st_crt ?_ | refine st_cnx ?_ | refine st_xrt ?_ | refine st_xnx ?_ | refine st_xex ?_ | refine st_h0 ?_ | refine st_truF ?_ | refine st_yes ?_ | refine st_mk2 ?_ | refine st_mk2e ?_ | refine st_mk1 ?_ | refine st_mk1e ?_ | refine st_mk0 ?_ | refine st_xf ?_)
local macro_rules | `(tactic| walk_at "od2") => `(tactic| first
  | ((with_reducible show dVar _ _ _ _ _); refine st_var rfl ?_)
  | ((with_reducible show pIx (.own _) (.int _) _ _); refine st_ixO (by assumption) (by first | rfl | assumption) ?_)
  | ((with_reducible show pIx (.lst _) (.int _) _ _); refine st_ixL (by first | rfl | assumption) ?_)
  | ((with_reducible show pIx (.tup _) (.int _) _ _); refine st_ixT (by first | rfl | assumption) ?_)
  | ((with_reducible show List.length _ ≤ sizeLine ∧ _); refine ⟨small_line (by simp), ?_⟩)
  | ((with_reducible show pAppend (.own _) [_] _ _); refine st_append (by assumption) (by assumption) ?_)
  | ((with_reducible show pInG false (.int _) (.lst (List.map D.int _)) _ _); refine st_inF rfl ?_)
  | ((with_reducible show pInG false (.int _) (.tup (List.map D.int _)) _ _); refine st_inF rfl ?_)
  | ((with_reducible show pInG true (.int _) (.lst (List.map D.int _)) _ _); refine st_inT rfl ?_)
  | ((with_reducible show pInG true (.int _) (.tup (List.map D.int _)) _ _); refine st_inT rfl ?_)
  | ((with_reducible show pInG false (.int _) _ _ _); refine st_inF (by assumption) ?_)
  | ((with_reducible show pInG true (.int _) _ _ _); refine st_inT (by assumption) ?_)
  | ((with_reducible show pSum [.lst (List.map D.int _)] _ _); refine st_sumI rfl ?_)
  | ((with_reducible show pEqG _ (.lst (List.map D.int _)) (.lst (List.map D.int _)) _ _); refine st_eqLL ?_)
  | ((with_reducible show pEqG _ (.tup (List.map D.int _)) (.tup (List.map D.int _)) _ _); refine st_eqTT ?_)
  | ((with_reducible show pIsi _ [_, .ty "bool"] _ _); refine st_isiL_bool (by first | assumption | exact tyO (by assumption)) ?_)
  | ((with_reducible show pIsi _ [_, .ty "int"] _ _); refine st_isiL_int (by first | assumption | exact tyO (by assumption)) ?_)
  | ((with_reducible show pIsi _ [_, .ty "str"] _ _); refine st_isiL_str (by first | assumption | exact tyO (by assumption)) ?_)
  | ((with_reducible show pIsi _ [_, .ty "tuple"] _ _); refine st_isiL_tuple (by first | assumption | exact tyO (by assumption)) ?_)
  | ((with_reducible show pIsi _ [_, .ty "list"] _ _); refine st_isiL_list (by first | assumption | exact tyO (by assumption)) ?_)
  | ((with_reducible show pIx _ (.int _) _ _); refine st_ixV (by assumption) (by first | rfl | assumption) ?_)
  | ((with_reducible show pLen [_] _ _); refine st_lenV (by assumption) ?_)
  | ((with_reducible show pTuple [_] _ _); refine st_tupleV (by assumption) ?_)
  | ((with_reducible show pList _ [_] _ _); refine st_listV (by assumption) ?_)
  | ((with_reducible show ∃ _, seqD _ _ = some _ ∧ _); refine st_seqV (by assumption) ?_)
  | ((with_reducible show pLen [.own _] _ _); refine st_lenO (by assumption) ?_)
  | ((with_reducible show pTuple [.own _] _ _); refine st_tupleO (by assumption) ?_)
  | ((with_reducible show pList _ [.own _] _ _); refine st_listO (by assumption) ?_)
  | ((with_reducible show setD (.own _) (.int _) _ (List.set _ _ (.lst _)) _); refine st_setS (by assumption) (by first | rfl | assumption) ?_)
  | ((with_reducible show setD (.own _) (.int _) _ _ _); refine st_set (by assumption) (by first | rfl | assumption) ?_)
  | ((with_reducible show isLst (.own _) _ ∧ _); refine st_isLst (by assumption) ?_)
  | ((with_reducible show ∃ _ _ _, insD (.obj _ _) _ = _ ∧ _); refine st_fldO rfl ?_)
  | ((with_reducible show ∃ _ _ _, insD (.own _) _ = _ ∧ _); refine st_fldC (by assumption) rfl ?_)
  | ((with_reducible show ∃ _, insD (.obj _ _) _ = _ ∧ _); refine st_methO rfl ?_)
  | ((with_reducible show ∃ _, insD (.own _) _ = _ ∧ _); refine st_methC (by assumption) rfl ?_)
  | ((with_reducible show dHs _ _ ((_, some _, _) :: _) _ _ _ _); refine st_hdS ?_)
  | ((with_reducible show dHs _ _ ((_, none, _) :: _) _ _ _ _); refine st_hdN ?_)
  | ((with_reducible show dHs _ _ (_ :: _) _ _ _ _); refine st_hn ?_)
  | ((with_reducible show ∃ _ _ _, D.exc _ _ = _ ∧ _); refine st_xfe' rfl ?_)
  | ((with_reducible show dAug _ _ _ _ _ _); refine st_aug rfl ?_)
  | ((with_reducible show ∃ _, seqD (.own _) _ = _ ∧ _); refine st_seqO (by assumption) ?_)
  | ((with_reducible show pSl _ (.own _) _ _ _ _); refine st_slO (by assumption) ?_)
  | ((with_reducible show pMod (.int _) (.int _) _ _); refine st_modI (by first | assumption | decide | omega) ?_))
local macro_rules | `(tactic| walk_at "od") => `(tactic| repeat' (first | walk_at "od1" | walk_at "od2"))
local macro_rules | `(tactic| walk_at "odj") => `(tactic| repeat' (first | walk_at "od1" | walk_at "od2" | refine st_iteDT (by decide) ?_ | refine st_iteDF (by decide) ?_))
local macro_rules | `(tactic| walk_at "od1n") => `(tactic| with_reducible first
  | refine st_asg ?_ | refine st_if ?_ | refine st_ret ?_ | refine st_drop ?_ | refine st_next ?_ | refine st_retN ?_
  | refine st_wnx ?_ | refine st_wrt ?_ | refine st_lnx ?_ | refine st_lct ?_ | refine st_lbk ?_ | refine st_lrt ?_ | refine st_wbk ?_ | refine st_wct ?_ | refine st_wex ?_ | refine st_lex ?_
  | refine st_var rfl ?_ | refine st_c ?_ | refine st_op ?_ | refine st_un ?_ | refine st_cb ?_ | refine st_call ?_ | refine st_cons ?_ | refine st_nil ?_
  | refine st_b ?_ | refine st_bl ?_ | refine st_blV ?_ | refine st_and ?_ | refine st_or ?_ | refine st_not ?_ | refine st_andV ?_ | refine st_orV ?_ | refine st_notV ?_ | refine st_ifE ?_ | refine st_chain ?_
  | refine st_dTru ?_ | refine st_tru ?_ | refine st_gN ?_ | refine st_gS ?_ | refine st_gC ?_ | refine st_gNil ?_
  | refine st_iteT ?_ | refine st_iteF ?_ | refine st_iteNT ?_ | refine st_iteNF ?_
  | refine st_addI ?_ | refine st_subI ?_ | refine st_negI ?_ | refine st_ltI ?_ | refine st_leI ?_ | refine st_gtI ?_ | refine st_geI ?_ | refine st_eqI ?_ | refine st_neI ?_ | refine st_eqS ?_ | refine st_neS ?_ | refine st_eqB ?_ | refine st_isI ?_ | refine st_isS ?_ | refine st_isT ?_ | refine st_isL ?_ | refine st_isB ?_ | refine st_isN ?_ | refine st_isx ?_ | refine st_iso ?_ | refine st_isi_int_bool ?_ | refine st_isi_int_int ?_ | refine st_isi_int_str ?_ | refine st_isi_int_list ?_ | refine st_isi_int_tuple ?_ | refine st_isi_str_bool ?_ | refine st_isi_str_int ?_ | refine st_isi_str_str ?_ | refine st_isi_str_list ?_ | refine st_isi_str_tuple ?_ | refine st_isi_tuple_bool ?_ | refine st_isi_tuple_int ?_ | refine st_isi_tuple_str ?_ | refine st_isi_tuple_list ?_ | refine st_isi_tuple_tuple ?_ | refine st_isi_list_bool ?_ | refine st_isi_list_int ?_ | refine st_isi_list_str ?_ | refine st_isi_list_list ?_ | refine st_isi_list_tuple ?_ | refine st_isi_bool_bool ?_ | refine st_isi_bool_int ?_ | refine st_isi_bool_str ?_ | refine st_isi_bool_list ?_ | refine st_isi_bool_tuple ?_ | refine st_isi_NoneType_bool ?_ | refine st_isi_NoneType_int ?_ | refine st_isi_NoneType_str ?_ | refine st_isi_NoneType_list ?_ | refine st_isi_NoneType_tuple ?_ | refine st_is ?_ | refine st_isNot ?_
  | refine st_pow8 ?_ | refine st_pow18 ?_ | refine st_pow20 ?_ | refine st_pow30 ?_ | refine st_pow31 ?_
  | refine st_tup ?_ | refine st_lst ?_ | refine st_mkF ?_ | refine st_mkO ?_ | refine st_frz ?_ | refine st_bm ?_ | refine st_isStr ?_
  | refine st_lenL ?_ | refine st_lenT ?_ | refine st_abs ?_ | refine st_int ?_ | refine st_max2 ?_ | refine st_min2 ?_ | refine st_listS ?_ | refine st_listL ?_ | refine st_listT ?_ | refine st_tupleL ?_ | refine st_tupleT ?_
  | refine st_for ?_ | refine st_range1 ?_ | refine st_lc ?_ | refine st_fld ?_ | refine st_setF ?_ | refine st_make ?_ | refine st_non ?_ | refine st_meth ?_ | refine st_prop ?_ | refine st_propO ?_ | refine st_raise2 ?_ | refine st_raise1 ?_ | refine st_try ?_ | refine st_augS ?_ | refine st_seqI ?_ | refine st_seqT ?_ | refine st_seqL ?_ | refine st_range2 ?_ | refine st_enum ?_ | refine st_zip ?_ | refine st_dnewT ?_ | refine st_dnewK ?_ | refine st_dget ?_ | refine st_din ?_ | refine st_dput ?_ | refine st_sl ?_ | refine st_noP ?_ | refine st_part ?_ | refine st_partI ?_ | refine st_slT ?_  | refine st_slL ?_ | refine st_listR1 ?_ | refine st_listR2 ?_ | refine st_ip ?_ | refine st_aug rfl ?_ | refine st_grt ?_ | refine st_gnx ?_ | refine st_crt ?_ | refine st_cnx ?_ | refine st_xrt ?_ | refine st_xnx ?_ | refine st_xex ?_ | refine st_h0 ?_ | refine st_truF ?_ | refine st_yes ?_ | refine st_mk2 ?_ | refine st_mk2e ?_ | refine st_mk1 ?_ | refine st_mk1e ?_ | refine st_mk0 ?_ | refine st_xf ?_)
local macro_rules | `(tactic| walk_at "odn") => `(tactic| repeat' (first | walk_at "od1n" | walk_at "od2"))
section
variable {C : Ct} [LawF C]
theorem pure_law_led : ∀ ds S R Xc, sp_law_led ds S R Xc → r_law_led C (endsD S R Xc) (startD 6 ds) S := by
  rintro ds S R Xc ⟨m, q, fs, ld, rows, n, rfl, P, ⟨prs, hs, hrows, hp⟩, G, hn, hQ⟩
  have hm := G.len
  have hpos := G.pos
  have m1 := P.stand.m1
  have m8 := P.m8
  have n12 := P.n12
  unfold r_law_led planD
  walk_at "od"
  refine ⟨1, (n : Int) + 1, rfl, rfl, ⟨by decide, by decide, by omega, by omega⟩, ?_⟩
  refine st_walkR 1 n (by show OD.intsFrom 1 ((n : Int) + 1 - 1).toNat = _; congr 1; omega) (fun i ρ S' => S' = S ++ [.lst ((Led.joinRows (Led.led m q rows fs i)).map strD)] ∧ ∃ x5 x6 x7 x8,
    ρ = [some (planD m q fs), some ld, some (.int n), some (.lst (((Led.mst m q rows fs i).map (· + (i : Int))).map D.int)), some (.own S.length), x5, x6, x7, x8]) ⟨rfl, none, none, none, none, ?_⟩ (fun _ _ _ _ => trivial) ?_ ?_
  · rw [← map_zero (by simp)]; rfl
  · rintro i ρ' S' hi ⟨rfl, x5, x6, x7, x8, rfl⟩
    have f := Led.mst_facts G i
    have o := Led.dayRow_order G i
    have hml := Nat.mod_lt i hpos
    have hpl : prs.length = rows.length := by rw [hrows]; simp
    have hpi : i % rows.length < prs.length := by omega
    have hmod : (1 + (i : Int) - 1) % m = ((i % rows.length : Nat) : Int) := by rw [← hm, show 1 + (i : Int) - 1 = i by omega]; simp
    have hrow : Led.dayRow rows i = prs[i % rows.length].2 := by
      have := Led.dayRow_at G i
      rw [hrows, List.getElem?_map] at this
      rw [← hrows] at this
      rw [List.getElem?_eq_getElem hpi] at this
      exact (Option.some.inj this).symm
    have hat : atI (prs.map (·.1)) ((1 + (i : Int) - 1) % m) = some prs[i % rows.length].1 := by rw [hmod]; exact atI_nat (by simp [hpi])
    rw [Led.led_succ, Led.join_snoc]
    have hjl := Led.join_len (ps := Led.led m q rows fs i)
    rw [Led.led_len] at hjl
    have hsucc : Led.mst m q rows fs (i + 1) = Led.beh m (Led.crew q (Led.dayRow rows i) (Led.mst m q rows fs i)) (Led.mst m q rows fs i) := rfl
    have hcr : Led.mcr m q rows fs i = Led.isort (Led.crew q (Led.dayRow rows i) (Led.mst m q rows fs i)) := rfl
    rw [hsucc, hcr]
    generalize Led.joinRows (Led.led m q rows fs i) = js at hjl ⊢
    have hS : seqD ld (S ++ [Cell.lst (js.map strD)]) = some (prs.map (·.1)) := seq_app hs
    have hpc : seqD prs[i % rows.length].1 (S ++ [Cell.lst (js.map strD)]) = some ((Led.dayRow rows i).map D.int) := by rw [hrow]; exact seq_app (hp _ (List.getElem_mem hpi))
    generalize Led.dayRow rows i = row at o hpc ⊢
    generalize Led.mst m q rows fs i = ws at f ⊢
    obtain ⟨f1, f2⟩ := f
    generalize prs[i % rows.length].1 = rd at hat hpc
    unfold planD
    walk_at "odn"
    refine st_seq ?_
    walk_at "odn"
    refine st_comp row D.int rfl (fun j => decide (Led.atI ws j = 1)) D.int hpc (by rw [o.len]; exact small_line (by omega)) ?_ ?_
    · intro pre j post sp R' N h1 h2
      refine ⟨_, rfl, ?_⟩
      have hj := o.rng j (by rw [sp]; simp)
      have hx := atI_ints (ns := ws.map (· + (i : Int))) (i := j) hj.1 (by simp; omega)
      rw [getD_add hj.1 (by omega)] at hx
      walk_at "od"
      exact st_ite (fun h => by walk_at "od"; exact h1 (decide_eq_true (by omega))) (fun h => h2 (decide_eq_false (by omega)))
    walk_at "odn"
    refine st_seq ?_
    walk_at "odn"
    rw [cut_to (by have := P.stand.q1; omega), ← List.map_take]
    refine st_sortedI (ns := Led.crew q row ws) rfl fun ns' p1 p2 => ?_
    have e := Led.isort_unique p1 p2
    subst e
    walk_at "odn"
    refine st_seq ?_
    walk_at "odn"
    refine ⟨ws.map (· + (i : Int)), Led.isort (Led.crew q row ws), _, _, 1, _, m, rfl, rfl, rfl, by simp; omega, m1, by omega, ?_⟩
    have hgb := gone_beh (cr := Led.isort (Led.crew q row ws)) (ws := ws) (t := (i : Int)) m1 (fun w hw => (f2.rng w hw).1) (fun j hj => (Led.crew_sub (Led.isort_mem.mp hj)).2)
    rw [Led.beh_mem (cr' := Led.crew q row ws) (fun x => Led.isort_mem), show (i : Int) + 1 = 1 + (i : Int) by omega] at hgb
    rw [hgb]
    have e9 : ((i + 1 : Nat) : Int) = 1 + (i : Int) := by omega
    rw [e9]
    have hlen : (js.map strD).length < sizeLine := Nat.lt_of_lt_of_le (show _ < 1000 by simp; omega) (small_line (Nat.le_refl _))
    have hg := get_last (S := S) (c := .lst (js.map strD))
    walk_at "od"
    refine st_pairs0 hg ?_
    rcases List.eq_nil_or_concat js with e | ⟨ks, l, e⟩
    · subst e
      rw [decide_eq_true (rfl : ([] : List (Int × List Int)) = [])]
      simp only [List.map_nil] at hg hlen ⊢
      walk_at "od"
      refine ⟨_, _, Shr.keep, ?_, _, _, _, _, rfl⟩
      rw [set_snoc, Led.addRow_nil]; rfl
    · rw [List.concat_eq_append] at e
      subst e
      rw [decide_eq_false (by simp)]
      have hat : atI ((ks ++ [l]).map strD) (-1) = some (strD l) := by rw [List.map_append]; exact atI_last
      walk_at "od"
      refine st_ixT rfl ?_
      walk_at "od"
      refine st_ite (fun h => ?_) (fun h => ?_)
      · walk_at "od"
        refine st_ixT rfl ?_
        walk_at "od"
        refine st_set hg (n := ks.length) (by rw [List.length_map, List.length_append, List.length_singleton]; exact ixN_last) ?_
        walk_at "od"
        refine ⟨_, _, Shr.keep, ?_, _, _, _, _, rfl⟩
        rw [set_snoc, Led.addRow_snoc, if_pos h, List.map_append, List.map_append]
        congr 3
        have := set_last (js := ks.map strD) (l := strD l) (p := strD (l.1 + 1, Led.isort (Led.crew q row ws)))
        rw [List.length_map] at this
        exact this
      · walk_at "od"
        refine ⟨_, _, Shr.keep, ?_, _, _, _, _, rfl⟩
        rw [set_snoc, Led.addRow_snoc, if_neg h, List.map_append (l₁ := ks ++ [l])]; rfl
  · rintro ρ' S' ⟨rfl, x5, x6, x7, x8, rfl⟩
    have hg := get_last (S := S) (c := .lst ((Led.joinRows (Led.led m q rows fs n)).map strD))
    walk_at "od"
    exact st_endC (Cut.app S _) (by simp only [ownLt]; exact ownLts_pairs _) hQ
theorem to_led {S : Store} {Q : D → Store → Prop} {X : XcD} {m q : Int} {fs : List Int} {ld : D} {rows : List (List Int)} {n : Nat} (P : Plan m q fs) (h1 : RowsD S ld rows) (G : Led.Good m q rows fs) (hn : n ≤ 400) (h : Q (.tup ((Led.joinRows (Led.led m q rows fs n)).map strD)) S) : sp_law_led [planD m q fs, ld, .int n] S Q X := ⟨m, q, fs, ld, rows, n, rfl, P, h1, G, hn, h⟩
theorem to_ask {S : Store} {Q : D → Store → Prop} {X : XcD} {m q : Int} {fs : List Int} {ld : D} {rows : List (List Int)} {span : Int} (P : Plan m q fs) (hR : RowsD S ld rows) (h1 : ∀ x c a, ref3 m fs.length rows span = some (x, c, a) → Q (refD x c a) S)
    (h2 : ref3 m fs.length rows span = none → Q (bookD (Led.led m q rows fs span.toNat)) S) : sp_law_ask [planD m q fs, ld, .int span] S Q X := ⟨m, q, fs, ld, rows, span, rfl, P, hR, h1, h2⟩
theorem pure_law_refused : ∀ ds S R Xc, sp_law_refused ds S R Xc → r_law_refused C (endsD S R Xc) (startD 2 ds) S := by
  rintro ds S R Xc ⟨m, q, fs, ld, rows, span, rfl, P, hR, hlen, h1, h2⟩
  obtain ⟨ps, hs, hrows, hp⟩ := hR
  have n12 := P.n12
  have m1 := P.stand.m1
  unfold r_law_refused planD
  walk_at "od"
  rw [show ((fs.map D.int).length : Int) = fs.length by simp]
  refine st_ite (fun h => ?_) (fun h => ?_)
  · walk_at "od"
    exact st_end (h1 _ _ _ (by unfold ref3 ref ledRef; rw [if_pos (by omega)]))
  walk_at "od"
  refine st_ite (fun hm => ?_) (fun hm => ?_)
  · walk_at "od"
    exact st_end (h1 _ _ _ (by unfold ref3 ref ledRef; rw [if_neg (by omega), if_pos hm]))
  have hled : ledRef m fs.length = none := by unfold ledRef; rw [if_neg (by omega), if_neg hm]
  have hpl : ps.length = rows.length := by rw [hrows]; simp
  walk_at "od"
  rw [show ((ps.map (·.1)).length : Int) = rows.length by simp [hpl]]
  by_cases hl : (rows.length : Int) = m
  · rw [decide_eq_true hl]
    walk_at "od"
    rw [show ((ps.map (·.1)).length : Int) = rows.length by simp [hpl]]
    refine ⟨by omega, by omega, ?_⟩
    refine st_walkR 0 rows.length rfl (fun i ρ S' => S' = S ∧ (∀ r ∈ rows.take i, Led.Order fs.length r) ∧ ∃ x, ρ = [some (planD m q fs), some ld, some (.int span), some (.int fs.length), x]) ⟨rfl, by simp, none, rfl⟩ (fun _ _ _ _ => trivial) ?_ ?_
    · rintro i ρ' S' hi ⟨rfl, ho, x, rfl⟩
      have hip : i < ps.length := by omega
      have hat : atI (ps.map (·.1)) (i : Int) = some ps[i].1 := atI_nat (by simp [hip])
      have hri : rows[i]? = some ps[i].2 := by rw [hrows, List.getElem?_map, List.getElem?_eq_getElem hip]; rfl
      have hsl := hp ps[i] (List.getElem_mem hip)
      rw [Int.zero_add]
      walk_at "od"
      refine st_sortedI hsl fun ns' p1 p2 => ?_
      walk_at "od"
      refine ⟨by unfold RgOk; omega, ?_⟩
      rw [Int.toNat_natCast, ints_range]
      walk_at "od"
      have hso := sorted_order (n := fs.length) p1 p2
      cases hb : isOrderB fs.length ps[i].2 with
      | true =>
        rw [decide_eq_true (hso.mpr hb)]
        walk_at "od"
        refine ⟨_, _, Shr.keep, rfl, ?_, _, rfl⟩
        intro r hr
        have ht : rows.take (i + 1) = rows.take i ++ [ps[i].2] := by
          obtain ⟨h3, h4⟩ := List.getElem?_eq_some_iff.mp hri
          rw [← h4, List.take_append_getElem]
        rw [ht] at hr
        rcases List.mem_append.mp hr with hr | hr
        · exact ho r hr
        · simp at hr; subst hr; exact isOrderB_iff.mp hb
      | false =>
        rw [decide_eq_false (fun e => by rw [hso.mp e] at hb; cases hb)]
        walk_at "od"
        refine st_end (h1 _ _ _ ?_)
        unfold ref3 ref
        rw [hled]
        have e : rows = rows.take i ++ ps[i].2 :: rows.drop (i + 1) := by
          obtain ⟨h3, h4⟩ := List.getElem?_eq_some_iff.mp hri
          rw [← h4]; simp
        have hf := find_first (n := fs.length) (pre := rows.take i) (post := rows.drop (i + 1)) ho hb
        rw [← e] at hf
        have : listsRef m fs.length rows = some (("order" : Str), (i : Int) + 1) := by
          unfold listsRef
          rw [if_neg (by simp [hl]), hf]
          simp; omega
        rw [this]; rfl
    · rintro ρ' S' ⟨rfl, ho, x, rfl⟩
      rw [List.take_length] at ho
      have hn : ref m fs.length rows = none := by
        unfold ref
        rw [hled]
        have : listsRef m fs.length rows = none := by
          unfold listsRef
          rw [if_neg (by simp [hl]), find_none ho]; rfl
        rw [this]; rfl
      have hbad : span < 0 ∨ 400 < span → ref3 m fs.length rows span = some (("OutOfRange" : Str), ("days" : Str), span) := fun h => by
        unfold ref3; rw [hn]; show (if _ then _ else _) = _; rw [if_pos h]
      walk_at "od"
      refine st_ite (fun h => ?_) (fun h => ?_)
      · walk_at "od"
        exact st_end (h1 _ _ _ (hbad (.inl h)))
      · walk_at "od"
        refine st_ite (fun h => ?_) (fun h => ?_)
        · walk_at "od"
          exact st_end (h1 _ _ _ (hbad (.inr h)))
        · walk_at "od"
          exact st_end (h2 (ref3_none hn (by omega) (by omega)))
  · rw [decide_eq_false hl]
    walk_at "od"
    rw [show ((ps.map (·.1)).length : Int) = rows.length by simp [hpl]]
    refine st_end (h1 _ _ _ ?_)
    unfold ref3 ref
    rw [hled]
    have : listsRef m fs.length rows = some (("length" : Str), (rows.length : Int)) := by
      unfold listsRef
      rw [if_pos hl]
    rw [this]; rfl
end

end K

namespace K
open PySem PySem.Spec L2 OD
open PyProof.Rows hiding St
local macro_rules | `(tactic| walk_at "od1") => `(tactic| with_reducible first
  | refine st_seq ?_ | refine st_asg ?_ | refine st_if ?_ | refine st_ret ?_ | refine st_drop ?_ | refine st_next ?_ | refine st_retN ?_
  | refine st_wnx ?_ | refine st_wrt ?_ | refine st_lnx ?_ | refine st_lct ?_ | refine st_lbk ?_ | refine st_lrt ?_ | refine st_wbk ?_ | refine st_wct ?_ | refine st_wex ?_ | refine st_lex ?_
  | refine st_var rfl ?_ | refine st_c ?_ | refine st_op ?_ | refine st_un ?_ | refine st_cb ?_ | refine st_call ?_ | refine st_cons ?_ | refine st_nil ?_
  | refine st_b ?_ | refine st_bl ?_ | refine st_blV ?_ | refine st_and ?_ | refine st_or ?_ | refine st_not ?_ | refine st_andV ?_ | refine st_orV ?_ | refine st_notV ?_ | refine st_ifE ?_ | refine st_chain ?_
  | refine st_dTru ?_ | refine st_tru ?_ | refine st_gN ?_ | refine st_gS ?_ | refine st_gC ?_ | refine st_gNil ?_
  | refine st_iteT ?_ | refine st_iteF ?_ | refine st_iteNT ?_ | refine st_iteNF ?_
  | refine st_addI ?_ | refine st_subI ?_ | refine st_negI ?_ | refine st_ltI ?_ | refine st_leI ?_ | refine st_gtI ?_ | refine st_geI ?_ | refine st_eqI ?_ | refine st_neI ?_ | refine st_eqS ?_ | refine st_neS ?_ | refine st_eqB ?_ | refine st_isI ?_ | refine st_isS ?_ | refine st_isT ?_ | refine st_isL ?_ | refine st_isB ?_ | refine st_isN ?_ | refine st_isx ?_ | refine st_iso ?_ | refine st_isi_int_bool ?_ | refine st_isi_int_int ?_ | refine st_isi_int_str ?_ | refine st_isi_int_list ?_ | refine st_isi_int_tuple ?_ | refine st_isi_str_bool ?_ | refine st_isi_str_int ?_ | refine st_isi_str_str ?_ | refine st_isi_str_list ?_ | refine st_isi_str_tuple ?_ | refine st_isi_tuple_bool ?_ | refine st_isi_tuple_int ?_ | refine st_isi_tuple_str ?_ | refine st_isi_tuple_list ?_ | refine st_isi_tuple_tuple ?_ | refine st_isi_list_bool ?_ | refine st_isi_list_int ?_ | refine st_isi_list_str ?_ | refine st_isi_list_list ?_ | refine st_isi_list_tuple ?_ | refine st_isi_bool_bool ?_ | refine st_isi_bool_int ?_ | refine st_isi_bool_str ?_ | refine st_isi_bool_list ?_ | refine st_isi_bool_tuple ?_ | refine st_isi_NoneType_bool ?_ | refine st_isi_NoneType_int ?_ | refine st_isi_NoneType_str ?_ | refine st_isi_NoneType_list ?_ | refine st_isi_NoneType_tuple ?_ | refine st_is ?_ | refine st_isNot ?_
  | refine st_pow8 ?_ | refine st_pow18 ?_ | refine st_pow20 ?_ | refine st_pow30 ?_ | refine st_pow31 ?_
  | refine st_tup ?_ | refine st_lst ?_ | refine st_mkF ?_ | refine st_mkO ?_ | refine st_frz ?_ | refine st_bm ?_ | refine st_isStr ?_
  | refine st_lenL ?_ | refine st_lenT ?_ | refine st_abs ?_ | refine st_int ?_ | refine st_max2 ?_ | refine st_min2 ?_ | refine st_listS ?_ | refine st_listL ?_ | refine st_listT ?_ | refine st_tupleL ?_ | refine st_tupleT ?_
  | refine st_for ?_ | refine st_range1 ?_ | refine st_lc ?_ | refine st_fld ?_ | refine st_setF ?_ | refine st_make ?_ | refine st_non ?_ | refine st_meth ?_ | refine st_prop ?_ | refine st_propO ?_ | refine st_raise2 ?_ | refine st_raise1 ?_ | refine st_try ?_ | refine st_augS ?_ | refine st_seqI ?_ | refine st_seqT ?_ | refine st_seqL ?_ | refine st_range2 ?_ | refine st_enum ?_ | refine st_zip ?_ | refine st_dnewT ?_ | refine st_dnewK ?_ | refine st_dget ?_ | refine st_din ?_ | refine st_dput ?_ | refine st_sl ?_ | refine st_noP ?_ | refine st_part ?_ | refine st_partI ?_ | refine st_slT ?_  | refine st_slL ?_ | refine st_listR1 ?_ | refine st_listR2 ?_ | refine st_ip ?_ | refine st_aug rfl ?_ | refine st_grt ?_ | refine st_gnx ?_ | refine st_crt ?_ | refine st_cnx ?_ | refine st_xrt ?_ | refine st_xnx ?_ | refine st_xex ?_ | refine st_h0 ?_ | refine st_truF ?_ | refine st_yes ?_ | refine st_mk2 ?_ | refine st_mk2e ?_ | refine st_mk1 ?_ | refine st_mk1e ?_ | refine st_mk0 ?_ | refine st_xf ?_)
local macro_rules | `(tactic| walk_at "od2") => `(tactic| first
  | ((with_reducible show dVar _ _ _ _ _); refine st_var rfl ?_)
  | ((with_reducible show pIx (.own _) (.int _) _ _); refine st_ixO (by assumption) (by first | rfl | assumption) ?_)
  | ((with_reducible show pIx (.lst _) (.int _) _ _); refine st_ixL (by first | rfl | assumption) ?_)
  | ((with_reducible show pIx (.tup _) (.int _) _ _); refine st_ixT (by first | rfl | assumption) ?_)
  | ((with_reducible show List.length _ ≤ sizeLine ∧ _); refine ⟨small_line (by simp), ?_⟩)
  | ((with_reducible show pAppend (.own _) [_] _ _); refine st_append (by assumption) (by assumption) ?_)
  | ((with_reducible show pInG false (.int _) (.lst (List.map D.int _)) _ _); refine st_inF rfl ?_)
  | ((with_reducible show pInG false (.int _) (.tup (List.map D.int _)) _ _); refine st_inF rfl ?_)
  | ((with_reducible show pInG true (.int _) (.lst (List.map D.int _)) _ _); refine st_inT rfl ?_)
  | ((with_reducible show pInG true (.int _) (.tup (List.map D.int _)) _ _); refine st_inT rfl ?_)
  | ((with_reducible show pInG false (.int _) _ _ _); refine st_inF (by assumption) ?_)
  | ((with_reducible show pInG true (.int _) _ _ _); refine st_inT (by assumption) ?_)
  | ((with_reducible show pSum [.lst (List.map D.int _)] _ _); refine st_sumI rfl ?_)
  | ((with_reducible show pEqG _ (.lst (List.map D.int _)) (.lst (List.map D.int _)) _ _); refine st_eqLL ?_)
  | ((with_reducible show pEqG _ (.tup (List.map D.int _)) (.tup (List.map D.int _)) _ _); refine st_eqTT ?_)
  | ((with_reducible show pIsi _ [_, .ty "bool"] _ _); refine st_isiL_bool (by first | assumption | exact tyO (by assumption)) ?_)
  | ((with_reducible show pIsi _ [_, .ty "int"] _ _); refine st_isiL_int (by first | assumption | exact tyO (by assumption)) ?_)
  | ((with_reducible show pIsi _ [_, .ty "str"] _ _); refine st_isiL_str (by first | assumption | exact tyO (by assumption)) ?_)
  | ((with_reducible show pIsi _ [_, .ty "tuple"] _ _); refine st_isiL_tuple (by first | assumption | exact tyO (by assumption)) ?_)
  | ((with_reducible show pIsi _ [_, .ty "list"] _ _); refine st_isiL_list (by first | assumption | exact tyO (by assumption)) ?_)
  | ((with_reducible show pIx _ (.int _) _ _); refine st_ixV (by assumption) (by first | rfl | assumption) ?_)
  | ((with_reducible show pLen [_] _ _); refine st_lenV (by assumption) ?_)
  | ((with_reducible show pTuple [_] _ _); refine st_tupleV (by assumption) ?_)
  | ((with_reducible show pList _ [_] _ _); refine st_listV (by assumption) ?_)
  | ((with_reducible show ∃ _, seqD _ _ = some _ ∧ _); refine st_seqV (by assumption) ?_)
  | ((with_reducible show pLen [.own _] _ _); refine st_lenO (by assumption) ?_)
  | ((with_reducible show pTuple [.own _] _ _); refine st_tupleO (by assumption) ?_)
  | ((with_reducible show pList _ [.own _] _ _); refine st_listO (by assumption) ?_)
  | ((with_reducible show setD (.own _) (.int _) _ (List.set _ _ (.lst _)) _); refine st_setS (by assumption) (by first | rfl | assumption) ?_)
  | ((with_reducible show setD (.own _) (.int _) _ _ _); refine st_set (by assumption) (by first | rfl | assumption) ?_)
  | ((with_reducible show isLst (.own _) _ ∧ _); refine st_isLst (by assumption) ?_)
  | ((with_reducible show ∃ _ _ _, insD (.obj _ _) _ = _ ∧ _); refine st_fldO rfl ?_)
  | ((with_reducible show ∃ _ _ _, insD (.own _) _ = _ ∧ _); refine st_fldC (by assumption) rfl ?_)
  | ((with_reducible show ∃ _, insD (.obj _ _) _ = _ ∧ _); refine st_methO rfl ?_)
  | ((with_reducible show ∃ _, insD (.own _) _ = _ ∧ _); refine st_methC (by assumption) rfl ?_)
  | ((with_reducible show dHs _ _ ((_, some _, _) :: _) _ _ _ _); refine st_hdS ?_)
  | ((with_reducible show dHs _ _ ((_, none, _) :: _) _ _ _ _); refine st_hdN ?_)
  | ((with_reducible show dHs _ _ (_ :: _) _ _ _ _); refine st_hn ?_)
  | ((with_reducible show ∃ _ _ _, D.exc _ _ = _ ∧ _); refine st_xfe' rfl ?_)
  | ((with_reducible show dAug _ _ _ _ _ _); refine st_aug rfl ?_)
  | ((with_reducible show ∃ _, seqD (.own _) _ = _ ∧ _); refine st_seqO (by assumption) ?_)
  | ((with_reducible show pSl _ (.own _) _ _ _ _); refine st_slO (by assumption) ?_)
  | ((with_reducible show pMod (.int _) (.int _) _ _); refine st_modI (by first | assumption | decide | omega) ?_))
local macro_rules | `(tactic| walk_at "od") => `(tactic| repeat' (first | walk_at "od1" | walk_at "od2"))
local macro_rules | `(tactic| walk_at "odj") => `(tactic| repeat' (first | walk_at "od1" | walk_at "od2" | refine st_iteDT (by decide) ?_ | refine st_iteDF (by decide) ?_))
local macro_rules | `(tactic| walk_at "od1n") => `(tactic| with_reducible first
  | refine st_asg ?_ | refine st_if ?_ | refine st_ret ?_ | refine st_drop ?_ | refine st_next ?_ | refine st_retN ?_
  | refine st_wnx ?_ | refine st_wrt ?_ | refine st_lnx ?_ | refine st_lct ?_ | refine st_lbk ?_ | refine st_lrt ?_ | refine st_wbk ?_ | refine st_wct ?_ | refine st_wex ?_ | refine st_lex ?_
  | refine st_var rfl ?_ | refine st_c ?_ | refine st_op ?_ | refine st_un ?_ | refine st_cb ?_ | refine st_call ?_ | refine st_cons ?_ | refine st_nil ?_
  | refine st_b ?_ | refine st_bl ?_ | refine st_blV ?_ | refine st_and ?_ | refine st_or ?_ | refine st_not ?_ | refine st_andV ?_ | refine st_orV ?_ | refine st_notV ?_ | refine st_ifE ?_ | refine st_chain ?_
  | refine st_dTru ?_ | refine st_tru ?_ | refine st_gN ?_ | refine st_gS ?_ | refine st_gC ?_ | refine st_gNil ?_
  | refine st_iteT ?_ | refine st_iteF ?_ | refine st_iteNT ?_ | refine st_iteNF ?_
  | refine st_addI ?_ | refine st_subI ?_ | refine st_negI ?_ | refine st_ltI ?_ | refine st_leI ?_ | refine st_gtI ?_ | refine st_geI ?_ | refine st_eqI ?_ | refine st_neI ?_ | refine st_eqS ?_ | refine st_neS ?_ | refine st_eqB ?_ | refine st_isI ?_ | refine st_isS ?_ | refine st_isT ?_ | refine st_isL ?_ | refine st_isB ?_ | refine st_isN ?_ | refine st_isx ?_ | refine st_iso ?_ | refine st_isi_int_bool ?_ | refine st_isi_int_int ?_ | refine st_isi_int_str ?_ | refine st_isi_int_list ?_ | refine st_isi_int_tuple ?_ | refine st_isi_str_bool ?_ | refine st_isi_str_int ?_ | refine st_isi_str_str ?_ | refine st_isi_str_list ?_ | refine st_isi_str_tuple ?_ | refine st_isi_tuple_bool ?_ | refine st_isi_tuple_int ?_ | refine st_isi_tuple_str ?_ | refine st_isi_tuple_list ?_ | refine st_isi_tuple_tuple ?_ | refine st_isi_list_bool ?_ | refine st_isi_list_int ?_ | refine st_isi_list_str ?_ | refine st_isi_list_list ?_ | refine st_isi_list_tuple ?_ | refine st_isi_bool_bool ?_ | refine st_isi_bool_int ?_ | refine st_isi_bool_str ?_ | refine st_isi_bool_list ?_ | refine st_isi_bool_tuple ?_ | refine st_isi_NoneType_bool ?_ | refine st_isi_NoneType_int ?_ | refine st_isi_NoneType_str ?_ | refine st_isi_NoneType_list ?_ | refine st_isi_NoneType_tuple ?_ | refine st_is ?_ | refine st_isNot ?_
  | refine st_pow8 ?_ | refine st_pow18 ?_ | refine st_pow20 ?_ | refine st_pow30 ?_ | refine st_pow31 ?_
  | refine st_tup ?_ | refine st_lst ?_ | refine st_mkF ?_ | refine st_mkO ?_ | refine st_frz ?_ | refine st_bm ?_ | refine st_isStr ?_
  | refine st_lenL ?_ | refine st_lenT ?_ | refine st_abs ?_ | refine st_int ?_ | refine st_max2 ?_ | refine st_min2 ?_ | refine st_listS ?_ | refine st_listL ?_ | refine st_listT ?_ | refine st_tupleL ?_ | refine st_tupleT ?_
  | refine st_for ?_ | refine st_range1 ?_ | refine st_lc ?_ | refine st_fld ?_ | refine st_setF ?_ | refine st_make ?_ | refine st_non ?_ | refine st_meth ?_ | refine st_prop ?_ | refine st_propO ?_ | refine st_raise2 ?_ | refine st_raise1 ?_ | refine st_try ?_ | refine st_augS ?_ | refine st_seqI ?_ | refine st_seqT ?_ | refine st_seqL ?_ | refine st_range2 ?_ | refine st_enum ?_ | refine st_zip ?_ | refine st_dnewT ?_ | refine st_dnewK ?_ | refine st_dget ?_ | refine st_din ?_ | refine st_dput ?_ | refine st_sl ?_ | refine st_noP ?_ | refine st_part ?_ | refine st_partI ?_ | refine st_slT ?_  | refine st_slL ?_ | refine st_listR1 ?_ | refine st_listR2 ?_ | refine st_ip ?_ | refine st_aug rfl ?_ | refine st_grt ?_ | refine st_gnx ?_ | refine st_crt ?_ | refine st_cnx ?_ | refine st_xrt ?_ | refine st_xnx ?_ | refine st_xex ?_ | refine st_h0 ?_ | refine st_truF ?_ | refine st_yes ?_ | refine st_mk2 ?_ | refine st_mk2e ?_ | refine st_mk1 ?_ | refine st_mk1e ?_ | refine st_mk0 ?_ | refine st_xf ?_)
local macro_rules | `(tactic| walk_at "odn") => `(tactic| repeat' (first | walk_at "od1n" | walk_at "od2"))
section
variable {C : Ct} [LawF C]
/-- the store has grown behind, the pool went on -/
def Grow (S : Store) (k : Nat) (S' : Store) : Prop := ∃ c T, IsPool c ∧ S' = S.set k c ++ T
section
variable {S S' : Store} {k : Nat}
theorem Grow.pool (h : Grow S k S') (hk : k < S.length) : Pool S' k := by
  obtain ⟨c, T, hc, rfl⟩ := h
  exact ⟨c, get_front (List.getElem?_set_self hk), hc⟩
theorem Grow.take (h : Grow S k S') (hk : k < S.length) {c : Cell} (hc : IsPool c) : Grow S k (S'.set k c) := by
  obtain ⟨c0, T, _, rfl⟩ := h
  exact ⟨c, T, hc, by rw [List.set_append_left _ _ (by simpa using hk), List.set_set]⟩
theorem Grow.set (h : Grow S k S') {j : Nat} {x : Cell} (hj : S.length ≤ j) : Grow S k (S'.set j x) := by
  obtain ⟨c, T, hc, rfl⟩ := h
  exact ⟨c, T.set (j - (S.set k c).length) x, hc, by rw [List.set_append_right _ _ (by simpa using hj)]⟩
theorem Grow.app (h : Grow S k S') {L : Store} : Grow S k (S' ++ L) := by
  obtain ⟨c, T, hc, rfl⟩ := h
  exact ⟨c, T ++ L, hc, by rw [List.append_assoc]⟩
theorem Grow.le (h : Grow S k S') : S.length ≤ S'.length := by
  obtain ⟨c, T, hc, rfl⟩ := h
  simp
end
/-- a list's cell of lists' cells, all behind S -/
structure Bent (S S' : Store) (o : Nat) (ids : List Nat) (B : Nat) : Prop where
  out : S'[o]? = some (.lst (ids.map D.own))
  oge : S.length ≤ o
  row : ∀ id ∈ ids, S.length ≤ id ∧ id ≠ o ∧ ∃ ns : List Int, S'[id]? = some (.lst (ns.map D.int)) ∧ ns.length ≤ B
  cnt : ids.length ≤ B
section
variable {S S' : Store} {k o B : Nat} {ids : List Nat}
theorem Bent.take (h : Bent S S' o ids B) (hk : k < S.length) {c : Cell} : Bent S (S'.set k c) o ids B := by
  refine ⟨by rw [List.getElem?_set_ne (by have := h.oge; omega)]; exact h.out, h.oge, fun id hi => ?_, h.cnt⟩
  obtain ⟨h1, h2, ns, h3, h4⟩ := h.row id hi
  exact ⟨h1, h2, ns, by rw [List.getElem?_set_ne (by omega)]; exact h3, h4⟩
theorem Bent.mono (h : Bent S S' o ids B) : Bent S S' o ids (B + 1) :=
  ⟨h.out, h.oge, fun id hi => let ⟨h1, h2, ns, h3, h4⟩ := h.row id hi; ⟨h1, h2, ns, h3, by omega⟩, Nat.le_succ_of_le h.cnt⟩
theorem Bent.setRow (h : Bent S S' o ids B) {id : Nat} (hi : id ∈ ids) {ns : List Int} (hl : ns.length ≤ B + 1) : Bent S (S'.set id (.lst (ns.map D.int))) o ids (B + 1) := by
  obtain ⟨h1, h2, ns0, h3, h4⟩ := h.row id hi
  refine ⟨by rw [List.getElem?_set_ne h2]; exact h.out, h.oge, fun j hj => ?_, Nat.le_succ_of_le h.cnt⟩
  obtain ⟨k1, k2, ms, k3, k4⟩ := h.row j hj
  by_cases e : j = id
  · subst e; exact ⟨h1, h2, ns, get_set h3, hl⟩
  · exact ⟨k1, k2, ms, by rw [List.getElem?_set_ne (Ne.symm e)]; exact k3, by omega⟩
theorem Bent.push (h : Bent S S' o ids B) (hS : S.length ≤ S'.length) {ns : List Int} (hl : ns.length ≤ B + 1) : Bent S ((S' ++ [Cell.lst (ns.map D.int)]).set o (.lst (ids.map D.own ++ [D.own S'.length]))) o (ids ++ [S'.length]) (B + 1) := by
  have ho := (List.getElem?_eq_some_iff.mp h.out).1
  refine ⟨?_, h.oge, fun j hj => ?_, ?_⟩
  · rw [List.map_append]; exact get_set (get_front h.out)
  · rcases List.mem_append.mp hj with hj | hj
    · obtain ⟨k1, k2, ms, k3, k4⟩ := h.row j hj
      exact ⟨k1, k2, ms, by rw [List.getElem?_set_ne (Ne.symm k2)]; exact get_front k3, by omega⟩
    · simp at hj; subst hj
      exact ⟨hS, by omega, ns, by rw [List.getElem?_set_ne (by omega)]; exact get_last, hl⟩
  · have := h.cnt; simp; omega
theorem Bent.pop (h : Bent S S' o ids B) {c : Nat} : Bent S (S'.set o (.lst ((ids.map D.own).eraseIdx c))) o (ids.eraseIdx c) (B + 1) := by
  refine ⟨?_, h.oge, fun j hj => ?_, ?_⟩
  · rw [get_set h.out]
    congr 2
    exact map_eraseIdx ..
  · obtain ⟨k1, k2, ms, k3, k4⟩ := h.row j (List.mem_of_mem_eraseIdx hj)
    exact ⟨k1, k2, ms, by rw [List.getElem?_set_ne (Ne.symm k2)]; exact k3, by omega⟩
  · have := h.cnt
    have := List.length_eraseIdx_le ids c
    omega
theorem rows_ids : ∀ {ids : List Nat} {S' : Store}, (∀ id ∈ ids, ∃ ns : List Int, S'[id]? = some (.lst (ns.map D.int))) → ∃ ps : List (D × List Int), ps.map (·.1) = ids.map D.own ∧ ∀ p ∈ ps, seqL p.1 S' = some (p.2.map D.int)
  | [], S', _ => ⟨[], rfl, by simp⟩
  | id :: ids, S', h => by
    obtain ⟨ps, h1, h2⟩ := rows_ids (ids := ids) (S' := S') fun j hj => h j (List.mem_cons_of_mem _ hj)
    obtain ⟨ns, h3⟩ := h id List.mem_cons_self
    refine ⟨(.own id, ns) :: ps, by rw [List.map_cons, h1]; rfl, fun p hp => ?_⟩
    rcases List.mem_cons.mp hp with rfl | hp
    · simp only [seqL, h3]
    · exact h2 p hp
theorem Bent.rows (h : Bent S S' o ids B) : ∃ rows, RowsLd S' (.own o) rows ∧ rows.length ≤ B := by
  obtain ⟨ps, h1, h2⟩ := rows_ids (S' := S') fun id hi => let ⟨_, _, ns, h3, _⟩ := h.row id hi; ⟨ns, h3⟩
  refine ⟨ps.map (·.2), ⟨ps, by simp only [seqD, h.out, h1], rfl, h2⟩, ?_⟩
  have := congrArg List.length h1
  simp at this
  have := h.cnt
  simp; omega
end
theorem pure_law_bent_lists : ∀ ds S R Xc, sp_law_bent_lists ds S R Xc → r_law_bent_lists C (endsD S R Xc) (startD 8 ds) S := by
  rintro ds S R Xc ⟨k, m, q, fs, rows, rfl, hp, P, hrl, ho, hQ⟩
  have m1 := P.stand.m1
  have m8 := P.m8
  have n1 := P.n1
  have n12 := P.n12
  have hkl : k < S.length := by
    obtain ⟨_, e, _⟩ := hp
    exact (List.getElem?_eq_some_iff.mp e).1
  unfold r_law_bent_lists planD
  walk_at "od"
  rw [show ((fs.map D.int).length : Int) = fs.length by simp]
  refine st_nest rows (fun r => .lst (r.map D.int)) rfl (fun _ => rfl) (by omega) ?_ ?_
  · intro r hr L R' hR'
    refine ⟨_, rfl, ?_⟩
    walk_at "od"
    exact hR'
  walk_at "od"
  have hg0 : Grow S k (nest S rows) := by
    obtain ⟨c, e, hc⟩ := hp
    exact ⟨c, _, hc, by rw [set_self e]; rfl⟩
  have hb0 : Bent S (nest S rows) (S.length + rows.length) ((List.range rows.length).map (S.length + ·)) 12 := by
    refine ⟨?_, by omega, fun id hi => ?_, by simp; omega⟩
    · rw [nest_top, List.map_map]; rfl
    · obtain ⟨j, hj, rfl⟩ := List.mem_map.mp hi
      have hj := List.mem_range.mp hj
      have e := List.getElem?_eq_getElem hj
      exact ⟨by omega, by omega, rows[j], nest_row e, by have := (ho _ (List.getElem_mem hj)).len; omega⟩
  refine to_take (hg0.pool hkl) (by decide) (by decide) fun w c0 hw0 hw1 hc0 => ?_
  have hg1 := hg0.take hkl hc0
  have hb1 := hb0.take hkl (c := c0)
  walk_at "od"
  refine ⟨by omega, by omega, ?_⟩
  refine st_walkR 0 (1 + w).toNat rfl (fun i ρ S' => ∃ ids x5 x6 x7 x8 x9 x10, Grow S k S' ∧ Bent S S' (S.length + rows.length) ids (12 + i) ∧
    ρ = [some (.own k), some (planD m q fs), some (.lst (rows.map fun r => .lst (r.map D.int))), some (.int fs.length), some (.own (S.length + rows.length)), x5, x6, x7, x8, x9, x10]) ⟨_, none, none, none, none, none, none, hg1, hb1, rfl⟩ (fun _ _ _ _ => trivial) ?_ ?_
  · rintro i ρ' S0 hi ⟨ids, x5, x6, x7, x8, x9, x10, hg, hb, rfl⟩
    have hi2 : i < 2 := by omega
    unfold planD
    walk_at "odn"
    refine st_seq ?_
    walk_at "odn"
    refine to_take (hg.pool hkl) (by omega) (by omega) fun c k1 hc0 hc1 hk1 => ?_
    have hg := hg.take hkl hk1
    have hb := hb.take hkl (c := k1)
    walk_at "odn"
    refine st_seq ?_
    walk_at "odn"
    refine to_take (hg.pool hkl) (by omega) (by omega) fun a k2 ha0 ha1 hk2 => ?_
    have hg := hg.take hkl hk2
    have hb := hb.take hkl (c := k2)
    walk_at "odn"
    refine st_seq ?_
    walk_at "odn"
    refine to_take (hg.pool hkl) (by omega) (by omega) fun b k3 hb0 hb1 hk3 => ?_
    have hg := hg.take hkl hk3
    have hb := hb.take hkl (c := k3)
    walk_at "odn"
    refine st_seq ?_
    walk_at "odn"
    refine to_take (hg.pool hkl) (by decide) (by decide) fun way k4 hw0 hw1 hk4 => ?_
    have hg := hg.take hkl hk4
    have hb := hb.take hkl (c := k4)
    generalize (((S0.set k k1).set k k2).set k k3).set k k4 = S1 at hg hb
    have hOut := hb.out
    have hcnt := hb.cnt
    obtain ⟨cn, rfl⟩ : ∃ cn : Nat, c = cn := ⟨c.toNat, by omega⟩
    obtain ⟨an, rfl⟩ : ∃ an : Nat, a = an := ⟨a.toNat, by omega⟩
    obtain ⟨bn, rfl⟩ : ∃ bn : Nat, b = bn := ⟨b.toNat, by omega⟩
    obtain ⟨wn, rfl⟩ : ∃ wn : Nat, way = wn := ⟨way.toNat, by omega⟩
    have hOl : ((ids.map D.own).length : Int) = ids.length := by simp
    walk_at "odn"
    refine st_join (fun ρ' S' => S' = S1 ∧ ∃ w : Nat, ρ' = [some (.own k), some (planD m q fs), some (.lst (rows.map fun r => .lst (r.map D.int))), some (.int fs.length), some (.own (S.length + rows.length)), some (.int (0 + (i : Int))), some (.int cn), some (.int an), some (.int bn), some (.int w), x10] ∧
      (w = 8 ∨ (w < 8 ∧ ∃ (id : Nat) (ns : List Int), ids[cn]? = some id ∧ S1[id]? = some (.lst (ns.map D.int)) ∧ an < ns.length ∧ bn < ns.length ∧ ns.length ≤ 12 + i))) ?_ ?_
    · walk_at "od"
      rw [hOl]
      refine st_ite (fun h => ?_) (fun h => ?_)
      · walk_at "od"
        exact ⟨rfl, 8, rfl, .inl rfl⟩
      · have hcn : cn < ids.length := by omega
        have hAt : atI (ids.map D.own) (cn : Int) = some (.own ids[cn]) := atI_nat (by simp [hcn])
        obtain ⟨h1, h2, ns, h3, h4⟩ := hb.row ids[cn] (List.getElem_mem hcn)
        walk_at "od"
        rw [show ((ns.map D.int).length : Int) = ns.length by simp]
        refine st_ite (fun h => ?_) (fun h => ?_)
        · walk_at "od"
          exact ⟨rfl, 8, rfl, .inl rfl⟩
        · walk_at "od"
          exact ⟨rfl, wn, rfl, .inr ⟨by omega, _, ns, List.getElem?_eq_getElem hcn, h3, by revert h; split <;> omega, by revert h; split <;> omega, h4⟩⟩
    rintro ρ' S' ⟨rfl, w, rfl, hw⟩
    have stay : ∀ (ids' : List Nat) (S2 : Store), Grow S k S2 → Bent S S2 (S.length + rows.length) ids' (12 + (i + 1)) → ∃ ρ3 S3, Shr [some (.own k), some (planD m q fs), some (.lst (rows.map fun r => .lst (r.map D.int))), some (.int fs.length), some (.own (S.length + rows.length)), x5, x6, x7, x8, x9, x10] S0
        [some (.own k), some (planD m q fs), some (.lst (rows.map fun r => .lst (r.map D.int))), some (.int fs.length), some (.own (S.length + rows.length)), some (.int (0 + (i : Int))), some (.int cn), some (.int an), some (.int bn), some (.int w), x10] S2 ρ3 S3 ∧
        ∃ ids x5 x6 x7 x8 x9 x10, Grow S k S3 ∧ Bent S S3 (S.length + rows.length) ids (12 + (i + 1)) ∧ ρ3 = [some (.own k), some (planD m q fs), some (.lst (rows.map fun r => .lst (r.map D.int))), some (.int fs.length), some (.own (S.length + rows.length)), x5, x6, x7, x8, x9, x10] :=
      fun ids' S2 g b => ⟨_, _, Shr.keep, ids', _, _, _, _, _, _, g, b, rfl⟩
    unfold planD at stay ⊢
    rcases hw with rfl | ⟨hw8, id, ns, hid, hRow, han, hbn, hnl⟩
    · walk_at "odj"
      exact stay ids S' hg hb.mono
    have hcn := (List.getElem?_eq_some_iff.mp hid).1
    have hmem := List.mem_of_getElem? hid
    have hige := (hb.row id hmem).1
    have hAt : atI (ids.map D.own) (cn : Int) = some (.own id) := atI_nat (by rw [List.getElem?_map, hid]; rfl)
    have hx := atI_ints (ns := ns) (i := bn) (by omega) (by omega)
    have hln : (ns.map D.int).length < sizeLine := Nat.lt_of_lt_of_le (show _ < 1000 by simp; omega) (small_line (Nat.le_refl _))
    have hlo : (ids.map D.own).length < sizeLine := Nat.lt_of_lt_of_le (show _ < 1000 by simp; omega) (small_line (Nat.le_refl _))
    have hix : ixN (ns.map D.int).length (an : Int) = some an := by
      have := ixN_in (n := (ns.map D.int).length) (i := (an : Int)) (by omega) (by simpa using han)
      simpa using this
    have hw : w = 0 ∨ w = 1 ∨ w = 2 ∨ w = 3 ∨ w = 4 ∨ w = 5 ∨ w = 6 ∨ w = 7 := by omega
    rcases hw with rfl | rfl | rfl | rfl | rfl | rfl | rfl | rfl
    · walk_at "odj"
      refine st_popAt (y := .int ns[an]) hRow (by omega) (by simpa using han) (Nat.le_of_lt hln) (by simp [han]) ?_
      walk_at "odj"
      rw [Int.toNat_natCast, map_eraseIdx]
      exact stay ids _ (hg.set hige) (hb.setRow hmem (by rw [List.length_eraseIdx, if_pos han]; omega))
    · walk_at "odj"
      refine stay ids _ (hg.set hige) ?_
      rw [← List.map_set]
      exact hb.setRow hmem (by simp; omega)
    · walk_at "odj"
      refine stay ids _ (hg.set hige) ?_
      rw [← List.map_set]
      exact hb.setRow hmem (by simp; omega)
    · walk_at "odj"
      refine stay ids _ (hg.set hige) ?_
      rw [← List.map_set]
      exact hb.setRow hmem (by simp; omega)
    · walk_at "odj"
      refine st_insert hRow hln (by omega) (by omega) ?_
      walk_at "odj"
      rw [Int.toNat_natCast]
      have e : (ns.map D.int).take an ++ [D.int (ns.getD (bn : Int).toNat 0)] ++ (ns.map D.int).drop an = (ns.take an ++ [ns.getD (bn : Int).toNat 0] ++ ns.drop an).map D.int := by simp [List.map_take, List.map_drop]
      rw [e]
      exact stay ids _ (hg.set hige) (hb.setRow hmem (by simp; omega))
    · walk_at "odj"
      have e : ns.map D.int ++ [D.int fs.length] = (ns ++ [(fs.length : Int)]).map D.int := by simp
      rw [e]
      exact stay ids _ (hg.set hige) (hb.setRow hmem (by simp; omega))
    · walk_at "odj"
      refine st_append (get_front hOut) hlo ?_
      walk_at "odj"
      exact stay _ _ (hg.app.set hb.oge) (hb.push hg.le (by omega))
    · walk_at "odj"
      refine st_popAt (y := .own id) hOut (by omega) (by simpa using hcn) (Nat.le_of_lt hlo) (by simp [hid]) ?_
      walk_at "odj"
      rw [Int.toNat_natCast]
      exact stay _ _ (hg.set hb.oge) hb.pop
  · rintro ρ' S' ⟨ids, x5, x6, x7, x8, x9, x10, ⟨c, T, hc, rfl⟩, hb, rfl⟩
    obtain ⟨rows', h1, h2⟩ := hb.rows
    walk_at "od"
    exact st_end (hQ c T _ rows' hc h1 (by omega))
end

end K

namespace K
open PySem PySem.Spec L2 OD
open PyProof.Rows hiding St
local macro_rules | `(tactic| walk_at "od1") => `(tactic| with_reducible first
  | refine st_seq ?_ | refine st_asg ?_ | refine st_if ?_ | refine st_ret ?_ | refine st_drop ?_ | refine st_next ?_ | refine st_retN ?_
  | refine st_wnx ?_ | refine st_wrt ?_ | refine st_lnx ?_ | refine st_lct ?_ | refine st_lbk ?_ | refine st_lrt ?_ | refine st_wbk ?_ | refine st_wct ?_ | refine st_wex ?_ | refine st_lex ?_
  | refine st_var rfl ?_ | refine st_c ?_ | refine st_op ?_ | refine st_un ?_ | refine st_cb ?_ | refine st_call ?_ | refine st_cons ?_ | refine st_nil ?_
  | refine st_b ?_ | refine st_bl ?_ | refine st_blV ?_ | refine st_and ?_ | refine st_or ?_ | refine st_not ?_ | refine st_andV ?_ | refine st_orV ?_ | refine st_notV ?_ | refine st_ifE ?_ | refine st_chain ?_
  | refine st_dTru ?_ | refine st_tru ?_ | refine st_gN ?_ | refine st_gS ?_ | refine st_gC ?_ | refine st_gNil ?_
  | refine st_iteT ?_ | refine st_iteF ?_ | refine st_iteNT ?_ | refine st_iteNF ?_
  | refine st_addI ?_ | refine st_subI ?_ | refine st_negI ?_ | refine st_ltI ?_ | refine st_leI ?_ | refine st_gtI ?_ | refine st_geI ?_ | refine st_eqI ?_ | refine st_neI ?_ | refine st_eqS ?_ | refine st_neS ?_ | refine st_eqB ?_ | refine st_isI ?_ | refine st_isS ?_ | refine st_isT ?_ | refine st_isL ?_ | refine st_isB ?_ | refine st_isN ?_ | refine st_isx ?_ | refine st_iso ?_ | refine st_isi_int_bool ?_ | refine st_isi_int_int ?_ | refine st_isi_int_str ?_ | refine st_isi_int_list ?_ | refine st_isi_int_tuple ?_ | refine st_isi_str_bool ?_ | refine st_isi_str_int ?_ | refine st_isi_str_str ?_ | refine st_isi_str_list ?_ | refine st_isi_str_tuple ?_ | refine st_isi_tuple_bool ?_ | refine st_isi_tuple_int ?_ | refine st_isi_tuple_str ?_ | refine st_isi_tuple_list ?_ | refine st_isi_tuple_tuple ?_ | refine st_isi_list_bool ?_ | refine st_isi_list_int ?_ | refine st_isi_list_str ?_ | refine st_isi_list_list ?_ | refine st_isi_list_tuple ?_ | refine st_isi_bool_bool ?_ | refine st_isi_bool_int ?_ | refine st_isi_bool_str ?_ | refine st_isi_bool_list ?_ | refine st_isi_bool_tuple ?_ | refine st_isi_NoneType_bool ?_ | refine st_isi_NoneType_int ?_ | refine st_isi_NoneType_str ?_ | refine st_isi_NoneType_list ?_ | refine st_isi_NoneType_tuple ?_ | refine st_is ?_ | refine st_isNot ?_
  | refine st_pow8 ?_ | refine st_pow18 ?_ | refine st_pow20 ?_ | refine st_pow30 ?_ | refine st_pow31 ?_
  | refine st_tup ?_ | refine st_lst ?_ | refine st_mkF ?_ | refine st_mkO ?_ | refine st_frz ?_ | refine st_bm ?_ | refine st_isStr ?_
  | refine st_lenL ?_ | refine st_lenT ?_ | refine st_abs ?_ | refine st_int ?_ | refine st_max2 ?_ | refine st_min2 ?_ | refine st_listS ?_ | refine st_listL ?_ | refine st_listT ?_ | refine st_tupleL ?_ | refine st_tupleT ?_
  | refine st_for ?_ | refine st_range1 ?_ | refine st_lc ?_ | refine st_fld ?_ | refine st_setF ?_ | refine st_make ?_ | refine st_non ?_ | refine st_meth ?_ | refine st_prop ?_ | refine st_propO ?_ | refine st_raise2 ?_ | refine st_raise1 ?_ | refine st_try ?_ | refine st_augS ?_ | refine st_seqI ?_ | refine st_seqT ?_ | refine st_seqL ?_ | refine st_range2 ?_ | refine st_enum ?_ | refine st_zip ?_ | refine st_dnewT ?_ | refine st_dnewK ?_ | refine st_dget ?_ | refine st_din ?_ | refine st_dput ?_ | refine st_sl ?_ | refine st_noP ?_ | refine st_part ?_ | refine st_partI ?_ | refine st_slT ?_  | refine st_slL ?_ | refine st_listR1 ?_ | refine st_listR2 ?_ | refine st_ip ?_ | refine st_aug rfl ?_ | refine st_grt ?_ | refine st_gnx ?_ | refine st_crt ?_ | refine st_cnx ?_ | refine st_xrt ?_ | refine st_xnx ?_ | refine st_xex ?_ | refine st_h0 ?_ | refine st_truF ?_ | refine st_yes ?_ | refine st_mk2 ?_ | refine st_mk2e ?_ | refine st_mk1 ?_ | refine st_mk1e ?_ | refine st_mk0 ?_ | refine st_xf ?_)
local macro_rules | `(tactic| walk_at "od2") => `(tactic| first
  | ((with_reducible show dVar _ _ _ _ _); refine st_var rfl ?_)
  | ((with_reducible show pIx (.own _) (.int _) _ _); refine st_ixO (by assumption) (by first | rfl | assumption) ?_)
  | ((with_reducible show pIx (.lst _) (.int _) _ _); refine st_ixL (by first | rfl | assumption) ?_)
  | ((with_reducible show pIx (.tup _) (.int _) _ _); refine st_ixT (by first | rfl | assumption) ?_)
  | ((with_reducible show List.length _ ≤ sizeLine ∧ _); refine ⟨small_line (by simp), ?_⟩)
  | ((with_reducible show pAppend (.own _) [_] _ _); refine st_append (by assumption) (by assumption) ?_)
  | ((with_reducible show pInG false (.int _) (.lst (List.map D.int _)) _ _); refine st_inF rfl ?_)
  | ((with_reducible show pInG false (.int _) (.tup (List.map D.int _)) _ _); refine st_inF rfl ?_)
  | ((with_reducible show pInG true (.int _) (.lst (List.map D.int _)) _ _); refine st_inT rfl ?_)
  | ((with_reducible show pInG true (.int _) (.tup (List.map D.int _)) _ _); refine st_inT rfl ?_)
  | ((with_reducible show pInG false (.int _) _ _ _); refine st_inF (by assumption) ?_)
  | ((with_reducible show pInG true (.int _) _ _ _); refine st_inT (by assumption) ?_)
  | ((with_reducible show pSum [.lst (List.map D.int _)] _ _); refine st_sumI rfl ?_)
  | ((with_reducible show pEqG _ (.lst (List.map D.int _)) (.lst (List.map D.int _)) _ _); refine st_eqLL ?_)
  | ((with_reducible show pEqG _ (.tup (List.map D.int _)) (.tup (List.map D.int _)) _ _); refine st_eqTT ?_)
  | ((with_reducible show pIsi _ [_, .ty "bool"] _ _); refine st_isiL_bool (by first | assumption | exact tyO (by assumption)) ?_)
  | ((with_reducible show pIsi _ [_, .ty "int"] _ _); refine st_isiL_int (by first | assumption | exact tyO (by assumption)) ?_)
  | ((with_reducible show pIsi _ [_, .ty "str"] _ _); refine st_isiL_str (by first | assumption | exact tyO (by assumption)) ?_)
  | ((with_reducible show pIsi _ [_, .ty "tuple"] _ _); refine st_isiL_tuple (by first | assumption | exact tyO (by assumption)) ?_)
  | ((with_reducible show pIsi _ [_, .ty "list"] _ _); refine st_isiL_list (by first | assumption | exact tyO (by assumption)) ?_)
  | ((with_reducible show pIx _ (.int _) _ _); refine st_ixV (by assumption) (by first | rfl | assumption) ?_)
  | ((with_reducible show pLen [_] _ _); refine st_lenV (by assumption) ?_)
  | ((with_reducible show pTuple [_] _ _); refine st_tupleV (by assumption) ?_)
  | ((with_reducible show pList _ [_] _ _); refine st_listV (by assumption) ?_)
  | ((with_reducible show ∃ _, seqD _ _ = some _ ∧ _); refine st_seqV (by assumption) ?_)
  | ((with_reducible show pLen [.own _] _ _); refine st_lenO (by assumption) ?_)
  | ((with_reducible show pTuple [.own _] _ _); refine st_tupleO (by assumption) ?_)
  | ((with_reducible show pList _ [.own _] _ _); refine st_listO (by assumption) ?_)
  | ((with_reducible show setD (.own _) (.int _) _ (List.set _ _ (.lst _)) _); refine st_setS (by assumption) (by first | rfl | assumption) ?_)
  | ((with_reducible show setD (.own _) (.int _) _ _ _); refine st_set (by assumption) (by first | rfl | assumption) ?_)
  | ((with_reducible show isLst (.own _) _ ∧ _); refine st_isLst (by assumption) ?_)
  | ((with_reducible show ∃ _ _ _, insD (.obj _ _) _ = _ ∧ _); refine st_fldO rfl ?_)
  | ((with_reducible show ∃ _ _ _, insD (.own _) _ = _ ∧ _); refine st_fldC (by assumption) rfl ?_)
  | ((with_reducible show ∃ _, insD (.obj _ _) _ = _ ∧ _); refine st_methO rfl ?_)
  | ((with_reducible show ∃ _, insD (.own _) _ = _ ∧ _); refine st_methC (by assumption) rfl ?_)
  | ((with_reducible show dHs _ _ ((_, some _, _) :: _) _ _ _ _); refine st_hdS ?_)
  | ((with_reducible show dHs _ _ ((_, none, _) :: _) _ _ _ _); refine st_hdN ?_)
  | ((with_reducible show dHs _ _ (_ :: _) _ _ _ _); refine st_hn ?_)
  | ((with_reducible show ∃ _ _ _, D.exc _ _ = _ ∧ _); refine st_xfe' rfl ?_)
  | ((with_reducible show dAug _ _ _ _ _ _); refine st_aug rfl ?_)
  | ((with_reducible show ∃ _, seqD (.own _) _ = _ ∧ _); refine st_seqO (by assumption) ?_)
  | ((with_reducible show pSl _ (.own _) _ _ _ _); refine st_slO (by assumption) ?_)
  | ((with_reducible show pMod (.int _) (.int _) _ _); refine st_modI (by first | assumption | decide | omega) ?_))
local macro_rules | `(tactic| walk_at "od") => `(tactic| repeat' (first | walk_at "od1" | walk_at "od2"))
local macro_rules | `(tactic| walk_at "odj") => `(tactic| repeat' (first | walk_at "od1" | walk_at "od2" | refine st_iteDT (by decide) ?_ | refine st_iteDF (by decide) ?_))
local macro_rules | `(tactic| walk_at "od1n") => `(tactic| with_reducible first
  | refine st_asg ?_ | refine st_if ?_ | refine st_ret ?_ | refine st_drop ?_ | refine st_next ?_ | refine st_retN ?_
  | refine st_wnx ?_ | refine st_wrt ?_ | refine st_lnx ?_ | refine st_lct ?_ | refine st_lbk ?_ | refine st_lrt ?_ | refine st_wbk ?_ | refine st_wct ?_ | refine st_wex ?_ | refine st_lex ?_
  | refine st_var rfl ?_ | refine st_c ?_ | refine st_op ?_ | refine st_un ?_ | refine st_cb ?_ | refine st_call ?_ | refine st_cons ?_ | refine st_nil ?_
  | refine st_b ?_ | refine st_bl ?_ | refine st_blV ?_ | refine st_and ?_ | refine st_or ?_ | refine st_not ?_ | refine st_andV ?_ | refine st_orV ?_ | refine st_notV ?_ | refine st_ifE ?_ | refine st_chain ?_
  | refine st_dTru ?_ | refine st_tru ?_ | refine st_gN ?_ | refine st_gS ?_ | refine st_gC ?_ | refine st_gNil ?_
  | refine st_iteT ?_ | refine st_iteF ?_ | refine st_iteNT ?_ | refine st_iteNF ?_
  | refine st_addI ?_ | refine st_subI ?_ | refine st_negI ?_ | refine st_ltI ?_ | refine st_leI ?_ | refine st_gtI ?_ | refine st_geI ?_ | refine st_eqI ?_ | refine st_neI ?_ | refine st_eqS ?_ | refine st_neS ?_ | refine st_eqB ?_ | refine st_isI ?_ | refine st_isS ?_ | refine st_isT ?_ | refine st_isL ?_ | refine st_isB ?_ | refine st_isN ?_ | refine st_isx ?_ | refine st_iso ?_ | refine st_isi_int_bool ?_ | refine st_isi_int_int ?_ | refine st_isi_int_str ?_ | refine st_isi_int_list ?_ | refine st_isi_int_tuple ?_ | refine st_isi_str_bool ?_ | refine st_isi_str_int ?_ | refine st_isi_str_str ?_ | refine st_isi_str_list ?_ | refine st_isi_str_tuple ?_ | refine st_isi_tuple_bool ?_ | refine st_isi_tuple_int ?_ | refine st_isi_tuple_str ?_ | refine st_isi_tuple_list ?_ | refine st_isi_tuple_tuple ?_ | refine st_isi_list_bool ?_ | refine st_isi_list_int ?_ | refine st_isi_list_str ?_ | refine st_isi_list_list ?_ | refine st_isi_list_tuple ?_ | refine st_isi_bool_bool ?_ | refine st_isi_bool_int ?_ | refine st_isi_bool_str ?_ | refine st_isi_bool_list ?_ | refine st_isi_bool_tuple ?_ | refine st_isi_NoneType_bool ?_ | refine st_isi_NoneType_int ?_ | refine st_isi_NoneType_str ?_ | refine st_isi_NoneType_list ?_ | refine st_isi_NoneType_tuple ?_ | refine st_is ?_ | refine st_isNot ?_
  | refine st_pow8 ?_ | refine st_pow18 ?_ | refine st_pow20 ?_ | refine st_pow30 ?_ | refine st_pow31 ?_
  | refine st_tup ?_ | refine st_lst ?_ | refine st_mkF ?_ | refine st_mkO ?_ | refine st_frz ?_ | refine st_bm ?_ | refine st_isStr ?_
  | refine st_lenL ?_ | refine st_lenT ?_ | refine st_abs ?_ | refine st_int ?_ | refine st_max2 ?_ | refine st_min2 ?_ | refine st_listS ?_ | refine st_listL ?_ | refine st_listT ?_ | refine st_tupleL ?_ | refine st_tupleT ?_
  | refine st_for ?_ | refine st_range1 ?_ | refine st_lc ?_ | refine st_fld ?_ | refine st_setF ?_ | refine st_make ?_ | refine st_non ?_ | refine st_meth ?_ | refine st_prop ?_ | refine st_propO ?_ | refine st_raise2 ?_ | refine st_raise1 ?_ | refine st_try ?_ | refine st_augS ?_ | refine st_seqI ?_ | refine st_seqT ?_ | refine st_seqL ?_ | refine st_range2 ?_ | refine st_enum ?_ | refine st_zip ?_ | refine st_dnewT ?_ | refine st_dnewK ?_ | refine st_dget ?_ | refine st_din ?_ | refine st_dput ?_ | refine st_sl ?_ | refine st_noP ?_ | refine st_part ?_ | refine st_partI ?_ | refine st_slT ?_  | refine st_slL ?_ | refine st_listR1 ?_ | refine st_listR2 ?_ | refine st_ip ?_ | refine st_aug rfl ?_ | refine st_grt ?_ | refine st_gnx ?_ | refine st_crt ?_ | refine st_cnx ?_ | refine st_xrt ?_ | refine st_xnx ?_ | refine st_xex ?_ | refine st_h0 ?_ | refine st_truF ?_ | refine st_yes ?_ | refine st_mk2 ?_ | refine st_mk2e ?_ | refine st_mk1 ?_ | refine st_mk1e ?_ | refine st_mk0 ?_ | refine st_xf ?_)
local macro_rules | `(tactic| walk_at "odn") => `(tactic| repeat' (first | walk_at "od1n" | walk_at "od2"))
section
variable {C : Ct} [LawF C]
theorem to_refused {S : Store} {Q : D → Store → Prop} {X : XcD} {m q : Int} {fs : List Int} {ld : D} {rows : List (List Int)} {span : Int} (P : Plan m q fs) (hR : RowsLd S ld rows) (hl : rows.length ≤ 1000) (h1 : ∀ x c a, ref3 m fs.length rows span = some (x, c, a) → Q (refD x c a) S)
    (h2 : ref3 m fs.length rows span = none → Q (.tup []) S) : sp_law_refused [planD m q fs, ld, .int span] S Q X := ⟨m, q, fs, ld, rows, span, rfl, P, hR, hl, h1, h2⟩
theorem top_ref {S : Store} {x c : Str} {a : Int} : topPy S (refD x c a) = some (.tuple [.str "refused", .str x, .int a, .str c]) := by simp [topPy, refD, toPyW, toPysW]
theorem ref3_code {m : Int} {n : Nat} {rows : List (List Int)} {span : Int} {x c : Str} {a : Int} (h : ref3 m n rows span = some (x, c, a)) : c = "drivers" ∨ c = "period" ∨ c = "length" ∨ c = "order" ∨ c = "days" := by
  unfold ref3 ref at h
  cases e : ledRef m n with
  | some p =>
    rw [e] at h
    cases h
    unfold ledRef at e
    split at e
    · cases e; exact .inl rfl
    · split at e
      · cases e; exact .inr (.inl rfl)
      · cases e
  | none =>
    rw [e] at h
    cases e2 : listsRef m n rows with
    | some p =>
      rw [e2] at h
      cases h
      unfold listsRef at e2
      split at e2
      · cases e2; exact .inr (.inr (.inl rfl))
      · cases e3 : rows.findIdx? fun r => !isOrderB n r with
        | none => rw [e3] at e2; cases e2
        | some i => rw [e3] at e2; cases e2; exact .inr (.inr (.inr (.inl rfl)))
    | none =>
      rw [e2] at h
      change (if _ then _ else _) = _ at h
      split at h
      · cases h; exact .inr (.inr (.inr (.inr rfl)))
      · cases h
theorem ref3_ok {m : Int} {n : Nat} {rows : List (List Int)} {span : Int} {x c : Str} {a : Int} (h : ref3 m n rows span = some (x, c, a)) : PyData.strOk x = true ∧ PyData.strOk c = true := by
  refine ⟨?_, ?_⟩
  · rcases ref3_cases h with rfl | rfl <;> decide +kernel
  · rcases ref3_code h with rfl | rfl | rfl | rfl | rfl <;> decide +kernel
theorem shaped_ref {x c : Str} {a : Int} (h : PyData.strOk x = true ∧ PyData.strOk c = true) : SeqAt.shaped (.tuple [.str "refused", .str x, .int a, .str c]) = true := by
  have h0 : PyData.strOk ("refused" : Str) = true := by decide +kernel
  simp [SeqAt.shaped, PyData.canLay0, PyData.canLayAll0, PyData.depth, PyData.depthAll, h0, h.1, h.2]
theorem shaped_nilT : SeqAt.shaped (.tuple []) = true := by decide +kernel
theorem eqv_ref0 {x c : Str} {a : Int} : PyData.eqv (.tuple [.str "refused", .str x, .int a, .str c]) (.tuple []) = false := by simp [PyData.eqv, PyData.eqvAll]
theorem pure_law : ∀ ds S R Xc, sp_law ds S R Xc → r_law C (endsD S R Xc) (startD 12 ds) S := by
  rintro ds S R Xc ⟨ns, rfl, hQ⟩
  unfold r_law
  walk_at "odn"
  refine st_seq ?_
  walk_at "odn"
  refine to_pool fun c0 hc0 => ?_
  walk_at "odn"
  have hl : ∀ c : Cell, (S ++ [c]).length = S.length + 1 := fun c => by simp
  refine st_join (fun ρ' S' => ∃ m q fs c, Plan m q fs ∧ IsPool c ∧ S' = S ++ [c] ∧ ρ' = [some (.scr ns), some (.own S.length), none, none, none, none, none, none, none, none, none, some (planD m q fs), none]) ?_ ?_
  · walk_at "od"
    refine to_take (Pool.last hc0) (by decide) (by decide) fun w c1 hw0 hw1 hc1 => ?_
    rw [set_snoc]
    walk_at "od"
    refine st_ite (fun h => ?_) (fun h => ?_)
    · walk_at "od"
      refine to_plan (Pool.last hc1) (by decide) (by decide) (by decide) (by decide) fun m q fs c P h1 h2 hc => ?_
      rw [set_snoc]
      walk_at "od"
      exact ⟨m, q, fs, c, P, hc, rfl, rfl⟩
    · walk_at "od"
      refine to_plan (Pool.last hc1) (by decide) (by decide) (by decide) (by decide) fun m q fs c P h1 h2 hc => ?_
      rw [set_snoc]
      walk_at "od"
      exact ⟨m, q, fs, c, P, hc, rfl, rfl⟩
  rintro ρ' S' ⟨m, q, fs, c1, P, hc1, rfl, rfl⟩
  have m1 := P.stand.m1
  have m8 := P.m8
  have n12 := P.n12
  walk_at "odn"
  refine st_seq ?_
  walk_at "odn"
  refine to_lists (Pool.last hc1) m1 P.m8 P.n12 fun rows c2 hrl ho hc2 => ?_
  rw [set_snoc]
  walk_at "odn"
  refine st_seq ?_
  walk_at "odn"
  refine to_take (Pool.last hc2) (by decide) (by decide) fun span0 c3 hs0 hs1 hc3 => ?_
  rw [set_snoc]
  walk_at "odn"
  refine st_seq ?_
  walk_at "odn"
  refine to_take (Pool.last hc3) (by decide) (by decide) fun way c4 hw0 hw1 hc4 => ?_
  rw [set_snoc]
  walk_at "odn"
  refine st_join (fun ρ' S' => ∃ span c, IsPool c ∧ S' = S ++ [c] ∧ ρ' = [some (.scr ns), some (.own S.length), some (.lst (rows.map fun r => .lst (r.map D.int))), some (.int span), some (.int way), none, none, none, none, none, none, some (planD m q fs), none]) ?_ ?_
  · walk_at "od"
    refine st_ite (fun h => ?_) (fun h => ?_)
    · walk_at "od"
      refine to_take (Pool.last hc4) (by decide) (by decide) fun sp c5 h0 h1 hc5 => ?_
      rw [set_snoc]
      walk_at "od"
      exact ⟨sp, c5, hc5, rfl, rfl⟩
    · walk_at "od"
      exact ⟨span0, c4, hc4, rfl, rfl⟩
  rintro ρ' S' ⟨span1, c5, hc5, rfl, rfl⟩
  walk_at "odn"
  refine st_join (fun ρ' S' => ∃ span c, IsPool c ∧ S' = S ++ [c] ∧ ρ' = [some (.scr ns), some (.own S.length), some (.lst (rows.map fun r => .lst (r.map D.int))), some (.int span), some (.int way), none, none, none, none, none, none, some (planD m q fs), none]) ?_ ?_
  · walk_at "od"
    refine st_ite (fun h => ?_) (fun h => ?_)
    · walk_at "od"
      refine to_take (Pool.last hc5) (by decide) (by decide) fun sp c6 h0 h1 hc6 => ?_
      rw [set_snoc]
      walk_at "od"
      have hsp : sp = 0 ∨ sp = 1 ∨ sp = 2 ∨ sp = 3 := by omega
      rcases hsp with rfl | rfl | rfl | rfl
      · refine st_ixL rfl ?_
        walk_at "od"
        exact ⟨_, c6, hc6, rfl, rfl⟩
      · refine st_ixL rfl ?_
        walk_at "od"
        exact ⟨_, c6, hc6, rfl, rfl⟩
      · refine st_ixL rfl ?_
        walk_at "od"
        exact ⟨_, c6, hc6, rfl, rfl⟩
      · refine st_ixL rfl ?_
        walk_at "od"
        exact ⟨_, c6, hc6, rfl, rfl⟩
    · walk_at "od"
      exact ⟨span1, c5, hc5, rfl, rfl⟩
  rintro ρ' S' ⟨span, c6, hc6, rfl, rfl⟩
  walk_at "odn"
  refine st_seq ?_
  walk_at "odn"
  refine st_join (fun ρ' S' => ∃ c T bd bent, IsPool c ∧ S' = S ++ [c] ++ T ∧ RowsLd S' bd bent ∧ bent.length ≤ 1000 ∧ ρ' = [some (.scr ns), some (.own S.length), some (.lst (rows.map fun r => .lst (r.map D.int))), some (.int span), some (.int way), some bd, none, none, none, none, none, some (planD m q fs), none]) ?_ ?_
  · walk_at "od"
    refine to_take (Pool.last hc6) (by decide) (by decide) fun w c7 h0 h1 hc7 => ?_
    rw [set_snoc]
    walk_at "od"
    refine st_ite (fun h => ?_) (fun h => ?_)
    · walk_at "od"
      refine ⟨S.length, m, q, fs, rows, rfl, Pool.last hc7, P, hrl, ho, fun c T j rows' hc hR hl => ?_⟩
      rw [set_snoc] at hR ⊢
      walk_at "od"
      exact ⟨c, T, _, rows', hc, rfl, hR, hl, rfl⟩
    · walk_at "od"
      refine ⟨c7, [], _, rows, hc7, by rw [List.append_nil], rowsL_lst, by omega, rfl⟩
  rintro ρ' S' ⟨c7, T, bd, bent, hc7, rfl, hB, hbl, rfl⟩
  walk_at "odn"
  refine st_join (fun ρ' S' => S' = S ++ [c7] ++ T ∧ ∃ due, (due = .tup [] ∨ ∃ x c a, due = refD x c a ∧ ref3 m fs.length bent span = some (x, c, a)) ∧
    ρ' = [some (.scr ns), some (.own S.length), some (.lst (rows.map fun r => .lst (r.map D.int))), some (.int span), some (.int way), some bd, some due, none, none, none, none, some (planD m q fs), none]) ?_ ?_
  · walk_at "od"
    refine to_refused P hB hbl (fun x c a h => ?_) (fun h => ?_)
    · walk_at "od"
      exact ⟨rfl, _, .inr ⟨x, c, a, rfl, h⟩, rfl⟩
    · walk_at "od"
      exact ⟨rfl, _, .inl rfl, rfl⟩
  rintro ρ' S' ⟨rfl, due, hdue, rfl⟩
  walk_at "odn"
  refine st_join (fun ρ' S' => S' = S ++ [c7] ++ T ∧
    ρ' = [some (.scr ns), some (.own S.length), some (.lst (rows.map fun r => .lst (r.map D.int))), some (.int span), some (.int way), some bd, some due, none, none, none, none, some (planD m q fs), none]) ?_ ?_
  · walk_at "od"
    rcases hdue with rfl | ⟨x, c, a, rfl, h⟩
    · refine st_eqP (p := .tuple []) (q := .tuple []) rfl rfl shaped_nilT shaped_nilT ?_
      rw [show PyData.eqv (.tuple []) (.tuple []) = true by decide +kernel]
      walk_at "od"
      exact ⟨rfl, rfl⟩
    · refine st_eqP (q := .tuple []) top_ref rfl (shaped_ref (ref3_ok h)) shaped_nilT ?_
      rw [eqv_ref0]
      have hB2 := hB
      obtain ⟨ps, hs, hbent, hp⟩ := hB2
      have hpl : ps.length = bent.length := by rw [hbent]; simp
      walk_at "od"
      refine st_comp1 ps (·.1) rfl (fun p => .lst (p.2.map D.int)) hs (by rw [hpl]; exact small_line hbl) ?_ ?_
      · intro pre p post sp R' hR'
        refine ⟨_, rfl, ?_⟩
        have hpp := seqD_L (hp p (by rw [sp]; simp))
        walk_at "od"
        exact hR'
      walk_at "od"
      have e1 : (ps.map fun p => D.lst (p.2.map D.int)) = bent.map fun r => .lst (r.map D.int) := by rw [hbent, List.map_map]; rfl
      have e2 : (ps.map fun p => D.tup (p.2.map D.int)) = bent.map fun r => .tup (r.map D.int) := by rw [hbent, List.map_map]; rfl
      rw [e1]
      refine to_ask P rows_lst (fun x' c' a' h' => ?_) (fun h' => by rw [h] at h'; cases h')
      rw [h] at h'
      cases h'
      walk_at "od"
      refine to_same rfl rfl rfl ?_
      walk_at "od"
      refine st_comp1 ps (·.1) rfl (fun p => .tup (p.2.map D.int)) hs (by rw [hpl]; exact small_line hbl) ?_ ?_
      · intro pre p post sp R' hR'
        refine ⟨_, rfl, ?_⟩
        have hpp := seqD_L (hp p (by rw [sp]; simp))
        walk_at "od"
        exact hR'
      walk_at "od"
      rw [e2]
      refine ⟨m, q, fs, _, bent, span, rfl, P, ?_, by rw [h]; rfl, ?_⟩
      · obtain ⟨qs, k1, k2, k3⟩ := rows_tup (S := S ++ [c7] ++ T) (rows := bent)
        refine ⟨qs, ?_, k2, k3⟩
        simp only [seqD] at k1 ⊢
        exact k1
      walk_at "od"
      exact ⟨rfl, rfl⟩
  rintro ρ' S' ⟨rfl, rfl⟩
  have hend : ∀ L : Store, (endsD S R Xc).rt (.bl true) (S ++ L) := fun L => st_endC (Cut.app S L) rfl hQ
  walk_at "od"
  unfold planD
  walk_at "od"
  rw [show ((fs.map D.int).length : Int) = fs.length by simp]
  refine st_ite (fun h => ?_) (fun h6 => ?_)
  · walk_at "od"
    rw [List.append_assoc]
    exact hend _
  walk_at "od"
  refine st_ite (fun h => ?_) (fun m6 => ?_)
  · walk_at "od"
    rw [List.append_assoc]
    exact hend _
  walk_at "od"
  obtain ⟨n, hn, hn4⟩ : ∃ n : Nat, (if (if 400 < span then 400 else span) > 0 then (if 400 < span then 400 else span) else 0) = (n : Int) ∧ n ≤ 400 := by
    by_cases h1 : 400 < span
    · simp only [if_pos h1]
      exact ⟨400, by decide, by omega⟩
    · simp only [if_neg h1]
      by_cases h2 : span > 0
      · rw [if_pos h2]; exact ⟨span.toNat, by omega, by omega⟩
      · rw [if_neg h2]; exact ⟨0, rfl, by omega⟩
  rw [hn]
  have G : Led.Good m q rows fs := ⟨P.stand, hrl, ho⟩
  have h6' : fs.length ≤ 6 := by omega
  have m6' : m ≤ 6 := by omega
  have hrn : ∀ rs : List (List Int), Led.Good m q rs fs → ref3 m fs.length rs n = none := fun rs g => ref3_none (ref_none h6' m6' g) (by omega) (by omega)
  have hst : ∀ rs : List (List Int), Led.Good m q rs fs → Led.Strs (Led.led m q rs fs n) := fun rs g => Led.led_strs g n12 hn4
  have hsum : ∀ rs : List (List Int), (n : Int) = ((Led.led m q rs fs n).map (·.1)).sum := fun rs => Led.led_sum.symm
  refine to_led P rows_lst.app.app G hn4 ?_
  walk_at "od"
  refine st_comp1 rows (fun r => .lst (r.map D.int)) rfl (fun r => .tup (r.map D.int)) rfl (small_line (by omega)) ?_ ?_
  · intro pre r post sp R' hR'
    refine ⟨_, rfl, ?_⟩
    walk_at "od"
    exact hR'
  walk_at "od"
  refine to_ask P rows_tup (fun x cd a h => by rw [hrn rows G] at h; cases h) (fun _ => ?_)
  rw [Int.toNat_natCast]
  walk_at "od"
  refine to_isbook rfl (hsum rows) (hst rows G) ?_
  walk_at "od"
  refine st_nest rows (fun r => .lst (r.map D.int)) rfl (fun _ => rfl) (by omega) ?_ ?_
  · intro r hr L R' hR'
    refine ⟨_, rfl, ?_⟩
    walk_at "od"
    exact hR'
  walk_at "od"
  refine to_ask P rows_nest0 (fun x cd a h => by rw [hrn rows G] at h; cases h) (fun _ => ?_)
  rw [Int.toNat_natCast]
  walk_at "od"
  refine to_isbook rfl (hsum rows) (hst rows G) ?_
  walk_at "od"
  refine st_eqP top_nest top_rows (shaped_rows rows) (shaped_rows rows) ?_
  rw [eqv_rows, decide_eq_true rfl]
  walk_at "od"
  have hk : S.length < (S ++ [c7] ++ T).length := by simp
  refine to_take (((Pool.last hc7).app).app) (by omega) (by omega) fun v c8 hv0 hv1 hc8 => ?_
  rw [nest_pool hk]
  obtain ⟨cn, rfl⟩ : ∃ cn : Nat, v = cn := ⟨v.toNat, by omega⟩
  have hcn : cn < rows.length := by omega
  obtain ⟨row, hrow⟩ : ∃ row, rows[cn]? = some row := ⟨_, List.getElem?_eq_getElem hcn⟩
  have o := ho row (List.mem_of_getElem? hrow)
  obtain ⟨x, tl, rfl⟩ : ∃ x tl, row = x :: tl := by
    cases row with
    | nil => have := o.len; have := P.n1; simp at *; omega
    | cons x tl => exact ⟨x, tl, rfl⟩
  have hS0 : (S ++ [c7] ++ T).set S.length c8 = S ++ ([c8] ++ T) := by
    rw [List.append_assoc, List.set_append_right _ _ (Nat.le_refl _), Nat.sub_self]; rfl
  rw [hS0]
  have hlen : (S ++ [c7] ++ T).length = (S ++ ([c8] ++ T)).length := by simp
  rw [hlen]
  generalize hZ : S ++ ([c8] ++ T) = Z
  have hTop : (nest Z rows)[Z.length + rows.length]? = some (.lst (owns Z.length rows.length)) := nest_top
  have hAt : atI (owns Z.length rows.length) (cn : Int) = some (.own (Z.length + cn)) := owns_at hcn
  have hRow : (nest Z rows)[Z.length + cn]? = some (.lst ((x :: tl).map D.int)) := nest_row hrow
  have ol := o.len
  walk_at "od"
  refine st_popAt (y := .int x) hRow (by decide) (by simp) (by rw [List.length_map]; exact small_line (by omega)) rfl ?_
  have hS1 : (nest Z rows).set (Z.length + cn) (.lst (((x :: tl).map D.int).eraseIdx (0 : Int).toNat)) = nest Z (rows.set cn tl) := nest_set (r := tl) hcn
  rw [hS1]
  have hRow2 : (nest Z (rows.set cn tl))[Z.length + cn]? = some (.lst (tl.map D.int)) := nest_row (by simp [hcn])
  have hln : (tl.map D.int).length < sizeLine := Nat.lt_of_lt_of_le (show _ < 1000 by simp at ol ⊢; omega) (small_line (Nat.le_refl _))
  walk_at "od"
  have hS2 : (nest Z (rows.set cn tl)).set (Z.length + cn) (.lst (tl.map D.int ++ [D.int x])) = nest Z (rows.set cn (tl ++ [x])) := by
    have := nest_set (S := Z) (rows := rows.set cn tl) (c := cn) (r := tl ++ [x]) (by simpa using hcn)
    rw [List.set_set, List.map_append] at this
    exact this
  rw [hS2]
  have hpm : (tl ++ [x]).Perm (x :: tl) := List.perm_append_comm
  have o2 : Led.Order fs.length (tl ++ [x]) := ⟨hpm.length_eq.trans o.len, hpm.nodup_iff.mpr o.nd, fun i hi => o.rng i (hpm.mem_iff.mp hi)⟩
  have G2 : Led.Good m q (rows.set cn (tl ++ [x])) fs := by
    refine ⟨P.stand, by simpa using hrl, fun r hr => ?_⟩
    rcases List.mem_or_eq_of_mem_set hr with hr | rfl
    · exact ho r hr
    · exact o2
  have hRn : RowsD (nest Z (rows.set cn (tl ++ [x]))) (.own (Z.length + rows.length)) (rows.set cn (tl ++ [x])) := by
    have := rows_nest0 (S := Z) (rows := rows.set cn (tl ++ [x]))
    rwa [List.length_set] at this
  walk_at "od"
  refine to_isbook rfl (hsum rows) (hst rows G) ?_
  walk_at "od"
  refine to_ask P hRn (fun x cd a h => by rw [hrn _ G2] at h; cases h) (fun _ => ?_)
  rw [Int.toNat_natCast]
  walk_at "od"
  refine to_led P hRn G2 hn4 ?_
  walk_at "od"
  refine to_isbook rfl (hsum _) (hst _ G2) ?_
  walk_at "od"
  rw [← hZ]
  unfold nest
  rw [List.append_assoc]
  exact hend _
end

end K

namespace K
open PySem PySem.Spec L2 OD
open PyProof.Rows hiding St
section
variable {P : Program} {w : World} {C : Ct} [LawF C] {mg : Str → Option Value} {base : Heap}
theorem ok_check_firsts {f : Addr} {fd : FuncData} (F : FunD C.K "check_firsts" "check_firsts" (defArgs s_check_firsts) (defBody s_check_firsts) (defScope s_check_firsts) [] [] f fd) (gm : mg "check_firsts" = some (.ref f)) (m_len : mg "len" = none) (m_range : mg "range" = none) (v_Depot_MOST_DRIVERS : CvD C mg "Depot" "MOST_DRIVERS" (.int 12)) (X_BadDepot : ExD P w C mg base 1 "BadDepot" (fun a => sp2 a "at" "code")) :
    FnD P w C mg base 3 "check_firsts" ["period", "quota", "firsts"] sp_check_firsts :=
  have nd := sc_check_firsts.nd
  (fnA_of (N := ["period", "quota", "firsts", "ones", "driver"]) (n := 2) (t := r_check_firsts C) F (F.bindsN fun _ _ _ _ _ _ us hl => match us, hl with | [_, _, _], _ => rfl) sc_check_firsts rfl ar_check_firsts (fun cdv A outer s H E hr tk pw => by
    unfold r_check_firsts
    exact (dss_cons (ds_if (dt_not (dt_lele de_int (de_len rfl m_len (da_cons (de_var 2) da_nil)) (de_cval rfl v_Depot_MOST_DRIVERS)))
  (dss_one (ds_raise2 rfl rfl X_BadDepot hr tk (da_cons (de_len rfl m_len (da_cons (de_var 2) da_nil)) (da_cons de_str da_nil))))
  dss_nil)
  (dss_cons (ds_set 3 nd de_int)
  (dss_cons (ds_for pw rfl (di_range1 m_range (de_len rfl m_len (da_cons (de_var 2) da_nil))) (dg_name 4 nd)
  (dss_cons (ds_if (dt_not (dt_lele de_int (de_item rfl (de_var 2) (de_var 4)) (de_var 0)))
  (dss_one (ds_raise2 rfl rfl X_BadDepot hr tk (da_cons (de_var 4) (da_cons de_str da_nil))))
  dss_nil)
  (dss_one (ds_if (dt_eq rfl hr (de_item rfl (de_var 2) (de_var 4)) de_int)
  (dss_one (ds_augAdd 3 nd de_int))
  dss_nil))))
  (dss_one (ds_if (dt_lt (de_var 3) (de_var 1))
  (dss_one (ds_raise2 rfl rfl X_BadDepot hr tk (da_cons (de_var 3) (da_cons de_str da_nil))))
  dss_nil)))))) pure_check_firsts).glob gm
theorem ok_check_numbers {f : Addr} {fd : FuncData} (F : FunD C.K "check_numbers" "check_numbers" (defArgs s_check_numbers) (defBody s_check_numbers) (defScope s_check_numbers) [] [] f fd) (gm : mg "check_numbers" = some (.ref f)) (c_MOST_QUOTA : ∃ t, mg "MOST_QUOTA" = some (.int 12 t)) (v_Depot_MOST_PERIOD : CvD C mg "Depot" "MOST_PERIOD" (.int 8)) (X_BadDepot : ExD P w C mg base 1 "BadDepot" (fun a => sp2 a "at" "code")) :
    FnD P w C mg base 3 "check_numbers" ["period", "quota"] sp_check_numbers :=
  have nd := sc_check_numbers.nd
  (fnA_of (N := ["period", "quota"]) (n := 0) (t := r_check_numbers C) F (F.bindsN fun _ _ _ _ _ _ us hl => match us, hl with | [_, _], _ => rfl) sc_check_numbers rfl ar_check_numbers (fun cdv A outer s H E hr tk pw => by
    unfold r_check_numbers
    exact (dss_cons (ds_if (dt_not (dt_lele de_int (de_var 0) (de_cval rfl v_Depot_MOST_PERIOD)))
  (dss_one (ds_raise2 rfl rfl X_BadDepot hr tk (da_cons (de_var 0) (da_cons de_str da_nil))))
  dss_nil)
  (dss_one (ds_if (dt_not (dt_lele de_int (de_var 1) (de_gint c_MOST_QUOTA)))
  (dss_one (ds_raise2 rfl rfl X_BadDepot hr tk (da_cons (de_var 1) (da_cons de_str da_nil))))
  dss_nil)))) pure_check_numbers).glob gm
theorem ok_Depot___init__ {f : Addr} {fd : FuncData} (F : FunD C.K "__init__" "Depot.__init__" (defArgs s_Depot___init__) (defBody s_Depot___init__) (defScope s_Depot___init__) [] [] f fd) (m_tuple : mg "tuple" = none) (F_check_firsts : FnD P w C mg base 3 "check_firsts" ["period", "quota", "firsts"] sp_check_firsts) (F_check_numbers : FnD P w C mg base 3 "check_numbers" ["period", "quota"] sp_check_numbers) :
    FnA P w C mg base 4 f ["self", "period", "quota", "firsts"] sp_Depot___init__ :=
  have nd := sc_Depot___init__.nd
  (fnA_of (N := ["self", "period", "quota", "firsts"]) (n := 0) (t := r_Depot___init__ C) F (F.bindsN fun _ _ _ _ _ _ us hl => match us, hl with | [_, _, _, _], _ => rfl) sc_Depot___init__ rfl ar_Depot___init__ (fun cdv A outer s H E hr tk pw => by
    unfold r_Depot___init__
    exact (dss_cons (ds_expr (de_call rfl F_check_numbers hr tk (da_cons (de_var 1) (da_cons (de_var 2) da_nil))))
  (dss_cons (ds_expr (de_call rfl F_check_firsts hr tk (da_cons (de_var 1) (da_cons (de_var 2) (da_cons (de_var 3) da_nil)))))
  (dss_cons (ds_fld rfl (de_var 0) (de_var 1))
  (dss_cons (ds_fld rfl (de_var 0) (de_var 2))
  (dss_one (ds_fld rfl (de_var 0) (de_tuple rfl m_tuple (da_cons (de_var 3) da_nil))))))))) pure_Depot___init__)
theorem ok_check_runners {f : Addr} {fd : FuncData} (F : FunD C.K "check_runners" "check_runners" (defArgs s_check_runners) (defBody s_check_runners) (defScope s_check_runners) [] [] f fd) (gm : mg "check_runners" = some (.ref f)) (c_HIGHEST_RUNNER : ∃ t, mg "HIGHEST_RUNNER" = some (.int 11 t)) :
    FnD P w C mg base 1 "check_runners" ["index", "runners"] sp_check_runners :=
  have nd := sc_check_runners.nd
  (fnA_of (N := ["index", "runners", "least", "runner"]) (n := 2) (t := r_check_runners C) F (F.bindsN fun _ _ _ _ _ _ us hl => match us, hl with | [_, _], _ => rfl) sc_check_runners rfl ar_check_runners (fun cdv A outer s H E hr tk pw => by
    unfold r_check_runners
    exact (dss_cons (ds_set 2 nd de_int)
  (dss_one (ds_for pw rfl (di_seq rfl (de_var 1)) (dg_name 3 nd)
  (dss_cons (ds_if (dt_not (dt_lele (de_var 2) (de_var 3) (de_gint c_HIGHEST_RUNNER)))
  (dss_one ds_never)
  dss_nil)
  (dss_one (ds_set 2 nd (de_add false rfl (de_var 3) de_int)))))))) pure_check_runners).glob gm
theorem ok_checked_stretches {f : Addr} {fd : FuncData} (F : FunD C.K "checked_stretches" "checked_stretches" (defArgs s_checked_stretches) (defBody s_checked_stretches) (defScope s_checked_stretches) [] [] f fd) (gm : mg "checked_stretches" = some (.ref f)) (m_len : mg "len" = none) (m_range : mg "range" = none) (m_tuple : mg "tuple" = none) (F_check_runners : FnD P w C mg base 1 "check_runners" ["index", "runners"] sp_check_runners) (c_MOST_DAYS : ∃ t, mg "MOST_DAYS" = some (.int 1000000000000000000000000000000 t)) (c_MOST_STRETCHES : ∃ t, mg "MOST_STRETCHES" = some (.int 400 t)) :
    FnD P w C mg base 2 "checked_stretches" ["stretches"] sp_checked_stretches :=
  have nd := sc_checked_stretches.nd
  (fnA_of (N := ["stretches", "rows", "total", "index", "days", "runners"]) (n := 5) (t := r_checked_stretches C) F (F.bindsN fun _ _ _ _ _ _ us hl => match us, hl with | [_], _ => rfl) sc_checked_stretches rfl ar_checked_stretches (fun cdv A outer s H E hr tk pw => by
    unfold r_checked_stretches
    exact (dss_cons (ds_if (dt_gt (de_len rfl m_len (da_cons (de_var 0) da_nil)) (de_gint c_MOST_STRETCHES))
  (dss_one ds_never)
  dss_nil)
  (dss_cons (ds_set 1 nd (de_lst (o := true) da_nil))
  (dss_cons (ds_set 2 nd de_int)
  (dss_cons (ds_for pw rfl (di_range1 m_range (de_len rfl m_len (da_cons (de_var 0) da_nil))) (dg_name 3 nd)
  (dss_cons (ds_asg (de_item rfl (de_var 0) (de_var 3)) (dg_tup rfl rfl (dgs_cons gm_n.free (gms_cons gm_n gms_nil).free (dg_name 4 nd) (dgs_cons gm_n.free gms_nil.free (dg_name 5 nd) dgs_nil))))
  (dss_cons (ds_if (dt_not (dt_lele de_int (de_var 4) (de_gint c_MOST_DAYS)))
  (dss_one ds_never)
  dss_nil)
  (dss_cons (ds_expr (de_call rfl F_check_runners hr tk (da_cons (de_var 3) (da_cons (de_var 5) da_nil))))
  (dss_cons (ds_set 2 nd (de_add false rfl (de_var 2) (de_var 4)))
  (dss_cons (ds_if (dt_gt (de_var 2) (de_gint c_MOST_DAYS))
  (dss_one ds_never)
  dss_nil)
  (dss_one (ds_expr (de_append (de_var 1) (da_cons (de_tup (da_cons (de_var 4) (da_cons (de_tuple rfl m_tuple (da_cons (de_var 5) da_nil)) da_nil))) da_nil))))))))))
  (dss_one (ds_ret (de_frz (de_var 1))))))))) pure_checked_stretches).glob gm
theorem ok_join_rows {f : Addr} {fd : FuncData} (F : FunD C.K "join_rows" "join_rows" (defArgs s_join_rows) (defBody s_join_rows) (defScope s_join_rows) [] [] f fd) (gm : mg "join_rows" = some (.ref f)) :
    FnD P w C mg base 1 "join_rows" ["rows"] sp_join_rows :=
  have nd := sc_join_rows.nd
  (fnA_of (N := ["rows", "joined", "number", "group"]) (n := 3) (t := r_join_rows C) F (F.bindsN fun _ _ _ _ _ _ us hl => match us, hl with | [_], _ => rfl) sc_join_rows rfl ar_join_rows (fun cdv A outer s H E hr tk pw => by
    unfold r_join_rows
    exact (dss_cons (ds_set 1 nd (de_lst (o := true) da_nil))
  (dss_cons (ds_for pw rfl (di_seq rfl (de_var 0)) (dg_tup rfl rfl (dgs_cons gm_n.free (gms_cons gm_n gms_nil).free (dg_name 2 nd) (dgs_cons gm_n.free gms_nil.free (dg_name 3 nd) dgs_nil)))
  (dss_one (ds_if (dt_w (dw_and (dt_ne rfl hr (de_var 1) (de_lst (o := false) da_nil)) (dw_and1 (dt_eq rfl hr (de_item rfl (de_item rfl (de_var 1) (de_neg de_int)) de_int) (de_var 3)))))
  (dss_one (ds_asg (de_tup (da_cons (de_add false rfl (de_item rfl (de_item rfl (de_var 1) (de_neg de_int)) de_int) (de_var 2)) (da_cons (de_var 3) da_nil))) (dg_sub (de_var 1) (de_neg de_int))))
  (dss_one (ds_expr (de_append (de_var 1) (da_cons (de_tup (da_cons (de_var 2) (da_cons (de_var 3) da_nil))) da_nil)))))))
  (dss_one (ds_ret (de_frz (de_var 1))))))) pure_join_rows).glob gm
theorem ok_Book___init__ {f : Addr} {fd : FuncData} (F : FunD C.K "__init__" "Book.__init__" (defArgs s_Book___init__) (defBody s_Book___init__) (defScope s_Book___init__) [] [] f fd) (m_sum : mg "sum" = none) (m_tuple : mg "tuple" = none) (F_checked_stretches : FnD P w C mg base 2 "checked_stretches" ["stretches"] sp_checked_stretches) (F_join_rows : FnD P w C mg base 1 "join_rows" ["rows"] sp_join_rows) :
    FnA P w C mg base 3 f ["self", "stretches"] sp_Book___init__ :=
  have nd := sc_Book___init__.nd
  (fnA_of (N := ["self", "stretches", "rows", "row"]) (n := 2) (t := r_Book___init__ C) F (F.bindsN fun _ _ _ _ _ _ us hl => match us, hl with | [_, _], _ => rfl) sc_Book___init__ rfl ar_Book___init__ (fun cdv A outer s H E hr tk pw => by
    unfold r_Book___init__
    exact (dss_cons (ds_set 2 nd (de_call rfl F_join_rows hr tk (da_cons (de_call rfl F_checked_stretches hr tk (da_cons (de_var 1) da_nil)) da_nil)))
  (dss_cons (ds_fld rfl (de_var 0) (de_tuple rfl m_tuple (da_cons (de_var 2) da_nil)))
  (dss_one (ds_fld rfl (de_var 0) (de_sum rfl m_sum (da_cons (de_lc1 (o := false) 3 rfl nd (di_seq rfl (de_var 2)) (blkOk_by (by kernel_rfl)) (fun _ _ _ _ _ => pg_name (i := 3) nd rfl (Or.inl rfl)) (fun _ _ _ _ _ => dts_nil) (fun _ _ _ _ _ => (de_item rfl (de_var 3) de_int))) da_nil))))))) pure_Book___init__)
theorem ok_Book_of_rows {f : Addr} {fd : FuncData} (F : FunD C.K "of_rows" "Book.of_rows" (defArgs s_Book_of_rows) (defBody s_Book_of_rows) (defScope s_Book_of_rows) [] [] f fd) (F_Book___init__ : MakD P w C mg base 3 "Book" ["self", "stretches"] sp_Book___init__) :
    FnA P w C mg base 5 f ["rows"] sp_Book_of_rows :=
  have nd := sc_Book_of_rows.nd
  (fnA_of (N := ["rows", "runners"]) (n := 1) (t := r_Book_of_rows C) F (F.bindsN fun _ _ _ _ _ _ us hl => match us, hl with | [_], _ => rfl) sc_Book_of_rows rfl ar_Book_of_rows (fun cdv A outer s H E hr tk pw => by
    unfold r_Book_of_rows
    exact (dss_one (ds_ret (de_frz (de_make rfl F_Book___init__ hr tk (da_cons (de_lc1 (o := false) 1 rfl nd (di_seq rfl (de_var 0)) (blkOk_by (by kernel_rfl)) (fun _ _ _ _ _ => pg_name (i := 1) nd rfl (Or.inl rfl)) (fun _ _ _ _ _ => dts_nil) (fun _ _ _ _ _ => (de_tup (da_cons de_int (da_cons (de_var 1) da_nil))))) da_nil)))))) pure_Book_of_rows)
theorem ok_check_days {f : Addr} {fd : FuncData} (F : FunD C.K "check_days" "check_days" (defArgs s_check_days) (defBody s_check_days) (defScope s_check_days) [] [] f fd) (gm : mg "check_days" = some (.ref f)) (c_MOST_DAYS : ∃ t, mg "MOST_DAYS" = some (.int 1000000000000000000000000000000 t)) (X_OutOfRange : ExD P w C mg base 1 "OutOfRange" (fun a => sp2 a "at" "code")) :
    FnD P w C mg base 3 "check_days" ["days"] sp_check_days :=
  have nd := sc_check_days.nd
  (fnA_of (N := ["days"]) (n := 0) (t := r_check_days C) F (F.bindsN fun _ _ _ _ _ _ us hl => match us, hl with | [_], _ => rfl) sc_check_days rfl ar_check_days (fun cdv A outer s H E hr tk pw => by
    unfold r_check_days
    exact (dss_one (ds_if (dt_not (dt_lele de_int (de_var 0) (de_gint c_MOST_DAYS)))
  (dss_one (ds_raise2 rfl rfl X_OutOfRange hr tk (da_cons (de_var 0) (da_cons de_str da_nil))))
  dss_nil))) pure_check_days).glob gm
theorem ok_Depot_size {f : Addr} {fd : FuncData} (F : FunD C.K "size" "Depot.size" (defArgs s_Depot_size) (defBody s_Depot_size) (defScope s_Depot_size) [] [] f fd) (m_len : mg "len" = none) :
    FnA P w C mg base 1 f ["self"] sp_Depot_size :=
  have nd := sc_Depot_size.nd
  (fnA_of (N := ["self"]) (n := 0) (t := r_Depot_size C) F (F.bindsN fun _ _ _ _ _ _ us hl => match us, hl with | [_], _ => rfl) sc_Depot_size rfl ar_Depot_size (fun cdv A outer s H E hr tk pw => by
    unfold r_Depot_size
    exact (dss_one (ds_ret (de_len rfl m_len (da_cons (de_fld rfl (de_var 0)) da_nil))))) pure_Depot_size)
theorem ok_check_led {f : Addr} {fd : FuncData} (F : FunD C.K "check_led" "check_led" (defArgs s_check_led) (defBody s_check_led) (defScope s_check_led) [] [] f fd) (gm : mg "check_led" = some (.ref f)) (F_Depot_size : ProD P w C mg base 1 "Depot" "size" sp_Depot_size) (c_MOST_LED_DRIVERS : ∃ t, mg "MOST_LED_DRIVERS" = some (.int 6 t)) (c_MOST_LED_PERIOD : ∃ t, mg "MOST_LED_PERIOD" = some (.int 6 t)) (X_OutOfRange : ExD P w C mg base 1 "OutOfRange" (fun a => sp2 a "at" "code")) :
    FnD P w C mg base 3 "check_led" ["depot"] sp_check_led :=
  have nd := sc_check_led.nd
  (fnA_of (N := ["depot"]) (n := 0) (t := r_check_led C) F (F.bindsN fun _ _ _ _ _ _ us hl => match us, hl with | [_], _ => rfl) sc_check_led rfl ar_check_led (fun cdv A outer s H E hr tk pw => by
    unfold r_check_led
    exact (dss_cons (ds_if (dt_gt (de_prop rfl F_Depot_size hr (de_var 0)) (de_gint c_MOST_LED_DRIVERS))
  (dss_one (ds_raise2 rfl rfl X_OutOfRange hr tk (da_cons (de_prop rfl F_Depot_size hr (de_var 0)) (da_cons de_str da_nil))))
  dss_nil)
  (dss_one (ds_if (dt_gt (de_fld rfl (de_var 0)) (de_gint c_MOST_LED_PERIOD))
  (dss_one (ds_raise2 rfl rfl X_OutOfRange hr tk (da_cons (de_fld rfl (de_var 0)) (da_cons de_str da_nil))))
  dss_nil)))) pure_check_led).glob gm
theorem ok_is_between {f : Addr} {fd : FuncData} (F : FunD C.K "is_between" "is_between" (defArgs s_is_between) (defBody s_is_between) (defScope s_is_between) [] [] f fd) (gm : mg "is_between" = some (.ref f)) (m_bool : mg "bool" = none) (m_int : mg "int" = none) (m_isinstance : mg "isinstance" = none) :
    FnD P w C mg base 1 "is_between" ["value", "least", "most"] sp_is_between :=
  have nd := sc_is_between.nd
  (fnA_of (N := ["value", "least", "most"]) (n := 0) (t := r_is_between C) F (F.bindsN fun _ _ _ _ _ _ us hl => match us, hl with | [_, _, _], _ => rfl) sc_is_between rfl ar_is_between (fun cdv A outer s H E hr tk pw => by
    unfold r_is_between
    exact (dss_cons (ds_if (dt_w (dw_or (dt_tru rfl (de_isi rfl m_isinstance (da_cons (de_var 0) (da_cons (de_ty m_bool) da_nil)))) (dw_or1 (dt_not (dt_tru rfl (de_isi rfl m_isinstance (da_cons (de_var 0) (da_cons (de_ty m_int) da_nil))))))))
  (dss_one (ds_ret de_bl))
  dss_nil)
  (dss_one (ds_ret (de_lele (de_var 1) (de_var 0) (de_var 2)))))) pure_is_between).glob gm
theorem ok_is_order {f : Addr} {fd : FuncData} (F : FunD C.K "is_order" "is_order" (defArgs s_is_order) (defBody s_is_order) (defScope s_is_order) [] [] f fd) (gm : mg "is_order" = some (.ref f)) (m_len : mg "len" = none) (F_is_between : FnD P w C mg base 1 "is_between" ["value", "least", "most"] sp_is_between) :
    FnD P w C mg base 2 "is_order" ["row", "size"] sp_is_order :=
  have nd := sc_is_order.nd
  (fnA_of (N := ["row", "size", "named", "driver"]) (n := 2) (t := r_is_order C) F (F.bindsN fun _ _ _ _ _ _ us hl => match us, hl with | [_, _], _ => rfl) sc_is_order rfl ar_is_order (fun cdv A outer s H E hr tk pw => by
    unfold r_is_order
    exact (dss_cons (ds_set 2 nd (de_mul true (de_lst (o := false) (da_cons de_bl da_nil)) (de_var 1)))
  (dss_cons (ds_for pw rfl (di_seq rfl (de_var 0)) (dg_name 3 nd)
  (dss_cons (ds_if (dt_w (dw_or (dt_not (dt_tru rfl (de_call rfl F_is_between hr tk (da_cons (de_var 3) (da_cons de_int (da_cons (de_sub (de_var 1) de_int) da_nil)))))) (dw_or1 (dt_tru rfl (de_item rfl (de_var 2) (de_var 3))))))
  (dss_one (ds_ret de_bl))
  dss_nil)
  (dss_one (ds_asg de_bl (dg_sub (de_var 2) (de_var 3))))))
  (dss_one (ds_ret (de_eq rfl hr (de_len rfl m_len (da_cons (de_var 0) da_nil)) (de_var 1))))))) pure_is_order).glob gm
theorem ok_check_lists {f : Addr} {fd : FuncData} (F : FunD C.K "check_lists" "check_lists" (defArgs s_check_lists) (defBody s_check_lists) (defScope s_check_lists) [] [] f fd) (gm : mg "check_lists" = some (.ref f)) (m_enumerate : mg "enumerate" = none) (m_len : mg "len" = none) (F_Depot_size : ProD P w C mg base 1 "Depot" "size" sp_Depot_size) (F_is_order : FnD P w C mg base 2 "is_order" ["row", "size"] sp_is_order) (X_BadLists : ExD P w C mg base 1 "BadLists" (fun a => sp2 a "at" "code")) :
    FnD P w C mg base 3 "check_lists" ["depot", "rows"] sp_check_lists :=
  have nd := sc_check_lists.nd
  (fnA_of (N := ["depot", "rows", "index", "row"]) (n := 2) (t := r_check_lists C) F (F.bindsN fun _ _ _ _ _ _ us hl => match us, hl with | [_, _], _ => rfl) sc_check_lists rfl ar_check_lists (fun cdv A outer s H E hr tk pw => by
    unfold r_check_lists
    exact (dss_cons (ds_if (dt_ne rfl hr (de_len rfl m_len (da_cons (de_var 1) da_nil)) (de_fld rfl (de_var 0)))
  (dss_one (ds_raise2 rfl rfl X_BadLists hr tk (da_cons (de_len rfl m_len (da_cons (de_var 1) da_nil)) (da_cons de_str da_nil))))
  dss_nil)
  (dss_one (ds_for pw rfl (di_enum rfl m_enumerate (de_var 1)) (dg_tup rfl rfl (dgs_cons gm_n.free (gms_cons gm_n gms_nil).free (dg_name 2 nd) (dgs_cons gm_n.free gms_nil.free (dg_name 3 nd) dgs_nil)))
  (dss_one (ds_if (dt_not (dt_tru rfl (de_call rfl F_is_order hr tk (da_cons (de_var 3) (da_cons (de_prop rfl F_Depot_size hr (de_var 0)) da_nil)))))
  (dss_one (ds_raise2 rfl rfl X_BadLists hr tk (da_cons (de_add false rfl (de_var 2) de_int) (da_cons de_str da_nil))))
  dss_nil)))))) pure_check_lists).glob gm
theorem ok_led_morning {f : Addr} {fd : FuncData} (F : FunD C.K "led_morning" "led_morning" (defArgs s_led_morning) (defBody s_led_morning) (defScope s_led_morning) [] [] f fd) (gm : mg "led_morning" = some (.ref f)) (m_enumerate : mg "enumerate" = none) (m_sorted : mg "sorted" = none) (m_tuple : mg "tuple" = none) :
    FnD P w C mg base 1 "led_morning" ["depot", "row", "firsts"] sp_led_morning :=
  have nd := sc_led_morning.nd
  (fnA_of (N := ["depot", "row", "firsts", "reporting", "runners", "behind", "driver", "first"]) (n := 5) (t := r_led_morning C) F (F.bindsN fun _ _ _ _ _ _ us hl => match us, hl with | [_, _, _], _ => rfl) sc_led_morning rfl ar_led_morning (fun cdv A outer s H E hr tk pw => by
    unfold r_led_morning
    exact (dss_cons (ds_setLc1 (o := false) 6 3 rfl nd rfl rfl (sw_true rfl rfl rfl (by decide +kernel)) (di_seq rfl (de_var 1)) (blkOk_by (by kernel_rfl)) (fun _ _ _ _ _ => pg_name (i := 6) nd rfl (Or.inl rfl)) (fun _ _ _ _ _ => dts_one (dt_eq rfl hr (de_item rfl (de_var 2) (de_var 6)) de_int)) (fun _ _ _ _ _ => (de_var 6)))
  (dss_cons (ds_set 4 nd (de_sorted false m_sorted (da_cons (de_slice false rfl (de_var 3) do_none (do_some (de_fld rfl (de_var 0)))) da_nil)))
  (dss_cons (ds_set 5 nd (de_lst (o := true) da_nil))
  (dss_cons (ds_for pw rfl (di_enum rfl m_enumerate (de_var 2)) (dg_tup rfl rfl (dgs_cons gm_n.free (gms_cons gm_n gms_nil).free (dg_name 6 nd) (dgs_cons gm_n.free gms_nil.free (dg_name 7 nd) dgs_nil)))
  (dss_one (ds_if (dt_gt (de_var 7) de_int)
  (dss_one (ds_expr (de_append (de_var 5) (da_cons (de_sub (de_var 7) de_int) da_nil))))
  (dss_one (ds_if (dt_in rfl hr (de_var 6) (de_var 4))
  (dss_one (ds_expr (de_append (de_var 5) (da_cons de_int da_nil))))
  (dss_one (ds_expr (de_append (de_var 5) (da_cons (de_fld rfl (de_var 0)) da_nil)))))))))
  (dss_one (ds_ret (de_tup (da_cons (de_tuple rfl m_tuple (da_cons (de_var 4) da_nil)) (da_cons (de_tuple rfl m_tuple (da_cons (de_var 5) da_nil)) da_nil)))))))))) pure_led_morning).glob gm
theorem ok_led_runners {f : Addr} {fd : FuncData} (F : FunD C.K "led_runners" "led_runners" (defArgs s_led_runners) (defBody s_led_runners) (defScope s_led_runners) [] [] f fd) (gm : mg "led_runners" = some (.ref f)) (m_range : mg "range" = none) (F_led_morning : FnD P w C mg base 1 "led_morning" ["depot", "row", "firsts"] sp_led_morning) :
    FnG P w C mg base 2 "led_runners" ["depot", "rows", "days"] sp_led_runners :=
  have nd := sc_led_runners.nd
  fnG_of (N := ["depot", "rows", "days", "firsts", "day", "runners"]) (n := 3) (t := r_led_runners C) F (F.bindsN fun _ _ _ _ _ _ us hl => match us, hl with | [_, _, _], _ => rfl) sc_led_runners rfl ar_led_runners (fun cdv A outer s H E pn hr tk pw => by
    unfold r_led_runners
    exact (dgns_cons (dgn_plain (W := fun cls d _ H' => E cls d H') (ds_set 3 nd (de_fld rfl (de_var 0))))
  (dgns_one (dgn_for (W := fun cls d _ H' => E cls d H') pw rfl (di_range1 m_range (de_var 2)) (dg_name 4 nd)
  (dgns_cons (dgn_plain (W := fun cls d _ H' => E cls d H') (ds_asg (de_call rfl F_led_morning hr tk (da_cons (de_var 0) (da_cons (de_item rfl (de_var 1) (de_mod (de_var 4) (de_fld rfl (de_var 0)))) (da_cons (de_var 3) da_nil)))) (dg_tup rfl rfl (dgs_cons gm_n.free (gms_cons gm_n gms_nil).free (dg_name 5 nd) (dgs_cons gm_n.free gms_nil.free (dg_name 3 nd) dgs_nil)))))
  (dgns_one (dgn_yield (W := fun cls d _ H' => E cls d H') (de_var 5)))))))) pure_led_runners gm
theorem ok_lead {f : Addr} {fd : FuncData} (F : FunD C.K "lead" "lead" (defArgs s_lead) (defBody s_lead) (defScope s_lead) [] [] f fd) (gm : mg "lead" = some (.ref f)) (m_list : mg "list" = none) (F_Book_of_rows : StaD P w C mg base 5 "Book" "of_rows" ["rows"] sp_Book_of_rows) (F_check_days : FnD P w C mg base 3 "check_days" ["days"] sp_check_days) (F_check_led : FnD P w C mg base 3 "check_led" ["depot"] sp_check_led) (F_check_lists : FnD P w C mg base 3 "check_lists" ["depot", "rows"] sp_check_lists) (F_led_runners : FnG P w C mg base 2 "led_runners" ["depot", "rows", "days"] sp_led_runners) (c_MOST_LED_DAYS : ∃ t, mg "MOST_LED_DAYS" = some (.int 400 t)) (X_OutOfRange : ExD P w C mg base 1 "OutOfRange" (fun a => sp2 a "at" "code")) :
    FnD P w C mg base 6 "lead" ["depot", "rows", "days"] sp_lead :=
  have nd := sc_lead.nd
  (fnA_of (N := ["depot", "rows", "days"]) (n := 0) (t := r_lead C) F (F.bindsN fun _ _ _ _ _ _ us hl => match us, hl with | [_, _, _], _ => rfl) sc_lead rfl ar_lead (fun cdv A outer s H E hr tk pw => by
    unfold r_lead
    exact (dss_cons (ds_expr (de_call rfl F_check_led hr tk (da_cons (de_var 0) da_nil)))
  (dss_cons (ds_expr (de_call rfl F_check_lists hr tk (da_cons (de_var 0) (da_cons (de_var 1) da_nil))))
  (dss_cons (ds_expr (de_call rfl F_check_days hr tk (da_cons (de_var 2) da_nil)))
  (dss_cons (ds_if (dt_gt (de_var 2) (de_gint c_MOST_LED_DAYS))
  (dss_one (ds_raise2 rfl rfl X_OutOfRange hr tk (da_cons (de_var 2) (da_cons de_str da_nil))))
  dss_nil)
  (dss_one (ds_ret (de_stat rfl F_Book_of_rows hr tk (da_cons (de_listG false rfl F_led_runners hr m_list (da_cons (de_var 0) (da_cons (de_var 1) (da_cons (de_var 2) da_nil)))) da_nil))))))))) pure_lead).glob gm
theorem ok_law_ask {f : Addr} {fd : FuncData} (F : FunD C.K "_law_ask" "_law_ask" (defArgs s_law_ask) (defBody s_law_ask) (defScope s_law_ask) [] [] f fd) (gm : mg "_law_ask" = some (.ref f)) (m_list : mg "list" = none) (F_Depot___init__ : MakD P w C mg base 4 "Depot" ["self", "period", "quota", "firsts"] sp_Depot___init__) (F_lead : FnD P w C mg base 6 "lead" ["depot", "rows", "days"] sp_lead) (g_BadLists : mg "BadLists" = some (.ref (C.ca "BadLists"))) (g_OutOfRange : mg "OutOfRange" = some (.ref (C.ca "OutOfRange"))) :
    FnD P w C mg base 7 "_law_ask" ["plan", "lists", "span"] sp_law_ask :=
  have nd := sc_law_ask.nd
  (fnA_of (N := ["plan", "lists", "span", "depot", "e"]) (n := 2) (t := r_law_ask C) F (F.bindsN fun _ _ _ _ _ _ us hl => match us, hl with | [_, _, _], _ => rfl) sc_law_ask rfl ar_law_ask (fun cdv A outer s H E hr tk pw => by
    unfold r_law_ask
    exact (dss_cons (ds_set 3 nd (de_frz (de_make rfl F_Depot___init__ hr tk (da_cons (de_item rfl (de_var 0) de_int) (da_cons (de_item rfl (de_var 0) de_int) (da_cons (de_list false rfl m_list (da_cons (de_item rfl (de_var 0) de_int) da_nil)) da_nil))))))
  (dss_one (ds_try rfl rfl rfl tk (fun _ _ _ tk pw => (dss_one (ds_ret (de_call rfl F_lead hr tk (da_cons (de_var 3) (da_cons (de_var 1) (da_cons (de_var 2) da_nil))))))) (hd_bind 4 g_OutOfRange nd (fun _ => (dss_one (ds_ret (de_tup (da_cons de_str (da_cons de_str (da_cons (de_xf rfl (de_var 4)) (da_cons (de_xf rfl (de_var 4)) da_nil)))))))) (hd_bind 4 g_BadLists nd (fun _ => (dss_one (ds_ret (de_tup (da_cons de_str (da_cons de_str (da_cons (de_xf rfl (de_var 4)) (da_cons (de_xf rfl (de_var 4)) da_nil)))))))) hd_nil)))))) pure_law_ask).glob gm
theorem ok_law_take {f : Addr} {fd : FuncData} (F : FunD C.K "_law_take" "_law_take" (defArgs s_law_take) (defBody s_law_take) (defScope s_law_take) [] [] f fd) (gm : mg "_law_take" = some (.ref f)) (m_abs : mg "abs" = none) (m_int : mg "int" = none) (m_len : mg "len" = none) :
    FnD P w C mg base 1 "_law_take" ["pool", "limit"] sp_law_take :=
  have nd := sc_law_take.nd
  (fnA_of (N := ["pool", "limit", "k", "mixed", "cell", "got"]) (n := 4) (t := r_law_take C) F (F.bindsN fun _ _ _ _ _ _ us hl => match us, hl with | [_, _], _ => rfl) sc_law_take rfl ar_law_take (fun cdv A outer s H E hr tk pw => by
    unfold r_law_take
    exact (dss_cons (ds_if (dt_w (dw_and (dt_eq rfl hr (de_item rfl (de_var 0) de_int) de_int) (dw_and1 (dt_lt (de_item rfl (de_var 0) de_int) (de_len rfl m_len (da_cons (de_item rfl (de_var 0) de_int) da_nil))))))
  (dss_cons (ds_set 4 nd (de_abs m_abs (da_cons (de_item rfl (de_item rfl (de_var 0) de_int) (de_item rfl (de_var 0) de_int)) da_nil)))
  (dss_cons (ds_asg (de_add false rfl (de_item rfl (de_var 0) de_int) de_int) (dg_sub (de_var 0) de_int))
  (dss_one (ds_if (dt_ge (de_var 4) (de_pow de_int de_int))
  (dss_one (ds_asg (de_var 4) (dg_sub (de_var 0) de_int)))
  (dss_one (ds_asg (de_mod (de_intC m_int (da_cons (de_add false rfl (de_add false rfl (de_mul false (de_item rfl (de_var 0) de_int) de_int) (de_var 4)) de_int) da_nil)) de_int) (dg_sub (de_var 0) de_int)))))))
  dss_nil)
  (dss_cons (ds_if (dt_gt (de_item rfl (de_var 0) de_int) de_int)
  (dss_cons (ds_set 5 nd (de_mod (de_intC m_int (da_cons (de_item rfl (de_var 0) de_int) da_nil)) (de_var 1)))
  (dss_cons (ds_asg (de_div (de_item rfl (de_var 0) de_int) (de_var 1)) (dg_sub (de_var 0) de_int))
  (dss_one (ds_ret (de_var 5)))))
  dss_nil)
  (dss_cons (ds_set 2 nd (de_add false rfl (de_item rfl (de_var 0) de_int) de_int))
  (dss_cons (ds_asg (de_var 2) (dg_sub (de_var 0) de_int))
  (dss_cons (ds_set 3 nd (de_item rfl (de_var 0) de_int))
  (dss_cons (ds_set 3 nd (de_mod (de_intC m_int (da_cons (de_add false rfl (de_add false rfl (de_mul false (de_var 3) (de_var 3)) (de_mul false (de_var 2) de_int)) de_int) da_nil)) de_int))
  (dss_cons (ds_set 3 nd (de_mod (de_intC m_int (da_cons (de_add false rfl (de_mul false (de_var 3) (de_var 3)) (de_div (de_var 3) de_int)) da_nil)) de_int))
  (dss_cons (ds_asg (de_var 3) (dg_sub (de_var 0) de_int))
  (dss_one (ds_ret (de_mod (de_intC m_int (da_cons (de_div (de_var 3) de_int) da_nil)) (de_var 1))))))))))))) pure_law_take).glob gm
theorem ok_law_bent_lists {f : Addr} {fd : FuncData} (F : FunD C.K "_law_bent_lists" "_law_bent_lists" (defArgs s_law_bent_lists) (defBody s_law_bent_lists) (defScope s_law_bent_lists) [] [] f fd) (gm : mg "_law_bent_lists" = some (.ref f)) (m_len : mg "len" = none) (m_list : mg "list" = none) (m_max : mg "max" = none) (m_range : mg "range" = none) (F_law_take : FnD P w C mg base 1 "_law_take" ["pool", "limit"] sp_law_take) :
    FnD P w C mg base 2 "_law_bent_lists" ["pool", "plan", "lists"] sp_law_bent_lists :=
  have nd := sc_law_bent_lists.nd
  (fnA_of (N := ["pool", "plan", "lists", "n", "rows", "k", "c", "a", "b", "way", "row"]) (n := 8) (t := r_law_bent_lists C) F (F.bindsN fun _ _ _ _ _ _ us hl => match us, hl with | [_, _, _], _ => rfl) sc_law_bent_lists rfl ar_law_bent_lists (fun cdv A outer s H E hr tk pw => by
    unfold r_law_bent_lists
    exact (dss_cons (ds_set 3 nd (de_len rfl m_len (da_cons (de_item rfl (de_var 1) de_int) da_nil)))
  (dss_cons (ds_setLc1 (o := true) 10 4 rfl nd rfl rfl (sw_true rfl rfl rfl (by decide +kernel)) (di_seq rfl (de_var 2)) (blkOk_by (by kernel_rfl)) (fun _ _ _ _ _ => pg_name (i := 10) nd rfl (Or.inl rfl)) (fun _ _ _ _ _ => dts_nil) (fun _ _ _ _ _ => (de_list true rfl m_list (da_cons (de_var 10) da_nil))))
  (dss_cons (ds_for pw rfl (di_range1 m_range (de_add false rfl de_int (de_call rfl F_law_take hr tk (da_cons (de_var 0) (da_cons de_int da_nil))))) (dg_name 5 nd)
  (dss_cons (ds_set 6 nd (de_call rfl F_law_take hr tk (da_cons (de_var 0) (da_cons (de_item rfl (de_var 1) de_int) da_nil))))
  (dss_cons (ds_set 7 nd (de_call rfl F_law_take hr tk (da_cons (de_var 0) (da_cons (de_var 3) da_nil))))
  (dss_cons (ds_set 8 nd (de_call rfl F_law_take hr tk (da_cons (de_var 0) (da_cons (de_var 3) da_nil))))
  (dss_cons (ds_set 9 nd (de_call rfl F_law_take hr tk (da_cons (de_var 0) (da_cons de_int da_nil))))
  (dss_cons (ds_if (dt_w (dw_or (dt_ge (de_var 6) (de_len rfl m_len (da_cons (de_var 4) da_nil))) (dw_or1 (dt_ge (de_max2 rfl m_max (da_cons (de_var 7) (da_cons (de_var 8) da_nil))) (de_len rfl m_len (da_cons (de_item rfl (de_var 4) (de_var 6)) da_nil))))))
  (dss_one (ds_set 9 nd de_int))
  dss_nil)
  (dss_cons (ds_if (dt_eq rfl hr (de_var 9) de_int)
  (dss_one (ds_expr (de_pop1 (de_item rfl (de_var 4) (de_var 6)) (da_cons (de_var 7) da_nil))))
  dss_nil)
  (dss_cons (ds_if (dt_eq rfl hr (de_var 9) de_int)
  (dss_one (ds_asg (de_item rfl (de_item rfl (de_var 4) (de_var 6)) (de_var 8)) (dg_sub (de_item rfl (de_var 4) (de_var 6)) (de_var 7))))
  dss_nil)
  (dss_cons (ds_if (dt_eq rfl hr (de_var 9) de_int)
  (dss_one (ds_asg (de_var 3) (dg_sub (de_item rfl (de_var 4) (de_var 6)) (de_var 7))))
  dss_nil)
  (dss_cons (ds_if (dt_eq rfl hr (de_var 9) de_int)
  (dss_one (ds_asg (de_neg de_int) (dg_sub (de_item rfl (de_var 4) (de_var 6)) (de_var 7))))
  dss_nil)
  (dss_cons (ds_if (dt_eq rfl hr (de_var 9) de_int)
  (dss_one (ds_expr (de_insert (de_item rfl (de_var 4) (de_var 6)) (da_cons (de_var 7) (da_cons (de_item rfl (de_item rfl (de_var 4) (de_var 6)) (de_var 8)) da_nil)))))
  dss_nil)
  (dss_cons (ds_if (dt_eq rfl hr (de_var 9) de_int)
  (dss_one (ds_expr (de_append (de_item rfl (de_var 4) (de_var 6)) (da_cons (de_var 3) da_nil))))
  dss_nil)
  (dss_cons (ds_if (dt_eq rfl hr (de_var 9) de_int)
  (dss_one (ds_expr (de_append (de_var 4) (da_cons (de_list true rfl m_list (da_cons (de_item rfl (de_var 4) (de_var 6)) da_nil)) da_nil))))
  dss_nil)
  (dss_one (ds_if (dt_eq rfl hr (de_var 9) de_int)
  (dss_one (ds_expr (de_pop1 (de_var 4) (da_cons (de_var 6) da_nil))))
  dss_nil)))))))))))))))
  (dss_one (ds_ret (de_var 4))))))) pure_law_bent_lists).glob gm
theorem ok_law_by_base {f : Addr} {fd : FuncData} (F : FunD C.K "_law_by_base" "_law_by_base" (defArgs s_law_by_base) (defBody s_law_by_base) (defScope s_law_by_base) [] [] f fd) (gm : mg "_law_by_base" = some (.ref f)) (m_ValueError : mg "ValueError" = none) (m_isinstance : mg "isinstance" = none) (m_list : mg "list" = none) (F_Depot___init__ : MakD P w C mg base 4 "Depot" ["self", "period", "quota", "firsts"] sp_Depot___init__) (F_lead : FnD P w C mg base 6 "lead" ["depot", "rows", "days"] sp_lead) (g_OutagainError : mg "OutagainError" = some (.ref (C.ca "OutagainError"))) :
    FnD P w C mg base 7 "_law_by_base" ["plan", "lists", "span"] sp_law_by_base :=
  have nd := sc_law_by_base.nd
  (fnA_of (N := ["plan", "lists", "span", "depot", "e"]) (n := 2) (t := r_law_by_base C) F (F.bindsN fun _ _ _ _ _ _ us hl => match us, hl with | [_, _, _], _ => rfl) sc_law_by_base rfl ar_law_by_base (fun cdv A outer s H E hr tk pw => by
    unfold r_law_by_base
    exact (dss_cons (ds_set 3 nd (de_frz (de_make rfl F_Depot___init__ hr tk (da_cons (de_item rfl (de_var 0) de_int) (da_cons (de_item rfl (de_var 0) de_int) (da_cons (de_list false rfl m_list (da_cons (de_item rfl (de_var 0) de_int) da_nil)) da_nil))))))
  (dss_cons (ds_try rfl rfl rfl tk (fun _ _ _ tk pw => (dss_one (ds_expr (de_call rfl F_lead hr tk (da_cons (de_var 3) (da_cons (de_var 1) (da_cons (de_var 2) da_nil))))))) (hd_bind 4 g_OutagainError nd (fun _ => (dss_one (ds_ret (de_isi rfl m_isinstance (da_cons (de_var 4) (da_cons (de_ty m_ValueError) da_nil)))))) hd_nil))
  (dss_one (ds_ret de_bl))))) pure_law_by_base).glob gm
theorem ok_law_depot {f : Addr} {fd : FuncData} (F : FunD C.K "_law_depot" "_law_depot" (defArgs s_law_depot) (defBody s_law_depot) (defScope s_law_depot) [] [] f fd) (gm : mg "_law_depot" = some (.ref f)) (m_len : mg "len" = none) (m_min : mg "min" = none) (m_range : mg "range" = none) (F_law_take : FnD P w C mg base 1 "_law_take" ["pool", "limit"] sp_law_take) :
    FnD P w C mg base 2 "_law_depot" ["pool", "drivers", "period"] sp_law_depot :=
  have nd := sc_law_depot.nd
  (fnA_of (N := ["pool", "drivers", "period", "m", "n", "q", "firsts", "k"]) (n := 5) (t := r_law_depot C) F (F.bindsN fun _ _ _ _ _ _ us hl => match us, hl with | [_, _, _], _ => rfl) sc_law_depot rfl ar_law_depot (fun cdv A outer s H E hr tk pw => by
    unfold r_law_depot
    exact (dss_cons (ds_set 3 nd (de_add false rfl de_int (de_call rfl F_law_take hr tk (da_cons (de_var 0) (da_cons (de_var 2) da_nil)))))
  (dss_cons (ds_set 4 nd (de_add false rfl de_int (de_call rfl F_law_take hr tk (da_cons (de_var 0) (da_cons (de_var 1) da_nil)))))
  (dss_cons (ds_set 5 nd (de_add false rfl de_int (de_call rfl F_law_take hr tk (da_cons (de_var 0) (da_cons (de_var 4) da_nil)))))
  (dss_cons (ds_if (dt_gt (de_call rfl F_law_take hr tk (da_cons (de_var 0) (da_cons de_int da_nil))) de_int)
  (dss_one (ds_set 5 nd (de_add false rfl de_int (de_call rfl F_law_take hr tk (da_cons (de_var 0) (da_cons (de_min2 rfl m_min (da_cons (de_var 4) (da_cons de_int da_nil))) da_nil))))))
  dss_nil)
  (dss_cons (ds_set 6 nd (de_mul true (de_lst (o := false) (da_cons de_int da_nil)) (de_var 5)))
  (dss_cons (ds_for pw rfl (di_range1 m_range (de_sub (de_var 4) (de_var 5))) (dg_name 7 nd)
  (dss_one (ds_expr (de_insert (de_var 6) (da_cons (de_call rfl F_law_take hr tk (da_cons (de_var 0) (da_cons (de_add false rfl (de_len rfl m_len (da_cons (de_var 6) da_nil)) de_int) da_nil))) (da_cons (de_add false rfl de_int (de_call rfl F_law_take hr tk (da_cons (de_var 0) (da_cons (de_var 3) da_nil)))) da_nil))))))
  (dss_one (ds_ret (de_lst (o := false) (da_cons (de_var 3) (da_cons (de_var 5) (da_cons (de_frz (de_var 6)) da_nil))))))))))))) pure_law_depot).glob gm
theorem ok_law_number {f : Addr} {fd : FuncData} (F : FunD C.K "_law_number" "_law_number" (defArgs s_law_number) (defBody s_law_number) (defScope s_law_number) [] [] f fd) (gm : mg "_law_number" = some (.ref f)) (m_bool : mg "bool" = none) (m_int : mg "int" = none) (m_isinstance : mg "isinstance" = none) :
    FnD P w C mg base 1 "_law_number" ["got"] sp_law_number :=
  have nd := sc_law_number.nd
  (fnA_of (N := ["got"]) (n := 0) (t := r_law_number C) F (F.bindsN fun _ _ _ _ _ _ us hl => match us, hl with | [_], _ => rfl) sc_law_number rfl ar_law_number (fun cdv A outer s H E hr tk pw => by
    unfold r_law_number
    exact (dss_one (ds_ret (de_and (de_isi rfl m_isinstance (da_cons (de_var 0) (da_cons (de_ty m_int) da_nil))) (de_one (de_not (de_isi rfl m_isinstance (da_cons (de_var 0) (da_cons (de_ty m_bool) da_nil))))))))) pure_law_number).glob gm
theorem ok_law_same_0 {x qual : Str} {params : Arguments} {body : List Stmt} {scope : Scope} {f : Addr} {fd : FuncData} (F : FunD C.K x qual params body scope [] [] f fd) (gm : mg x = some (.ref f)) {ps : List Str} (b : Binds C.K fd ps []) :
    FnD P w C mg base 1 x ps sp_same0 :=
  ⟨f, fd, gm, F.kp, b, ⟨fun vs H Q E ⟨_, _, _, _, _, _, _, _, h, _⟩ => h.elim, fun _ _ _ _ _ _ _ _ _ _ _ _ _ ⟨_, _, _, _, _, _, _, _, h, _⟩ => h.elim⟩⟩
theorem ok_law_same1 {f : Addr} {fd : FuncData} (F : FunD C.K "_law_same" "_law_same" (defArgs s_law_same) (defBody s_law_same) (defScope s_law_same) [] [] f fd) (gm : mg "_law_same" = some (.ref f)) (m_bool : mg "bool" = none) (m_int : mg "int" = none) (m_isinstance : mg "isinstance" = none) (m_len : mg "len" = none) (m_list : mg "list" = none) (m_range : mg "range" = none) (m_str : mg "str" = none) (m_tuple : mg "tuple" = none) (F_law_number : FnD P w C mg base 1 "_law_number" ["got"] sp_law_number) (F_law_same : FnD P w C mg base 1 "_law_same" ["got", "due"] sp_same0) :
    FnD P w C mg base 2 "_law_same" ["got", "due"] sp_same1 :=
  have nd := sc_law_same.nd
  (fnA_of (N := ["got", "due", "k"]) (n := 1) (t := r_law_same C sp_same0) F (F.bindsN fun _ _ _ _ _ _ us hl => match us, hl with | [_, _], _ => rfl) sc_law_same rfl ar_law_same_1 (fun cdv A outer s H E hr tk pw => by
    unfold r_law_same
    exact (dss_cons (ds_if (dt_is (de_var 1) de_non)
  (dss_one (ds_ret (de_is (de_var 0) de_non)))
  dss_nil)
  (dss_cons (ds_if (dt_tru rfl (de_isi rfl m_isinstance (da_cons (de_var 1) (da_cons (de_ty m_bool) da_nil))))
  (dss_one (ds_ret (de_and (de_isi rfl m_isinstance (da_cons (de_var 0) (da_cons (de_ty m_bool) da_nil))) (de_one (de_eq rfl hr (de_var 0) (de_var 1))))))
  dss_nil)
  (dss_cons (ds_if (dt_tru rfl (de_isi rfl m_isinstance (da_cons (de_var 1) (da_cons (de_ty m_int) da_nil))))
  (dss_one (ds_ret (de_and (de_call rfl F_law_number hr tk (da_cons (de_var 0) da_nil)) (de_one (de_eq rfl hr (de_var 0) (de_var 1))))))
  dss_nil)
  (dss_cons (ds_if (dt_tru rfl (de_isi rfl m_isinstance (da_cons (de_var 1) (da_cons (de_ty m_str) da_nil))))
  (dss_one (ds_ret (de_and (de_isi rfl m_isinstance (da_cons (de_var 0) (da_cons (de_ty m_str) da_nil))) (de_one (de_eq rfl hr (de_var 0) (de_var 1))))))
  dss_nil)
  (dss_cons (ds_if (dt_w (dw_and (dt_tru rfl (de_isi rfl m_isinstance (da_cons (de_var 1) (da_cons (de_ty m_list) da_nil)))) (dw_and1 (dt_not (dt_tru rfl (de_isi rfl m_isinstance (da_cons (de_var 0) (da_cons (de_ty m_list) da_nil))))))))
  (dss_one (ds_ret de_bl))
  dss_nil)
  (dss_cons (ds_if (dt_w (dw_and (dt_tru rfl (de_isi rfl m_isinstance (da_cons (de_var 1) (da_cons (de_ty m_tuple) da_nil)))) (dw_and1 (dt_not (dt_tru rfl (de_isi rfl m_isinstance (da_cons (de_var 0) (da_cons (de_ty m_tuple) da_nil))))))))
  (dss_one (ds_ret de_bl))
  dss_nil)
  (dss_cons (ds_if (dt_ne rfl hr (de_len rfl m_len (da_cons (de_var 0) da_nil)) (de_len rfl m_len (da_cons (de_var 1) da_nil)))
  (dss_one (ds_ret de_bl))
  dss_nil)
  (dss_cons (ds_for pw rfl (di_range1 m_range (de_len rfl m_len (da_cons (de_var 1) da_nil))) (dg_name 2 nd)
  (dss_one (ds_if (dt_not (dt_tru rfl (de_call rfl F_law_same hr tk (da_cons (de_item rfl (de_var 0) (de_var 2)) (da_cons (de_item rfl (de_var 1) (de_var 2)) da_nil)))))
  (dss_one (ds_ret de_bl))
  dss_nil)))
  (dss_one (ds_ret de_bl))))))))))) pure_law_same_1).glob gm
theorem ok_law_same2 {f : Addr} {fd : FuncData} (F : FunD C.K "_law_same" "_law_same" (defArgs s_law_same) (defBody s_law_same) (defScope s_law_same) [] [] f fd) (gm : mg "_law_same" = some (.ref f)) (m_bool : mg "bool" = none) (m_int : mg "int" = none) (m_isinstance : mg "isinstance" = none) (m_len : mg "len" = none) (m_list : mg "list" = none) (m_range : mg "range" = none) (m_str : mg "str" = none) (m_tuple : mg "tuple" = none) (F_law_number : FnD P w C mg base 1 "_law_number" ["got"] sp_law_number) (F_law_same : FnD P w C mg base 2 "_law_same" ["got", "due"] sp_same1) :
    FnD P w C mg base 3 "_law_same" ["got", "due"] sp_same2 :=
  have nd := sc_law_same.nd
  (fnA_of (N := ["got", "due", "k"]) (n := 1) (t := r_law_same C sp_same1) F (F.bindsN fun _ _ _ _ _ _ us hl => match us, hl with | [_, _], _ => rfl) sc_law_same rfl ar_law_same_2 (fun cdv A outer s H E hr tk pw => by
    unfold r_law_same
    exact (dss_cons (ds_if (dt_is (de_var 1) de_non)
  (dss_one (ds_ret (de_is (de_var 0) de_non)))
  dss_nil)
  (dss_cons (ds_if (dt_tru rfl (de_isi rfl m_isinstance (da_cons (de_var 1) (da_cons (de_ty m_bool) da_nil))))
  (dss_one (ds_ret (de_and (de_isi rfl m_isinstance (da_cons (de_var 0) (da_cons (de_ty m_bool) da_nil))) (de_one (de_eq rfl hr (de_var 0) (de_var 1))))))
  dss_nil)
  (dss_cons (ds_if (dt_tru rfl (de_isi rfl m_isinstance (da_cons (de_var 1) (da_cons (de_ty m_int) da_nil))))
  (dss_one (ds_ret (de_and (de_call rfl F_law_number hr tk (da_cons (de_var 0) da_nil)) (de_one (de_eq rfl hr (de_var 0) (de_var 1))))))
  dss_nil)
  (dss_cons (ds_if (dt_tru rfl (de_isi rfl m_isinstance (da_cons (de_var 1) (da_cons (de_ty m_str) da_nil))))
  (dss_one (ds_ret (de_and (de_isi rfl m_isinstance (da_cons (de_var 0) (da_cons (de_ty m_str) da_nil))) (de_one (de_eq rfl hr (de_var 0) (de_var 1))))))
  dss_nil)
  (dss_cons (ds_if (dt_w (dw_and (dt_tru rfl (de_isi rfl m_isinstance (da_cons (de_var 1) (da_cons (de_ty m_list) da_nil)))) (dw_and1 (dt_not (dt_tru rfl (de_isi rfl m_isinstance (da_cons (de_var 0) (da_cons (de_ty m_list) da_nil))))))))
  (dss_one (ds_ret de_bl))
  dss_nil)
  (dss_cons (ds_if (dt_w (dw_and (dt_tru rfl (de_isi rfl m_isinstance (da_cons (de_var 1) (da_cons (de_ty m_tuple) da_nil)))) (dw_and1 (dt_not (dt_tru rfl (de_isi rfl m_isinstance (da_cons (de_var 0) (da_cons (de_ty m_tuple) da_nil))))))))
  (dss_one (ds_ret de_bl))
  dss_nil)
  (dss_cons (ds_if (dt_ne rfl hr (de_len rfl m_len (da_cons (de_var 0) da_nil)) (de_len rfl m_len (da_cons (de_var 1) da_nil)))
  (dss_one (ds_ret de_bl))
  dss_nil)
  (dss_cons (ds_for pw rfl (di_range1 m_range (de_len rfl m_len (da_cons (de_var 1) da_nil))) (dg_name 2 nd)
  (dss_one (ds_if (dt_not (dt_tru rfl (de_call rfl F_law_same hr tk (da_cons (de_item rfl (de_var 0) (de_var 2)) (da_cons (de_item rfl (de_var 1) (de_var 2)) da_nil)))))
  (dss_one (ds_ret de_bl))
  dss_nil)))
  (dss_one (ds_ret de_bl))))))))))) pure_law_same_2).glob gm
theorem ok_law_same3 {f : Addr} {fd : FuncData} (F : FunD C.K "_law_same" "_law_same" (defArgs s_law_same) (defBody s_law_same) (defScope s_law_same) [] [] f fd) (gm : mg "_law_same" = some (.ref f)) (m_bool : mg "bool" = none) (m_int : mg "int" = none) (m_isinstance : mg "isinstance" = none) (m_len : mg "len" = none) (m_list : mg "list" = none) (m_range : mg "range" = none) (m_str : mg "str" = none) (m_tuple : mg "tuple" = none) (F_law_number : FnD P w C mg base 1 "_law_number" ["got"] sp_law_number) (F_law_same : FnD P w C mg base 3 "_law_same" ["got", "due"] sp_same2) :
    FnD P w C mg base 4 "_law_same" ["got", "due"] sp_same3 :=
  have nd := sc_law_same.nd
  (fnA_of (N := ["got", "due", "k"]) (n := 1) (t := r_law_same C sp_same2) F (F.bindsN fun _ _ _ _ _ _ us hl => match us, hl with | [_, _], _ => rfl) sc_law_same rfl ar_law_same_3 (fun cdv A outer s H E hr tk pw => by
    unfold r_law_same
    exact (dss_cons (ds_if (dt_is (de_var 1) de_non)
  (dss_one (ds_ret (de_is (de_var 0) de_non)))
  dss_nil)
  (dss_cons (ds_if (dt_tru rfl (de_isi rfl m_isinstance (da_cons (de_var 1) (da_cons (de_ty m_bool) da_nil))))
  (dss_one (ds_ret (de_and (de_isi rfl m_isinstance (da_cons (de_var 0) (da_cons (de_ty m_bool) da_nil))) (de_one (de_eq rfl hr (de_var 0) (de_var 1))))))
  dss_nil)
  (dss_cons (ds_if (dt_tru rfl (de_isi rfl m_isinstance (da_cons (de_var 1) (da_cons (de_ty m_int) da_nil))))
  (dss_one (ds_ret (de_and (de_call rfl F_law_number hr tk (da_cons (de_var 0) da_nil)) (de_one (de_eq rfl hr (de_var 0) (de_var 1))))))
  dss_nil)
  (dss_cons (ds_if (dt_tru rfl (de_isi rfl m_isinstance (da_cons (de_var 1) (da_cons (de_ty m_str) da_nil))))
  (dss_one (ds_ret (de_and (de_isi rfl m_isinstance (da_cons (de_var 0) (da_cons (de_ty m_str) da_nil))) (de_one (de_eq rfl hr (de_var 0) (de_var 1))))))
  dss_nil)
  (dss_cons (ds_if (dt_w (dw_and (dt_tru rfl (de_isi rfl m_isinstance (da_cons (de_var 1) (da_cons (de_ty m_list) da_nil)))) (dw_and1 (dt_not (dt_tru rfl (de_isi rfl m_isinstance (da_cons (de_var 0) (da_cons (de_ty m_list) da_nil))))))))
  (dss_one (ds_ret de_bl))
  dss_nil)
  (dss_cons (ds_if (dt_w (dw_and (dt_tru rfl (de_isi rfl m_isinstance (da_cons (de_var 1) (da_cons (de_ty m_tuple) da_nil)))) (dw_and1 (dt_not (dt_tru rfl (de_isi rfl m_isinstance (da_cons (de_var 0) (da_cons (de_ty m_tuple) da_nil))))))))
  (dss_one (ds_ret de_bl))
  dss_nil)
  (dss_cons (ds_if (dt_ne rfl hr (de_len rfl m_len (da_cons (de_var 0) da_nil)) (de_len rfl m_len (da_cons (de_var 1) da_nil)))
  (dss_one (ds_ret de_bl))
  dss_nil)
  (dss_cons (ds_for pw rfl (di_range1 m_range (de_len rfl m_len (da_cons (de_var 1) da_nil))) (dg_name 2 nd)
  (dss_one (ds_if (dt_not (dt_tru rfl (de_call rfl F_law_same hr tk (da_cons (de_item rfl (de_var 0) (de_var 2)) (da_cons (de_item rfl (de_var 1) (de_var 2)) da_nil)))))
  (dss_one (ds_ret de_bl))
  dss_nil)))
  (dss_one (ds_ret de_bl))))))))))) pure_law_same_3).glob gm
theorem ok_law_same4 {f : Addr} {fd : FuncData} (F : FunD C.K "_law_same" "_law_same" (defArgs s_law_same) (defBody s_law_same) (defScope s_law_same) [] [] f fd) (gm : mg "_law_same" = some (.ref f)) (m_bool : mg "bool" = none) (m_int : mg "int" = none) (m_isinstance : mg "isinstance" = none) (m_len : mg "len" = none) (m_list : mg "list" = none) (m_range : mg "range" = none) (m_str : mg "str" = none) (m_tuple : mg "tuple" = none) (F_law_number : FnD P w C mg base 1 "_law_number" ["got"] sp_law_number) (F_law_same : FnD P w C mg base 4 "_law_same" ["got", "due"] sp_same3) :
    FnD P w C mg base 5 "_law_same" ["got", "due"] sp_same4 :=
  have nd := sc_law_same.nd
  (fnA_of (N := ["got", "due", "k"]) (n := 1) (t := r_law_same C sp_same3) F (F.bindsN fun _ _ _ _ _ _ us hl => match us, hl with | [_, _], _ => rfl) sc_law_same rfl ar_law_same_4 (fun cdv A outer s H E hr tk pw => by
    unfold r_law_same
    exact (dss_cons (ds_if (dt_is (de_var 1) de_non)
  (dss_one (ds_ret (de_is (de_var 0) de_non)))
  dss_nil)
  (dss_cons (ds_if (dt_tru rfl (de_isi rfl m_isinstance (da_cons (de_var 1) (da_cons (de_ty m_bool) da_nil))))
  (dss_one (ds_ret (de_and (de_isi rfl m_isinstance (da_cons (de_var 0) (da_cons (de_ty m_bool) da_nil))) (de_one (de_eq rfl hr (de_var 0) (de_var 1))))))
  dss_nil)
  (dss_cons (ds_if (dt_tru rfl (de_isi rfl m_isinstance (da_cons (de_var 1) (da_cons (de_ty m_int) da_nil))))
  (dss_one (ds_ret (de_and (de_call rfl F_law_number hr tk (da_cons (de_var 0) da_nil)) (de_one (de_eq rfl hr (de_var 0) (de_var 1))))))
  dss_nil)
  (dss_cons (ds_if (dt_tru rfl (de_isi rfl m_isinstance (da_cons (de_var 1) (da_cons (de_ty m_str) da_nil))))
  (dss_one (ds_ret (de_and (de_isi rfl m_isinstance (da_cons (de_var 0) (da_cons (de_ty m_str) da_nil))) (de_one (de_eq rfl hr (de_var 0) (de_var 1))))))
  dss_nil)
  (dss_cons (ds_if (dt_w (dw_and (dt_tru rfl (de_isi rfl m_isinstance (da_cons (de_var 1) (da_cons (de_ty m_list) da_nil)))) (dw_and1 (dt_not (dt_tru rfl (de_isi rfl m_isinstance (da_cons (de_var 0) (da_cons (de_ty m_list) da_nil))))))))
  (dss_one (ds_ret de_bl))
  dss_nil)
  (dss_cons (ds_if (dt_w (dw_and (dt_tru rfl (de_isi rfl m_isinstance (da_cons (de_var 1) (da_cons (de_ty m_tuple) da_nil)))) (dw_and1 (dt_not (dt_tru rfl (de_isi rfl m_isinstance (da_cons (de_var 0) (da_cons (de_ty m_tuple) da_nil))))))))
  (dss_one (ds_ret de_bl))
  dss_nil)
  (dss_cons (ds_if (dt_ne rfl hr (de_len rfl m_len (da_cons (de_var 0) da_nil)) (de_len rfl m_len (da_cons (de_var 1) da_nil)))
  (dss_one (ds_ret de_bl))
  dss_nil)
  (dss_cons (ds_for pw rfl (di_range1 m_range (de_len rfl m_len (da_cons (de_var 1) da_nil))) (dg_name 2 nd)
  (dss_one (ds_if (dt_not (dt_tru rfl (de_call rfl F_law_same hr tk (da_cons (de_item rfl (de_var 0) (de_var 2)) (da_cons (de_item rfl (de_var 1) (de_var 2)) da_nil)))))
  (dss_one (ds_ret de_bl))
  dss_nil)))
  (dss_one (ds_ret de_bl))))))))))) pure_law_same_4).glob gm
theorem ok_law_is_book {f : Addr} {fd : FuncData} (F : FunD C.K "_law_is_book" "_law_is_book" (defArgs s_law_is_book) (defBody s_law_is_book) (defScope s_law_is_book) [] [] f fd) (gm : mg "_law_is_book" = some (.ref f)) (m_isinstance : mg "isinstance" = none) (F_law_same : FnD P w C mg base 5 "_law_same" ["got", "due"] sp_same4) (g_Book : mg "Book" = some (.ref (C.ca "Book"))) :
    FnD P w C mg base 6 "_law_is_book" ["got", "rows", "span"] sp_law_is_book :=
  have nd := sc_law_is_book.nd
  (fnA_of (N := ["got", "rows", "span"]) (n := 0) (t := r_law_is_book C) F (F.bindsN fun _ _ _ _ _ _ us hl => match us, hl with | [_, _, _], _ => rfl) sc_law_is_book rfl ar_law_is_book (fun cdv A outer s H E hr tk pw => by
    unfold r_law_is_book
    exact (dss_cons (ds_if (dt_not (dt_tru rfl (de_isiO rfl m_isinstance (da_cons (de_var 0) (da_cons (de_cls g_Book) da_nil)))))
  (dss_one (ds_ret de_bl))
  dss_nil)
  (dss_one (ds_ret (de_and (de_call rfl F_law_same hr tk (da_cons (de_fld rfl (de_var 0)) (da_cons (de_var 1) da_nil))) (de_one (de_call rfl F_law_same hr tk (da_cons (de_fld rfl (de_var 0)) (da_cons (de_var 2) da_nil))))))))) pure_law_is_book).glob gm
theorem ok_law_gone {f : Addr} {fd : FuncData} (F : FunD C.K "_law_gone" "_law_gone" (defArgs s_law_gone) (defBody s_law_gone) (defScope s_law_gone) [] [] f fd) (gm : mg "_law_gone" = some (.ref f)) (m_len : mg "len" = none) (m_range : mg "range" = none) :
    FnD P w C mg base 1 "_law_gone" ["nexts", "crew", "span", "start", "m"] sp_law_gone :=
  have nd := sc_law_gone.nd
  (fnA_of (N := ["nexts", "crew", "span", "start", "m", "row", "i", "u"]) (n := 3) (t := r_law_gone C) F (F.bindsN fun _ _ _ _ _ _ us hl => match us, hl with | [_, _, _, _, _], _ => rfl) sc_law_gone rfl ar_law_gone (fun cdv A outer s H E hr tk pw => by
    unfold r_law_gone
    exact (dss_cons (ds_set 5 nd (de_lst (o := true) da_nil))
  (dss_cons (ds_for pw rfl (di_range1 m_range (de_len rfl m_len (da_cons (de_var 0) da_nil))) (dg_name 6 nd)
  (dss_cons (ds_set 7 nd (de_item rfl (de_var 0) (de_var 6)))
  (dss_cons (ds_if (dt_in rfl hr (de_var 6) (de_var 1))
  (dss_one (ds_set 7 nd (de_add false rfl (de_var 3) (de_var 2))))
  (dss_one (ds_if (dt_lt (de_var 7) (de_add false rfl (de_var 3) (de_var 2)))
  (dss_one (ds_set 7 nd (de_add false rfl (de_var 7) (de_mul false (de_var 4) (de_div (de_sub (de_add false rfl (de_sub (de_add false rfl (de_var 3) (de_var 2)) (de_var 7)) (de_var 4)) de_int) (de_var 4))))))
  dss_nil)))
  (dss_one (ds_expr (de_append (de_var 5) (da_cons (de_var 7) da_nil)))))))
  (dss_one (ds_ret (de_frz (de_var 5))))))) pure_law_gone).glob gm
theorem ok_law_led {f : Addr} {fd : FuncData} (F : FunD C.K "_law_led" "_law_led" (defArgs s_law_led) (defBody s_law_led) (defScope s_law_led) [] [] f fd) (gm : mg "_law_led" = some (.ref f)) (m_int : mg "int" = none) (m_list : mg "list" = none) (m_range : mg "range" = none) (m_sorted : mg "sorted" = none) (m_tuple : mg "tuple" = none) (F_law_gone : FnD P w C mg base 1 "_law_gone" ["nexts", "crew", "span", "start", "m"] sp_law_gone) :
    FnD P w C mg base 2 "_law_led" ["plan", "lists", "span"] sp_law_led :=
  have nd := sc_law_led.nd
  (fnA_of (N := ["plan", "lists", "span", "nexts", "rows", "start", "ahead", "crew", "i"]) (n := 6) (t := r_law_led C) F (F.bindsN fun _ _ _ _ _ _ us hl => match us, hl with | [_, _, _], _ => rfl) sc_law_led rfl ar_law_led (fun cdv A outer s H E hr tk pw => by
    unfold r_law_led
    exact (dss_cons (ds_set 3 nd (de_list false rfl m_list (da_cons (de_item rfl (de_var 0) de_int) da_nil)))
  (dss_cons (ds_set 4 nd (de_lst (o := true) da_nil))
  (dss_cons (ds_for pw rfl (di_range2 m_range de_int (de_add false rfl (de_var 2) de_int)) (dg_name 5 nd)
  (dss_cons (ds_setLc1 (o := false) 8 6 rfl nd rfl rfl (sw_true rfl rfl rfl (by decide +kernel)) (di_seq rfl (de_item rfl (de_var 1) (de_mod (de_intC m_int (da_cons (de_sub (de_var 5) de_int) da_nil)) (de_item rfl (de_var 0) de_int)))) (blkOk_by (by kernel_rfl)) (fun _ _ _ _ _ => pg_name (i := 8) nd rfl (Or.inl rfl)) (fun _ _ _ _ _ => dts_one (dt_eq rfl hr (de_item rfl (de_var 3) (de_var 8)) (de_var 5))) (fun _ _ _ _ _ => (de_var 8)))
  (dss_cons (ds_set 7 nd (de_tuple rfl m_tuple (da_cons (de_sorted false m_sorted (da_cons (de_slice false rfl (de_var 6) do_none (do_some (de_item rfl (de_var 0) de_int))) da_nil)) da_nil)))
  (dss_cons (ds_set 3 nd (de_call rfl F_law_gone hr tk (da_cons (de_var 3) (da_cons (de_var 7) (da_cons de_int (da_cons (de_var 5) (da_cons (de_item rfl (de_var 0) de_int) da_nil)))))))
  (dss_one (ds_if (dt_w (dw_and (dt_ne rfl hr (de_var 4) (de_lst (o := false) da_nil)) (dw_and1 (dt_eq rfl hr (de_item rfl (de_item rfl (de_var 4) (de_neg de_int)) de_int) (de_var 7)))))
  (dss_one (ds_asg (de_tup (da_cons (de_add false rfl (de_item rfl (de_item rfl (de_var 4) (de_neg de_int)) de_int) de_int) (da_cons (de_var 7) da_nil))) (dg_sub (de_var 4) (de_neg de_int))))
  (dss_one (ds_expr (de_append (de_var 4) (da_cons (de_tup (da_cons de_int (da_cons (de_var 7) da_nil))) da_nil))))))))))
  (dss_one (ds_ret (de_tuple rfl m_tuple (da_cons (de_var 4) da_nil)))))))) pure_law_led).glob gm
theorem ok_law_lists {f : Addr} {fd : FuncData} (F : FunD C.K "_law_lists" "_law_lists" (defArgs s_law_lists) (defBody s_law_lists) (defScope s_law_lists) [] [] f fd) (gm : mg "_law_lists" = some (.ref f)) (m_len : mg "len" = none) (m_list : mg "list" = none) (m_range : mg "range" = none) (F_law_take : FnD P w C mg base 1 "_law_take" ["pool", "limit"] sp_law_take) :
    FnD P w C mg base 2 "_law_lists" ["pool", "plan"] sp_law_lists :=
  have nd := sc_law_lists.nd
  (fnA_of (N := ["pool", "plan", "rows", "c", "rest", "row", "k"]) (n := 5) (t := r_law_lists C) F (F.bindsN fun _ _ _ _ _ _ us hl => match us, hl with | [_, _], _ => rfl) sc_law_lists rfl ar_law_lists (fun cdv A outer s H E hr tk pw => by
    unfold r_law_lists
    exact (dss_cons (ds_set 2 nd (de_lst (o := true) da_nil))
  (dss_cons (ds_for pw rfl (di_range1 m_range (de_item rfl (de_var 1) de_int)) (dg_name 3 nd)
  (dss_cons (ds_set 4 nd (de_listR1 true rfl m_list m_range (de_len rfl m_len (da_cons (de_item rfl (de_var 1) de_int) da_nil))))
  (dss_cons (ds_set 5 nd (de_lst (o := true) da_nil))
  (dss_cons (ds_for pw rfl (di_range1 m_range (de_len rfl m_len (da_cons (de_item rfl (de_var 1) de_int) da_nil))) (dg_name 6 nd)
  (dss_one (ds_expr (de_append (de_var 5) (da_cons (de_pop1 (de_var 4) (da_cons (de_call rfl F_law_take hr tk (da_cons (de_var 0) (da_cons (de_len rfl m_len (da_cons (de_var 4) da_nil)) da_nil))) da_nil)) da_nil)))))
  (dss_one (ds_expr (de_append (de_var 2) (da_cons (de_frz (de_var 5)) da_nil))))))))
  (dss_one (ds_ret (de_frz (de_var 2))))))) pure_law_lists).glob gm
theorem ok_law_pool {f : Addr} {fd : FuncData} (F : FunD C.K "_law_pool" "_law_pool" (defArgs s_law_pool) (defBody s_law_pool) (defScope s_law_pool) [] [] f fd) (gm : mg "_law_pool" = some (.ref f)) (m_list : mg "list" = none) :
    FnD P w C mg base 1 "_law_pool" ["script"] sp_law_pool :=
  have nd := sc_law_pool.nd
  (fnA_of (N := ["script"]) (n := 0) (t := r_law_pool C) F (F.bindsN fun _ _ _ _ _ _ us hl => match us, hl with | [_], _ => rfl) sc_law_pool rfl ar_law_pool (fun cdv A outer s H E hr tk pw => by
    unfold r_law_pool
    exact (dss_one (ds_ret (de_lst (o := true) (da_cons de_int (da_cons de_int (da_cons de_int (da_cons de_int (da_cons (de_list false rfl m_list (da_cons (de_var 0) da_nil)) da_nil))))))))) pure_law_pool).glob gm
theorem ok_law_refused {f : Addr} {fd : FuncData} (F : FunD C.K "_law_refused" "_law_refused" (defArgs s_law_refused) (defBody s_law_refused) (defScope s_law_refused) [] [] f fd) (gm : mg "_law_refused" = some (.ref f)) (m_len : mg "len" = none) (m_list : mg "list" = none) (m_range : mg "range" = none) (m_sorted : mg "sorted" = none) :
    FnD P w C mg base 1 "_law_refused" ["plan", "lists", "span"] sp_law_refused :=
  have nd := sc_law_refused.nd
  (fnA_of (N := ["plan", "lists", "span", "n", "c"]) (n := 2) (t := r_law_refused C) F (F.bindsN fun _ _ _ _ _ _ us hl => match us, hl with | [_, _, _], _ => rfl) sc_law_refused rfl ar_law_refused (fun cdv A outer s H E hr tk pw => by
    unfold r_law_refused
    exact (dss_cons (ds_set 3 nd (de_len rfl m_len (da_cons (de_item rfl (de_var 0) de_int) da_nil)))
  (dss_cons (ds_if (dt_gt (de_var 3) de_int)
  (dss_one (ds_ret (de_tup (da_cons de_str (da_cons de_str (da_cons (de_var 3) (da_cons de_str da_nil)))))))
  dss_nil)
  (dss_cons (ds_if (dt_gt (de_item rfl (de_var 0) de_int) de_int)
  (dss_one (ds_ret (de_tup (da_cons de_str (da_cons de_str (da_cons (de_item rfl (de_var 0) de_int) (da_cons de_str da_nil)))))))
  dss_nil)
  (dss_cons (ds_if (dt_ne rfl hr (de_len rfl m_len (da_cons (de_var 1) da_nil)) (de_item rfl (de_var 0) de_int))
  (dss_one (ds_ret (de_tup (da_cons de_str (da_cons de_str (da_cons (de_len rfl m_len (da_cons (de_var 1) da_nil)) (da_cons de_str da_nil)))))))
  dss_nil)
  (dss_cons (ds_for pw rfl (di_range1 m_range (de_len rfl m_len (da_cons (de_var 1) da_nil))) (dg_name 4 nd)
  (dss_one (ds_if (dt_ne rfl hr (de_sorted false m_sorted (da_cons (de_item rfl (de_var 1) (de_var 4)) da_nil)) (de_listR1 false rfl m_list m_range (de_var 3)))
  (dss_one (ds_ret (de_tup (da_cons de_str (da_cons de_str (da_cons (de_add false rfl (de_var 4) de_int) (da_cons de_str da_nil)))))))
  dss_nil)))
  (dss_cons (ds_if (dt_w (dw_or (dt_lt (de_var 2) de_int) (dw_or1 (dt_gt (de_var 2) de_int))))
  (dss_one (ds_ret (de_tup (da_cons de_str (da_cons de_str (da_cons (de_var 2) (da_cons de_str da_nil)))))))
  dss_nil)
  (dss_one (ds_ret (de_tup da_nil)))))))))) pure_law_refused).glob gm
theorem ok_law {f : Addr} {fd : FuncData} (F : FunD C.K "law" "law" (defArgs s_law) (defBody s_law) (defScope s_law) [] [] f fd) (m_len : mg "len" = none) (m_list : mg "list" = none) (m_max : mg "max" = none) (m_min : mg "min" = none) (m_tuple : mg "tuple" = none) (F_law_ask : FnD P w C mg base 7 "_law_ask" ["plan", "lists", "span"] sp_law_ask) (F_law_bent_lists : FnD P w C mg base 2 "_law_bent_lists" ["pool", "plan", "lists"] sp_law_bent_lists) (F_law_by_base : FnD P w C mg base 7 "_law_by_base" ["plan", "lists", "span"] sp_law_by_base) (F_law_depot : FnD P w C mg base 2 "_law_depot" ["pool", "drivers", "period"] sp_law_depot) (F_law_is_book : FnD P w C mg base 6 "_law_is_book" ["got", "rows", "span"] sp_law_is_book) (F_law_led : FnD P w C mg base 2 "_law_led" ["plan", "lists", "span"] sp_law_led) (F_law_lists : FnD P w C mg base 2 "_law_lists" ["pool", "plan"] sp_law_lists) (F_law_pool : FnD P w C mg base 1 "_law_pool" ["script"] sp_law_pool) (F_law_refused : FnD P w C mg base 1 "_law_refused" ["plan", "lists", "span"] sp_law_refused) (F_law_same : FnD P w C mg base 5 "_law_same" ["got", "due"] sp_same4) (F_law_take : FnD P w C mg base 1 "_law_take" ["pool", "limit"] sp_law_take) :
    FnOk P w C.K mg base (L2.CX P w) 8 f fd ["script"] (liftP C sp_law) :=
  have nd := sc_law.nd
  (fnOk_of (N := ["script", "pool", "lists", "span", "way", "bad", "due", "rows", "given", "got", "c", "plan", "row"]) (n := 12) (t := r_law C) F sc_law rfl ar_law (fun cdv A outer s H E hr tk pw => by
    unfold r_law
    exact (dss_cons (ds_set 1 nd (de_call rfl F_law_pool hr tk (da_cons (de_var 0) da_nil)))
  (dss_cons (ds_if (dt_eq rfl hr (de_call rfl F_law_take hr tk (da_cons (de_var 1) (da_cons de_int da_nil))) de_int)
  (dss_one (ds_set 11 nd (de_call rfl F_law_depot hr tk (da_cons (de_var 1) (da_cons de_int (da_cons de_int da_nil))))))
  (dss_one (ds_set 11 nd (de_call rfl F_law_depot hr tk (da_cons (de_var 1) (da_cons de_int (da_cons de_int da_nil)))))))
  (dss_cons (ds_set 2 nd (de_call rfl F_law_lists hr tk (da_cons (de_var 1) (da_cons (de_var 11) da_nil))))
  (dss_cons (ds_set 3 nd (de_call rfl F_law_take hr tk (da_cons (de_var 1) (da_cons de_int da_nil))))
  (dss_cons (ds_set 4 nd (de_call rfl F_law_take hr tk (da_cons (de_var 1) (da_cons de_int da_nil))))
  (dss_cons (ds_if (dt_lt (de_var 4) de_int)
  (dss_one (ds_set 3 nd (de_call rfl F_law_take hr tk (da_cons (de_var 1) (da_cons de_int da_nil)))))
  dss_nil)
  (dss_cons (ds_if (dt_eq rfl hr (de_var 4) de_int)
  (dss_one (ds_set 3 nd (de_item rfl (de_lst (o := false) (da_cons (de_neg de_int) (da_cons de_int (da_cons (de_pow de_int de_int) (da_cons (de_add false rfl (de_pow de_int de_int) de_int) da_nil))))) (de_call rfl F_law_take hr tk (da_cons (de_var 1) (da_cons de_int da_nil))))))
  dss_nil)
  (dss_cons (ds_set 5 nd (de_var 2))
  (dss_cons (ds_if (dt_eq rfl hr (de_call rfl F_law_take hr tk (da_cons (de_var 1) (da_cons de_int da_nil))) de_int)
  (dss_one (ds_set 5 nd (de_call rfl F_law_bent_lists hr tk (da_cons (de_var 1) (da_cons (de_var 11) (da_cons (de_var 2) da_nil))))))
  dss_nil)
  (dss_cons (ds_set 6 nd (de_call rfl F_law_refused hr tk (da_cons (de_var 11) (da_cons (de_var 5) (da_cons (de_var 3) da_nil)))))
  (dss_cons (ds_if (dt_ne rfl hr (de_var 6) (de_tup da_nil))
  (dss_cons (ds_if (dt_not (dt_tru rfl (de_call rfl F_law_same hr tk (da_cons (de_call rfl F_law_ask hr tk (da_cons (de_var 11) (da_cons (de_lc1 (o := false) 12 rfl nd (di_seq rfl (de_var 5)) (blkOk_by (by kernel_rfl)) (fun _ _ _ _ _ => pg_name (i := 12) nd rfl (Or.inl rfl)) (fun _ _ _ _ _ => dts_nil) (fun _ _ _ _ _ => (de_list false rfl m_list (da_cons (de_var 12) da_nil)))) (da_cons (de_var 3) da_nil)))) (da_cons (de_var 6) da_nil)))))
  (dss_one (ds_ret de_bl))
  dss_nil)
  (dss_one (ds_if (dt_not (dt_tru rfl (de_call rfl F_law_by_base hr tk (da_cons (de_var 11) (da_cons (de_lc1 (o := false) 12 rfl nd (di_seq rfl (de_var 5)) (blkOk_by (by kernel_rfl)) (fun _ _ _ _ _ => pg_name (i := 12) nd rfl (Or.inl rfl)) (fun _ _ _ _ _ => dts_nil) (fun _ _ _ _ _ => (de_tuple rfl m_tuple (da_cons (de_var 12) da_nil)))) (da_cons (de_var 3) da_nil))))))
  (dss_one (ds_ret de_bl))
  dss_nil)))
  dss_nil)
  (dss_cons (ds_if (dt_w (dw_or (dt_gt (de_len rfl m_len (da_cons (de_item rfl (de_var 11) de_int) da_nil)) de_int) (dw_or1 (dt_gt (de_item rfl (de_var 11) de_int) de_int))))
  (dss_one (ds_ret de_bl))
  dss_nil)
  (dss_cons (ds_set 3 nd (de_max2 rfl m_max (da_cons de_int (da_cons (de_min2 rfl m_min (da_cons (de_var 3) (da_cons de_int da_nil))) da_nil))))
  (dss_cons (ds_set 7 nd (de_call rfl F_law_led hr tk (da_cons (de_var 11) (da_cons (de_var 2) (da_cons (de_var 3) da_nil)))))
  (dss_cons (ds_if (dt_not (dt_tru rfl (de_call rfl F_law_is_book hr tk (da_cons (de_call rfl F_law_ask hr tk (da_cons (de_var 11) (da_cons (de_tuple rfl m_tuple (da_cons (de_lc1 (o := false) 12 rfl nd (di_seq rfl (de_var 2)) (blkOk_by (by kernel_rfl)) (fun _ _ _ _ _ => pg_name (i := 12) nd rfl (Or.inl rfl)) (fun _ _ _ _ _ => dts_nil) (fun _ _ _ _ _ => (de_tuple rfl m_tuple (da_cons (de_var 12) da_nil)))) da_nil)) (da_cons (de_var 3) da_nil)))) (da_cons (de_var 7) (da_cons (de_var 3) da_nil))))))
  (dss_one (ds_ret de_bl))
  dss_nil)
  (dss_cons (ds_setLc1 (o := true) 12 8 rfl nd rfl rfl (sw_true rfl rfl rfl (by decide +kernel)) (di_seq rfl (de_var 2)) (blkOk_by (by kernel_rfl)) (fun _ _ _ _ _ => pg_name (i := 12) nd rfl (Or.inl rfl)) (fun _ _ _ _ _ => dts_nil) (fun _ _ _ _ _ => (de_list true rfl m_list (da_cons (de_var 12) da_nil))))
  (dss_cons (ds_set 9 nd (de_call rfl F_law_ask hr tk (da_cons (de_var 11) (da_cons (de_var 8) (da_cons (de_var 3) da_nil)))))
  (dss_cons (ds_if (dt_w (dw_or (dt_not (dt_tru rfl (de_call rfl F_law_is_book hr tk (da_cons (de_var 9) (da_cons (de_var 7) (da_cons (de_var 3) da_nil)))))) (dw_or1 (dt_ne rfl hr (de_var 8) (de_var 2)))))
  (dss_one (ds_ret de_bl))
  dss_nil)
  (dss_cons (ds_set 10 nd (de_call rfl F_law_take hr tk (da_cons (de_var 1) (da_cons (de_item rfl (de_var 11) de_int) da_nil))))
  (dss_cons (ds_expr (de_append (de_item rfl (de_var 8) (de_var 10)) (da_cons (de_pop1 (de_item rfl (de_var 8) (de_var 10)) (da_cons de_int da_nil)) da_nil)))
  (dss_cons (ds_if (dt_not (dt_tru rfl (de_call rfl F_law_is_book hr tk (da_cons (de_var 9) (da_cons (de_var 7) (da_cons (de_var 3) da_nil))))))
  (dss_one (ds_ret de_bl))
  dss_nil)
  (dss_one (ds_ret (de_call rfl F_law_is_book hr tk (da_cons (de_call rfl F_law_ask hr tk (da_cons (de_var 11) (da_cons (de_var 8) (da_cons (de_var 3) da_nil)))) (da_cons (de_call rfl F_law_led hr tk (da_cons (de_var 11) (da_cons (de_var 8) (da_cons (de_var 3) da_nil)))) (da_cons (de_var 3) da_nil)))))))))))))))))))))))))))) pure_law)
end
end K

namespace K
open PySem PySem.Spec L2 OD
open PyProof.Rows hiding St
section
open PySem.W PySem.Calls
abbrev R : OpenRow := OpenLaw.row PySem.Challenge.rw_outagain_k73_led_books
def names : List PySem.Str := (["OutagainError", "OutOfRange", "BadDepot", "BadBook", "BadLists", "Book", "Depot", "_wall", "check_days", "join_rows", "check_runners", "checked_stretches", "is_between", "check_led", "is_order", "check_lists", "led_morning", "led_runners", "lead", "check_numbers", "check_firsts", "_law_number", "_law_same", "_law_pool", "_law_take", "_law_depot", "_law_gone", "_law_lists"] : List PySem.Str) ++ (["_law_bent_lists", "_law_refused", "_law_led", "_law_ask", "_law_by_base", "_law_is_book", "MOST_DAYS", "MOST_STRETCHES", "MOST_LISTED", "HIGHEST_RUNNER", "MOST_LED_DRIVERS", "MOST_LED_PERIOD", "MOST_LED_DAYS", "MOST_QUOTA"] : List PySem.Str)
def d_check_firsts : He5.DefA := ⟨fun K => He.ga K "check_firsts", "check_firsts", "check_firsts", defArgs s_check_firsts, defBody s_check_firsts, defScope s_check_firsts, [], []⟩
def d_check_numbers : He5.DefA := ⟨fun K => He.ga K "check_numbers", "check_numbers", "check_numbers", defArgs s_check_numbers, defBody s_check_numbers, defScope s_check_numbers, [], []⟩
def d_Depot___init__ : He5.DefA := ⟨fun K => He.ma K (He.ga K "Depot") "__init__", "__init__", "Depot.__init__", defArgs s_Depot___init__, defBody s_Depot___init__, defScope s_Depot___init__, [], []⟩
def d_check_runners : He5.DefA := ⟨fun K => He.ga K "check_runners", "check_runners", "check_runners", defArgs s_check_runners, defBody s_check_runners, defScope s_check_runners, [], []⟩
def d_checked_stretches : He5.DefA := ⟨fun K => He.ga K "checked_stretches", "checked_stretches", "checked_stretches", defArgs s_checked_stretches, defBody s_checked_stretches, defScope s_checked_stretches, [], []⟩
def d_join_rows : He5.DefA := ⟨fun K => He.ga K "join_rows", "join_rows", "join_rows", defArgs s_join_rows, defBody s_join_rows, defScope s_join_rows, [], []⟩
def d_Book___init__ : He5.DefA := ⟨fun K => He.ma K (He.ga K "Book") "__init__", "__init__", "Book.__init__", defArgs s_Book___init__, defBody s_Book___init__, defScope s_Book___init__, [], []⟩
def d_Book_of_rows : He5.DefA := ⟨fun K => He5.wf K (He.ga K "Book") "staticmethod" "of_rows", "of_rows", "Book.of_rows", defArgs s_Book_of_rows, defBody s_Book_of_rows, defScope s_Book_of_rows, [], []⟩
def d_check_days : He5.DefA := ⟨fun K => He.ga K "check_days", "check_days", "check_days", defArgs s_check_days, defBody s_check_days, defScope s_check_days, [], []⟩
def d_Depot_size : He5.DefA := ⟨fun K => pgA K "Depot" "size", "size", "Depot.size", defArgs s_Depot_size, defBody s_Depot_size, defScope s_Depot_size, [], []⟩
def d_check_led : He5.DefA := ⟨fun K => He.ga K "check_led", "check_led", "check_led", defArgs s_check_led, defBody s_check_led, defScope s_check_led, [], []⟩
def d_is_between : He5.DefA := ⟨fun K => He.ga K "is_between", "is_between", "is_between", defArgs s_is_between, defBody s_is_between, defScope s_is_between, [], []⟩
def d_is_order : He5.DefA := ⟨fun K => He.ga K "is_order", "is_order", "is_order", defArgs s_is_order, defBody s_is_order, defScope s_is_order, [], []⟩
def d_check_lists : He5.DefA := ⟨fun K => He.ga K "check_lists", "check_lists", "check_lists", defArgs s_check_lists, defBody s_check_lists, defScope s_check_lists, [], []⟩
def d_led_morning : He5.DefA := ⟨fun K => He.ga K "led_morning", "led_morning", "led_morning", defArgs s_led_morning, defBody s_led_morning, defScope s_led_morning, [], []⟩
def d_led_runners : He5.DefA := ⟨fun K => He.ga K "led_runners", "led_runners", "led_runners", defArgs s_led_runners, defBody s_led_runners, defScope s_led_runners, [], []⟩
def d_lead : He5.DefA := ⟨fun K => He.ga K "lead", "lead", "lead", defArgs s_lead, defBody s_lead, defScope s_lead, [], []⟩
def d_law_ask : He5.DefA := ⟨fun K => He.ga K "_law_ask", "_law_ask", "_law_ask", defArgs s_law_ask, defBody s_law_ask, defScope s_law_ask, [], []⟩
def d_law_take : He5.DefA := ⟨fun K => He.ga K "_law_take", "_law_take", "_law_take", defArgs s_law_take, defBody s_law_take, defScope s_law_take, [], []⟩
def d_law_bent_lists : He5.DefA := ⟨fun K => He.ga K "_law_bent_lists", "_law_bent_lists", "_law_bent_lists", defArgs s_law_bent_lists, defBody s_law_bent_lists, defScope s_law_bent_lists, [], []⟩
def d_law_by_base : He5.DefA := ⟨fun K => He.ga K "_law_by_base", "_law_by_base", "_law_by_base", defArgs s_law_by_base, defBody s_law_by_base, defScope s_law_by_base, [], []⟩
def d_law_depot : He5.DefA := ⟨fun K => He.ga K "_law_depot", "_law_depot", "_law_depot", defArgs s_law_depot, defBody s_law_depot, defScope s_law_depot, [], []⟩
def d_law_number : He5.DefA := ⟨fun K => He.ga K "_law_number", "_law_number", "_law_number", defArgs s_law_number, defBody s_law_number, defScope s_law_number, [], []⟩
def d_law_same : He5.DefA := ⟨fun K => He.ga K "_law_same", "_law_same", "_law_same", defArgs s_law_same, defBody s_law_same, defScope s_law_same, [], []⟩
def d_law_is_book : He5.DefA := ⟨fun K => He.ga K "_law_is_book", "_law_is_book", "_law_is_book", defArgs s_law_is_book, defBody s_law_is_book, defScope s_law_is_book, [], []⟩
def d_law_gone : He5.DefA := ⟨fun K => He.ga K "_law_gone", "_law_gone", "_law_gone", defArgs s_law_gone, defBody s_law_gone, defScope s_law_gone, [], []⟩
def d_law_led : He5.DefA := ⟨fun K => He.ga K "_law_led", "_law_led", "_law_led", defArgs s_law_led, defBody s_law_led, defScope s_law_led, [], []⟩
def d_law_lists : He5.DefA := ⟨fun K => He.ga K "_law_lists", "_law_lists", "_law_lists", defArgs s_law_lists, defBody s_law_lists, defScope s_law_lists, [], []⟩
def d_law_pool : He5.DefA := ⟨fun K => He.ga K "_law_pool", "_law_pool", "_law_pool", defArgs s_law_pool, defBody s_law_pool, defScope s_law_pool, [], []⟩
def d_law_refused : He5.DefA := ⟨fun K => He.ga K "_law_refused", "_law_refused", "_law_refused", defArgs s_law_refused, defBody s_law_refused, defScope s_law_refused, [], []⟩
def d_law : He5.DefA := ⟨fun K => He.ga K "law", "law", "law", defArgs s_law, defBody s_law, defScope s_law, [], []⟩
def x_OutOfRange : SupD := supOf "OutOfRange" "OutOfRange.__init__" (inClass (top 3) 0)
def x_BadDepot : SupD := supOf "BadDepot" "BadDepot.__init__" (inClass (top 4) 0)
def x_BadLists : SupD := supOf "BadLists" "BadLists.__init__" (inClass (top 6) 0)
def lawBs (K : Frag) : List Bool := ([fldB K "Book" "days", fldB K "Book" "stretches", fldB K "Depot" "firsts", fldB K "Depot" "period", fldB K "Depot" "quota", exmB K "BadLists" "BadLists" true, exmB K "BadLists" "OutOfRange" false, exmB K "BadLists" "OutagainError" true, exmB K "OutOfRange" "BadLists" false, exmB K "OutOfRange" "OutOfRange" true, exmB K "OutOfRange" "OutagainError" true, xfB K "BadLists" "at", xfB K "BadLists" "code", xfB K "OutOfRange" "at", xfB K "OutOfRange" "code", isoB K "Book" "Book" true, isoB K "Depot" "Book" false, isxB K "BadLists" "ValueError" true, isxB K "OutOfRange" "ValueError" true] : List Bool)
def lawB (K : Frag) : Bool := (lawBs K).all id
theorem lawF_of {K : Frag} (hB : lawB K = true) : LawF ⟨K, He.ga K⟩ := by
  have h : ∀ (i : Nat) {b : Bool}, (lawBs K)[i]? = some b → b = true := fun i b e => List.all_eq_true.mp hB b (List.mem_of_getElem? e)
  exact ⟨fldB_ok (h 0 rfl), fldB_ok (h 1 rfl), fldB_ok (h 2 rfl), fldB_ok (h 3 rfl), fldB_ok (h 4 rfl), exmB_ok (h 5 rfl), exmB_ok (h 6 rfl), exmB_ok (h 7 rfl), exmB_ok (h 8 rfl), exmB_ok (h 9 rfl), exmB_ok (h 10 rfl), xfB_ok (h 11 rfl), xfB_ok (h 12 rfl), xfB_ok (h 13 rfl), xfB_ok (h 14 rfl), isoB_ok (h 15 rfl), isoB_ok (h 16 rfl), isxB_ok (h 17 rfl), isxB_ok (h 18 rfl)⟩

def proBs (K : Frag) : List Bool := [proB K "Depot" "size", cvB K "Depot" "MOST_DRIVERS" 12, cvB K "Depot" "MOST_PERIOD" 8, staB K "Book" "of_rows", true]
def allB (K : Frag) : Bool := lawB K && (proBs K).all id
def fas : List He.Fa := ([.glo "check_firsts", .glo "check_numbers", .glo "check_runners", .glo "checked_stretches", .glo "join_rows", .glo "check_days", .glo "check_led", .glo "is_between", .glo "is_order", .glo "check_lists", .glo "led_morning", .glo "led_runners", .glo "lead", .glo "_law_ask", .glo "_law_take", .glo "_law_bent_lists", .glo "_law_by_base", .glo "_law_depot", .glo "_law_number", .glo "_law_same", .glo "_law_is_book", .glo "_law_gone", .glo "_law_led", .glo "_law_lists", .glo "_law_pool", .glo "_law_refused", .glo "law", .glo "OutagainError"] : List He.Fa) ++ ([.glo "OutOfRange", .glo "BadDepot", .glo "BadBook", .glo "BadLists", .glo "Book", .glo "Depot", .free "ValueError", .free "abs", .free "bool", .free "enumerate", .free "int", .free "isinstance", .free "len", .free "list", .free "max", .free "min", .free "range", .free "sorted", .free "str", .free "sum", .free "super", .free "tuple", .int "HIGHEST_RUNNER" 11, .int "MOST_DAYS" 1000000000000000000000000000000, .int "MOST_LED_DAYS" 400, .int "MOST_LED_DRIVERS" 6, .int "MOST_LED_PERIOD" 6, .int "MOST_QUOTA" 12] : List He.Fa) ++ ([.int "MOST_STRETCHES" 400, .noat "OutOfRange" "at", .noat "OutOfRange" "code", .noat "BadDepot" "at", .noat "BadDepot" "code", .noat "BadLists" "at", .noat "BadLists" "code", .mkr "Depot", .mkr "Book", .cls "Depot"] : List He.Fa)
def hkx : HkY := ⟨PySem.Challenge.pw_outagain_k73_led_books.main.file, fas, [d_check_firsts, d_check_numbers, d_Depot___init__, d_check_runners, d_checked_stretches, d_join_rows, d_Book___init__, d_Book_of_rows, d_check_days, d_Depot_size, d_check_led, d_is_between, d_is_order, d_check_lists, d_led_morning, d_led_runners, d_lead, d_law_ask, d_law_take, d_law_bent_lists, d_law_by_base, d_law_depot, d_law_number, d_law_same, d_law_is_book, d_law_gone, d_law_led, d_law_lists, d_law_pool, d_law_refused, d_law], [x_OutOfRange, x_BadDepot, x_BadLists], allB⟩
abbrev hk : Hook := hookY 5 hkx
def ob (s : SharedT) : AlY := obsYG 5 hkx (HandSHeadRun.getT s)
theorem ob_eq (s : SharedT) : ob s = hk.obs s.abs := obsYG_eq (HandSHeadRun.getT_eq s)
theorem run (w : World) : HandSHeadRun.RunEq R (view R.prog [52]) hk ob 40000 names w := by
  intro os
  kernel_rfl
end
end K

namespace K
open PySem PySem.Spec L2 OD
open PyProof.Rows hiding St
theorem exc0_ok {K : PySem.W.Frag} {mg : Str → Option Value} {x : Str} (c : (He.Fa.exc x).ok K = true) (g : mg x = some (.ref (He.ga K x))) : Ex0 ⟨K, He.ga K⟩ mg x := by
  have c2 : (PySem.W.excIn K (He.ga K x) He.veBase "ValueError.__new__" && (PySem.W.keepIn K (.ref (He.ga K x)) && (decide (PySem.W.subIn K (.ref (He.ga K x)) (.type "BaseException") = some true) && decide (PySem.W.typeIn K (.ref (He.ga K x)) = some (.type "type"))))) = true := c
  simp only [Bool.and_eq_true] at c2
  exact ⟨c2.1, c2.2.1, g⟩
theorem facts {w : World} {K : PySem.W.Frag} {h : Heap} {mg : Str → Option Value} {f : Addr} (X : K.In h) (G : h.Ns mainGlobals mg) (hfa : mg ("law" : Str) = some (.ref f)) (c : SaysY hkx K) :
    ∃ fd : FuncData, (∀ (s : Shared) (v : Value), BindsTo s fd ⟨[v], []⟩ [("script", v)]) ∧ ∀ base : Heap, K.In base → base.Ns mainGlobals mg → FnOk PySem.Challenge.pw_outagain_k73_led_books w K mg base (L2.CX PySem.Challenge.pw_outagain_k73_led_books w) 8 f fd ["script"] (liftP ⟨K, He.ga K⟩ sp_law) := by
  have hB := He.ba c.own
  haveI : LawF ⟨K, He.ga K⟩ := lawF_of hB.1
  have hP : ∀ (i : Nat) {b : Bool}, (proBs K)[i]? = some b → b = true := fun i b e => List.all_eq_true.mp hB.2 b (List.mem_of_getElem? e)
  obtain ⟨fd0, F0⟩ := c.def_ 0 (d := d_check_firsts) rfl
  obtain ⟨fd1, F1⟩ := c.def_ 1 (d := d_check_numbers) rfl
  obtain ⟨fd2, F2⟩ := c.def_ 2 (d := d_Depot___init__) rfl
  obtain ⟨fd3, F3⟩ := c.def_ 3 (d := d_check_runners) rfl
  obtain ⟨fd4, F4⟩ := c.def_ 4 (d := d_checked_stretches) rfl
  obtain ⟨fd5, F5⟩ := c.def_ 5 (d := d_join_rows) rfl
  obtain ⟨fd6, F6⟩ := c.def_ 6 (d := d_Book___init__) rfl
  obtain ⟨fd7, F7⟩ := c.def_ 7 (d := d_Book_of_rows) rfl
  obtain ⟨fd8, F8⟩ := c.def_ 8 (d := d_check_days) rfl
  obtain ⟨fd9, F9⟩ := c.def_ 9 (d := d_Depot_size) rfl
  obtain ⟨fd10, F10⟩ := c.def_ 10 (d := d_check_led) rfl
  obtain ⟨fd11, F11⟩ := c.def_ 11 (d := d_is_between) rfl
  obtain ⟨fd12, F12⟩ := c.def_ 12 (d := d_is_order) rfl
  obtain ⟨fd13, F13⟩ := c.def_ 13 (d := d_check_lists) rfl
  obtain ⟨fd14, F14⟩ := c.def_ 14 (d := d_led_morning) rfl
  obtain ⟨fd15, F15⟩ := c.def_ 15 (d := d_led_runners) rfl
  obtain ⟨fd16, F16⟩ := c.def_ 16 (d := d_lead) rfl
  obtain ⟨fd17, F17⟩ := c.def_ 17 (d := d_law_ask) rfl
  obtain ⟨fd18, F18⟩ := c.def_ 18 (d := d_law_take) rfl
  obtain ⟨fd19, F19⟩ := c.def_ 19 (d := d_law_bent_lists) rfl
  obtain ⟨fd20, F20⟩ := c.def_ 20 (d := d_law_by_base) rfl
  obtain ⟨fd21, F21⟩ := c.def_ 21 (d := d_law_depot) rfl
  obtain ⟨fd22, F22⟩ := c.def_ 22 (d := d_law_number) rfl
  obtain ⟨fd23, F23⟩ := c.def_ 23 (d := d_law_same) rfl
  obtain ⟨fd24, F24⟩ := c.def_ 24 (d := d_law_is_book) rfl
  obtain ⟨fd25, F25⟩ := c.def_ 25 (d := d_law_gone) rfl
  obtain ⟨fd26, F26⟩ := c.def_ 26 (d := d_law_led) rfl
  obtain ⟨fd27, F27⟩ := c.def_ 27 (d := d_law_lists) rfl
  obtain ⟨fd28, F28⟩ := c.def_ 28 (d := d_law_pool) rfl
  obtain ⟨fd29, F29⟩ := c.def_ 29 (d := d_law_refused) rfl
  obtain ⟨fd30, F30⟩ := c.def_ 30 (d := d_law) rfl
  have g_check_firsts := (He.glo_ok X G (c.fact 0 (f := .glo "check_firsts") rfl))
  have g_check_numbers := (He.glo_ok X G (c.fact 1 (f := .glo "check_numbers") rfl))
  have g_check_runners := (He.glo_ok X G (c.fact 2 (f := .glo "check_runners") rfl))
  have g_checked_stretches := (He.glo_ok X G (c.fact 3 (f := .glo "checked_stretches") rfl))
  have g_join_rows := (He.glo_ok X G (c.fact 4 (f := .glo "join_rows") rfl))
  have g_check_days := (He.glo_ok X G (c.fact 5 (f := .glo "check_days") rfl))
  have g_check_led := (He.glo_ok X G (c.fact 6 (f := .glo "check_led") rfl))
  have g_is_between := (He.glo_ok X G (c.fact 7 (f := .glo "is_between") rfl))
  have g_is_order := (He.glo_ok X G (c.fact 8 (f := .glo "is_order") rfl))
  have g_check_lists := (He.glo_ok X G (c.fact 9 (f := .glo "check_lists") rfl))
  have g_led_morning := (He.glo_ok X G (c.fact 10 (f := .glo "led_morning") rfl))
  have g_led_runners := (He.glo_ok X G (c.fact 11 (f := .glo "led_runners") rfl))
  have g_lead := (He.glo_ok X G (c.fact 12 (f := .glo "lead") rfl))
  have g_law_ask := (He.glo_ok X G (c.fact 13 (f := .glo "_law_ask") rfl))
  have g_law_take := (He.glo_ok X G (c.fact 14 (f := .glo "_law_take") rfl))
  have g_law_bent_lists := (He.glo_ok X G (c.fact 15 (f := .glo "_law_bent_lists") rfl))
  have g_law_by_base := (He.glo_ok X G (c.fact 16 (f := .glo "_law_by_base") rfl))
  have g_law_depot := (He.glo_ok X G (c.fact 17 (f := .glo "_law_depot") rfl))
  have g_law_number := (He.glo_ok X G (c.fact 18 (f := .glo "_law_number") rfl))
  have g_law_same := (He.glo_ok X G (c.fact 19 (f := .glo "_law_same") rfl))
  have g_law_is_book := (He.glo_ok X G (c.fact 20 (f := .glo "_law_is_book") rfl))
  have g_law_gone := (He.glo_ok X G (c.fact 21 (f := .glo "_law_gone") rfl))
  have g_law_led := (He.glo_ok X G (c.fact 22 (f := .glo "_law_led") rfl))
  have g_law_lists := (He.glo_ok X G (c.fact 23 (f := .glo "_law_lists") rfl))
  have g_law_pool := (He.glo_ok X G (c.fact 24 (f := .glo "_law_pool") rfl))
  have g_law_refused := (He.glo_ok X G (c.fact 25 (f := .glo "_law_refused") rfl))
  have g_law := (He.glo_ok X G (c.fact 26 (f := .glo "law") rfl))
  have g_OutagainError := (He.glo_ok X G (c.fact 27 (f := .glo "OutagainError") rfl))
  have g_OutOfRange := (He.glo_ok X G (c.fact 28 (f := .glo "OutOfRange") rfl))
  have g_BadDepot := (He.glo_ok X G (c.fact 29 (f := .glo "BadDepot") rfl))
  have g_BadBook := (He.glo_ok X G (c.fact 30 (f := .glo "BadBook") rfl))
  have g_BadLists := (He.glo_ok X G (c.fact 31 (f := .glo "BadLists") rfl))
  have g_Book := (He.glo_ok X G (c.fact 32 (f := .glo "Book") rfl))
  have g_Depot := (He.glo_ok X G (c.fact 33 (f := .glo "Depot") rfl))
  have m_ValueError := (He.free_ok X G (c.fact 34 (f := .free "ValueError") rfl))
  have m_abs := (He.free_ok X G (c.fact 35 (f := .free "abs") rfl))
  have m_bool := (He.free_ok X G (c.fact 36 (f := .free "bool") rfl))
  have m_enumerate := (He.free_ok X G (c.fact 37 (f := .free "enumerate") rfl))
  have m_int := (He.free_ok X G (c.fact 38 (f := .free "int") rfl))
  have m_isinstance := (He.free_ok X G (c.fact 39 (f := .free "isinstance") rfl))
  have m_len := (He.free_ok X G (c.fact 40 (f := .free "len") rfl))
  have m_list := (He.free_ok X G (c.fact 41 (f := .free "list") rfl))
  have m_max := (He.free_ok X G (c.fact 42 (f := .free "max") rfl))
  have m_min := (He.free_ok X G (c.fact 43 (f := .free "min") rfl))
  have m_range := (He.free_ok X G (c.fact 44 (f := .free "range") rfl))
  have m_sorted := (He.free_ok X G (c.fact 45 (f := .free "sorted") rfl))
  have m_str := (He.free_ok X G (c.fact 46 (f := .free "str") rfl))
  have m_sum := (He.free_ok X G (c.fact 47 (f := .free "sum") rfl))
  have m_super := (He.free_ok X G (c.fact 48 (f := .free "super") rfl))
  have m_tuple := (He.free_ok X G (c.fact 49 (f := .free "tuple") rfl))
  have c_HIGHEST_RUNNER := (He.int_ok X G (c.fact 50 (f := .int "HIGHEST_RUNNER" 11) rfl))
  have c_MOST_DAYS := (He.int_ok X G (c.fact 51 (f := .int "MOST_DAYS" 1000000000000000000000000000000) rfl))
  have c_MOST_LED_DAYS := (He.int_ok X G (c.fact 52 (f := .int "MOST_LED_DAYS" 400) rfl))
  have c_MOST_LED_DRIVERS := (He.int_ok X G (c.fact 53 (f := .int "MOST_LED_DRIVERS" 6) rfl))
  have c_MOST_LED_PERIOD := (He.int_ok X G (c.fact 54 (f := .int "MOST_LED_PERIOD" 6) rfl))
  have c_MOST_QUOTA := (He.int_ok X G (c.fact 55 (f := .int "MOST_QUOTA" 12) rfl))
  have c_MOST_STRETCHES := (He.int_ok X G (c.fact 56 (f := .int "MOST_STRETCHES" 400) rfl))
  have v_Depot_MOST_DRIVERS := cvB_ok g_Depot (hP 1 rfl)
  have v_Depot_MOST_PERIOD := cvB_ok g_Depot (hP 2 rfl)
  have e := hfa.symm.trans g_law
  cases e
  have b := FunD.bindsA (ps := ["script"]) F30 fun _ _ _ _ _ _ us hl => match us, hl with | [_], _ => rfl
  refine ⟨fd30, fun s v => b s [v] rfl, fun base _ _ => ?_⟩
  have X_OutOfRange := (c.sup 0 (d := x_OutOfRange) rfl).exd2 (P := PySem.Challenge.pw_outagain_k73_led_books) (w := w) (mg := mg) (base := base) (C := ⟨K, He.ga K⟩) rfl g_OutOfRange rfl (supScope_by rfl rfl rfl (by decide +kernel) rfl (by decide +kernel) (by decide +kernel) (by decide +kernel) (by decide +kernel) (by decide +kernel)) rfl rfl rfl m_super (by decide +kernel) (He.noat_ok (c.fact 57 (f := .noat "OutOfRange" "at") rfl)) (He.noat_ok (c.fact 58 (f := .noat "OutOfRange" "code") rfl)) ⟨_, fun _ => rfl⟩ (fun _ _ _ _ _ _ _ us hl => match us, hl with | [_, _, _], _ => rfl)
  have X_BadDepot := (c.sup 1 (d := x_BadDepot) rfl).exd2 (P := PySem.Challenge.pw_outagain_k73_led_books) (w := w) (mg := mg) (base := base) (C := ⟨K, He.ga K⟩) rfl g_BadDepot rfl (supScope_by rfl rfl rfl (by decide +kernel) rfl (by decide +kernel) (by decide +kernel) (by decide +kernel) (by decide +kernel) (by decide +kernel)) rfl rfl rfl m_super (by decide +kernel) (He.noat_ok (c.fact 59 (f := .noat "BadDepot" "at") rfl)) (He.noat_ok (c.fact 60 (f := .noat "BadDepot" "code") rfl)) ⟨_, fun _ => rfl⟩ (fun _ _ _ _ _ _ _ us hl => match us, hl with | [_, _, _], _ => rfl)
  have X_BadLists := (c.sup 2 (d := x_BadLists) rfl).exd2 (P := PySem.Challenge.pw_outagain_k73_led_books) (w := w) (mg := mg) (base := base) (C := ⟨K, He.ga K⟩) rfl g_BadLists rfl (supScope_by rfl rfl rfl (by decide +kernel) rfl (by decide +kernel) (by decide +kernel) (by decide +kernel) (by decide +kernel) (by decide +kernel)) rfl rfl rfl m_super (by decide +kernel) (He.noat_ok (c.fact 61 (f := .noat "BadLists" "at") rfl)) (He.noat_ok (c.fact 62 (f := .noat "BadLists" "code") rfl)) ⟨_, fun _ => rfl⟩ (fun _ _ _ _ _ _ _ us hl => match us, hl with | [_, _, _], _ => rfl)
  have F_check_firsts := ok_check_firsts (P := PySem.Challenge.pw_outagain_k73_led_books) (w := w) (C := ⟨K, He.ga K⟩) (mg := mg) (base := base) F0 g_check_firsts m_len m_range v_Depot_MOST_DRIVERS X_BadDepot
  have F_check_numbers := ok_check_numbers (P := PySem.Challenge.pw_outagain_k73_led_books) (w := w) (C := ⟨K, He.ga K⟩) (mg := mg) (base := base) F1 g_check_numbers c_MOST_QUOTA v_Depot_MOST_PERIOD X_BadDepot
  have F_Depot___init__ := (ok_Depot___init__ (P := PySem.Challenge.pw_outagain_k73_led_books) (w := w) (C := ⟨K, He.ga K⟩) (mg := mg) (base := base) F2 m_tuple F_check_firsts F_check_numbers).make (c := "Depot") g_Depot (c.fact 63 (f := .mkr "Depot") rfl)
  have F_check_runners := ok_check_runners (P := PySem.Challenge.pw_outagain_k73_led_books) (w := w) (C := ⟨K, He.ga K⟩) (mg := mg) (base := base) F3 g_check_runners c_HIGHEST_RUNNER
  have F_checked_stretches := ok_checked_stretches (P := PySem.Challenge.pw_outagain_k73_led_books) (w := w) (C := ⟨K, He.ga K⟩) (mg := mg) (base := base) F4 g_checked_stretches m_len m_range m_tuple F_check_runners c_MOST_DAYS c_MOST_STRETCHES
  have F_join_rows := ok_join_rows (P := PySem.Challenge.pw_outagain_k73_led_books) (w := w) (C := ⟨K, He.ga K⟩) (mg := mg) (base := base) F5 g_join_rows
  have F_Book___init__ := (ok_Book___init__ (P := PySem.Challenge.pw_outagain_k73_led_books) (w := w) (C := ⟨K, He.ga K⟩) (mg := mg) (base := base) F6 m_sum m_tuple F_checked_stretches F_join_rows).make (c := "Book") g_Book (c.fact 64 (f := .mkr "Book") rfl)
  have F_Book_of_rows := (ok_Book_of_rows (P := PySem.Challenge.pw_outagain_k73_led_books) (w := w) (C := ⟨K, He.ga K⟩) (mg := mg) (base := base) F7 F_Book___init__).stat (c := "Book") (m := "of_rows") g_Book (hP 3 rfl)
  have F_check_days := ok_check_days (P := PySem.Challenge.pw_outagain_k73_led_books) (w := w) (C := ⟨K, He.ga K⟩) (mg := mg) (base := base) F8 g_check_days c_MOST_DAYS X_OutOfRange
  have F_Depot_size := (ok_Depot_size (P := PySem.Challenge.pw_outagain_k73_led_books) (w := w) (C := ⟨K, He.ga K⟩) (mg := mg) (base := base) F9 m_len).prop (c := "Depot") (m := "size") (c.fact 65 (f := .cls "Depot") rfl) (hP 0 rfl)
  have F_check_led := ok_check_led (P := PySem.Challenge.pw_outagain_k73_led_books) (w := w) (C := ⟨K, He.ga K⟩) (mg := mg) (base := base) F10 g_check_led F_Depot_size c_MOST_LED_DRIVERS c_MOST_LED_PERIOD X_OutOfRange
  have F_is_between := ok_is_between (P := PySem.Challenge.pw_outagain_k73_led_books) (w := w) (C := ⟨K, He.ga K⟩) (mg := mg) (base := base) F11 g_is_between m_bool m_int m_isinstance
  have F_is_order := ok_is_order (P := PySem.Challenge.pw_outagain_k73_led_books) (w := w) (C := ⟨K, He.ga K⟩) (mg := mg) (base := base) F12 g_is_order m_len F_is_between
  have F_check_lists := ok_check_lists (P := PySem.Challenge.pw_outagain_k73_led_books) (w := w) (C := ⟨K, He.ga K⟩) (mg := mg) (base := base) F13 g_check_lists m_enumerate m_len F_Depot_size F_is_order X_BadLists
  have F_led_morning := ok_led_morning (P := PySem.Challenge.pw_outagain_k73_led_books) (w := w) (C := ⟨K, He.ga K⟩) (mg := mg) (base := base) F14 g_led_morning m_enumerate m_sorted m_tuple
  have F_led_runners := ok_led_runners (P := PySem.Challenge.pw_outagain_k73_led_books) (w := w) (C := ⟨K, He.ga K⟩) (mg := mg) (base := base) F15 g_led_runners m_range F_led_morning
  have F_lead := ok_lead (P := PySem.Challenge.pw_outagain_k73_led_books) (w := w) (C := ⟨K, He.ga K⟩) (mg := mg) (base := base) F16 g_lead m_list F_Book_of_rows F_check_days F_check_led F_check_lists F_led_runners c_MOST_LED_DAYS X_OutOfRange
  have F_law_ask := ok_law_ask (P := PySem.Challenge.pw_outagain_k73_led_books) (w := w) (C := ⟨K, He.ga K⟩) (mg := mg) (base := base) F17 g_law_ask m_list F_Depot___init__ F_lead g_BadLists g_OutOfRange
  have F_law_take := ok_law_take (P := PySem.Challenge.pw_outagain_k73_led_books) (w := w) (C := ⟨K, He.ga K⟩) (mg := mg) (base := base) F18 g_law_take m_abs m_int m_len
  have F_law_bent_lists := ok_law_bent_lists (P := PySem.Challenge.pw_outagain_k73_led_books) (w := w) (C := ⟨K, He.ga K⟩) (mg := mg) (base := base) F19 g_law_bent_lists m_len m_list m_max m_range F_law_take
  have F_law_by_base := ok_law_by_base (P := PySem.Challenge.pw_outagain_k73_led_books) (w := w) (C := ⟨K, He.ga K⟩) (mg := mg) (base := base) F20 g_law_by_base m_ValueError m_isinstance m_list F_Depot___init__ F_lead g_OutagainError
  have F_law_depot := ok_law_depot (P := PySem.Challenge.pw_outagain_k73_led_books) (w := w) (C := ⟨K, He.ga K⟩) (mg := mg) (base := base) F21 g_law_depot m_len m_min m_range F_law_take
  have F_law_number := ok_law_number (P := PySem.Challenge.pw_outagain_k73_led_books) (w := w) (C := ⟨K, He.ga K⟩) (mg := mg) (base := base) F22 g_law_number m_bool m_int m_isinstance
  have F_law_same_0 := ok_law_same_0 (P := PySem.Challenge.pw_outagain_k73_led_books) (w := w) (C := ⟨K, He.ga K⟩) (mg := mg) (base := base) F23 g_law_same (ps := ["got", "due"]) (F23.bindsN fun _ _ _ _ _ _ us hl => match us, hl with | [_, _], _ => rfl)
  have F_law_same_1 := ok_law_same1 (P := PySem.Challenge.pw_outagain_k73_led_books) (w := w) (C := ⟨K, He.ga K⟩) (mg := mg) (base := base) F23 g_law_same m_bool m_int m_isinstance m_len m_list m_range m_str m_tuple F_law_number F_law_same_0
  have F_law_same_2 := ok_law_same2 (P := PySem.Challenge.pw_outagain_k73_led_books) (w := w) (C := ⟨K, He.ga K⟩) (mg := mg) (base := base) F23 g_law_same m_bool m_int m_isinstance m_len m_list m_range m_str m_tuple F_law_number F_law_same_1
  have F_law_same_3 := ok_law_same3 (P := PySem.Challenge.pw_outagain_k73_led_books) (w := w) (C := ⟨K, He.ga K⟩) (mg := mg) (base := base) F23 g_law_same m_bool m_int m_isinstance m_len m_list m_range m_str m_tuple F_law_number F_law_same_2
  have F_law_same := ok_law_same4 (P := PySem.Challenge.pw_outagain_k73_led_books) (w := w) (C := ⟨K, He.ga K⟩) (mg := mg) (base := base) F23 g_law_same m_bool m_int m_isinstance m_len m_list m_range m_str m_tuple F_law_number F_law_same_3
  have F_law_is_book := ok_law_is_book (P := PySem.Challenge.pw_outagain_k73_led_books) (w := w) (C := ⟨K, He.ga K⟩) (mg := mg) (base := base) F24 g_law_is_book m_isinstance F_law_same g_Book
  have F_law_gone := ok_law_gone (P := PySem.Challenge.pw_outagain_k73_led_books) (w := w) (C := ⟨K, He.ga K⟩) (mg := mg) (base := base) F25 g_law_gone m_len m_range
  have F_law_led := ok_law_led (P := PySem.Challenge.pw_outagain_k73_led_books) (w := w) (C := ⟨K, He.ga K⟩) (mg := mg) (base := base) F26 g_law_led m_int m_list m_range m_sorted m_tuple F_law_gone
  have F_law_lists := ok_law_lists (P := PySem.Challenge.pw_outagain_k73_led_books) (w := w) (C := ⟨K, He.ga K⟩) (mg := mg) (base := base) F27 g_law_lists m_len m_list m_range F_law_take
  have F_law_pool := ok_law_pool (P := PySem.Challenge.pw_outagain_k73_led_books) (w := w) (C := ⟨K, He.ga K⟩) (mg := mg) (base := base) F28 g_law_pool m_list
  have F_law_refused := ok_law_refused (P := PySem.Challenge.pw_outagain_k73_led_books) (w := w) (C := ⟨K, He.ga K⟩) (mg := mg) (base := base) F29 g_law_refused m_len m_list m_range m_sorted
  exact ok_law (P := PySem.Challenge.pw_outagain_k73_led_books) (w := w) (C := ⟨K, He.ga K⟩) (mg := mg) (base := base) F30 m_len m_list m_max m_min m_tuple F_law_ask F_law_bent_lists F_law_by_base F_law_depot F_law_is_book F_law_led F_law_lists F_law_pool F_law_refused F_law_same F_law_take
end K

open PySem PySem.W PySem.Calls PyProof.Rows
def K.CXe : L2.CXT := fun o H s E e s' => ∃ w, L2.CX PySem.Challenge.pw_outagain_k73_led_books w o H s E e s'
theorem K.only_call (H : L2.Hp) (s : Shared) (e : Value) (s' : Shared) (h : K.CXe [] H s (fun _ _ _ => False) e s') : False := by
  obtain ⟨_, _, _, _, _, _, _, _, _, _, _, _, _, z⟩ := h
  exact z
theorem K.weak {P : Program} {w : World} {K : PySem.W.Frag} {mg : PySem.Str → Option Value} {base : Heap} {CX CX' : L2.CXT} {k : Nat} {f : Addr} {fd : FuncData} {ps : List PySem.Str} {sp : L2.Sp} (F : L2.FnOk P w K mg base CX k f fd ps sp) (h : ∀ o H s E e s', CX o H s E e s' → CX' o H s E e s') : L2.FnOk P w K mg base CX' k f fd ps sp :=
  ⟨F.len, fun A outer s H args us vs Q E hr he hb hv hs => codeAny_mono (F.run A outer s H args us vs Q E hr he hb hv hs) fun r s' z => match r, z with
    | .ok (.ret _), z => z
    | .ok .next, z => z
    | .ok .brk, z => z
    | .ok .cont, z => z
    | .error _, z => h _ _ _ _ _ _ z⟩
theorem K.law_entry {K1 : PySem.W.Frag} (H : L2.Hp) (a : Addr) (ns : List Int) (hS : L2.SqL K1 H a (ns.map L2.V.int)) (hn : ns.length ≤ 63) : OD.liftP ⟨K1, He.ga K1⟩ K.sp_law [.ref a] H (fun v _ => v = .bl true) fun _ _ _ => False := by
  refine ⟨H, [], [.scr ns], [], fun d _ => d = .bl true, fun _ _ _ => False, ?_, ⟨fun _ _ h => h, rfl, List.nodup_nil, fun _ h => absurd h (by simp), fun k c a e _ => absurd e (by simp)⟩, ⟨ns, rfl, rfl⟩, fun F' μ' H' v d S' _ _ r hd => ?_, fun _ _ _ _ _ _ _ _ _ _ _ z => z.elim⟩
  · exact OD.Reps.cons (OD.Rep.scr_iff.mpr ⟨a, rfl, hS⟩) OD.Reps.nil
  · subst hd; exact OD.Rep.bl_iff.mp r
set_option maxRecDepth 100000 in
set_option maxHeartbeats 0 in
theorem PySem.Challenge.cw_outagain_k73_led_books_holds : PySem.Challenge.rw_outagain_k73_led_books.Holds := by
  w_on; o_law
  refine HandSHeadRun.head_any (r := OpenLaw.row PySem.Challenge.rw_outagain_k73_led_books) (q := view (OpenLaw.row PySem.Challenge.rw_outagain_k73_led_books).prog [52]) (H := K.hk) (ob := K.ob) (M := 40000) (loose := K.names) (d := HandSHeadRun.topDef (OpenLaw.row PySem.Challenge.rw_outagain_k73_led_books).prog 52) (kwd := []) K.ob_eq
    (by kernel_rfl) (fun s => by kernel_rfl) K.run (by kernel_rfl) (by kernel_rfl) (by kernel_rfl) (by rfl) (by first | assumption | decide +kernel) (by decide +kernel) ⟨rfl, rfl, rfl, rfl, rfl, by decide +kernel⟩ ?hw ?hc
  case hw => w_witness2
  case hc =>
    refine L2.walk_ofE (l := PySem.Challenge.rw_outagain_k73_led_books) (n := 63) (k := 8) (x := "script") (CX := K.CXe) rfl (by decide) (by kernel_rfl) ⟨rfl, by decide, by decide⟩ ?F K.only_call
    intro w mg fa h Y G hmg0
    obtain ⟨K1, KX, c⟩ := Y
    have hmg : mg ("law" : PySem.Str) = some (.ref fa) := by
      have e : (HandSHeadRun.topDef (OpenLaw.row PySem.Challenge.rw_outagain_k73_led_books).prog 52).name = ("law" : PySem.Str) := by kernel_rfl
      rw [← e]
      exact hmg0
    obtain ⟨fd, hb, hF⟩ := K.facts (w := w) KX G hmg c
    exact ⟨K1, fd, OD.liftP ⟨K1, He.ga K1⟩ K.sp_law, KX, hb, fun H a ns hl _ hS => K.law_entry H a ns hS hl, fun base hK hG => K.weak (hF base hK hG) fun o H s E e s' z => ⟨w, z⟩⟩

