import PyProof.Rows.All
import HandS.HeadWalk
import KE.KExcSuper
import KE.KSuper
import HandS.ExcInit
import HandS.ExcSuper
import HandS.ExcIs
import HandS.ExcField
import HandS.ExcValue
import HandS.ExcOwn
import KE.KExcIs
import HandS.HeadHook1
import HandS.HeadHook2
import HandS.HeadHook3
import HandS.HeadHook4
import HandS.Defaults
import HandS.Words
import Wide.All
import OpenK.AllK
import Wide.FinOn
import HandS.ForMost
import HandS.IsInst
import HandS.Conv
import HandS.TupAny
import HandS.Flow
import HandS.More
import HandS.Strs
import HandS.Small
import HandS.MakeKwOnly
import HandS.EndBits
import HandS.Ends
import HandS.Head0
import HandS.Head1
import HandS.Head2
import PySem.Challenge.RW_rungstead_k91_errors_made
import KE.KStateDown
import Lean
section
set_option Elab.async false
set_option linter.all false
set_option maxRecDepth 100000
set_option maxHeartbeats 4000000
/-! HX1: an own exception class over ValueError (others between) whose __init__ begins with super().__init__(text). -/
namespace HX
open PySem PySem.Spec PyProof.Rows PySem.Calls L2
open PySem.W (kxs_mw)
open PySem.W

section
variable {prog : Program} {w : World} {A : Around} {E : Value → Shared → Prop} {h : Heap} {g : Array GenState} {d : Drawn} {t : Nat} {os : OsState}
variable {nm q : Str} {C N : Addr} {bs bm : List Value} {hdct : Bool} {sn : List Str} {sub : List Value} {ab : Bool} {col : Option Bool} {dd : Option Addr} {k0 k1 k2 k3 k5 : Option Value}
/-- the bound ValueError.__init__, called -/
theorem call_mw {u e t0 : Addr} {us : List Value} {Q : Value → Shared → Prop} (hC : h.get? C = some (excClassObj nm q C N bs bm hdct sn sub ab col dd k0 k1 k2 k3 k5 "ValueError.__new__"))
    (he : h.get? e = some (HandSPX.excO C t0)) (hu : h.get? u = some (kxs_mw "ValueError.__init__" e)) (hz : us.length ≤ sizeLine)
    (hq : ∀ h' t1, (∀ b o, b ≠ e → h.get? b = some o → h'.get? b = some o) → h'.get? e = some (HandSPX.excO C t1) → Q .none ⟨h', g, d, t, os⟩) : wpAny (model prog w) A (call (.ref u) us) Q E ⟨h, g, d, t, os⟩ := by
  have FB := F.excBase_ValueError
  have ism : (Value.type "method-wrapper" == Value.type "method" || Value.type "method-wrapper" == Value.type "builtin_function_or_method" || Value.type "method-wrapper" == Value.type "method-wrapper") = true := by decide
  refine wpAny_call (codeAny_of_tree (show wpAny (model prog w) A.in1 (callAny (.ref u) ⟨us, []⟩) _ _ _ from ?_))
  unfold callAny
  refine wpAny_bind (wpAny_load hu ?_)
  simp only [kxs_mw, ism, if_true]
  refine W.KFB.if_so (by decide) (wpAny_bind (PySem.ESX.check_bound FB hC he rfl (wpAny_bind (wpAny_pure (wpAny_pure ⟨Code.quiet_builtin _ (by decide +kernel), codeAny_builtin FB.initEntry ?_⟩)))))
  rw [Around.under_plainId FB.init.plain _]
  wp_walk
  exact hq _ h.objs.size (fun b o hb ho => (Heap.get?_update_other _ _ (Ne.symm hb)).trans (Heap.get?_push_of_some _ ho)) ((Heap.get?_update_self _ (Heap.get?_push_of_some _ he) rfl).trans rfl)
end

/-! ### the frame of such an __init__ -/
/-- the scope: parameters, "super" the module's, "__class__" free -/
structure XScope (N P : List Str) (sc : Scope) : Prop where
  kind : sc.kind = .function
  co : sc.isCoroutine = false
  gen : sc.isGenerator = false
  nd : N.Nodup
  pre : N.take P.length = P
  par : ∀ x ∈ P, sc.names.lookup x = some .local
  nocell : ∀ y ∈ sc.names, y.2 ≠ .cell
  free : ∀ y ∈ sc.names, y.2 = .free → y.1 = ("__class__" : Str)
  sup : sc.names.lookup ("super" : Str) = some .globalImplicit
  cls : sc.names.lookup ("__class__" : Str) = some .free
def cxX (CX : CXT) (P : Program) (w : World) (K : PySem.W.Frag) (mg : Str → Option Value) (base : Heap) (N : List Str) (qual : Str) (scope : Scope) (f : Addr) (cd : Value) (cc : Addr) (A : Around) (outer : List Env) (s : Shared) (H : Hp) (E : XK) : Cx where
  prog := P
  w := w
  K := K
  mg := mg
  base := base
  A := A.deeper (PySem.W.ksEnv qual scope s.heap.objs.size f cd cc)
  N := N
  s_0 := s
  H_0 := H
  env := PySem.W.ksEnv qual scope s.heap.objs.size f cd cc
  outer := outer
  stack := PySem.W.ksEnv qual scope s.heap.objs.size f cd cc :: outer
  ex := []
  calm := true
  fn := fun x => !(x == ("__class__" : Str))
  pn := []
  xe := fun e s' => wpAny (model P w) (A.deeper (PySem.W.ksEnv qual scope s.heap.objs.size f cd cc)) (leaving (PySem.W.ksEnv qual scope s.heap.objs.size f cd cc) e) (fun _ s'' => CX outer H s E e s'') (fun e' s'' => CX outer H s E e' s'') s'
theorem rev_zip {x : Str} {v : Value} : ∀ {P : List Str} {us : List Value} {i : Nat}, P.Nodup → P[i]? = some x → us[i]? = some v → (P.zip us).reverse.lookup x = some v
  | [], _, _, _, h, _ => by simp at h
  | _ :: _, [], _, _, _, h => by simp at h
  | p :: P, u :: us, i, nd, h1, h2 => by
    have nd' := List.nodup_cons.mp nd
    rw [List.zip_cons_cons, List.reverse_cons, List.lookup_append]
    cases i with
    | zero =>
      simp only [List.getElem?_cons_zero, Option.some.injEq] at h1 h2
      subst h1 h2
      have hn : (P.zip us).reverse.lookup p = none := by
        cases e : (P.zip us).reverse.lookup p with
        | none => rfl
        | some v =>
          have := PySem.mem_of_lookup e
          exact absurd (List.of_mem_zip (List.mem_reverse.mp this)).1 nd'.1
      rw [hn]
      simp [List.lookup]
    | succ i =>
      rw [rev_zip nd'.2 (by simpa using h1) (by simpa using h2)]
      rfl
section
variable {CX : CXT} {P : Program} {w : World} {K : PySem.W.Frag} {mg : Str → Option Value} {base : Heap} {N ps : List Str} {qual : Str} {scope : Scope} {f cc C : Addr} {cd cl : Value} {A : Around} {outer : List Env} {s : Shared} {H : Hp} {E : XK} {us : List Value} {vs : List V} {cld : Option Addr} {csl : Array (Option Value)}
theorem inv_x (S : XScope N ps scope) (hd : A.handled = none) (e0 : Env0 P w K mg base A outer s H) (hl : vs.length = ps.length) (r : Vals vs us) (hcell : K.lookup cc = some ⟨cl, cld, .cell (some (.ref C)), csl⟩)
    {h1 : Heap} {tk : Nat} (hns : h1.Ns s.heap.objs.size (fun x => (ps.zip us).reverse.lookup x)) (hk : ∀ b o, s.heap.get? b = some o → h1.get? b = some o) :
    Inv (cxX CX P w K mg base N qual scope f cd cc A outer s H E) [] (L2.start N vs) H { s with heap := h1, toks := tk } := by
  have hpl : ps.length ≤ N.length := by have := congrArg List.length S.pre; rw [List.length_take] at this; omega
  have noA : ∀ b : Addr, b ∉ (cxX CX P w K mg base N qual scope f cd cc A outer s H E).ex := fun b z => absurd (show b ∈ ([] : List Addr) from z) (by simp)
  have only : ∀ x c, (([("__class__", cc)] : List (Str × Addr))).lookup x = some c → x = ("__class__" : Str) ∧ c = cc := fun x c h => by
    have := PySem.mem_of_lookup h
    simp only [List.mem_singleton, Prod.mk.injEq] at this
    exact this
  have hcb : base.get? cc = some ⟨cl, cld, .cell (some (.ref C)), csl⟩ := e0.mod.kin _ _ hcell
  obtain ⟨hcs, hcH⟩ := e0.bs _ _ hcb
  refine ⟨⟨e0.mod, S.kind, rfl, rfl, Nat.le_refl _, fun y z c h1 h2 => (only y c h1).1.trans (only z c h2).1.symm, fun y hy => ?_, fun y c hf h => ?_, fun _ => hd, Around.frames_deeper e0.frames, .inr ⟨rfl, rfl⟩, fun b z => absurd z (noA b), e0.bs, e0.bsz, fun b _ _ => noA b, fun b z => absurd z (noA b), e0.funs, e0.frf⟩,
    rfl, e0.bare, Un.kept hk, ⟨_, hns, fun i y v h1 h2 h3 => ?_⟩, fun y c h => ?_, e0.hok.fresh (Nat.le_refl _), fun y c h => ?_, fun p hp => absurd (show p ∈ ([] : List (Addr × Obj)) from hp) (by simp), e0.hok.kept hk, ?_⟩
  · have hy : scope.names.lookup y = some .cell ∨ scope.names.lookup y = some .free := hy
    rcases hy with hy | hy
    · exact absurd rfl (S.nocell _ (PySem.mem_of_lookup hy))
    · have := S.free _ (PySem.mem_of_lookup hy) rfl
      dsimp only at this
      subst this
      exact ⟨cc, rfl⟩
  · obtain ⟨rfl, _⟩ := only y c h
    exact absurd hf (show ¬ ((!(("__class__" : Str) == ("__class__" : Str))) = true) by decide)
  · have hi : i < vs.length := by
      unfold L2.start at h2
      by_cases hi : i < vs.length
      · exact hi
      · rw [List.getElem?_append_right (by simpa using hi), List.getElem?_replicate] at h2
        split at h2 <;> cases h2
    have ha : vs[i]? = some v := by
      unfold L2.start at h2
      rw [List.getElem?_append_left (by simpa using hi), List.getElem?_map] at h2
      cases e : vs[i]? with
      | none => rw [e] at h2; cases h2
      | some a => rw [e] at h2; cases h2; rfl
    obtain ⟨u, hu, rv⟩ := r.get ha
    have hp : ps[i]? = some y := by
      rw [← S.pre, List.getElem?_take_of_lt (by omega)]; exact h1
    have ndP : ps.Nodup := by rw [← S.pre]; exact S.nd.sublist (List.take_sublist _ _)
    exact ⟨u, rv, .inl ⟨S.par y (List.mem_of_getElem? hp), rev_zip ndP hp hu⟩⟩
  · obtain ⟨_, rfl⟩ := only y c h
    exact ⟨_, _, hk _ _ hcs, rfl⟩
  · obtain ⟨_, rfl⟩ := only y c h
    exact hcH
  · unfold L2.start
    show _ = N.length
    rw [List.length_append, List.length_map, List.length_replicate]
    omega
end
/-- what the written part says of such a class C, its __init__ at f -/
structure XCls (P : Program) (K : PySem.W.Frag) (C f cda : Addr) (fd : FuncData) : Prop where
  oex : OexC K C
  tp : PySem.W.nsIn K cStatics "thirdparty.any" = some none
  ini : PySem.W.ks_superIn K C C "__init__" = some (some (.builtin "ValueError.__init__"))
  val : PySem.W.subIn K (.ref C) (.type "ValueError") = some true
  own : PySem.W.mroIn K C (.ref C) = some true
  fn : ∃ oc od osl, K.lookup f = some ⟨oc, od, .func fd, osl⟩
  cd : ∃ ccl cdd vs ccs file tf, K.lookup cda = some ⟨ccl, cdd, .fields vs, ccs⟩ ∧ vs[2]? = some (.str file tf) ∧ ((P.main.file : Str) == file) = true
  top : (P.main.scope.names.lookup ("super" : Str)).isSome = false
section
variable {CX : CXT} {P : Program} {w : World} {K : PySem.W.Frag} {mg : Str → Option Value} {base : Heap} {N ps : List Str} {qual : Str} {scope : Scope} {f cc C cda a : Addr} {cl : Value} {A : Around} {outer : List Env} {s s1 : Shared} {H : Hp} {E : XK} {cld : Option Addr} {csl : Array (Option Value)} {fd : FuncData}
theorem super_step {σ : L2.St} {msg : Str} {jj : Nat} {p0 p1 p2 p3 p4 pc : Pos} {body : List Stmt} {ar : Arg} (S : XScope N ps scope) (XC : XCls P K C f cda fd) (hp : (fd.params.posonlyargs ++ fd.params.args).head? = some ar) (h0 : N[0]? = some ar.arg) (har : scope.names.lookup ar.arg = some .local)
    (hcell : K.lookup cc = some ⟨cl, cld, .cell (some (.ref C)), csl⟩) (hm : mg "super" = none)
    (I : Inv (cxX CX P w K mg base N qual scope f (.ref cda) cc A outer s H E) [] σ H s1) (hσ : σ[0]? = some (some (.ref a))) (ea : H a = some (exo a C none))
    (hln : (p2.endLine == p3.line) = true) (hs : swapsWith (.Call (.Attribute (.Call (.Name "super" p0) [] [] p1) "__init__" p2) [.Constant (.str msg) jj pc] [] p3) none p4.line (PySem.W.ksEnv qual scope s.heap.objs.size f (.ref cda) cc) = pure false) {EE : Value → Shared → Prop}
    (hx : ∀ e s', (cxX CX P w K mg base N qual scope f (.ref cda) cc A outer s H E).xe e s' → EE e s') :
    _root_.PySem.wpAt (model P w) (A.deeper (PySem.W.ksEnv qual scope s.heap.objs.size f (.ref cda) cc)) (.func body (PySem.W.ksEnv qual scope s.heap.objs.size f (.ref cda) cc))
      (exec (.Expr (.Call (.Attribute (.Call (.Name "super" p0) [] [] p1) "__init__" p2) [.Constant (.str msg) jj pc] [] p3) p4) (PySem.W.ksEnv qual scope s.heap.objs.size f (.ref cda) cc))
      (fun fl s' => fl = .next ∧ Inv (cxX CX P w K mg base N qual scope f (.ref cda) cc A outer s H E) [] σ H s') EE s1 := by
  obtain ⟨hp0, g, d, t, os⟩ := s1
  obtain ⟨oc, od, osl, hf⟩ := XC.fn
  obtain ⟨ccl, cdd, vs, ccs, file, tf, hcd, hvs, hfile⟩ := XC.cd
  obtain ⟨nm, q, N', bs, bm, sn, sub, ab, col, dd, k0, k1, k2, k3, k5, hC, hbm⟩ := XC.oex.cls
  have KI := I.kIn
  obtain ⟨t1, ho⟩ := exo_at I.hok ea
  obtain ⟨m, hns, hlook⟩ := I.loc
  obtain ⟨u, ru, hu⟩ := hlook 0 ar.arg (.ref a) h0 hσ (.inl har)
  obtain rfl : u = Value.ref a := ru
  have hma : m ar.arg = some (.ref a) := by
    rcases hu with ⟨_, h⟩ | ⟨h, _⟩
    · exact h
    · rcases h with h | h
      · rw [show Env.kindOf _ ar.arg = scope.names.lookup ar.arg from rfl, har] at h; cases h
      · rw [show Env.kindOf _ ar.arg = scope.names.lookup ar.arg from rfl, har] at h; cases h
  have hCo : hp0.get? C = some (excClassObj nm q C N' bs bm true sn sub ab col dd k0 k1 k2 k3 k5 "ValueError.__new__") := KI _ _ hC
  have hev : eval (.Call (.Attribute (.Call (.Name "super" p0) [] [] p1) "__init__" p2) [.Constant (.str msg) jj pc] [] p3) (ksEnv qual scope s.heap.objs.size f (.ref cda) cc) = (do
      let ov ← attributeBase (.Call (.Name "super" p0) [] [] p1) "__init__" (ksEnv qual scope s.heap.objs.size f (.ref cda) cc) (eval (.Call (.Name "super" p0) [] [] p1) (ksEnv qual scope s.heap.objs.size f (.ref cda) cc))
      standAt p2.atName
      let (fn, first) ← holding [ov] (getMethod ov "__init__" (do return (← importBound (.Call (.Name "super" p0) [] [] p1) (ksEnv qual scope s.heap.objs.size f (.ref cda) cc)).getD true))
      callWith p3 fn first (backTo p3 (starEach [.Constant (.str msg) jj pc] (ksEnv qual scope s.heap.objs.size f (.ref cda) cc))) []) := by
    rw [PySem.arm_eval_Call]
    have hf : methodCallForm ([Expr.Constant (.str msg) jj pc].length + ([] : List Keyword).length) (backTo p3 (starEach [.Constant (.str msg) jj pc] (ksEnv qual scope s.heap.objs.size f (.ref cda) cc))) (backToKw p3 (keywordEach [] (ksEnv qual scope s.heap.objs.size f (.ref cda) cc))) = true := rfl
    simp only [mcall_line hf hln]
    rfl
  have hint : interactive (ksEnv qual scope s.heap.objs.size f (.ref cda) cc) = false := by
    unfold interactive
    simp [S.kind]
  refine ks_wpAt_Expr_any (ks_wpAt_MethodCall ?_ hev) hint hs
  refine ks_wpAt_super_base (env := PySem.W.ksEnv qual scope s.heap.objs.size f (.ref cda) cc) S.sup S.cls (by decide) rfl (KI _ _ hf) rfl hp rfl (KI _ _ hcd) rfl hvs hfile XC.top ?_
  obtain ⟨mb, b1, b2⟩ := I.mod.blt
  refine PySem.W.ks_loadName_global S.kind S.sup (Calls.loadGlobal_builtin (env := PySem.W.ksEnv qual scope s.heap.objs.size f (.ref cda) cc) (I.mod.glob.keeps I.bk) hm (b1.keeps I.bk) ((b2 "super" (by decide)).trans (show bootBuiltins "super" = some (.type "super") by kernel_rfl)) ⟨rfl, ?_⟩)
  refine wpAny_loadName_free S.kind S.cls rfl ⟨_, KI _ _ hcell, rfl⟩ ?_
  refine wpAny_loadName_local S.kind har hns hma ?_
  refine ks_wpAny_isType_cls hCo rfl ⟨rfl, ?_⟩
  refine ks_wpAny_call_super hCo rfl ho rfl (fun c z => by cases z) (PySem.W.looks_mroIn KI XC.own) fun h2 so k2' => ?_
  have KI2 : K.In h2 := fun b o e => k2' b o (KI b o e)
  have ho2 := k2' _ _ ho
  have J : PySem.W.InstAt h2 a { cls := .ref C, dict := none, data := .fields #[.ref t1, .none, .none, .none, .bool false, .none] } C none := ⟨ho2, rfl, rfl, trivial⟩
  have hini := XC.ini
  unfold PySem.W.ks_superIn at hini
  cases hc : PySem.W.clsIn K C with
  | none => rw [hc] at hini; cases hini
  | some cdC =>
    rw [hc, Option.bind_some] at hini
    refine PySem.W.kxs_getMethod PySem.W.kxs_ValueError so (PySem.W.looks_opaque KI2 XC.tp) (l₀ := cdC.mro) (fun A Q E s k q => wpAny_bind ((PySem.W.looks_clsIn KI2 hc) A _ E s k (wpAny_pure q))) rfl KI2 hini (J.type.andThen (PySem.W.looks_subIn KI2 XC.val)) (PySem.W.ks_ne KI2 J hc) (by decide) ?_
    have kk : ∀ b o, hp0.get? b = some o → (h2.push (kxs_mw "ValueError.__init__" a)).get? b = some o := fun b o e => Heap.get?_push_of_some _ (k2' b o e)
    have I2 : Inv (cxX CX P w K mg base N qual scope f (.ref cda) cc A outer s H E) [] σ H ⟨h2.push (kxs_mw "ValueError.__init__" a), g, d, t + 1, os⟩ := I.kept (t' := t + 1) kk
    have hu2 : (h2.push (kxs_mw "ValueError.__init__" a)).get? h2.objs.size = some (kxs_mw "ValueError.__init__" a) := Heap.get?_push_at rfl rfl
    have hsz : hp0.objs.size ≤ h2.objs.size := by
      have : hp0.objs.size < h2.objs.size := Heap.lt_size so
      exact Nat.le_of_lt this
    have hfresh : H h2.objs.size = none := I.hok.fresh hsz
    have hL : s.heap.objs.size < h2.objs.size := by
      have := I.lt
      exact Nat.lt_of_lt_of_le this hsz
    have I3 : Inv (cxX CX P w K mg base N qual scope f (.ref cda) cc A outer s H E) [(h2.objs.size, kxs_mw "ValueError.__init__" a)] σ H ⟨h2.push (kxs_mw "ValueError.__init__" a), g, d, t + 1, os⟩ := I2.pins_of fun p hp => by
      rw [List.mem_singleton] at hp
      subst hp
      exact ⟨hu2, hfresh, Nat.ne_of_gt hL, I.nofs hsz, fun v z => by cases z⟩
    show wpAny _ _ (callWith p3 (.ref h2.objs.size) [] (backTo p3 (starEach [.Constant (.str msg) jj pc] _)) []) _ _ _
    refine PySem.W.kxs_callWith (i := "ValueError.__init__") (x := a) rfl (evalArgs_plain ?_)
    have ha : PA (cxX CX P w K mg base N qual scope f (.ref cda) cc A outer s H E) [.Constant (.str msg) jj pc] (tCons (tC (.str msg)) tNil) := pa_cons pe_str pa_nil
    refine wpAny_mono (ha.run p3 [(h2.objs.size, kxs_mw "ValueError.__init__" a)] _ σ H (fun vs H1 => vs = [V.str msg] ∧ H = H1) I3 ⟨rfl, rfl⟩) (fun us s3 hh => ?_) fun e s' z => hx e s' z
    obtain ⟨vs, H1, I4, r4, rfl, rfl⟩ := hh
    obtain ⟨hu4, _⟩ := I4.pin (h2.objs.size, kxs_mw "ValueError.__init__" a) (List.mem_append.mpr (.inr List.mem_cons_self))
    refine ⟨hu4, ?_⟩
    obtain ⟨t4, ho4⟩ := exo_at I4.hok ea
    obtain ⟨hp4, g4, d4, tk4, os4⟩ := s3
    have hlen : us.length ≤ sizeLine := by
      rw [← Paired.length r4, sizeLine_eq]
      simp
    refine call_mw (I4.kIn _ _ hC) ho4 hu4 hlen fun h' t5 k5' he5 => ⟨rfl, ?_⟩
    have J5 := I4.write (t' := tk4) (x := a) (e := a) (o := exo a C none) (by rw [ea]; exact True.intro) (.inl rfl) k5' ⟨_, he5⟩ (exo_ok he5)
    have eu : upd H a (exo a C none) = H := by
      funext b
      by_cases hb : b = a
      · rw [hb, upd_same, ea]
      · rw [upd_ne hb]
    rw [eu] at J5
    exact J5.pins_of fun p hp => absurd hp (by simp)
end
section
variable {CX : CXT} {P : Program} {w : World} {K : PySem.W.Frag} {mg : Str → Option Value} {base : Heap} {N ps : List Str} {name qual : Str} {params : Arguments} {scope : Scope} {f cc C cda : Addr} {dV kV doc pm ct oc cl : Value} {an od cld : Option Addr} {osl csl : Array (Option Value)} {k : Nat} {sp : Sp}
/-- THE RULE: an __init__ that begins with super().__init__(text) -/
theorem fn_x {msg : Str} {jj : Nat} {p0 p1 p2 p3 p4 pc : Pos} {rest : List Stmt} {ar : Arg} (S : XScope N ps scope)
    (lk : K.lookup f = some ⟨oc, od, .func (PySem.W.ksFn name qual params (.Expr (.Call (.Attribute (.Call (.Name "super" p0) [] [] p1) "__init__" p2) [.Constant (.str msg) jj pc] [] p3) p4 :: rest) scope dV kV doc pm an (.ref cda) ct cc), osl⟩)
    (hcd : PySem.W.codeIn K (.ref cda) qual = true) (XC : XCls P K C f cda (PySem.W.ksFn name qual params (.Expr (.Call (.Attribute (.Call (.Name "super" p0) [] [] p1) "__init__" p2) [.Constant (.str msg) jj pc] [] p3) p4 :: rest) scope dV kV doc pm an (.ref cda) ct cc))
    (hp : (params.posonlyargs ++ params.args).head? = some ar) (h0 : N[0]? = some ar.arg) (har : scope.names.lookup ar.arg = some .local) (hcell : K.lookup cc = some ⟨cl, cld, .cell (some (.ref C)), csl⟩) (hm : mg "super" = none) (hln : (p2.endLine == p3.line) = true)
    (hs : ∀ L, swapsWith (.Call (.Attribute (.Call (.Name "super" p0) [] [] p1) "__init__" p2) [.Constant (.str msg) jj pc] [] p3) none p4.line (PySem.W.ksEnv qual scope L f (.ref cda) cc) = pure false)
    (len : ∀ vs H Q E, sp vs H Q E → vs.length = ps.length)
    (hbody : ∀ (A : Around) (outer : List Env) (s : Shared) (H : Hp) (vs : List V) (Q : VK) (E : XK), Room k (A.deeper (PySem.W.ksEnv qual scope s.heap.objs.size f (.ref cda) cc)) → sp vs H Q E →
      ∃ a ws, vs = .ref a :: ws ∧ H a = some (exo a C none) ∧ ∃ t, PSs (cxX CX P w K mg base N qual scope f (.ref cda) cc A outer s H E) rest t ∧ t { nx := fun _ H' => Q .non H', rt := Q } (L2.start N vs) H) :
    FnOk P w K mg base CX (k + 1) f (PySem.W.ksFn name qual params (.Expr (.Call (.Attribute (.Call (.Name "super" p0) [] [] p1) "__init__" p2) [.Constant (.str msg) jj pc] [] p3) p4 :: rest) scope dV kV doc pm an (.ref cda) ct cc) ps sp := by
  refine ⟨len, fun A outer s H args us vs Q E hr e0 hb r hsp => ?_⟩
  have hl := len _ _ _ _ hsp
  have KX : K.In s.heap := e0.mod.kin.keeps fun b o e => (e0.bs b o e).1
  have lim : s.heap.NoLimit := e0.mod.nolimit.keeps fun b o e => (e0.bs b o e).1
  refine ks_codeAny_call_defAt (binds := ps.zip us) hr.depth (KX _ _ lk) rfl lim (PySem.W.codeRec_of KX hcd) rfl hb S.nocell (fun y hy => S.par _ (List.of_mem_zip hy).1) (fun h1 hns hk => ?_) S.co S.gen S.kind
  obtain ⟨a, ws, rfl, ea, t, ht, hq⟩ := hbody A outer s H vs Q E (hr.deeper _) hsp
  have I : Inv (cxX CX P w K mg base N qual scope f (.ref cda) cc A outer s H E) [] (L2.start N (.ref a :: ws)) H { s with heap := h1, toks := s.toks + (ps.zip us).length } := inv_x S hr.hd e0 hl r hcell hns hk
  show _root_.PySem.wpAt _ (A.deeper (PySem.W.ksEnv qual scope s.heap.objs.size f (.ref cda) cc)) (.func _ (PySem.W.ksEnv qual scope s.heap.objs.size f (.ref cda) cc)) (execs _ (PySem.W.ksEnv qual scope s.heap.objs.size f (.ref cda) cc)) _ _ _
  refine ks_wpAt_execs_cons (ks_wpAt_mono (super_step S XC hp h0 har hcell hm I rfl ea hln (hs _) (fun e s' z => z)) (fun fl s' hfl => ?_) fun e s' z => z)
  obtain ⟨rfl, I'⟩ := hfl
  refine wpAt_of_wpAny (wpAny_mono (ht.run [] s' (L2.start N (.ref a :: ws)) H _ I' hq) (fun fl s2 hs2 => ?_) fun e s2 z => z)
  have fin : ∀ {σ' : L2.St} {H' : Hp} {v : V} {u : Value}, Inv (cxX CX P w K mg base N qual scope f (.ref cda) cc A outer s H E) [] σ' H' s2 → RelV v u → Q v H' → CE outer P w H s Q u s2 := fun {σ' H' v u} J rv q => ⟨v, H', J.os, J.bare, J.base, J.hok, rv, q⟩
  cases fl with
  | ret u =>
    obtain ⟨v, σ', H', J, rv, q⟩ := hs2
    exact fin J rv q
  | next =>
    obtain ⟨σ', H', J, q⟩ := hs2
    exact fin (v := V.non) (u := Value.none) J rfl q
  | brk =>
    obtain ⟨_, _, _, q⟩ := hs2
    exact False.elim q
  | cont =>
    obtain ⟨_, _, _, q⟩ := hs2
    exact False.elim q
end
end HX
end

section
set_option Elab.async false
set_option linter.all false
set_option maxRecDepth 100000
set_option maxHeartbeats 4000000
/-! HX2: exceptions as values: made, asked by isinstance, their fields read. -/
namespace HX
open PySem PySem.Spec PyProof.Rows PySem.Calls L2

/-- what an exception's class must have, for its instances to be asked and read -/
structure XF (K : PySem.W.Frag) (C : Addr) : Prop where
  cls : (PySem.W.clsIn K C).isSome = true
  ga : PySem.W.findIn K (.ref C) "__getattribute__" = some (some (.builtin "BaseException.__getattribute__"))
  gg : PySem.W.findIn K (.ref C) "__getattr__" = some none
  bas : PySem.W.subIn K (.ref C) (.type "BaseException") = some true
  hd : PySem.W.hasDictIn K C = true
  kl : PySem.W.findIn K (.ref C) "__class__" = some (some (.builtin "object.__class__"))
  gs : PySem.W.specialIn K (.builtin "object.__class__") "__get__" = some (some (.builtin "getset_descriptor.__get__"))
  tk : PySem.W.takesIn K (.builtin "object.__class__") = some true
  mo : PySem.W.mroIn K C (.type "object") = some true
def xfB (K : PySem.W.Frag) (C : Addr) : Bool :=
  (PySem.W.clsIn K C).isSome && (decide (PySem.W.findIn K (.ref C) "__getattribute__" = some (some (.builtin "BaseException.__getattribute__"))) && (decide (PySem.W.findIn K (.ref C) "__getattr__" = some none) && (decide (PySem.W.subIn K (.ref C) (.type "BaseException") = some true) &&
    (PySem.W.hasDictIn K C && (decide (PySem.W.findIn K (.ref C) "__class__" = some (some (.builtin "object.__class__"))) && (decide (PySem.W.specialIn K (.builtin "object.__class__") "__get__" = some (some (.builtin "getset_descriptor.__get__"))) &&
    (decide (PySem.W.takesIn K (.builtin "object.__class__") = some true) && decide (PySem.W.mroIn K C (.type "object") = some true))))))))
theorem xfB_ok {K : PySem.W.Frag} {C : Addr} (h : xfB K C = true) : XF K C := by
  simp only [xfB, Bool.and_eq_true, decide_eq_true_eq] at h
  obtain ⟨h1, h2, h3, h4, h5, h6, h7, h8, h9⟩ := h
  exact ⟨h1, h2, h3, h4, h5, h6, h7, h8, h9⟩
section
variable {X : Cx} {pins : List (Addr × Obj)} {σ : L2.St} {H : Hp} {s : Shared} {a C : Addr} {d : Option Addr} {fs : List (Str × V)}
/-- an exception lies there, perhaps with its dict -/
def ExAt (H : Hp) (a C : Addr) (fs : List (Str × V)) : Prop := (fs = [] ∧ H a = some (exo a C none)) ∨ ∃ dx, H a = some (exo a C (some dx)) ∧ H dx = some (exd dx fs)
theorem ExAt.inst (I : Inv X pins σ H s) (h : ExAt H a C fs) : ∃ ox od, PySem.W.InstAt s.heap a ox C od ∧ ∀ f v, fs.lookup f = some v → ∃ o u, od = some o ∧ PySem.W.lookIn f o = some (some u) ∧ RelV v u := by
  rcases h with ⟨rfl, h⟩ | ⟨dx, h, h2⟩
  · obtain ⟨t, ho⟩ := exo_at I.hok h
    exact ⟨_, none, ⟨ho, rfl, rfl, trivial⟩, fun f v e => by cases e⟩
  · obtain ⟨t, ho⟩ := exo_at I.hok h
    obtain ⟨mA, hns, hr⟩ := exd_at I.hok h2
    obtain ⟨od, hod, hl⟩ := lookIn_ns hns
    refine ⟨_, some od, ⟨ho, rfl, rfl, hod⟩, fun f v e => ?_⟩
    obtain ⟨u, hu, ru⟩ := RelO.some_of (v := v) (o := mA f) (by rw [← e]; exact hr f)
    exact ⟨od, u, rfl, by rw [hl, hu], ru⟩
/-- isinstance(e, c), e an exception -/
def rIsX (K : PySem.W.Frag) : List V → Hp → VK → Prop := fun xs H Q => ∃ (a C : Addr) (fs : List (Str × V)) (c : V) (cv : Value) (b : Bool), xs = [.ref a, c] ∧ ExAt H a C fs ∧ XF K C ∧ (∀ u, RelV c u → u = cv) ∧ PySem.W.kitOne K (.ref C) cv = some b ∧ Q (.bl b) H
theorem call_isX : CallR X (.builtin "isinstance") (rIsX X.K) := by
  intro pins s σ H xs us Q I r h
  obtain ⟨a, C, fs, c, cv, b, rfl, hx, T, hcv, e, q⟩ := h
  cases r with
  | cons rx rr =>
    cases rr with
    | cons rt rr =>
      cases rr
      cases rx
      have ec := hcv _ rt
      subst ec
      obtain ⟨ox, od, J, _⟩ := hx.inst I
      exact PySem.W.kia_one (PySem.W.kitx_exc T.cls T.ga T.gg T.bas T.kl T.gs T.tk T.mo) I.kIn J e (fun z => nomatch z) fun tk => ⟨.bl b, H, I.kept (t' := tk) fun _ _ z => z, rfl, q⟩
/-- e.f, e an exception -/
def tXfl (K : PySem.W.Frag) (f : Str) (te : TE) : TE := fun σ H Q => te σ H fun x H1 => ∃ (a C : Addr) (fs : List (Str × V)) (v : V), x = .ref a ∧ ExAt H1 a C fs ∧ XF K C ∧ PySem.W.findIn K (.ref C) f = some none ∧ fs.lookup f = some v ∧ Q v H1
theorem xfl_ok {u : Value} {x : V} {f : Str} {Q : VK} {ex : Bool} (I : Inv X pins σ H s) (r : RelV x u) (h : ∃ (a C : Addr) (fs : List (Str × V)) (v : V), x = .ref a ∧ ExAt H a C fs ∧ XF X.K C ∧ PySem.W.findIn X.K (.ref C) f = some none ∧ fs.lookup f = some v ∧ Q v H) :
    wpAny (model X.prog X.w) X.A (getAttr u f ex) (EP X pins σ Q) X.xe s := by
  obtain ⟨a, C, fs, v, rfl, hx, T, hno, l, q⟩ := h
  obtain rfl : u = Value.ref a := r
  obtain ⟨ox, od, J, hf⟩ := hx.inst I
  obtain ⟨o, w, rfl, hl, rw'⟩ := hf f v l
  exact HandSPX.exc_get I.kIn J T.ga T.gg T.bas (PySem.W.findObj_own T.hd hno rfl hl) (handed_of rw') ⟨v, H, I.tok _, rw', q⟩
/-! ### making -/
/-- C(e, ..), C's own __init__ keeping sp, as a value -/
def tMkV (C : Addr) (sp : Sp) (ta : TA) : TE := fun σ H Q => ta σ H fun vs H1 => vs.length ≤ 1000 ∧ ∀ a, H1 a = none → sp (.ref a :: vs) (upd H1 a (exo a C none)) (fun v H2 => v = .non ∧ Q (.ref a) H2) (fun _ _ _ => False)
theorem pe_mkv {CX : CXT} {x : Str} {fI : Addr} {k : Nat} {fd : FuncData} {ps : List Str} {sp : Sp} {e : Expr} {es : List Expr} {ta : TA} {p pos : Pos} (T : OexC X.K C) (iC : PySem.W.findIn X.K (.ref C) "__init__" = some (some (.ref fI))) (tI : PySem.W.typeIn X.K (.ref fI) = some (.type "function"))
    (F1 : FnOk X.prog X.w X.K X.mg X.base CX k fI fd ps sp) (hr : Room (k + 1) X.A) (hb : Binds X.K fd ps []) (hx : Passes CX X (fun _ _ _ => False)) (hg : Gl X x) (hm : X.mg x = some (.ref C)) (ha : PA X (e :: es) ta)
    (hdb : (x == ("__debug__" : Str)) = false := by decide) (he : starEach (e :: es) X.env = (false, eval e X.env) :: starEach es X.env := by rfl) (hpl : (backTo pos (starEach es X.env)).any (·.1) = false := by rfl) :
    PE X (.Call (.Name x p) (e :: es) [] pos) (tMkV C sp ta) := by
  refine ⟨fun pins s σ H Q I h => ?_⟩
  obtain ⟨nm, q, N, bs, bm, sn, sub, ab, col, dd, k0, k1, k2, k3, k5, hC, hbm⟩ := T.cls
  refine wpAny_Call_Name_kw (ld_glob I hg hm ?_ hdb)
  refine PySem.W.callWith_K (h₀ := X.base) I.ok.mod.kin T.kC (thn (ha.run pos pins s σ H _ I h) fun us s1 ⟨vs, H1, I1, r1, hz, q1⟩ => ⟨I1.kIn, ?_⟩) he hpl
  show wpAny _ _ (call (.ref C) us) _ _ _
  obtain ⟨hp, g, dr, tk, os⟩ := s1
  have hsz : hp.objs.size ≤ hp.objs.size + 1 := Nat.le_succ _
  have hq := q1 (hp.objs.size + 1) (I1.hok.fresh hsz)
  have kk : ∀ b o, hp.get? b = some o → ((hp.push (PySem.W.kdv_tup us)).push (PySem.HandSPX.excO C hp.objs.size)).get? b = some o := fun b o e => Heap.get?_push_of_some _ (Heap.get?_push_of_some _ e)
  have hget : ((hp.push (PySem.W.kdv_tup us)).push (PySem.HandSPX.excO C hp.objs.size)).get? (hp.objs.size + 1) = some (PySem.HandSPX.excO C hp.objs.size) := by heap_get
  have I2 : Inv X pins σ (upd H1 (hp.objs.size + 1) (exo (hp.objs.size + 1) C none)) ⟨(hp.push (PySem.W.kdv_tup us)).push (PySem.HandSPX.excO C hp.objs.size), g, dr, tk, os⟩ :=
    I1.laid (t' := tk) (a := hp.objs.size + 1) (o := exo (hp.objs.size + 1) C none) (h' := (hp.push (PySem.W.kdv_tup us)).push (PySem.HandSPX.excO C hp.objs.size)) kk hsz (exo_ok hget)
  have r2 : Vals (V.ref (hp.objs.size + 1) :: vs) (Value.ref (hp.objs.size + 1) :: us) := .cons rfl r1
  have hl : (Value.ref (hp.objs.size + 1) :: us ++ []).length = ps.length := by
    have e := r2.length
    rw [F1.len _ _ _ _ hq] at e
    simpa using e.symm
  have hus : us.length ≤ sizeLine := by
    rw [← Paired.length r1, sizeLine_eq]
    omega
  have hbd := hb ⟨(hp.push (PySem.W.kdv_tup us)).push (PySem.HandSPX.excO C hp.objs.size), g, dr, tk, os⟩ (Value.ref (hp.objs.size + 1) :: us) I2.kIn hl
  simp only [List.append_nil] at hbd
  refine wpAny_call (PySem.HandSPX.call_own F.excBase_ValueError (fun Y => PySem.HandSPX.refsVE_contains Y bm hbm) (I1.kIn _ _ hC) (PySem.W.looks_findIn I1.kIn iC) (fun self => PySem.W.bind_fn I1.kIn self tI) hus
    (codeAny_mono (F1.run _ X.stack _ _ ⟨Value.ref (hp.objs.size + 1) :: us, []⟩ (Value.ref (hp.objs.size + 1) :: us) _ _ (fun _ _ _ => False) (hr.make C us []) (I2.env0.make C us []) hbd r2 hq) fun r s' hq' => ?_))
  cases r with
  | error er => exact hx pins σ _ _ er s' I2 hq'
  | ok fl =>
    cases fl with
    | ret u =>
      obtain ⟨v, H2, J, rv, ev, q2⟩ := I2.after hq'
      subst ev
      exact ⟨rv, .ref (hp.objs.size + 1), H2, J, rfl, q2⟩
    | next => exact False.elim hq'
    | brk => exact False.elim hq'
    | cont => exact False.elim hq'
/-- C(), an own exception class without an own __init__ -/
theorem pe_mk0 {bmB : List Value} {B newId initId : String} {x : Str} {p pos : Pos} (F : ExcBaseFacts B newId initId bmB) (q : PySem.W.excIn X.K C bmB newId = true) (gC : X.mg x = some (.ref C)) (kC : PySem.W.keepIn X.K (.ref C) = true) (hg : Gl X x) (hdb : (x == ("__debug__" : Str)) = false := by decide) :
    PE X (.Call (.Name x p) [] [] pos) (fun _ H Q => ∀ a, H a = none → Q (.ref a) (upd H a (exo a C none))) := by
  refine ⟨fun pins s σ H Q I h => ?_⟩
  refine wpAny_Call_Name_kw (ld_glob I hg gC (PySem.W.callWith_K0 I.kIn kC ?_) hdb)
  show wpAny _ _ (call (.ref C) []) _ _ _
  obtain ⟨bm, N, nm, qn, bs, hdct, sn, sub, ab, col, dd, k0, k1, k2, k3, k5, mN, hC, hN, hni, T⟩ := exc_obj I.kIn q
  obtain ⟨hp, g, dr, tk, os⟩ := s
  refine wpAny_call_exc_subT F T hC hN hni (fun h' a hm => ?_) (Nat.zero_le _)
  have hn : H a = none := I.hok.gone hm.new
  obtain ⟨t, ht, _, _⟩ := hm.there
  exact ⟨.ref a, upd H a (exo a C none), I.laidN hm.keeps hm.new hn (exo_ok ht), rfl, h a hn⟩
end
end HX
end

section
set_option Elab.async false
set_option linter.all false
set_option maxRecDepth 100000
set_option maxHeartbeats 4000000
/-! HX3: an __init__ that says super().__init__(text), then self.f = p for each parameter: what it leaves. -/
namespace HX
open PySem PySem.Spec PyProof.Rows PySem.Calls L2

/-- the promise: the fields, the last one first -/
def xsp (K : PySem.W.Frag) (C : Addr) (flds : List Str) : Sp := fun vs H Q _ => ∃ a ws, vs = .ref a :: ws ∧ ws.length = flds.length ∧ flds ≠ [] ∧ flds.length ≤ 900 ∧ H a = some (exo a C none) ∧
  ∀ dx, H dx = none → dx ≠ a → Q .non (upd (upd H dx (exd dx (flds.zip ws).reverse)) a (exo a C (some dx)))
/-- self.f = p, one by one -/
def asgT (K : PySem.W.Frag) : Nat → List Str → TS
  | _, [] => tNext
  | i, f :: fs => tSeq (tOst K f (tVar 0) (tVar i)) (asgT K (i + 1) fs)
def asgB (N : List Str) (sc : Scope) : Nat → List Str → List Stmt → Bool
  | _, [], sts => sts.isEmpty
  | i, f :: fs, sts => match sts with
    | .Assign [.Attribute (.Name sn _) g _] (.Name pn _) _ :: sts => decide (g = f) && decide (N[0]? = some sn) && decide (N[i]? = some pn) && decide (sc.names.lookup sn = some .local) && decide (sc.names.lookup pn = some .local)
        && !(sn == ("__debug__" : Str)) && !(sn == ("__classdict__" : Str)) && !(pn == ("__debug__" : Str)) && !(pn == ("__classdict__" : Str)) && asgB N sc (i + 1) fs sts
    | _ => false
section
variable {X : Cx} {C a : Addr}
theorem asg_ps : ∀ {fs : List Str} {i : Nat} {sts : List Stmt}, asgB X.N X.env.scope i fs sts = true → PSs X sts (asgT X.K i fs)
  | [], i, sts, h => by
    simp only [asgB, List.isEmpty_iff] at h
    subst h
    exact pss_nil
  | f :: fs, i, sts, h => by
    unfold asgB at h
    split at h
    · simp only [Bool.and_eq_true, decide_eq_true_eq, Bool.not_eq_true'] at h
      obtain ⟨⟨⟨⟨⟨⟨⟨⟨⟨h1, h2⟩, h3⟩, h4⟩, h5⟩, h6⟩, h7⟩, h8⟩, h9⟩, h10⟩ := h
      subst h1
      exact pss_cons (ps_ost (pe_var h2 (.inl h4) h6 h7) (pe_var h3 (.inl h5) h8 h9)) (asg_ps h10)
    · cases h
theorem upd_twice {H : Hp} {x : Addr} {o u : HO} : upd (upd H x o) x u = upd H x u := by
  funext b
  by_cases hb : b = x
  · rw [hb, upd_same, upd_same]
  · rw [upd_ne hb, upd_ne hb, upd_ne hb]
theorem upd_comm {H : Hp} {x y : Addr} {o u : HO} (h : x ≠ y) : upd (upd H x o) y u = upd (upd H y u) x o := by
  funext b
  by_cases hb : b = x
  · subst hb; rw [upd_ne h, upd_same, upd_same]
  · by_cases hc : b = y
    · subst hc; rw [upd_same, upd_ne hb, upd_same]
    · rw [upd_ne hc, upd_ne hb, upd_ne hb, upd_ne hc]
/-- with its dict there -/
theorem asg_rest {K : PySem.W.Frag} (T : OexC K C) {D : Ends} {σ : L2.St} {dx : Addr} (h0 : σ[0]? = some (some (.ref a))) : ∀ {fs : List Str} {ws : List V} {i : Nat} {acc : List (Str × V)} {H : Hp}, ws.length = fs.length → (∀ j w, ws[j]? = some w → σ[i + j]? = some (some w)) → (∀ f ∈ fs, PySem.W.findIn K (.ref C) f = some none) →
    H a = some (exo a C (some dx)) → H dx = some (exd dx acc) → dx ≠ a → acc.length + fs.length ≤ 900 → D.nx σ (upd H dx (exd dx ((fs.zip ws).reverse ++ acc))) → asgT K i fs D σ H
  | [], ws, i, acc, H, hl, hw, hf, ha, hd, hne, hz, q => by
    have e : upd H dx (exd dx acc) = H := by
      funext b
      by_cases hb : b = dx
      · rw [hb, upd_same, hd]
      · rw [upd_ne hb]
    simp only [List.zip_nil_left, List.reverse_nil, List.nil_append] at q
    rw [e] at q
    exact q
  | f :: fs, [], i, acc, H, hl, _, _, _, _, _, _, _ => by simp at hl
  | f :: fs, w :: ws, i, acc, H, hl, hw, hf, ha, hd, hne, hz, q => by
    simp only [List.length_cons] at hl hz
    refine ⟨w, by simpa using hw 0 w rfl, .ref a, h0, a, C, rfl, T, hf f List.mem_cons_self, .inr ⟨dx, acc, ha, hd, by omega, ?_⟩⟩
    refine asg_rest T h0 (ws := ws) (acc := (f, w) :: acc) (by omega) (fun j v e => ?_) (fun g hg => hf g (List.mem_cons_of_mem _ hg)) (by rw [upd_ne (Ne.symm hne)]; exact ha) upd_same hne (by simp only [List.length_cons]; omega) ?_
    · have := hw (j + 1) v (by simpa using e)
      rw [show i + 1 + j = i + (j + 1) by omega]
      exact this
    · rw [upd_twice]
      simpa using q
/-- from nothing -/
theorem asg_first {K : PySem.W.Frag} (T : OexC K C) {D : Ends} {σ : L2.St} (h0 : σ[0]? = some (some (.ref a))) {f : Str} {fs : List Str} {w : V} {ws : List V} {H : Hp} (hl : ws.length = fs.length) (hw : ∀ j v, (w :: ws)[j]? = some v → σ[1 + j]? = some (some v)) (hf : ∀ g ∈ f :: fs, PySem.W.findIn K (.ref C) g = some none)
    (ha : H a = some (exo a C none)) (hz : (f :: fs).length ≤ 900) (q : ∀ dx, H dx = none → dx ≠ a → D.nx σ (upd (upd H dx (exd dx ((f :: fs).zip (w :: ws)).reverse)) a (exo a C (some dx)))) : asgT K 1 (f :: fs) D σ H := by
  simp only [List.length_cons] at hz
  refine ⟨w, by simpa using hw 0 w rfl, .ref a, h0, a, C, rfl, T, hf f List.mem_cons_self, .inl ⟨ha, fun dx hd hne => ?_⟩⟩
  refine asg_rest T h0 (ws := ws) (acc := [(f, w)]) (dx := dx) hl (fun j v e => ?_) (fun g hg => hf g (List.mem_cons_of_mem _ hg)) upd_same (by rw [upd_ne hne, upd_same]) hne (by simp; omega) ?_
  · have := hw (j + 1) v (by simpa using e)
    rw [show 1 + 1 + j = 1 + (j + 1) by omega]
    exact this
  · have := q dx hd hne
    rw [upd_comm (Ne.symm hne), upd_twice]
    simpa using this
end
end HX
end

section
set_option Elab.async false
set_option linter.all false
set_option maxRecDepth 100000
set_option maxHeartbeats 4000000
/-! HX4: exception classes of the program: what is checked of them, what follows. -/
namespace HX
open PySem PySem.Spec PyProof.Rows PySem.Calls L2

/-- a class with such an __init__: its name, the parameters, the fields -/
structure XI where
  x : Str
  N : List Str
  flds : List Str
def scB (N : List Str) (sc : Scope) : Bool := decide (sc.kind = .function) && !sc.isCoroutine && !sc.isGenerator && decide N.Nodup && N.all (fun x => decide (sc.names.lookup x = some .local)) && sc.names.all (fun y => !(y.2 == .cell)) && sc.names.all (fun y => !(y.2 == .free) || y.1 == ("__class__" : Str))
  && decide (sc.names.lookup ("super" : Str) = some .globalImplicit) && decide (sc.names.lookup ("__class__" : Str) = some .free)
def supB : Stmt → Bool
  | .Expr (.Call (.Attribute (.Call (.Name s _) [] [] _) i p2) [.Constant (.str _) _ _] [] p3) _ => decide (s = "super") && decide (i = "__init__") && (p2.endLine == p3.line)
  | _ => false
def argB (P : List Str) (a : Arguments) : Bool := match a with
  | ⟨[], as, none, [], [], none, []⟩ => decide (as.map (·.arg) = P)
  | _ => false
def bodB (N : List Str) (sc : Scope) (flds : List Str) : List Stmt → Bool
  | s :: rest => supB s && asgB N sc 1 flds rest
  | [] => false
theorem scB_ok {N : List Str} {sc : Scope} (h : scB N sc = true) : XScope N N sc := by
  simp only [scB, Bool.and_eq_true, decide_eq_true_eq, Bool.not_eq_true', List.all_eq_true, Bool.or_eq_true] at h
  obtain ⟨⟨⟨⟨⟨⟨⟨⟨h1, h2⟩, h3⟩, h4⟩, h5⟩, h6⟩, h7⟩, h8⟩, h9⟩ := h
  refine ⟨h1, h2, h3, h4, by simp, h5, fun y hy e => ?_, fun y hy e => ?_, h8, h9⟩
  · have := h6 y hy
    rw [e] at this
    cases this
  · rcases h7 y hy with q | q
    · rw [e] at q; cases q
    · exact beq_iff_eq.mp q
/-! ### of the written part -/
def oexB (K : PySem.W.Frag) (C : Addr) : Bool := match K.lookup C with
  | some ⟨.type t, _, .cls cd, sl⟩ => (match cd.mro, sl.toList with
    | .ref D :: bm, [_, _, _, _, some (.builtin n), _] => decide (t = "type") && D == C && n == "ValueError.__new__" && !cd.hasDel && cd.hasDict && PySem.HandSPX.refsVE bm
    | _, _ => false)
  | _ => false
theorem oexB_ok {K : PySem.W.Frag} {C : Addr} (h : oexB K C = true) : ∃ nm q N bs bm sn sub ab col dd k0 k1 k2 k3 k5, K.lookup C = some (excClassObj nm q C N bs bm true sn sub ab col dd k0 k1 k2 k3 k5 "ValueError.__new__") ∧ PySem.HandSPX.refsVE bm = true := by
  unfold oexB at h
  split at h
  · rename_i t dd cd sl e
    split at h
    · rename_i D bm k0 k1 k2 k3 n k5 em es
      simp only [Bool.and_eq_true, decide_eq_true_eq, beq_iff_eq, Bool.not_eq_true'] at h
      obtain ⟨⟨⟨⟨⟨rfl, rfl⟩, rfl⟩, h1⟩, h2⟩, h3⟩ := h
      obtain ⟨nm, bs, mro, ns, qn, hd, sn, sub, ab, col, del⟩ := cd
      obtain ⟨l⟩ := sl
      simp only at em es h1 h2
      subst em es h1 h2
      exact ⟨nm, qn, ns, bs, bm, sn, sub, ab, col, dd, k0, k1, k2, k3, k5, e, h3⟩
    · cases h
  · cases h
def cellB (K : PySem.W.Frag) (cc C : Addr) : Bool := match K.lookup cc with
  | some ⟨_, _, .cell (some (.ref D)), _⟩ => D == C
  | _ => false
def codB (K : PySem.W.Frag) (file : Str) (cd : Value) : Bool := match cd with
  | .ref a => (match K.lookup a with
    | some ⟨_, _, .fields vs, _⟩ => (match (vs[2]? : Option Value) with
      | some (.str f _) => file == f
      | _ => false)
    | _ => false)
  | _ => false
/-- the def at f: its cell, its code, its text -/
def fnB (K : PySem.W.Frag) (file : Str) (d : XI) (f C : Addr) : Bool := match K.lookup f with
  | some ⟨_, _, .func fd, _⟩ => (match fd.closure with
    | [(n, cc)] => decide (n = ("__class__" : Str)) && cellB K cc C
    | _ => false) && codB K file fd.code && PySem.W.codeIn K fd.code fd.qualname && (match fd.defaults with
    | .none => true
    | _ => false) && (match fd.body with
    | .stmts b => argB d.N fd.params && scB d.N fd.scope && bodB d.N fd.scope d.flds b
    | _ => false) && decide (fd.globals = mainGlobals) && decide (fd.builtins = builtinsNs)
  | _ => false
/-- what is asked of the written part, of a class with such an __init__ -/
def XI.okK (file : Str) (K : PySem.W.Frag) (d : XI) : Bool :=
  oexB K (He.ga K d.x) && xfB K (He.ga K d.x) && decide (PySem.W.findIn K (.ref (He.ga K d.x)) "__setattr__" = some (some (.builtin "object.__setattr__"))) && decide (PySem.W.typeIn K (.ref (He.ga K d.x)) = some (.type "type")) && PySem.W.keepIn K (.ref (He.ga K d.x))
  && decide (PySem.W.nsIn K cStatics "thirdparty.any" = some none) && decide (PySem.W.ks_superIn K (He.ga K d.x) (He.ga K d.x) "__init__" = some (some (.builtin "ValueError.__init__"))) && decide (PySem.W.subIn K (.ref (He.ga K d.x)) (.type "ValueError") = some true)
  && decide (PySem.W.mroIn K (He.ga K d.x) (.ref (He.ga K d.x)) = some true) && decide (PySem.W.findIn K (.ref (He.ga K d.x)) "__init__" = some (some (.ref (He.ma K (He.ga K d.x) "__init__")))) && decide (PySem.W.typeIn K (.ref (He.ma K (He.ga K d.x) "__init__")) = some (.type "function"))
  && d.flds.all (fun f => decide (PySem.W.findIn K (.ref (He.ga K d.x)) f = some none)) && fnB K file d (He.ma K (He.ga K d.x) "__init__") (He.ga K d.x) && (decide (d.flds ≠ []) && decide (d.flds.length + 1 = d.N.length) && decide (d.flds.length ≤ 900))
section
variable {K : PySem.W.Frag} {d : XI} {file : Str}
theorem XI.fn (h : fnB K file d (He.ma K (He.ga K d.x) "__init__") (He.ga K d.x) = true) : ∃ name qual a b sc oc od kV doc pm an cda ct cc osl cl cld csl, K.lookup (He.ma K (He.ga K d.x) "__init__") = some ⟨oc, od, .func (PySem.W.ksFn name qual a b sc .none kV doc pm an (.ref cda) ct cc), osl⟩ ∧
    K.lookup cc = some ⟨cl, cld, .cell (some (.ref (He.ga K d.x))), csl⟩ ∧ PySem.W.codeIn K (.ref cda) qual = true ∧ argB d.N a = true ∧ scB d.N sc = true ∧ bodB d.N sc d.flds b = true ∧ ∃ ccl cdd vs ccs f tf, K.lookup cda = some ⟨ccl, cdd, .fields vs, ccs⟩ ∧ vs[2]? = some (.str f tf) ∧ (file == f) = true := by
  unfold fnB at h
  split at h
  · rename_i oc od fd osl lk
    obtain ⟨n1, n2, n3, n4, n5, n6, n7, n8, n9, n10, n11, n12, n13, n14, n15⟩ := fd
    simp only [Bool.and_eq_true, decide_eq_true_eq] at h
    obtain ⟨⟨⟨⟨⟨⟨h1, h2⟩, h3⟩, h4⟩, h5⟩, h6⟩, h7⟩ := h
    subst h6 h7
    split at h1
    · rename_i cn cc
      simp only [Bool.and_eq_true, decide_eq_true_eq] at h1
      obtain ⟨rfl, h1⟩ := h1
      unfold cellB at h1
      split at h1
      · rename_i cl cld D csl lc
        have hD : D = He.ga K d.x := beq_iff_eq.mp h1
        subst hD
        unfold codB at h2
        split at h2
        · rename_i cda
          split at h2
          · rename_i ccl cdd vs ccs lcd
            split at h2
            · rename_i f tf hvs
              split at h4
              · split at h5
                · rename_i b
                  simp only [Bool.and_eq_true] at h5
                  exact ⟨n1, n2, n3, b, n5, oc, od, n9, n10, n11, n12, cda, n14, cc, osl, cl, cld, csl, lk, lc, h3, h5.1.1, h5.1.2, h5.2, ccl, cdd, vs, ccs, f, tf, lcd, hvs, h2⟩
                · cases h5
              · cases h4
            · cases h2
          · cases h2
        · cases h2
      · cases h1
    · cases h1
  · cases h
theorem XI.oex (h : d.okK file K = true) : OexC K (He.ga K d.x) ∧ XF K (He.ga K d.x) := by
  simp only [XI.okK, Bool.and_eq_true, decide_eq_true_eq] at h
  obtain ⟨⟨⟨⟨⟨⟨⟨⟨⟨⟨⟨⟨⟨h1, h2⟩, h3⟩, h4⟩, h5⟩, h6⟩, h7⟩, h8⟩, h9⟩, h10⟩, h11⟩, h12⟩, h13⟩, h14⟩ := h
  exact ⟨⟨oexB_ok h1, h3, (xfB_ok h2).bas, h4, h5⟩, xfB_ok h2⟩
theorem XI.noat (h : d.okK file K = true) : ∀ f ∈ d.flds, PySem.W.findIn K (.ref (He.ga K d.x)) f = some none := by
  simp only [XI.okK, Bool.and_eq_true, decide_eq_true_eq] at h
  obtain ⟨⟨⟨_, h12⟩, h13⟩, h14⟩ := h
  intro f hf
  simpa using List.all_eq_true.mp h12 f hf
/-! ### binding -/
theorem zip_lookup {n : Str} : ∀ {ps : List Str} {us : List Value}, us.length = ps.length → n ∈ ps → ((ps.zip us).lookup n).isNone = false
  | [], _, _, h => by simp at h
  | p :: ps, [], hl, _ => by simp at hl
  | p :: ps, u :: us, hl, h => by
    simp only [List.zip_cons_cons, List.lookup]
    cases e : n == p with
    | true => rfl
    | false =>
      have : n ∈ ps := by
        rcases List.mem_cons.mp h with rfl | h
        · simp at e
        · exact h
      exact zip_lookup (by simpa using hl) this
theorem fm_congr {α β : Type} {f g : α → Option β} : ∀ {l : List α}, (∀ x ∈ l, f x = g x) → l.filterMap f = l.filterMap g
  | [], _ => rfl
  | a :: l, h => by
    rw [List.filterMap_cons, List.filterMap_cons, h a List.mem_cons_self, fm_congr fun x hx => h x (List.mem_cons_of_mem _ hx)]
theorem zip_map : ∀ {ps : List Str} {us : List Value}, ps.Nodup → us.length = ps.length → ps.filterMap (fun n => ((ps.zip us).lookup n).map (n, ·)) = ps.zip us
  | [], us, _, _ => by simp
  | p :: ps, [], _, hl => by simp at hl
  | p :: ps, u :: us, nd, hl => by
    have nd' := List.nodup_cons.mp nd
    have ih := zip_map (us := us) nd'.2 (by simpa using hl)
    simp only [List.zip_cons_cons, List.filterMap_cons, List.lookup, beq_self_eq_true, Option.map_some]
    congr 1
    refine Eq.trans (fm_congr fun n hn => ?_) ih
    have ne : (n == p) = false := beq_eq_false_iff_ne.mpr (fun e => nd'.1 (e ▸ hn))
    rw [ne]
theorem bind_x {x qual : Str} {args : List Arg} {body : List Stmt} {scope : Scope} {kV doc pm cdv ct : Value} {an : Option Addr} {cc : Addr} {us : List Value} (nd : (args.map (·.arg)).Nodup) (hl : us.length = args.length) :
    bindArgs (PySem.W.ksFn x qual ⟨[], args, none, [], [], none, []⟩ body scope .none kV doc pm an cdv ct cc) ⟨us, []⟩ = pure ((args.map (·.arg)).zip us) := by
  have hl2 : us.length = (args.map (·.arg)).length := by simpa using hl
  unfold bindArgs PySem.W.ksFn PySem.W.fnX
  simp only [List.map_nil, List.nil_append, List.append_nil]
  have e0 : seqItems? Value.none = pure none := rfl
  simp only [e0, pure_bind, List.forIn_nil, Option.getD, Array.toList, List.length_nil, Nat.sub_zero, Nat.zero_sub, List.drop_nil, List.drop_zero, List.zip_nil_right]
  simp [hl, zip_map nd hl2]
  intro n hn hno
  exfalso
  have := zip_lookup hl2 (List.mem_of_mem_take hn)
  cases e : List.lookup n ((List.map (fun x => x.arg) args).zip us) with
  | none => rw [e] at this; cases this
  | some v => exact hno v (PySem.mem_of_lookup e)
theorem argB_binds {x qual : Str} {a : Arguments} {body : List Stmt} {scope : Scope} {kV doc pm cdv ct : Value} {an : Option Addr} {cc : Addr} {N : List Str} (nd : N.Nodup) (h : argB N a = true) : Binds K (PySem.W.ksFn x qual a body scope .none kV doc pm an cdv ct cc) N [] := by
  unfold argB at h
  split at h
  · rename_i as
    have e := of_decide_eq_true h
    subst e
    exact Binds.all fun us hl => bind_x nd (by simpa using hl)
  · cases h
variable {P : Program} {w : World} {mg : Str → Option Value} {base : Heap}
theorem XI.fnok {k : Nat} (hK : d.okK file K = true) (hfile : ((P.main.file : Str) == file) = true) (htop : (P.main.scope.names.lookup ("super" : Str)).isSome = false) (hm : mg "super" = none) :
    ∃ fI fd, PySem.W.findIn K (.ref (He.ga K d.x)) "__init__" = some (some (.ref fI)) ∧ PySem.W.typeIn K (.ref fI) = some (.type "function") ∧ Binds K fd d.N [] ∧ FnOk P w K mg base CX0 (k + 1) fI fd d.N (xsp K (He.ga K d.x) d.flds) := by
  obtain ⟨T, XFc⟩ := XI.oex hK
  have hno := XI.noat hK
  simp only [XI.okK, Bool.and_eq_true, decide_eq_true_eq] at hK
  obtain ⟨⟨⟨⟨⟨⟨⟨⟨⟨⟨⟨⟨⟨h1, h2⟩, h3⟩, h4⟩, h5⟩, h6⟩, h7⟩, h8⟩, h9⟩, h10⟩, h11⟩, h12⟩, h13⟩, ⟨s1, s2⟩, s3⟩ := hK
  obtain ⟨name, qual, dA, dB, dS, oc, od, kV, doc, pm, an, cda, ct, cc, osl, cl, cld, csl, lk, lc, hcd, s4, s5, s6, ccl, cdd, vs, ccs, f, tf, lcd, hvs, hf⟩ := XI.fn h13
  have S := scB_ok s5
  unfold bodB at s6
  split at s6
  · rename_i s rest
    simp only [Bool.and_eq_true] at s6
    obtain ⟨s7, s8⟩ := s6
    unfold supB at s7
    split at s7
    · rename_i sn p0 p1 i p2 msg jj pc p3 p4
      simp only [Bool.and_eq_true, decide_eq_true_eq] at s7
      obtain ⟨⟨rfl, rfl⟩, hln⟩ := s7
      refine ⟨_, PySem.W.ksFn name qual dA (.Expr (.Call (.Attribute (.Call (.Name "super" p0) [] [] p1) "__init__" p2) [.Constant (.str msg) jj pc] [] p3) p4 :: rest) dS .none kV doc pm an (.ref cda) ct cc, h10, h11, argB_binds S.nd s4, ?_⟩
      have hfl : f = file := by rw [beq_iff_eq] at hf; exact hf.symm
      subst hfl
      -- the first parameter
      obtain ⟨ar, hp, h0⟩ : ∃ ar : Arg, (dA.posonlyargs ++ dA.args).head? = some ar ∧ d.N[0]? = some ar.arg := by
        unfold argB at s4
        split at s4
        · rename_i as
          have en := of_decide_eq_true s4
          cases as with
          | nil => rw [List.map_nil] at en; rw [← en] at s2; simp at s2
          | cons y ys => exact ⟨y, rfl, by rw [← en]; rfl⟩
        · cases s4
      have har := S.par ar.arg (List.mem_of_getElem? h0)
      refine fn_x (C := He.ga K d.x) S lk hcd ⟨T, h6, h7, h8, h9, ⟨_, _, _, lk⟩, ⟨_, _, _, _, _, _, lcd, hvs, hfile⟩, htop⟩ hp h0 har lc hm hln (fun L => rfl) (fun vs H Q E ⟨a, ws, e1, e2, _⟩ => by rw [e1, List.length_cons, e2]; exact s2) ?_
      rintro A outer s0 H vs Q E hr ⟨a, ws, rfl, e2, hne, hz, ha, hq⟩
      refine ⟨a, ws, rfl, ha, asgT K 1 d.flds, asg_ps s8, ?_⟩
      have hst : L2.start d.N (V.ref a :: ws) = (V.ref a :: ws).map some := by
        unfold L2.start
        rw [List.length_cons, e2, s2, Nat.sub_self, List.replicate_zero, List.append_nil]
      rw [hst]
      cases hfl : d.flds with
      | nil => exact absurd hfl s1
      | cons g gs =>
        rw [hfl] at e2 hz hq hno
        cases ws with
        | nil => simp at e2
        | cons w0 ws =>
          refine asg_first T rfl (by simpa using e2) (fun j v hj => ?_) hno ha hz hq
          rw [List.getElem?_map, show 1 + j = j + 1 by omega, List.getElem?_cons_succ, hj]
          rfl
    · cases s7
  · cases s6
end
end HX
end

section
set_option Elab.async false
set_option linter.all false
set_option maxRecDepth 100000
set_option maxHeartbeats 2000000
/-! LG: a logical layer over HandS. Values with tuples by value, a logical heap of mutable objects; how they lie in the abstract heap of HandS. -/
namespace LG
open PySem PySem.Spec PyProof.Rows L2

/-! ### values, objects, heaps -/
inductive LV where
  | non | bl (b : Bool) | int (i : Int) | str (x : Str) | tup (xs : List LV) | ref (i : Nat) | scr (xs : List LV) | exc (x : Str) (fs : List Str) (xs : List LV)
inductive LO where
  | lst (xs : List LV) | dct (kvs : List (Key × LV)) | ins (c : Nat) (fs : List (Nat × LV))
structure LH where
  n : Nat
  at_ : Nat → Option LO
def LH.put (L : LH) (a : Nat) (o : LO) : LH := ⟨L.n, fun b => if b = a then some o else L.at_ b⟩
def LH.new (L : LH) (o : LO) : LH := ⟨L.n + 1, fun b => if b = L.n then some o else L.at_ b⟩
@[simp] theorem LH.put_n (L : LH) (a : Nat) (o : LO) : (L.put a o).n = L.n := rfl
@[simp] theorem LH.new_n (L : LH) (o : LO) : (L.new o).n = L.n + 1 := rfl
theorem LH.put_at (L : LH) (a b : Nat) (o : LO) : (L.put a o).at_ b = if b = a then some o else L.at_ b := rfl
theorem LH.new_at (L : LH) (b : Nat) (o : LO) : (L.new o).at_ b = if b = L.n then some o else L.at_ b := rfl
@[simp] theorem LH.put_same (L : LH) (a : Nat) (o : LO) : (L.put a o).at_ a = some o := by simp [LH.put_at]
@[simp] theorem LH.new_same (L : LH) (o : LO) : (L.new o).at_ L.n = some o := by simp [LH.new_at]

/-! ### immutable things stay -/
def Imm0 : HO → Prop
  | .tup _ => True
  | .ext _ => True
  | .frz _ (.lst _) => True
  | .frz _ (.tup _) => True
  | _ => False
def Imm : HO → Prop
  | .tup _ => True
  | .ext _ => True
  | .frz _ (.lst _) => True
  | .frz _ (.tup _) => True
  | .frz _ (.dK _) => True
  | _ => False
theorem Imm0.to {o : HO} (h : Imm0 o) : Imm o := by
  unfold Imm0 at h
  split at h <;> first | exact h.elim | trivial
/-- what the values need -/
def Sty0 (H H' : Hp) : Prop := ∀ a o, H a = some o → Imm0 o → H' a = some o
def Sty (H H' : Hp) : Prop := ∀ a o, H a = some o → Imm o → H' a = some o
theorem Sty.to0 {H H' : Hp} (s : Sty H H') : Sty0 H H' := fun a o h i => s a o h i.to
theorem Sty.refl (H : Hp) : Sty H H := fun _ _ h _ => h
theorem Sty.trans {H H1 H2 : Hp} (a : Sty H H1) (b : Sty H1 H2) : Sty H H2 := fun x o h i => b x o (a x o h i) i
theorem Sty.new {H : Hp} {p : Addr} {o : HO} (h : H p = none) : Sty H (upd H p o) := fun a u e _ => by
  rw [upd_ne (ne_of_none e h)]
  exact e
theorem Sty.mut {H : Hp} {p : Addr} {u o : HO} (h : H p = some u) (n : ¬ Imm u) : Sty H (upd H p o) := fun a v e i => by
  have : a ≠ p := by
    rintro rfl
    rw [h] at e
    cases e
    exact n i
  rw [upd_ne this]
  exact e
theorem Sty0.tup {K : PySem.W.Frag} {H H' : Hp} {a : Addr} {xs : List V} (s : Sty0 H H') (h : SqT K H a xs) : SqT K H' a xs := by
  rcases h with (h | ⟨o, h⟩) | h
  · exact .inl (.inl (s a _ h trivial))
  · exact .inl (.inr ⟨o, s a _ h trivial⟩)
  · exact .inr h
/-- a list that nobody writes: the script, or one of the written part -/
def FzL (K : PySem.W.Frag) (H : Hp) (a : Addr) (xs : List V) : Prop :=
  (∃ o, H a = some (.frz o (.lst xs))) ∨
    ∃ (o : Obj) (its : Array Value) (n : Nat), K.lookup a = some o ∧ o.cls = .type "list" ∧ o.dict = none ∧ o.data = .seq its n ∧ its.size ≤ sizeLine ∧ Vals xs its.toList
theorem FzL.sq {K : PySem.W.Frag} {H : Hp} {a : Addr} {xs : List V} (h : FzL K H a xs) : SqL K H a xs := by
  rcases h with ⟨o, h⟩ | h
  · exact .inl (.inr ⟨o, h⟩)
  · exact .inr h
theorem Sty0.frz {K : PySem.W.Frag} {H H' : Hp} {a : Addr} {xs : List V} (s : Sty0 H H') (h : FzL K H a xs) : FzL K H' a xs := by
  rcases h with ⟨o, h⟩ | h
  · exact .inl ⟨o, s a _ h trivial⟩
  · exact .inr h
theorem Sty.tup {K : PySem.W.Frag} {H H' : Hp} {a : Addr} {xs : List V} (s : Sty H H') (h : SqT K H a xs) : SqT K H' a xs := s.to0.tup h
theorem Sty.frz {K : PySem.W.Frag} {H H' : Hp} {a : Addr} {xs : List V} (s : Sty H H') (h : FzL K H a xs) : FzL K H' a xs := s.to0.frz h
theorem FzL.of {K : PySem.W.Frag} {H : Hp} {a : Addr} {xs : List V} (o : Only H) (h : SqL K H a xs) : FzL K H a xs := by
  rcases h with (h | ⟨ob, h⟩) | h
  · rcases o a with q | ⟨ob, ys, q⟩ <;> rw [q] at h <;> cases h
  · exact .inl ⟨ob, h⟩
  · exact .inr h

/-- an exception: its class's name, its fields -/
theorem Sty0.exc {H H' : Hp} {a C : Addr} {fs : List (Str × V)} (s : Sty0 H H') (h : HX.ExAt H a C fs) : HX.ExAt H' a C fs := by
  rcases h with ⟨e, h⟩ | ⟨dx, h1, h2⟩
  · exact .inl ⟨e, s _ _ h trivial⟩
  · exact .inr ⟨dx, s _ _ h1 trivial, s _ _ h2 trivial⟩
def XOk (K : PySem.W.Frag) (x : Str) (fs : List Str) : Prop := HX.XF K (He.ga K x) ∧ ∀ f ∈ fs, PySem.W.findIn K (.ref (He.ga K x)) f = some none
/-! ### how a value lies -/
abbrev Rho := Nat → Option Addr
def Ex (ρ ρ' : Rho) : Prop := ∀ i a, ρ i = some a → ρ' i = some a
theorem Ex.refl (ρ : Rho) : Ex ρ ρ := fun _ _ h => h
theorem Ex.trans {a b c : Rho} (x : Ex a b) (y : Ex b c) : Ex a c := fun i u h => y i u (x i u h)

mutual
def Rl (K : PySem.W.Frag) (H : Hp) (ρ : Rho) : LV → V → Prop
  | .non, v => v = .non
  | .bl b, v => v = .bl b
  | .int i, v => v = .int i
  | .str x, v => v = .str x
  | .ref i, v => ∃ a, ρ i = some a ∧ v = .ref a
  | .tup xs, v => ∃ a vs, v = .ref a ∧ SqT K H a vs ∧ Rls K H ρ xs vs
  | .scr xs, v => ∃ a vs, v = .ref a ∧ FzL K H a vs ∧ Rls K H ρ xs vs
  | .exc x fs xs, v => ∃ a vs, v = .ref a ∧ (HX.ExAt H a (He.ga K x) (fs.zip vs).reverse ∧ XOk K x fs) ∧ Rls K H ρ xs vs
def Rls (K : PySem.W.Frag) (H : Hp) (ρ : Rho) : List LV → List V → Prop
  | [], vs => vs = []
  | x :: xs, vs => ∃ v r, vs = v :: r ∧ Rl K H ρ x v ∧ Rls K H ρ xs r
end
section
variable {K : PySem.W.Frag} {H H' : Hp} {ρ ρ' : Rho}
mutual
theorem Rl.mono0 (s : Sty0 H H') (e : Ex ρ ρ') : ∀ (x : LV) (v : V), Rl K H ρ x v → Rl K H' ρ' x v
  | .non, v, h => by unfold Rl at h ⊢; exact h
  | .bl b, v, h => by unfold Rl at h ⊢; exact h
  | .int i, v, h => by unfold Rl at h ⊢; exact h
  | .str x, v, h => by unfold Rl at h ⊢; exact h
  | .ref i, v, h => by unfold Rl at h ⊢; obtain ⟨a, h1, h2⟩ := h; exact ⟨a, e _ _ h1, h2⟩
  | .tup xs, v, h => by unfold Rl at h ⊢; obtain ⟨a, vs, h1, h2, h3⟩ := h; exact ⟨a, vs, h1, s.tup h2, Rls.mono0 s e xs vs h3⟩
  | .scr xs, v, h => by unfold Rl at h ⊢; obtain ⟨a, vs, h1, h2, h3⟩ := h; exact ⟨a, vs, h1, s.frz h2, Rls.mono0 s e xs vs h3⟩
  | .exc x fs xs, v, h => by unfold Rl at h ⊢; obtain ⟨a, vs, h1, h2, h3⟩ := h; exact ⟨a, vs, h1, ⟨s.exc h2.1, h2.2⟩, Rls.mono0 s e xs vs h3⟩
theorem Rls.mono0 (s : Sty0 H H') (e : Ex ρ ρ') : ∀ (xs : List LV) (vs : List V), Rls K H ρ xs vs → Rls K H' ρ' xs vs
  | [], vs, h => by unfold Rls at h ⊢; exact h
  | x :: xs, vs, h => by unfold Rls at h ⊢; obtain ⟨v, r, h1, h2, h3⟩ := h; exact ⟨v, r, h1, Rl.mono0 s e x v h2, Rls.mono0 s e xs r h3⟩
end
theorem Rl.mono (s : Sty H H') (e : Ex ρ ρ') (x : LV) (v : V) (h : Rl K H ρ x v) : Rl K H' ρ' x v := Rl.mono0 s.to0 e x v h
theorem Rls.mono (s : Sty H H') (e : Ex ρ ρ') (x : List LV) (v : List V) (h : Rls K H ρ x v) : Rls K H' ρ' x v := Rls.mono0 s.to0 e x v h
theorem Rl.non {v : V} : Rl K H ρ .non v ↔ v = .non := by unfold Rl; exact Iff.rfl
theorem Rl.bl {b : Bool} {v : V} : Rl K H ρ (.bl b) v ↔ v = .bl b := by unfold Rl; exact Iff.rfl
theorem Rl.int {i : Int} {v : V} : Rl K H ρ (.int i) v ↔ v = .int i := by unfold Rl; exact Iff.rfl
theorem Rl.str {x : Str} {v : V} : Rl K H ρ (.str x) v ↔ v = .str x := by unfold Rl; exact Iff.rfl
theorem Rl.ref {i : Nat} {v : V} : Rl K H ρ (.ref i) v ↔ ∃ a, ρ i = some a ∧ v = .ref a := by unfold Rl; exact Iff.rfl
theorem Rl.tup {xs : List LV} {v : V} : Rl K H ρ (.tup xs) v ↔ ∃ a vs, v = .ref a ∧ SqT K H a vs ∧ Rls K H ρ xs vs := by unfold Rl; exact Iff.rfl
theorem Rl.scr {xs : List LV} {v : V} : Rl K H ρ (.scr xs) v ↔ ∃ a vs, v = .ref a ∧ FzL K H a vs ∧ Rls K H ρ xs vs := by unfold Rl; exact Iff.rfl
theorem Rl.exc {x : Str} {fs : List Str} {xs : List LV} {v : V} : Rl K H ρ (.exc x fs xs) v ↔ ∃ a vs, v = .ref a ∧ (HX.ExAt H a (He.ga K x) (fs.zip vs).reverse ∧ XOk K x fs) ∧ Rls K H ρ xs vs := by unfold Rl; exact Iff.rfl
theorem Rls.nil {vs : List V} : Rls K H ρ [] vs ↔ vs = [] := by unfold Rls; exact Iff.rfl
theorem Rls.cons {x : LV} {xs : List LV} {vs : List V} : Rls K H ρ (x :: xs) vs ↔ ∃ v r, vs = v :: r ∧ Rl K H ρ x v ∧ Rls K H ρ xs r := by
  constructor
  · intro h; unfold Rls at h; exact h
  · intro h; unfold Rls; exact h
theorem Rls.mk {x : LV} {xs : List LV} {v : V} {r : List V} (a : Rl K H ρ x v) (b : Rls K H ρ xs r) : Rls K H ρ (x :: xs) (v :: r) := Rls.cons.mpr ⟨v, r, rfl, a, b⟩
theorem Rls.nil' : Rls K H ρ [] [] := Rls.nil.mpr rfl
theorem Rls.length : ∀ {xs : List LV} {vs : List V}, Rls K H ρ xs vs → xs.length = vs.length
  | [], vs, h => by rw [Rls.nil.mp h]; rfl
  | x :: xs, vs, h => by obtain ⟨v, r, rfl, _, h⟩ := Rls.cons.mp h; simp [Rls.length h]
theorem Rls.get : ∀ {xs : List LV} {vs : List V} {i : Nat} {x : LV}, Rls K H ρ xs vs → xs[i]? = some x → ∃ v, vs[i]? = some v ∧ Rl K H ρ x v
  | [], _, _, _, _, e => by simp at e
  | y :: ys, vs, 0, x, h, e => by
    obtain ⟨v, r, rfl, h1, _⟩ := Rls.cons.mp h
    simp at e; subst e; exact ⟨v, rfl, h1⟩
  | y :: ys, vs, i + 1, x, h, e => by
    obtain ⟨v, r, rfl, _, h2⟩ := Rls.cons.mp h
    obtain ⟨w, h3, h4⟩ := Rls.get (i := i) (x := x) h2 (by simpa using e)
    exact ⟨w, by simpa using h3, h4⟩
theorem Rls.append : ∀ {xs ys : List LV} {vs ws : List V}, Rls K H ρ xs vs → Rls K H ρ ys ws → Rls K H ρ (xs ++ ys) (vs ++ ws)
  | [], ys, vs, ws, h, g => by rw [Rls.nil.mp h]; exact g
  | x :: xs, ys, vs, ws, h, g => by
    obtain ⟨v, r, rfl, h1, h2⟩ := Rls.cons.mp h
    exact Rls.mk h1 (Rls.append h2 g)
theorem Rls.take : ∀ (n : Nat) {xs : List LV} {vs : List V}, Rls K H ρ xs vs → Rls K H ρ (xs.take n) (vs.take n)
  | 0, _, _, _ => by simp [Rls.nil]
  | n + 1, [], vs, h => by rw [Rls.nil.mp h]; simp [Rls.nil]
  | n + 1, x :: xs, vs, h => by
    obtain ⟨v, r, rfl, h1, h2⟩ := Rls.cons.mp h
    simpa using Rls.mk h1 (Rls.take n h2)
theorem Rls.drop : ∀ (n : Nat) {xs : List LV} {vs : List V}, Rls K H ρ xs vs → Rls K H ρ (xs.drop n) (vs.drop n)
  | 0, _, _, h => by simpa using h
  | n + 1, [], vs, h => by rw [Rls.nil.mp h]; simp [Rls.nil]
  | n + 1, x :: xs, vs, h => by
    obtain ⟨v, r, rfl, h1, h2⟩ := Rls.cons.mp h
    simpa using Rls.drop n h2
theorem Rls.set : ∀ (i : Nat) {x : LV} {v : V} {xs : List LV} {vs : List V}, Rl K H ρ x v → Rls K H ρ xs vs → Rls K H ρ (xs.set i x) (vs.set i v)
  | _, _, _, [], vs, _, h => by rw [Rls.nil.mp h]; simp [Rls.nil]
  | 0, x, v, y :: ys, vs, r, h => by
    obtain ⟨w, q, rfl, h1, h2⟩ := Rls.cons.mp h
    simpa using Rls.mk r h2
  | i + 1, x, v, y :: ys, vs, r, h => by
    obtain ⟨w, q, rfl, h1, h2⟩ := Rls.cons.mp h
    simpa using Rls.mk h1 (Rls.set i r h2)
theorem Rls.erase : ∀ (i : Nat) {xs : List LV} {vs : List V}, Rls K H ρ xs vs → Rls K H ρ (xs.eraseIdx i) (vs.eraseIdx i)
  | _, [], vs, h => by rw [Rls.nil.mp h]; simp [Rls.nil]
  | 0, x :: xs, vs, h => by
    obtain ⟨w, q, rfl, h1, h2⟩ := Rls.cons.mp h
    simpa using h2
  | i + 1, x :: xs, vs, h => by
    obtain ⟨w, q, rfl, h1, h2⟩ := Rls.cons.mp h
    simpa using Rls.mk h1 (Rls.erase i h2)
theorem Rls.dropLast {xs : List LV} {vs : List V} (h : Rls K H ρ xs vs) : Rls K H ρ xs.dropLast vs.dropLast := by
  rw [List.dropLast_eq_take, List.dropLast_eq_take, h.length]
  exact Rls.take _ h
theorem Rls.reverse : ∀ {xs : List LV} {vs : List V}, Rls K H ρ xs vs → Rls K H ρ xs.reverse vs.reverse
  | [], vs, h => by rw [Rls.nil.mp h]; simp [Rls.nil]
  | x :: xs, vs, h => by
    obtain ⟨v, r, rfl, h1, h2⟩ := Rls.cons.mp h
    simp only [List.reverse_cons]
    exact Rls.append (Rls.reverse h2) (Rls.mk h1 Rls.nil')
theorem Rls.replicate {xs : List LV} {vs : List V} (h : Rls K H ρ xs vs) : ∀ n : Nat, Rls K H ρ (List.replicate n xs).flatten (List.replicate n vs).flatten
  | 0 => by simp [Rls.nil]
  | n + 1 => by
    simp only [List.replicate_succ, List.flatten_cons]
    exact Rls.append h (Rls.replicate h n)
end

/-! ### how an object lies, the logical heap -/
/-- the static part: names (of fields and methods), the addresses of the classes -/
structure Na where
  nm : Nat → Str
  ca : Nat → Addr
def RKs (K : PySem.W.Frag) (H : Hp) (ρ : Rho) : List (Key × LV) → List (Key × V) → Prop
  | [], vs => vs = []
  | x :: xs, vs => ∃ v r, vs = (x.1, v) :: r ∧ Rl K H ρ x.2 v ∧ RKs K H ρ xs r
def RFs (N : Na) (K : PySem.W.Frag) (H : Hp) (ρ : Rho) : List (Nat × LV) → List (Str × V) → Prop
  | [], vs => vs = []
  | x :: xs, vs => ∃ v r, vs = (N.nm x.1, v) :: r ∧ Rl K H ρ x.2 v ∧ RFs N K H ρ xs r
def ROb (N : Na) (K : PySem.W.Frag) (H : Hp) (ρ : Rho) : LO → Addr → Prop
  | .lst xs, a => ∃ vs, H a = some (.lst vs) ∧ Rls K H ρ xs vs
  | .dct kvs, a => ∃ vs, H a = some (.dK vs) ∧ RKs K H ρ kvs vs
  | .ins c fs, a => ∃ dx vs, H a = some (.ins (N.ca c) dx vs) ∧ RFs N K H ρ fs vs ∧ Cls K (N.ca c) ∧ ∀ p ∈ fs, NoAttr K (N.ca c) (N.nm p.1)
structure Rep (N : Na) (K : PySem.W.Frag) (H : Hp) (L : LH) (ρ : Rho) : Prop where
  fresh : ∀ i, L.n ≤ i → ρ i = none
  obj : ∀ i o, L.at_ i = some o → ∃ a, ρ i = some a ∧ ROb N K H ρ o a
  inj : ∀ i j a, ρ i = some a → ρ j = some a → i = j
  dom : ∀ i a, ρ i = some a → ∃ o, H a = some o ∧ (Imm o → L.at_ i = none)
section
variable {N : Na} {K : PySem.W.Frag} {H H' : Hp} {ρ ρ' : Rho} {L : LH}
theorem RKs.mono0 (s : Sty0 H H') (e : Ex ρ ρ') : ∀ {xs : List (Key × LV)} {vs : List (Key × V)}, RKs K H ρ xs vs → RKs K H' ρ' xs vs
  | [], _, h => h
  | x :: xs, _, ⟨v, r, h1, h2, h3⟩ => ⟨v, r, h1, Rl.mono0 s e _ _ h2, RKs.mono0 s e h3⟩
theorem RFs.mono0 (s : Sty0 H H') (e : Ex ρ ρ') : ∀ {xs : List (Nat × LV)} {vs : List (Str × V)}, RFs N K H ρ xs vs → RFs N K H' ρ' xs vs
  | [], _, h => h
  | x :: xs, _, ⟨v, r, h1, h2, h3⟩ => ⟨v, r, h1, Rl.mono0 s e _ _ h2, RFs.mono0 s e h3⟩
theorem ROb.mono0 (s : Sty0 H H') (e : Ex ρ ρ') {o : LO} {a : Addr} (k : H' a = H a) (h : ROb N K H ρ o a) : ROb N K H' ρ' o a := by
  cases o with
  | lst xs => obtain ⟨vs, h1, h2⟩ := h; exact ⟨vs, k.trans h1, Rls.mono0 s e _ _ h2⟩
  | dct xs => obtain ⟨vs, h1, h2⟩ := h; exact ⟨vs, k.trans h1, h2.mono0 s e⟩
  | ins c fs => obtain ⟨dx, vs, h1, h2, h3⟩ := h; exact ⟨dx, vs, k.trans h1, h2.mono0 s e, h3⟩
theorem RKs.mono (s : Sty H H') (e : Ex ρ ρ') {xs : List (Key × LV)} {vs : List (Key × V)} (h : RKs K H ρ xs vs) : RKs K H' ρ' xs vs := h.mono0 s.to0 e
theorem RFs.mono (s : Sty H H') (e : Ex ρ ρ') {xs : List (Nat × LV)} {vs : List (Str × V)} (h : RFs N K H ρ xs vs) : RFs N K H' ρ' xs vs := h.mono0 s.to0 e
theorem ROb.mono (s : Sty H H') (e : Ex ρ ρ') {o : LO} {a : Addr} (k : H' a = H a) (h : ROb N K H ρ o a) : ROb N K H' ρ' o a := h.mono0 s.to0 e k
theorem ROb.mut {o : LO} {a : Addr} (h : ROb N K H ρ o a) : ∃ u, H a = some u ∧ ¬ Imm u := by
  cases o with
  | lst xs => obtain ⟨vs, h1, h2⟩ := h; exact ⟨_, h1, fun z => z⟩
  | dct xs => obtain ⟨vs, h1, h2⟩ := h; exact ⟨_, h1, fun z => z⟩
  | ins c fs => obtain ⟨dx, vs, h1, h2⟩ := h; exact ⟨_, h1, fun z => z⟩
/-- an untracked address is laid, nothing logical -/
theorem Rep.laid (R : Rep N K H L ρ) {p : Addr} {u : HO} (hp : H p = none) : Rep N K (upd H p u) L ρ where
  fresh := R.fresh
  obj := fun i o h => by
    obtain ⟨a, h1, h2⟩ := R.obj i o h
    refine ⟨a, h1, h2.mono (Sty.new hp) (Ex.refl _) (upd_ne ?_)⟩
    obtain ⟨w, q, _⟩ := R.dom i a h1
    exact ne_of_none q hp
  inj := R.inj
  dom := fun i a h => by
    obtain ⟨w, q, n⟩ := R.dom i a h
    exact ⟨w, by rw [upd_ne (ne_of_none q hp)]; exact q, n⟩
def rhoNew (ρ : Rho) (n : Nat) (p : Addr) : Rho := fun i => if i = n then some p else ρ i
theorem Rep.exNew (R : Rep N K H L ρ) (p : Addr) : Ex ρ (rhoNew ρ L.n p) := fun i a h => by
  unfold rhoNew
  rw [if_neg]
  · exact h
  · rintro rfl
    rw [R.fresh _ (Nat.le_refl _)] at h
    cases h
theorem rhoNew_self {n : Nat} {p : Addr} : rhoNew ρ n p n = some p := by simp [rhoNew]
/-- a new object -/
theorem Rep.new (R : Rep N K H L ρ) {p : Addr} {u : HO} {o : LO} (hp : H p = none) (hu : ¬ Imm u) (ho : ROb N K (upd H p u) (rhoNew ρ L.n p) o p) : Rep N K (upd H p u) (L.new o) (rhoNew ρ L.n p) where
  fresh := fun i hi => by
    have : L.n + 1 ≤ i := hi
    unfold rhoNew
    rw [if_neg (by omega)]
    exact R.fresh i (by omega)
  obj := fun i o' h => by
    rw [LH.new_at] at h
    by_cases hi : i = L.n
    · subst hi
      rw [if_pos rfl] at h
      cases h
      exact ⟨p, rhoNew_self, ho⟩
    · rw [if_neg hi] at h
      obtain ⟨a, h1, h2⟩ := R.obj i o' h
      refine ⟨a, R.exNew p _ _ h1, h2.mono (Sty.new hp) (R.exNew p) (upd_ne ?_)⟩
      obtain ⟨w, q, _⟩ := R.dom i a h1
      exact ne_of_none q hp
  inj := fun i j a hi hj => by
    have ne : ∀ k, ρ k = some p → False := fun k hk => by
      obtain ⟨w, q, _⟩ := R.dom k p hk
      rw [hp] at q
      cases q
    unfold rhoNew at hi hj
    by_cases h1 : i = L.n <;> by_cases h2 : j = L.n
    · rw [h1, h2]
    · rw [if_pos h1] at hi; rw [if_neg h2] at hj
      cases hi; exact (ne j hj).elim
    · rw [if_neg h1] at hi; rw [if_pos h2] at hj
      cases hj; exact (ne i hi).elim
    · rw [if_neg h1] at hi; rw [if_neg h2] at hj
      exact R.inj i j a hi hj
  dom := fun i a h => by
    unfold rhoNew at h
    by_cases h1 : i = L.n
    · rw [if_pos h1] at h
      cases h
      exact ⟨u, upd_same, fun z => (hu z).elim⟩
    · rw [if_neg h1] at h
      obtain ⟨w, q, n⟩ := R.dom i a h
      exact ⟨w, by rw [upd_ne (ne_of_none q hp)]; exact q, fun z => by rw [LH.new_at, if_neg h1]; exact n z⟩
/-- an object is changed -/
theorem Rep.put (R : Rep N K H L ρ) {i : Nat} {a : Addr} {o o0 : LO} {u : HO} (hi : ρ i = some a) (hl : L.at_ i = some o0) (hu : ¬ Imm u) (ho : ROb N K (upd H a u) ρ o a) : Rep N K (upd H a u) (L.put i o) ρ := by
  obtain ⟨w0, q0, n0⟩ := R.dom i a hi
  have S : Sty H (upd H a u) := Sty.mut q0 fun z => by rw [n0 z] at hl; cases hl
  exact {
    fresh := R.fresh
    obj := fun j o' h => by
      rw [LH.put_at] at h
      by_cases hj : j = i
      · subst hj
        rw [if_pos rfl] at h
        cases h
        exact ⟨a, hi, ho⟩
      · rw [if_neg hj] at h
        obtain ⟨b, h1, h2⟩ := R.obj j o' h
        refine ⟨b, h1, h2.mono S (Ex.refl _) (upd_ne ?_)⟩
        rintro rfl
        exact hj (R.inj _ _ _ h1 hi)
    inj := R.inj
    dom := fun j b h => by
      obtain ⟨w, q, n⟩ := R.dom j b h
      by_cases hb : b = a
      · subst hb
        exact ⟨u, upd_same, fun z => (hu z).elim⟩
      · refine ⟨w, by rw [upd_ne hb]; exact q, fun z => ?_⟩
        rw [LH.put_at, if_neg]
        · exact n z
        · rintro rfl
          rw [hi] at h
          exact hb (Option.some.inj h).symm }
theorem Rep.styPut (R : Rep N K H L ρ) {i : Nat} {a : Addr} {o0 : LO} {u : HO} (hi : ρ i = some a) (hl : L.at_ i = some o0) : Sty H (upd H a u) := by
  obtain ⟨w0, q0, n0⟩ := R.dom i a hi
  exact Sty.mut q0 fun z => by rw [n0 z] at hl; cases hl
/-- a dict is hidden (locked), and comes back -/
theorem Rep.hide (R : Rep N K H L ρ) {i : Nat} {a : Addr} {od : Obj} {vs : List (Key × V)} (hi : ρ i = some a) (ha : H a = some (.dK vs)) : Rep N K (upd H a (.frz od (.dK vs))) ⟨L.n, fun b => if b = i then none else L.at_ b⟩ ρ where
  fresh := R.fresh
  obj := fun j o h => by
    dsimp only at h
    by_cases hj : j = i
    · rw [if_pos hj] at h; cases h
    · rw [if_neg hj] at h
      obtain ⟨b, h1, h2⟩ := R.obj j o h
      refine ⟨b, h1, h2.mono (Sty.mut ha (fun z => z)) (Ex.refl _) (upd_ne ?_)⟩
      rintro rfl
      exact hj (R.inj _ _ _ h1 hi)
  inj := R.inj
  dom := fun j b h => by
    obtain ⟨w, q, n⟩ := R.dom j b h
    by_cases hb : b = a
    · subst hb
      refine ⟨_, upd_same, fun _ => ?_⟩
      exact if_pos (R.inj _ _ _ h hi)
    · refine ⟨w, by rw [upd_ne hb]; exact q, fun z => ?_⟩
      dsimp only
      split
      · rfl
      · exact n z
theorem Rep.back (R : Rep N K H L ρ) {i : Nat} {a : Addr} {od : Obj} {kvs : List (Key × LV)} {vs : List (Key × V)} (hi : ρ i = some a) (ha : H a = some (.frz od (.dK vs))) (hr : RKs K H ρ kvs vs) : Rep N K (upd H a (.dK vs)) (L.put i (.dct kvs)) ρ := by
  have S : Sty0 H (upd H a (.dK vs)) := fun b u e im => by
    have : b ≠ a := by
      rintro rfl
      rw [ha] at e
      cases e
      exact im
    rw [upd_ne this]
    exact e
  exact {
    fresh := R.fresh
    obj := fun j o' h => by
      rw [LH.put_at] at h
      by_cases hj : j = i
      · subst hj
        rw [if_pos rfl] at h
        cases h
        exact ⟨a, hi, vs, upd_same, hr.mono0 S (Ex.refl _)⟩
      · rw [if_neg hj] at h
        obtain ⟨b, h1, h2⟩ := R.obj j o' h
        refine ⟨b, h1, h2.mono0 S (Ex.refl _) (upd_ne ?_)⟩
        rintro rfl
        exact hj (R.inj _ _ _ h1 hi)
    inj := R.inj
    dom := fun j b h => by
      obtain ⟨w, q, n⟩ := R.dom j b h
      by_cases hb : b = a
      · subst hb
        exact ⟨_, upd_same, fun z => z.elim⟩
      · refine ⟨w, by rw [upd_ne hb]; exact q, fun z => ?_⟩
        rw [LH.put_at, if_neg]
        · exact n z
        · rintro rfl
          rw [hi] at h
          exact hb (Option.some.inj h).symm }
/-- reading the objects -/
theorem Rep.lst (R : Rep N K H L ρ) {i : Nat} {xs : List LV} (h : L.at_ i = some (.lst xs)) : ∃ a vs, ρ i = some a ∧ H a = some (.lst vs) ∧ Rls K H ρ xs vs := by
  obtain ⟨a, h1, vs, h2, h3⟩ := R.obj i _ h
  exact ⟨a, vs, h1, h2, h3⟩
theorem Rep.ins (R : Rep N K H L ρ) {i c : Nat} {fs : List (Nat × LV)} (h : L.at_ i = some (.ins c fs)) : ∃ a dx vs, ρ i = some a ∧ H a = some (.ins (N.ca c) dx vs) ∧ RFs N K H ρ fs vs ∧ Cls K (N.ca c) ∧ ∀ p ∈ fs, NoAttr K (N.ca c) (N.nm p.1) := by
  obtain ⟨a, h1, dx, vs, h2, h3⟩ := R.obj i _ h
  exact ⟨a, dx, vs, h1, h2, h3⟩
theorem Rep.dct (R : Rep N K H L ρ) {i : Nat} {xs : List (Key × LV)} (h : L.at_ i = some (.dct xs)) : ∃ a vs, ρ i = some a ∧ H a = some (.dK vs) ∧ RKs K H ρ xs vs := by
  obtain ⟨a, h1, vs, h2, h3⟩ := R.obj i _ h
  exact ⟨a, vs, h1, h2, h3⟩

/-! ### fields -/
def fget (f : Nat) : List (Nat × LV) → Option LV
  | [] => none
  | (g, x) :: r => if g = f then some x else fget f r
def fput (f : Nat) (v : LV) : List (Nat × LV) → List (Nat × LV)
  | [] => [(f, v)]
  | (g, x) :: r => if g = f then (g, v) :: r else (g, x) :: fput f v r
theorem RFs.length : ∀ {fs : List (Nat × LV)} {vs : List (Str × V)}, RFs N K H ρ fs vs → fs.length = vs.length
  | [], _, h => by rw [show _ = [] from h]; rfl
  | x :: xs, _, ⟨v, r, h1, _, h3⟩ => by rw [h1]; simp [RFs.length h3]
theorem RFs.lookup (inj : ∀ f g, N.nm f = N.nm g → f = g) : ∀ {fs : List (Nat × LV)} {vs : List (Str × V)} {f : Nat}, RFs N K H ρ fs vs →
    (∀ x, fget f fs = some x → ∃ v, vs.lookup (N.nm f) = some v ∧ Rl K H ρ x v) ∧ (fget f fs = none → vs.lookup (N.nm f) = none)
  | [], _, f, h => by rw [show _ = [] from h]; exact ⟨fun x e => by simp [fget] at e, fun _ => rfl⟩
  | (g, y) :: xs, _, f, ⟨v, r, h1, h2, h3⟩ => by
    rw [h1]
    by_cases e : g = f
    · subst e
      refine ⟨fun x q => ⟨v, by simp [List.lookup], ?_⟩, fun q => ?_⟩
      · simp [fget] at q; subst q; exact h2
      · simp [fget] at q
    · have ne : ¬ N.nm f = N.nm g := fun q => e (inj _ _ q).symm
      have hb : (N.nm f == N.nm g) = false := beq_eq_false_iff_ne.mpr ne
      have := RFs.lookup inj (f := f) h3
      simp only [List.lookup, hb, fget, if_neg e]
      exact this
theorem RFs.put (inj : ∀ f g, N.nm f = N.nm g → f = g) {f : Nat} {x : LV} {v : V} (hx : Rl K H ρ x v) : ∀ {fs : List (Nat × LV)} {vs : List (Str × V)}, RFs N K H ρ fs vs → RFs N K H ρ (fput f x fs) (putF (N.nm f) v vs)
  | [], _, h => by rw [show _ = [] from h]; exact ⟨v, [], rfl, hx, rfl⟩
  | (g, y) :: xs, _, ⟨w, r, h1, h2, h3⟩ => by
    rw [h1]
    unfold fput putF
    by_cases e : g = f
    · rw [if_pos e, if_pos (by rw [e])]
      exact ⟨v, r, rfl, hx, h3⟩
    · rw [if_neg e, if_neg (fun q => e (inj _ _ q))]
      exact ⟨w, _, rfl, h2, RFs.put inj hx h3⟩

/-! ### dicts -/
def dget (k : Key) (kvs : List (Key × LV)) : Option LV := (kvs.find? fun kv => decide (kv.1 = k)).map (·.2)
theorem RKs.get : ∀ {kvs : List (Key × LV)} {vs : List (Key × V)} {k : Key}, RKs K H ρ kvs vs →
    (∀ x, dget k kvs = some x → ∃ v, valV vs k = some v ∧ Rl K H ρ x v) ∧ (dget k kvs = none → valV vs k = none)
  | [], _, k, h => by rw [show _ = [] from h]; exact ⟨fun x e => by simp [dget] at e, fun _ => rfl⟩
  | (g, y) :: xs, _, k, ⟨v, r, h1, h2, h3⟩ => by
    rw [h1]
    by_cases e : g = k
    · subst e
      refine ⟨fun x q => ⟨v, by simp [valV], ?_⟩, fun q => ?_⟩
      · simp [dget] at q; subst q; exact h2
      · simp [dget] at q
    · have := RKs.get (k := k) h3
      unfold dget valV at this ⊢
      simp only [List.find?_cons, decide_eq_false e]
      exact this
end
end LG
end

section
set_option Elab.async false
set_option linter.all false
set_option maxRecDepth 100000
set_option maxHeartbeats 2000000
/-! LG2: the small language and what it computes. -/
namespace LG
open PySem PySem.Spec PyProof.Rows L2

/-- an exception: its class, its fields -/
structure LX where
  c : Nat
  fs : List (Nat × LV)
inductive Out (α : Type) where
  | ok (a : α) (L : LH) | err (x : LX) (L : LH) | bad
def Out.bind {α β : Type} (o : Out α) (k : α → LH → Out β) : Out β :=
  match o with
  | .ok a L => k a L
  | .err x L => .err x L
  | .bad => .bad
abbrev LSt := List (Option LV)

inductive B2 where | add | sub | mul | fdiv | mod | pow
  deriving DecidableEq
inductive C2 where | eq | ne | lt | le | gt | ge | isn | notn | inn | nin
  deriving DecidableEq
/-- built-in functions, methods of built-in types -/
inductive BF where | len | tuple | list | int | min | max | sum | any | all | str
  deriving DecidableEq
inductive BM where | lappend | lextend | lpop | lpopAt | linsert | lindex | dget1 | dget2
  deriving DecidableEq
inductive Ty where | int | bool | str | tuple | list | own (c : Nat)
  deriving DecidableEq
mutual
inductive LE where
  | var (i : Nat) | con (v : LV) | glo (i : Nat)
  | bin (o : B2) (a b : LE) | neg (a : LE) | cmp (o : C2) (a b : LE) | chn (o p : C2) (a b c : LE)
  | ands (es : LEs) | ors (es : LEs) | not (a : LE) | ite (c a b : LE)
  | tup (es : LEs) | lst (es : LEs) | dct0
  | idx (a i : LE) | slc (a lo hi : LE)
  | fld (a : LE) (f : Nat)
  | call (f : Nat) (es : LEs) | callk (f : Nat) (es : LEs) (ks : List Nat) (kes : LEs) | make (c : Nat) (es : LEs) | meth (a : LE) (m : Nat) (es : LEs)
  | bf (f : BF) (es : LEs) | bm (m : BM) (a : LE) (es : LEs)
  | isin (a : LE) (ts : List Ty) | mkx (x : Str) (es : LEs) | isx (a : LE) (t : Str) | xfl (a : LE) (f : Str)
  | gidx (g : Nat) (a : LE) | kget (g : Nat) (a d : LE)
  | comp (own : List Nat) (tg : LTg) (it : LI) (t : Option Unit) (cond elt : LE)
  | comp2 (own own1 : List Nat) (tg : LTg) (it : LI) (tg1 : LTg) (it1 : LI) (elt : LE)
inductive LEs where
  | nil | cons (e : LE) (es : LEs)
inductive LI where
  | seq (a : LE) | rng1 (a : LE) | rng2 (a b : LE)
inductive LTg where
  | name (i : Nat) | tup (is : List Nat)
end
def LEs.len : LEs → Nat
  | .nil => 0
  | .cons _ es => es.len + 1
mutual
inductive LS where
  | set (i : Nat) (e : LE) | setf (o : LE) (f : Nat) (e : LE) | seti (o i e : LE) | unp (is : List Nat) (e : LE) | par (i j : Nat) (a b : LE)
  | expr (e : LE) | ret (e : LE) | retN | ifs (c : LE) (a b : LSs) | while (c : LE) (b : LSs) | for (tg : LTg) (it : LI) (b : LSs) | fori (is : List Nat) (a : LE) (b : LSs)
  | pass | brk | cont | raise (c : Nat) (es : LEs) | never
inductive LSs where
  | nil | cons (s : LS) (ss : LSs)
end
inductive Fl where
  | nx | brk | cont | ret (v : LV)

/-! ### values -/
def tru (L : LH) : LV → Option Bool
  | .non => some false
  | .bl b => some b
  | .int i => some (i != 0)
  | .str x => if x.length ≤ sizeLine then some ((x.length : Int) != 0) else none
  | .tup xs => some (!xs.isEmpty)
  | .scr xs => some (!xs.isEmpty)
  | .exc _ _ _ => none
  | .ref a => match L.at_ a with
    | some (.lst xs) => some (!xs.isEmpty)
    | some (.dct xs) => some (!xs.isEmpty)
    | _ => none
mutual
def dat : LV → Option PyData
  | .non => some .none
  | .bl b => some (.bool b)
  | .int i => some (.int i)
  | .str x => some (.str x)
  | .tup xs => (dats xs).map .tuple
  | .scr xs => (dats xs).map .list
  | .ref _ => none
  | .exc _ _ _ => none
def dats : List LV → Option (List PyData)
  | [] => some []
  | x :: xs => (dat x).bind fun d => (dats xs).map fun ds => d :: ds
end
/-- a datum: a list may stand on top -/
def datL (L : LH) : LV → Option PyData
  | .ref a => match L.at_ a with
    | some (.lst xs) => (dats xs).map .list
    | _ => none
  | v => dat v
def eqD (L : LH) (x y : LV) : Option Bool :=
  match x, y with
  | .int i, .int j => some (decide (i = j))
  | .str i, .str j => some (decide (i = j))
  | .bl i, .bl j => some (decide (i = j))
  | x, y => (datL L x).bind fun d => (datL L y).bind fun e => if SeqAt.shaped d = true ∧ SeqAt.shaped e = true then some (PyData.eqv d e) else none
/-- the items of what may be walked, measured, indexed -/
def seqOf (L : LH) : LV → Option (List LV)
  | .tup xs => some xs
  | .scr xs => some xs
  | .ref a => match L.at_ a with
    | some (.lst xs) => some xs
    | _ => none
  | _ => none
def keyOf : LV → Option Key
  | .int i => some (.inl i)
  | .str x => some (.inr x)
  | _ => none
def flat : LV → Bool
  | .non => true
  | .bl _ => true
  | .int _ => true
  | .str _ => true
  | _ => false
def eqF : LV → LV → Bool
  | .non, .non => true
  | .bl a, .bl b => a == b
  | .bl a, .int b => (if a then 1 else 0) == b
  | .int a, .bl b => a == (if b then 1 else 0)
  | .int a, .int b => a == b
  | .str a, .str b => a == b
  | _, _ => false
def inF (L : LH) (x y : LV) : Option Bool :=
  match y with
  | .ref a => match L.at_ a with
    | some (.lst xs) => if flat x = true ∧ xs.all flat = true then some (xs.any fun z => eqF z x) else none
    | some (.dct kvs) => (keyOf x).map fun k => (dget k kvs).isSome
    | _ => none
  | .tup xs => if flat x = true ∧ xs.all flat = true then some (xs.any fun z => eqF z x) else none
  | .scr xs => if flat x = true ∧ xs.all flat = true then some (xs.any fun z => eqF z x) else none
  | _ => none
def cmpV (L : LH) : C2 → LV → LV → Option Bool
  | .eq, x, y => eqD L x y
  | .ne, x, y => (eqD L x y).map (!·)
  | .lt, .int i, .int j => some (decide (i < j))
  | .le, .int i, .int j => some (decide (i ≤ j))
  | .gt, .int i, .int j => some (decide (j < i))
  | .ge, .int i, .int j => some (decide (j ≤ i))
  | .isn, x, .non => match x with
    | .non => some true
    | _ => some false
  | .notn, x, .non => match x with
    | .non => some false
    | _ => some true
  | .inn, x, y => inF L x y
  | .nin, x, y => (inF L x y).map (!·)
  | _, _, _ => none
def binV (o : B2) (x y : LV) (L : LH) : Out LV :=
  match o, x, y with
  | .add, .int i, .int j => .ok (.int (i + j)) L
  | .sub, .int i, .int j => .ok (.int (i - j)) L
  | .mul, .int i, .int j => if (-(2 ^ 64) < i ∧ i < 2 ^ 64) ∨ (-(2 ^ 64) < j ∧ j < 2 ^ 64) then .ok (.int (i * j)) L else .bad
  | .fdiv, .int i, .int j => if 0 < j ∧ j < 1073741824 then .ok (.int (i / j)) L else .bad
  | .mod, .int i, .int j => if 0 < j then .ok (.int (i % j)) L else .bad
  | .pow, .int i, .int j => if 0 ≤ j ∧ j ≤ 1000000 ∧ i.natAbs < 2 ^ 64 then .ok (.int (i ^ j.toNat)) L else .bad
  | .add, .str i, .str j => if i.length + j.length ≤ sizeLine then .ok (.str (i ++ j)) L else .bad
  | .add, .tup xs, .tup ys => if xs.length + ys.length ≤ sizeLine then .ok (.tup (xs ++ ys)) L else .bad
  | .add, .ref a, .ref b => match L.at_ a, L.at_ b with
    | some (.lst xs), some (.lst ys) => if xs.length + ys.length ≤ sizeLine then .ok (.ref L.n) (L.new (.lst (xs ++ ys))) else .bad
    | _, _ => .bad
  | .mul, .ref a, .int k => match L.at_ a with
    | some (.lst xs) => if -(2 ^ 63) ≤ k ∧ k < 2 ^ 63 ∧ xs.length * k.toNat ≤ sizeLine then .ok (.ref L.n) (L.new (.lst (List.replicate k.toNat xs).flatten)) else .bad
    | _ => .bad
  | _, _, _ => .bad
def idxV (x i : LV) (L : LH) : Out LV :=
  match x, i with
  | .ref a, i => match L.at_ a with
    | some (.lst xs) => match i with
      | .int j => match atI xs j with
        | some v => .ok v L
        | none => .bad
      | _ => .bad
    | some (.dct kvs) => match keyOf i with
      | some k => match dget k kvs with
        | some v => .ok v L
        | none => .bad
      | none => .bad
    | _ => .bad
  | .tup xs, .int j => match atI xs j with
    | some v => .ok v L
    | none => .bad
  | .scr xs, .int j => match atI xs j with
    | some v => .ok v L
    | none => .bad
  | _, _ => .bad
def partV (v : LV) (L : LH) : Out (Option Int) := match v with
  | .int i => .ok (some i) L
  | _ => .bad
def cut {α : Type} (xs : List α) (lo hi : Option Int) : List α := (xs.drop (HT.sIx xs.length 0 lo)).take (HT.sIx xs.length xs.length hi - HT.sIx xs.length 0 lo)
def slcV (x : LV) (l h : Option Int) (L : LH) : Out LV :=
  match x with
  | .tup xs => .ok (.tup (cut xs l h)) L
  | .scr xs => .ok (.ref L.n) (L.new (.lst (cut xs l h)))
  | .ref a => match L.at_ a with
    | some (.lst xs) => .ok (.ref L.n) (L.new (.lst (cut xs l h)))
    | _ => .bad
  | _ => .bad
def isNon : LE → Bool
  | .con .non => true
  | _ => false
def dput (kvs : List (Key × LV)) (k : Key) (v : LV) : List (Key × LV) :=
  if (kvs.any fun kv => decide (kv.1 = k)) = true then kvs.map (fun kv => if kv.1 = k then (kv.1, v) else kv) else kvs ++ [(k, v)]
def isStr : LV → Option Str
  | .str x => some x
  | _ => none
def strsOf : List LV → Option (List Str)
  | [] => some []
  | x :: xs => (isStr x).bind fun y => (strsOf xs).map (y :: ·)
def idxS (x : Str) : List Str → Option Nat
  | [] => none
  | y :: ys => if y = x then some 0 else (idxS x ys).map (· + 1)
/-- (..).index(x): a tuple of texts of the module -/
def gidxV (g : Option LV) (x : LV) (L : LH) : Out LV :=
  match g, x with
  | some (.tup xs), .str y => match strsOf xs with
    | some ys => match idxS y ys with
      | some j => .ok (.int j) L
      | none => .bad
    | none => .bad
  | _, _ => .bad
def kgetV (g : Option (List (Str × LV))) (x d : LV) (L : LH) : Out LV :=
  match g, x with
  | some kvs, .str y => .ok ((kvs.lookup y).getD d) L
  | _, _ => .bad
def fldV (f : Nat) (x : LV) (L : LH) : Out LV :=
  match x with
  | .ref a => match L.at_ a with
    | some (.ins _ fs) => match fget f fs with
      | some v => .ok v L
      | none => .bad
    | _ => .bad
  | _ => .bad
def lstOf (L : LH) : LV → Option (List LV)
  | .scr xs => some xs
  | .ref a => match L.at_ a with
    | some (.lst xs) => some xs
    | _ => none
  | _ => none
def sumI : List LV → Option Int
  | [] => some 0
  | .int i :: r => (sumI r).map (i + ·)
  | _ => none
def bools : List LV → Option (List Bool)
  | [] => some []
  | .bl b :: r => (bools r).map (b :: ·)
  | _ => none
def bfV (f : BF) (vs : List LV) (L : LH) : Out LV :=
  match f, vs with
  | .len, [v] => match seqOf L v with
    | some xs => .ok (.int xs.length) L
    | none => match v with
      | .str x => if x.length ≤ sizeLine then .ok (.int x.length) L else .bad
      | _ => .bad
  | .tuple, [v] => match seqOf L v with
    | some xs => .ok (.tup xs) L
    | none => .bad
  | .list, [v] => match seqOf L v with
    | some xs => .ok (.ref L.n) (L.new (.lst xs))
    | none => .bad
  | .int, [.int i] => .ok (.int i) L
  | .int, [.bl b] => .ok (.int (if b then 1 else 0)) L
  | .min, [.int i, .int j] => .ok (.int (if j < i then j else i)) L
  | .max, [.int i, .int j] => .ok (.int (if j > i then j else i)) L
  | .sum, [v] => match lstOf L v with
    | some xs => match sumI xs with
      | some i => .ok (.int i) L
      | none => .bad
    | none => .bad
  | .any, [v] => match lstOf L v with
    | some xs => match bools xs with
      | some bs => .ok (.bl (bs.any id)) L
      | none => .bad
    | none => .bad
  | .all, [v] => match lstOf L v with
    | some xs => match bools xs with
      | some bs => .ok (.bl (bs.all id)) L
      | none => .bad
    | none => .bad
  | _, _ => .bad
/-- the first place of an item -/
def findF (x : LV) : List LV → Option Nat
  | [] => none
  | y :: ys => if eqF y x = true then some 0 else (findF x ys).map (· + 1)
def bmV (m : BM) (x : LV) (vs : List LV) (L : LH) : Out LV :=
  match m, x, vs with
  | .lappend, .ref a, [v] => match L.at_ a with
    | some (.lst xs) => if xs.length < sizeLine then .ok .non (L.put a (.lst (xs ++ [v]))) else .bad
    | _ => .bad
  | .lextend, .ref a, [v] => match L.at_ a, seqOf L v with
    | some (.lst xs), some ys => if xs.length + ys.length ≤ sizeLine then .ok .non (L.put a (.lst (xs ++ ys))) else .bad
    | _, _ => .bad
  | .lpop, .ref a, [] => match L.at_ a with
    | some (.lst xs) => match xs[xs.length - 1]? with
      | some v => .ok v (L.put a (.lst xs.dropLast))
      | none => .bad
    | _ => .bad
  | .lpopAt, .ref a, [.int i] => match L.at_ a with
    | some (.lst xs) => if -(2 ^ 63) ≤ i ∧ i < 2 ^ 63 then match seqIndex? i xs.length with
        | some k => match xs[k]? with
          | some v => .ok v (L.put a (.lst (xs.eraseIdx k)))
          | none => .bad
        | none => .bad
      else .bad
    | _ => .bad
  | .linsert, .ref a, [.int i, v] => match L.at_ a with
    | some (.lst xs) => if xs.length < sizeLine ∧ 0 ≤ i ∧ i < 2 ^ 63 then .ok .non (L.put a (.lst (xs.take i.toNat ++ [v] ++ xs.drop i.toNat))) else .bad
    | _ => .bad
  | .lindex, .ref a, [v] => match L.at_ a with
    | some (.lst xs) => if flat v = true ∧ xs.all flat = true then match findF v xs with
        | some j => .ok (.int j) L
        | none => .bad
      else .bad
    | _ => .bad
  | .dget1, .ref a, [k] => match L.at_ a, keyOf k with
    | some (.dct kvs), some k => .ok ((dget k kvs).getD .non) L
    | _, _ => .bad
  | .dget2, .ref a, [k, d] => match L.at_ a, keyOf k with
    | some (.dct kvs), some k => .ok ((dget k kvs).getD d) L
    | _, _ => .bad
  | _, _, _ => .bad
/-- isinstance: one class -/
def tyIs (L : LH) (v : LV) (t : Ty) : Option Bool :=
  match v, t with
  | .non, .own _ => none
  | .exc _ _ _, _ => none
  | .ref a, t => match L.at_ a, t with
    | some (.lst _), .list => some true
    | some (.lst _), .own _ => none
    | some (.lst _), _ => some false
    | _, _ => none
  | _, .own _ => none
  | .non, _ => some false
  | .bl _, .bool => some true
  | .bl _, .int => some true
  | .bl _, _ => some false
  | .int _, .int => some true
  | .int _, _ => some false
  | .str _, .str => some true
  | .str _, _ => some false
  | .tup _, .tuple => some true
  | .tup _, _ => some false
  | .scr _, .list => some true
  | .scr _, _ => some false
def tyAny (L : LH) (v : LV) : List Ty → Option Bool
  | [] => some false
  | t :: ts => match tyIs L v t with
    | some true => some true
    | some false => tyAny L v ts
    | none => none

/-! ### what is fixed: module constants, calls -/
structure Fn where
  glo : Nat → Option LV
  kd : Nat → Option (List (Str × LV))
  /-- a def by its number, its parameters' values in order -/
  call : Nat → List LV → LH → Out LV
  /-- a class's __init__, its methods -/
  init : Nat → Option Nat
  mth : Nat → Nat → Option Nat
  fld : Nat → Nat → Bool
  /-- how keywords and defaults fill the parameters: def, positional count, keyword names -/
  kw : Nat → Nat → List Nat → Option (List (Nat ⊕ Nat ⊕ LV))
  /-- whiles -/
  w : Nat
  /-- an own exception's fields; is an exception of the first class one of the second -/
  xin : Str → Option (List Str)
  xis : Str → Str → Option Bool
def wipeL (σ : LSt) : List Nat → LSt
  | [] => σ
  | v :: vs => (wipeL σ vs).set v none
def setAll : List Nat → List LV → LSt → LSt
  | i :: is, v :: vs, σ => setAll is vs (σ.set i (some v))
  | _, _, σ => σ
/-- a target takes a value -/
def tgt : LTg → LV → LSt → LH → Option LSt
  | .name i, v, σ, _ => some (σ.set i (some v))
  | .tup is, v, σ, L => match v with
    | .tup xs => if xs.length = is.length then some (setAll is xs σ) else none
    | _ => none
/-- what a loop walks: the items, and what must stay (the list at a) -/
inductive Src where
  | vals (xs : List LV) | lst (a : Nat) (xs : List LV)
def Src.items : Src → List LV
  | .vals xs => xs
  | .lst _ xs => xs
def keyL : Key → LV
  | .inl i => .int i
  | .inr x => .str x
def dctItems (kvs : List (Key × LV)) : List LV := kvs.map fun p => .tup [keyL p.1, p.2]
def LH.hide (L : LH) (a : Nat) : LH := ⟨L.n, fun b => if b = a then none else L.at_ b⟩
def srcOf (L : LH) : LV → Option Src
  | .tup xs => some (.vals xs)
  | .scr xs => some (.vals xs)
  | .ref a => match L.at_ a with
    | some (.lst xs) => some (.lst a xs)
    | _ => none
  | _ => none
def rngL (lo : Int) (n : Nat) : List LV := (List.range n).map fun i => LV.int (lo + (i : Nat))
def Keeps (L : LH) : Src → Prop
  | .vals _ => True
  | .lst a xs => L.at_ a = some (.lst xs)
open Classical in
noncomputable def forL (S : Src) (body : LV → LSt → LH → Out (Fl × LSt)) : List LV → LSt → LH → Out (Fl × LSt)
  | [], σ, L => if Keeps L S then .ok (.nx, σ) L else .bad
  | x :: xs, σ, L => if Keeps L S then (body x σ L).bind fun p L' => match p.1 with
      | .nx => forL S body xs p.2 L'
      | .cont => forL S body xs p.2 L'
      | .brk => .ok (.nx, p.2) L'
      | .ret v => .ok (.ret v, p.2) L'
    else .bad
def optT {α : Type} (t : Option Unit) (f : α) : Option α := match t with
  | none => none
  | some _ => some f
/-- a comprehension's turn: nothing, or an item -/
def compB (tg : LTg) (σ : LSt) (t : Option (LSt → LH → Out Bool)) (e : LSt → LH → Out LV) (x : LV) (L : LH) : Out (Option LV) :=
  match tgt tg x σ L with
  | none => .bad
  | some σ2 => match t with
    | none => (e σ2 L).bind fun v L3 => .ok (some v) L3
    | some c => (c σ2 L).bind fun b L3 => if b = true then (e σ2 L3).bind fun v L4 => .ok (some v) L4 else .ok none L3
open Classical in
/-- a comprehension's turns: D the new list -/
noncomputable def compL (S : Src) (D : Nat) (body : LV → LH → Out (Option LV)) : List LV → LH → Out Unit
  | [], L => if Keeps L S then .ok () L else .bad
  | x :: xs, L => if Keeps L S then (body x L).bind fun r L' => match r with
      | none => compL S D body xs L'
      | some v => match L'.at_ D with
        | some (.lst acc) => if acc.length < sizeLine then compL S D body xs (L'.put D (.lst (acc ++ [v]))) else .bad
        | _ => .bad
    else .bad
open Classical in
/-- two sources: the outer turns -/
noncomputable def comp2L (S : Src) (body : LV → LH → Out Unit) : List LV → LH → Out Unit
  | [], L => if Keeps L S then .ok () L else .bad
  | x :: xs, L => if Keeps L S then (body x L).bind fun _ L' => comp2L S body xs L' else .bad
noncomputable def comp2B (tg : LTg) (σ : LSt) (it1 : LSt → LH → Out Src) (D : Nat) (body : LSt → LV → LH → Out (Option LV)) (x : LV) (L : LH) : Out Unit :=
  match tgt tg x σ L with
  | none => .bad
  | some σ2 => (it1 σ2 L).bind fun S1 L3 => compL S1 D (body σ2) S1.items L3
noncomputable def whileL (c : LSt → LH → Out Bool) (body : LSt → LH → Out (Fl × LSt)) : Nat → LSt → LH → Out (Fl × LSt)
  | 0, _, _ => .bad
  | n + 1, σ, L => (c σ L).bind fun b L1 => if b = true then (body σ L1).bind fun p L' => match p.1 with
      | .nx => whileL c body n p.2 L'
      | .cont => whileL c body n p.2 L'
      | .brk => .ok (.nx, p.2) L'
      | .ret v => .ok (.ret v, p.2) L'
    else .ok (.nx, σ) L1
def ofOpt {α : Type} (o : Option α) (L : LH) : Out α := match o with
  | some a => .ok a L
  | none => .bad
/-- the arguments by position, by keyword, by default, in the parameters' order -/
def fill (vs zs : List LV) : List (Nat ⊕ Nat ⊕ LV) → Option (List LV)
  | [] => some []
  | .inl i :: r => (vs[i]?).bind fun v => (fill vs zs r).map (v :: ·)
  | .inr (.inl j) :: r => (zs[j]?).bind fun v => (fill vs zs r).map (v :: ·)
  | .inr (.inr v) :: r => (fill vs zs r).map (v :: ·)
def makeV (F : Fn) (c : Nat) (vs : List LV) (L : LH) : Out LV :=
  match F.init c with
  | some f => (F.call f (.ref L.n :: vs) (L.new (.ins c []))).bind fun v L' => match v with
    | .non => .ok (.ref L.n) L'
    | _ => .bad
  | none => .bad
def mkxV (F : Fn) (x : Str) (vs : List LV) (L : LH) : Out LV :=
  match F.xin x with
  | some fs => if fs.length = vs.length then .ok (.exc x fs vs) L else .bad
  | none => .bad
def isxV (F : Fn) (t : Str) (v : LV) : Option Bool :=
  match v with
  | .exc x _ _ => F.xis x t
  | _ => none
def xflV (f : Str) (v : LV) (L : LH) : Out LV :=
  match v with
  | .exc _ fs vs => match (fs.zip vs).reverse.lookup f with
    | some w => .ok w L
    | none => .bad
  | _ => .bad
/-- the receiver of a built-in type's method -/
def bmTy (L : LH) (m : BM) : LV → Bool
  | .ref a => match L.at_ a, m with
    | some (.dct _), .dget1 => true
    | some (.dct _), .dget2 => true
    | some (.lst _), .dget1 => false
    | some (.lst _), .dget2 => false
    | some (.lst _), _ => true
    | _, _ => false
  | _ => false
/-- the method that the receiver has (no field hides it) -/
def recvF (F : Fn) (L : LH) (m : Nat) : LV → Option Nat
  | .ref a => match L.at_ a with
    | some (.ins c fs) => if (fget m fs).isNone = true then F.mth c m else none
    | _ => none
  | _ => none

mutual
noncomputable def evE (F : Fn) : LE → LSt → LH → Out LV
  | .var i, σ, L => match σ[i]? with
    | some (some v) => .ok v L
    | _ => .bad
  | .con v, _, L => .ok v L
  | .glo i, _, L => ofOpt (F.glo i) L
  | .bin o a b, σ, L => (evE F a σ L).bind fun x L1 => (evE F b σ L1).bind fun y L2 => binV o x y L2
  | .neg a, σ, L => (evE F a σ L).bind fun x L1 => match x with
    | .int i => .ok (.int (-i)) L1
    | _ => .bad
  | .cmp o a b, σ, L => (evE F a σ L).bind fun x L1 => (evE F b σ L1).bind fun y L2 => (ofOpt (cmpV L2 o x y) L2).bind fun b L => .ok (.bl b) L
  | .chn o p a b c, σ, L => (evE F a σ L).bind fun x L1 => (evE F b σ L1).bind fun y L2 => (ofOpt (cmpV L2 o x y) L2).bind fun k L3 =>
      if k = true then (evE F c σ L3).bind fun z L4 => (ofOpt (cmpV L4 p y z) L4).bind fun b L => .ok (.bl b) L else .ok (.bl false) L3
  | .ands es, σ, L => evAnd F es σ L
  | .ors es, σ, L => evOr F es σ L
  | .not a, σ, L => (evE F a σ L).bind fun x L1 => match x with
    | .bl b => .ok (.bl (!b)) L1
    | _ => .bad
  | .ite c a b, σ, L => (evT F c σ L).bind fun k L1 => if k = true then evE F a σ L1 else evE F b σ L1
  | .tup es, σ, L => (evA F es σ L).bind fun vs L1 => if vs.length ≤ sizeLine then .ok (.tup vs) L1 else .bad
  | .lst es, σ, L => (evA F es σ L).bind fun vs L1 => if vs.length ≤ sizeLine then .ok (.ref L1.n) (L1.new (.lst vs)) else .bad
  | .dct0, _, L => .ok (.ref L.n) (L.new (.dct []))
  | .idx a i, σ, L => (evE F a σ L).bind fun x L1 => (evE F i σ L1).bind fun y L2 => idxV x y L2
  | .slc a l h, σ, L => (evE F a σ L).bind fun x L1 => (if isNon l = true then .ok none L1 else (evE F l σ L1).bind partV).bind fun y L2 => (if isNon h = true then .ok none L2 else (evE F h σ L2).bind partV).bind fun z L3 => slcV x y z L3
  | .fld a f, σ, L => (evE F a σ L).bind fun x L1 => fldV f x L1
  | .call f es, σ, L => (evA F es σ L).bind fun vs L1 => F.call f vs L1
  | .callk f es ks kes, σ, L => (evA F es σ L).bind fun vs L1 => (evA F kes σ L1).bind fun zs L2 =>
      match F.kw f vs.length ks with
      | some sl => match fill vs zs sl with
        | some ws => F.call f ws L2
        | none => .bad
      | none => .bad
  | .make c es, σ, L => (evA F es σ L).bind fun vs L1 => makeV F c vs L1
  | .meth a m es, σ, L => (evE F a σ L).bind fun x L1 => match recvF F L1 m x with
    | some f => (evA F es σ L1).bind fun vs L2 => F.call f (x :: vs) L2
    | none => .bad
  | .bf f es, σ, L => (evA F es σ L).bind fun vs L1 => bfV f vs L1
  | .bm m a es, σ, L => (evE F a σ L).bind fun x L1 => if bmTy L1 m x = true then (evA F es σ L1).bind fun vs L2 => bmV m x vs L2 else .bad
  | .isin a ts, σ, L => (evE F a σ L).bind fun x L1 => (ofOpt (tyAny L1 x ts) L1).bind fun b L => .ok (.bl b) L
  | .comp own tg it t c e, σ, L => (evI F it σ L).bind fun S L1 => (compL S L1.n (compB tg (wipeL σ own) (optT t (evT F c)) (evE F e)) S.items (L1.new (.lst []))).bind fun _ L2 => .ok (.ref L1.n) L2
  | .comp2 own own1 tg it tg1 it1 e, σ, L => (evI F it σ L).bind fun S L1 => (comp2L S (comp2B tg (wipeL σ own) (evI F it1) L1.n (fun σ2 => compB tg1 (wipeL σ2 own1) none (evE F e))) S.items (L1.new (.lst []))).bind fun _ L2 => .ok (.ref L1.n) L2
  | .gidx g a, σ, L => (evE F a σ L).bind fun x L1 => gidxV (F.glo g) x L1
  | .mkx x es, σ, L => (evA F es σ L).bind fun vs L1 => mkxV F x vs L1
  | .isx a t, σ, L => (evE F a σ L).bind fun v L1 => (ofOpt (isxV F t v) L1).bind fun b L => .ok (.bl b) L
  | .xfl a f, σ, L => (evE F a σ L).bind fun v L1 => xflV f v L1
  | .kget g a d, σ, L => (evE F a σ L).bind fun x L1 => (evE F d σ L1).bind fun y L2 => kgetV (F.kd g) x y L2
/-- a test -/
noncomputable def evT (F : Fn) : LE → LSt → LH → Out Bool
  | .not a, σ, L => (evT F a σ L).bind fun b L1 => .ok (!b) L1
  | .ands es, σ, L => evTA F es σ L
  | .ors es, σ, L => evTO F es σ L
  | .cmp o a b, σ, L => (evE F a σ L).bind fun x L1 => (evE F b σ L1).bind fun y L2 => ofOpt (cmpV L2 o x y) L2
  | .var i, σ, L => match σ[i]? with
    | some (some v) => ofOpt (tru L v) L
    | _ => .bad
  | .con v, _, L => ofOpt (tru L v) L
  | .chn o p a b c, σ, L => (evE F a σ L).bind fun x L1 => (evE F b σ L1).bind fun y L2 => (ofOpt (cmpV L2 o x y) L2).bind fun k L3 =>
      if k = true then (evE F c σ L3).bind fun z L4 => ofOpt (cmpV L4 p y z) L4 else .ok false L3
  | .fld a f, σ, L => (evE F a σ L).bind fun x L1 => (fldV f x L1).bind fun v L2 => ofOpt (tru L2 v) L2
  | .call f es, σ, L => (evA F es σ L).bind fun vs L1 => (F.call f vs L1).bind fun v L2 => ofOpt (tru L2 v) L2
  | .meth a m es, σ, L => (evE F a σ L).bind fun x L1 => match recvF F L1 m x with
    | some f => (evA F es σ L1).bind fun vs L2 => (F.call f (x :: vs) L2).bind fun v L3 => ofOpt (tru L3 v) L3
    | none => .bad
  | .bf f es, σ, L => (evA F es σ L).bind fun vs L1 => (bfV f vs L1).bind fun v L2 => ofOpt (tru L2 v) L2
  | .bm m a es, σ, L => (evE F a σ L).bind fun x L1 => if bmTy L1 m x = true then (evA F es σ L1).bind fun vs L2 => (bmV m x vs L2).bind fun v L3 => ofOpt (tru L3 v) L3 else .bad
  | .isin a ts, σ, L => (evE F a σ L).bind fun x L1 => ofOpt (tyAny L1 x ts) L1
  | .isx a t, σ, L => (evE F a σ L).bind fun v L1 => ofOpt (isxV F t v) L1
  | .idx a i, σ, L => (evE F a σ L).bind fun x L1 => (evE F i σ L1).bind fun y L2 => (idxV x y L2).bind fun v L3 => ofOpt (tru L3 v) L3
  | _, _, _ => .bad
noncomputable def evA (F : Fn) : LEs → LSt → LH → Out (List LV)
  | .nil, _, L => .ok [] L
  | .cons e es, σ, L => (evE F e σ L).bind fun v L1 => (evA F es σ L1).bind fun vs L2 => .ok (v :: vs) L2
noncomputable def evAnd (F : Fn) : LEs → LSt → LH → Out LV
  | .nil, _, _ => .bad
  | .cons e .nil, σ, L => evE F e σ L
  | .cons e es, σ, L => (evE F e σ L).bind fun x L1 => match x with
    | .bl true => evAnd F es σ L1
    | .bl false => .ok (.bl false) L1
    | _ => .bad
noncomputable def evOr (F : Fn) : LEs → LSt → LH → Out LV
  | .nil, _, _ => .bad
  | .cons e .nil, σ, L => evE F e σ L
  | .cons e es, σ, L => (evE F e σ L).bind fun x L1 => match x with
    | .bl true => .ok (.bl true) L1
    | .bl false => evOr F es σ L1
    | _ => .bad
noncomputable def evTA (F : Fn) : LEs → LSt → LH → Out Bool
  | .nil, _, _ => .bad
  | .cons e .nil, σ, L => evT F e σ L
  | .cons e es, σ, L => (evT F e σ L).bind fun b L1 => if b = true then evTA F es σ L1 else .ok false L1
noncomputable def evTO (F : Fn) : LEs → LSt → LH → Out Bool
  | .nil, _, _ => .bad
  | .cons e .nil, σ, L => evT F e σ L
  | .cons e es, σ, L => (evT F e σ L).bind fun b L1 => if b = true then .ok true L1 else evTO F es σ L1
/-- what is walked -/
noncomputable def evI (F : Fn) : LI → LSt → LH → Out Src
  | .seq a, σ, L => (evE F a σ L).bind fun v L1 => ofOpt (srcOf L1 v) L1
  | .rng1 a, σ, L => (evE F a σ L).bind fun v L1 => match v with
    | .int j => if -(2 ^ 62) ≤ j ∧ j < 2 ^ 62 then .ok (.vals (rngL 0 j.toNat)) L1 else .bad
    | _ => .bad
  | .rng2 a b, σ, L => (evE F a σ L).bind fun v L1 => (evE F b σ L1).bind fun u L2 => match v, u with
    | .int i, .int j => if -(2 ^ 62) ≤ i ∧ i < 2 ^ 62 ∧ -(2 ^ 62) ≤ j ∧ j < 2 ^ 62 then .ok (.vals (rngL i (j - i).toNat)) L2 else .bad
    | _, _ => .bad
end
open Classical in
mutual
noncomputable def evS (F : Fn) : LS → LSt → LH → Out (Fl × LSt)
  | .set i e, σ, L => (evE F e σ L).bind fun v L1 => .ok (.nx, σ.set i (some v)) L1
  | .setf o f e, σ, L => (evE F e σ L).bind fun v L1 => (evE F o σ L1).bind fun x L2 => match x with
    | .ref a => match L2.at_ a with
      | some (.ins c fs) => if fs.length < 1000 ∧ F.fld c f = true then .ok (.nx, σ) (L2.put a (.ins c (fput f v fs))) else .bad
      | _ => .bad
    | _ => .bad
  | .seti o i e, σ, L => (evE F e σ L).bind fun v L1 => (evE F o σ L1).bind fun x L2 => (evE F i σ L2).bind fun y L3 => match x with
    | .ref a => match L3.at_ a with
      | some (.lst xs) => match y with
        | .int k => match ixN xs.length k with
          | some j => .ok (.nx, σ) (L3.put a (.lst (xs.set j v)))
          | none => .bad
        | _ => .bad
      | some (.dct kvs) => match keyOf y with
        | some k => if kvs.length < sizeLine then .ok (.nx, σ) (L3.put a (.dct (dput kvs k v))) else .bad
        | none => .bad
      | _ => .bad
    | _ => .bad
  | .unp is e, σ, L => (evE F e σ L).bind fun v L1 => (ofOpt (tgt (.tup is) v σ L1) L1).bind fun σ' L2 => .ok (.nx, σ') L2
  | .par i j a b, σ, L => (evE F a σ L).bind fun x L1 => (evE F b σ L1).bind fun y L2 => .ok (.nx, (σ.set i (some x)).set j (some y)) L2
  | .expr e, σ, L => (evE F e σ L).bind fun _ L1 => .ok (.nx, σ) L1
  | .ret e, σ, L => (evE F e σ L).bind fun v L1 => .ok (.ret v, σ) L1
  | .retN, σ, L => .ok (.ret .non, σ) L
  | .ifs c a b, σ, L => (evT F c σ L).bind fun k L1 => if k = true then evSs F a σ L1 else evSs F b σ L1
  | .while c b, σ, L => whileL (evT F c) (evSs F b) F.w σ L
  | .for tg it b, σ, L => (evI F it σ L).bind fun S L1 => forL S (fun x σ1 L2 => match tgt tg x σ1 L2 with
      | none => .bad
      | some σ2 => evSs F b σ2 L2) S.items σ L1
  | .fori is a b, σ, L => match evE F a σ L with
    | .ok (.ref i) _ => match L.at_ i with
      | some (.dct kvs) => if evE F a σ (L.hide i) = .ok (.ref i) (L.hide i) then
          (forL (.vals (dctItems kvs)) (fun x σ1 L2 => match tgt (.tup is) x σ1 L2 with
            | none => .bad
            | some σ2 => evSs F b σ2 L2) (dctItems kvs) σ (L.hide i)).bind fun p L' => .ok p (L'.put i (.dct kvs))
        else .bad
      | _ => .bad
    | _ => .bad
  | .pass, σ, L => .ok (.nx, σ) L
  | .brk, σ, L => .ok (.brk, σ) L
  | .cont, σ, L => .ok (.cont, σ) L
  | .raise _ _, _, _ => .bad
  | .never, _, _ => .bad
noncomputable def evSs (F : Fn) : LSs → LSt → LH → Out (Fl × LSt)
  | .nil, σ, L => .ok (.nx, σ) L
  | .cons s ss, σ, L => (evS F s σ L).bind fun p L1 => match p.1 with
    | .nx => evSs F ss p.2 L1
    | f => .ok (f, p.2) L1
end

/-! ### a program -/
structure FD where
  np : Nat
  ns : Nat
  body : LSs
structure Pg where
  fns : Nat → Option FD
  glo : Nat → Option LV
  kd : Nat → Option (List (Str × LV))
  init : Nat → Option Nat
  mth : Nat → Nat → Option Nat
  fld : Nat → Nat → Bool
  kw : Nat → Nat → List Nat → Option (List (Nat ⊕ Nat ⊕ LV))
  w : Nat
  xin : Str → Option (List Str)
  xis : Str → Str → Option Bool
def Pg.x (P : Pg) : Nat → Str → Option (List Str)
  | 0, _ => none
  | _ + 1, x => P.xin x
noncomputable def run (P : Pg) : Nat → Nat → List LV → LH → Out LV
  | 0, _, _, _ => .bad
  | k + 1, f, vs, L => match P.fns f with
    | none => .bad
    | some d => if vs.length = d.np then
        (evSs ⟨P.glo, P.kd, run P k, P.init, P.mth, P.fld, P.kw, P.w, P.x k, P.xis⟩ d.body (vs.map some ++ List.replicate (d.ns - d.np) none) L).bind fun p L1 => match p.1 with
          | .nx => .ok .non L1
          | .ret v => .ok v L1
          | _ => .bad
      else .bad
end LG
end

section
set_option Elab.async false
set_option linter.all false
set_option maxRecDepth 100000
set_option maxHeartbeats 2000000
/-! LG3: the operators' rules over the logical heap. -/
namespace LG
open PySem PySem.Spec PyProof.Rows L2

section
variable {N : Na} {K : PySem.W.Frag} {H H' : Hp} {ρ ρ' : Rho} {L L' : LH}
/-- what is wanted behind a computation -/
def Post {α β : Type} (N : Na) (K : PySem.W.Frag) (R : Hp → Rho → α → β → Prop) (o : Out α) (H : Hp) (ρ : Rho) (Q : β → Hp → Prop) : Prop :=
  match o with
  | .ok a L' => ∀ H' ρ' b, Sty H H' → Ex ρ ρ' → Rep N K H' L' ρ' → R H' ρ' a b → Q b H'
  | _ => False
abbrev PostV (N : Na) (K : PySem.W.Frag) := Post N K (fun H ρ => Rl K H ρ)
abbrev PostB (N : Na) (K : PySem.W.Frag) := Post N K (fun (_ : Hp) (_ : Rho) (a b : Bool) => a = b)
abbrev PostA (N : Na) (K : PySem.W.Frag) := Post N K (fun H ρ => Rls K H ρ)
theorem Post.mono {α β : Type} {R : Hp → Rho → α → β → Prop} {o : Out α} {Q : β → Hp → Prop} (s : Sty H H') (e : Ex ρ ρ') (h : Post N K R o H ρ Q) : Post N K R o H' ρ' Q := by
  cases o with
  | ok a L' => exact fun H2 ρ2 b s2 e2 => h H2 ρ2 b (s.trans s2) (e.trans e2)
  | err x L' => exact h
  | bad => exact h
theorem Post.imp {α β : Type} {R : Hp → Rho → α → β → Prop} {o : Out α} {Q Q' : β → Hp → Prop} (h : Post N K R o H ρ Q) (q : ∀ b H, Q b H → Q' b H) : Post N K R o H ρ Q' := by
  cases o with
  | ok a L' => exact fun H2 ρ2 b s2 e2 r2 rb => q _ _ (h H2 ρ2 b s2 e2 r2 rb)
  | err x L' => exact h
  | bad => exact h
/-- nothing is laid -/
theorem Post.here {α β : Type} {R : Hp → Rho → α → β → Prop} {a : α} {b : β} {Q : β → Hp → Prop} (rep : Rep N K H L ρ) (r : R H ρ a b) (h : Post N K R (.ok a L) H ρ Q) : Q b H := h H ρ b (Sty.refl _) (Ex.refl _) rep r

/-! ### flat values -/
def toF : LV → V
  | .non => .non
  | .bl b => .bl b
  | .int i => .int i
  | .str x => .str x
  | _ => .non
theorem flat_rl {x : LV} {v : V} (h : flat x = true) (r : Rl K H ρ x v) : v = toF x := by
  cases x <;> first | (simp [flat] at h; done) | (first | exact Rl.non.mp r | exact Rl.bl.mp r | exact Rl.int.mp r | exact Rl.str.mp r)
theorem flat_toF {x : LV} (h : flat x = true) : flatV (toF x) = true := by
  cases x <;> first | rfl | (simp [flat] at h; done)
theorem eqF_toF {x y : LV} (h : flat x = true) (g : flat y = true) : eqV (toF x) (toF y) = eqF x y := by
  cases x <;> cases y <;> first | rfl | (simp [flat] at h; done) | (simp [flat] at g; done)
theorem flats_rl : ∀ {xs : List LV} {vs : List V}, xs.all flat = true → Rls K H ρ xs vs → vs = xs.map toF
  | [], _, _, r => Rls.nil.mp r
  | x :: xs, _, h, r => by
    obtain ⟨v, q, rfl, r1, r2⟩ := Rls.cons.mp r
    simp only [List.all_cons, Bool.and_eq_true] at h
    rw [flat_rl h.1 r1, flats_rl h.2 r2]
    rfl
theorem flats_all : ∀ {xs : List LV}, xs.all flat = true → (xs.map toF).all flatV = true
  | [], _ => rfl
  | x :: xs, h => by
    simp only [List.all_cons, Bool.and_eq_true] at h
    simp only [List.map_cons, List.all_cons, Bool.and_eq_true]
    exact ⟨flat_toF h.1, flats_all h.2⟩
theorem inV_toF {x : LV} (hx : flat x = true) : ∀ {xs : List LV}, xs.all flat = true → inV (toF x) (xs.map toF) = xs.any fun z => eqF z x
  | [], _ => rfl
  | y :: ys, h => by
    simp only [List.all_cons, Bool.and_eq_true] at h
    have := inV_toF hx h.2
    unfold inV at this ⊢
    simp only [List.map_cons, List.any_cons, this, eqF_toF h.1 hx]
/-! ### data -/
mutual
theorem dat_dp : ∀ (x : LV) (d : PyData) (v : V), dat x = some d → Rl K H ρ x v → Dp K H v d
  | .non, d, v, h, r => by simp only [dat, Option.some.injEq] at h; subst h; rw [Rl.non.mp r]; exact .non
  | .bl b, d, v, h, r => by simp only [dat, Option.some.injEq] at h; subst h; rw [Rl.bl.mp r]; exact .bl b
  | .int i, d, v, h, r => by simp only [dat, Option.some.injEq] at h; subst h; rw [Rl.int.mp r]; exact .int i
  | .str x, d, v, h, r => by simp only [dat, Option.some.injEq] at h; subst h; rw [Rl.str.mp r]; exact .str x
  | .ref i, d, v, h, r => by simp [dat] at h
  | .tup xs, d, v, h, r => by
    obtain ⟨a, vs, rfl, h1, h2⟩ := Rl.tup.mp r
    simp only [dat] at h
    cases e : dats xs with
    | none => rw [e] at h; simp at h
    | some ds =>
      rw [e] at h
      simp only [Option.map_some, Option.some.injEq] at h
      subst h
      exact .tup h1 (dats_dp xs ds vs e h2)
  | .scr xs, d, v, h, r => by
    obtain ⟨a, vs, rfl, h1, h2⟩ := Rl.scr.mp r
    simp only [dat] at h
    cases e : dats xs with
    | none => rw [e] at h; simp at h
    | some ds =>
      rw [e] at h
      simp only [Option.map_some, Option.some.injEq] at h
      subst h
      exact .lst h1.sq (dats_dp xs ds vs e h2)
theorem dats_dp : ∀ (xs : List LV) (ds : List PyData) (vs : List V), dats xs = some ds → Rls K H ρ xs vs → DpAll K H vs ds
  | [], ds, vs, h, r => by simp only [dats, Option.some.injEq] at h; subst h; rw [Rls.nil.mp r]; exact .nil
  | x :: xs, ds, vs, h, r => by
    obtain ⟨v, q, rfl, r1, r2⟩ := Rls.cons.mp r
    simp only [dats] at h
    cases e : dat x with
    | none => rw [e] at h; simp at h
    | some d =>
      cases e2 : dats xs with
      | none => rw [e, e2] at h; simp at h
      | some es =>
        rw [e, e2] at h
        simp only [Option.bind_some, Option.map_some, Option.some.injEq] at h
        subst h
        exact .cons (dat_dp x d v e r1) (dats_dp xs es q e2 r2)
end
theorem datL_dp {x : LV} {d : PyData} {v : V} (R : Rep N K H L ρ) (h : datL L x = some d) (r : Rl K H ρ x v) : Dp K H v d := by
  cases x with
  | ref i =>
    simp only [datL] at h
    obtain ⟨a, h1, rfl⟩ := Rl.ref.mp r
    split at h
    · rename_i xs e
      obtain ⟨b, vs, h2, h3, h4⟩ := R.lst e
      rw [h1] at h2
      cases h2
      cases e2 : dats xs with
      | none => rw [e2] at h; simp at h
      | some ds =>
        rw [e2] at h
        simp only [Option.map_some, Option.some.injEq] at h
        subst h
        exact .lst (.inl (.inl h3)) (dats_dp xs ds vs e2 h4)
    · cases h
  | _ => exact dat_dp _ d v h r
/-- what may be walked -/
theorem seqOf_sq {x : LV} {xs : List LV} {v : V} (R : Rep N K H L ρ) (h : seqOf L x = some xs) (r : Rl K H ρ x v) : ∃ a vs, v = .ref a ∧ (SqL K H a vs ∨ SqT K H a vs) ∧ Rls K H ρ xs vs := by
  cases x with
  | tup ys =>
    simp only [seqOf, Option.some.injEq] at h
    subst h
    obtain ⟨a, vs, rfl, h1, h2⟩ := Rl.tup.mp r
    exact ⟨a, vs, rfl, .inr h1, h2⟩
  | scr ys =>
    simp only [seqOf, Option.some.injEq] at h
    subst h
    obtain ⟨a, vs, rfl, h1, h2⟩ := Rl.scr.mp r
    exact ⟨a, vs, rfl, .inl h1.sq, h2⟩
  | ref i =>
    simp only [seqOf] at h
    obtain ⟨a, h1, rfl⟩ := Rl.ref.mp r
    split at h
    · rename_i ys e
      cases h
      obtain ⟨b, vs, h2, h3, h4⟩ := R.lst e
      rw [h1] at h2
      cases h2
      exact ⟨a, vs, rfl, .inl (.inl (.inl h3)), h4⟩
    · cases h
  | _ => simp [seqOf] at h
theorem keyOf_kV {x : LV} {k : Key} {v : V} (h : keyOf x = some k) (r : Rl K H ρ x v) : v = kV k := by
  cases x with
  | int i => simp only [keyOf, Option.some.injEq] at h; subst h; exact Rl.int.mp r
  | str y => simp only [keyOf, Option.some.injEq] at h; subst h; exact Rl.str.mp r
  | _ => simp [keyOf] at h
theorem keyRel {k : Key} : Rl K H ρ (keyL k) (kV k) := by
  cases k with
  | inl i => exact Rl.int.mpr rfl
  | inr x => exact Rl.str.mpr rfl
theorem scal_eq {x y : LV} {v u : V} (rx : Rl K H ρ x v) (ry : Rl K H ρ y u) : True := trivial
end

/-! ### operators -/
/-- the reading of an operator by its logical value -/
def rBin (N : Na) (K : PySem.W.Frag) (f : LV → LV → LH → Out LV) : R2 := fun x y H Q => ∃ lx ly L ρ, Rep N K H L ρ ∧ Rl K H ρ lx x ∧ Rl K H ρ ly y ∧ PostV N K (f lx ly L) H ρ Q
section
variable {N : Na} {X : Cx}
/-- a new list -/
theorem Post.newL {K : PySem.W.Frag} {H : Hp} {ρ : Rho} {L : LH} {xs : List LV} {vs : List V} {Q : VK} (R : Rep N K H L ρ) (r : Rls K H ρ xs vs) (h : PostV N K (.ok (.ref L.n) (L.new (.lst xs))) H ρ Q) :
    ∀ p, H p = none → Q (.ref p) (upd H p (.lst vs)) := fun p hp =>
  h _ _ _ (Sty.new hp) (R.exNew p) (R.new hp (fun z => z) ⟨vs, upd_same, Rls.mono (Sty.new hp) (R.exNew p) _ _ r⟩) (Rl.ref.mpr ⟨p, rhoNew_self, rfl⟩)
theorem Post.newT {K : PySem.W.Frag} {H : Hp} {ρ : Rho} {L : LH} {xs : List LV} {vs : List V} {Q : VK} (R : Rep N K H L ρ) (r : Rls K H ρ xs vs) (h : PostV N K (.ok (.tup xs) L) H ρ Q) :
    ∀ p, H p = none → Q (.ref p) (upd H p (.tup vs)) := fun p hp =>
  h _ _ _ (Sty.new hp) (Ex.refl _) (R.laid hp) (Rl.tup.mpr ⟨p, vs, rfl, .inl (.inl upd_same), Rls.mono (Sty.new hp) (Ex.refl _) _ _ r⟩)
theorem Post.oldT {K : PySem.W.Frag} {H : Hp} {ρ : Rho} {L : LH} {xs : List LV} {vs : List V} {a : Addr} {Q : VK} (R : Rep N K H L ρ) (s : SqT K H a vs) (r : Rls K H ρ xs vs) (h : PostV N K (.ok (.tup xs) L) H ρ Q) : Q (.ref a) H :=
  h.here R (Rl.tup.mpr ⟨a, vs, rfl, s, r⟩)
/-- a changed list -/
theorem Post.putL {K : PySem.W.Frag} {H : Hp} {ρ : Rho} {L : LH} {i : Nat} {a : Addr} {o0 : LO} {xs : List LV} {vs : List V} {r : LV} {v : V} {Q : VK} (R : Rep N K H L ρ) (hi : ρ i = some a) (hl : L.at_ i = some o0) (rx : Rls K H ρ xs vs) (rv : Rl K H ρ r v)
    (h : PostV N K (.ok r (L.put i (.lst xs))) H ρ Q) : Q v (upd H a (.lst vs)) :=
  have S := R.styPut (u := .lst vs) hi hl
  h _ _ _ S (Ex.refl _) (R.put hi hl (fun z => z) ⟨vs, upd_same, Rls.mono S (Ex.refl _) _ _ rx⟩) (Rl.mono S (Ex.refl _) _ _ rv)
def bop : B2 → Operator
  | .add => .Add | .sub => .Sub | .mul => .Mult | .fdiv => .FloorDiv | .mod => .Mod | .pow => .Pow
theorem op_binV (o : B2) : OpR X (binaryOp (bop o)) (rBin N X.K (binV o)) := by
  intro pins s σ H x y v u Q I rx ry h
  obtain ⟨lx, ly, L, ρ, R, rlx, rly, p⟩ := h
  unfold binV at p
  split at p
  · cases Rl.int.mp rlx; cases Rl.int.mp rly
    exact op_add pins s σ H _ _ v u Q I rx ry ⟨_, _, rfl, rfl, p.here R (Rl.int.mpr rfl)⟩
  · cases Rl.int.mp rlx; cases Rl.int.mp rly
    exact op_sub pins s σ H _ _ v u Q I rx ry ⟨_, _, rfl, rfl, p.here R (Rl.int.mpr rfl)⟩
  · cases Rl.int.mp rlx; cases Rl.int.mp rly
    split at p
    · rename_i hc
      exact op_mul pins s σ H _ _ v u Q I rx ry ⟨_, _, rfl, rfl, hc, p.here R (Rl.int.mpr rfl)⟩
    · exact p.elim
  · cases Rl.int.mp rlx; cases Rl.int.mp rly
    split at p
    · rename_i hc
      exact op_fdiv pins s σ H _ _ v u Q I rx ry ⟨_, _, rfl, rfl, hc, p.here R (Rl.int.mpr rfl)⟩
    · exact p.elim
  · cases Rl.int.mp rlx; cases Rl.int.mp rly
    split at p
    · rename_i hc
      exact op_mod pins s σ H _ _ v u Q I rx ry ⟨_, _, rfl, rfl, hc, p.here R (Rl.int.mpr rfl)⟩
    · exact p.elim
  · cases Rl.int.mp rlx; cases Rl.int.mp rly
    split at p
    · rename_i hc
      exact op_pow pins s σ H _ _ v u Q I rx ry ⟨_, _, rfl, rfl, hc, p.here R (Rl.int.mpr rfl)⟩
    · exact p.elim
  · cases Rl.str.mp rlx; cases Rl.str.mp rly
    split at p
    · rename_i hc
      exact op_add_str pins s σ H _ _ v u Q I rx ry ⟨_, _, rfl, rfl, hc, p.here R (Rl.str.mpr rfl)⟩
    · exact p.elim
  · obtain ⟨a, vs, rfl, s1, r1⟩ := Rl.tup.mp rlx
    obtain ⟨b, ws, rfl, s2, r2⟩ := Rl.tup.mp rly
    split at p
    · rename_i hc
      rw [r1.length, r2.length] at hc
      refine op_catA pins s σ H _ _ v u Q I rx ry ⟨a, b, vs, ws, rfl, rfl, s1, s2, hc, fun e => ?_, fun _ e => ?_, fun _ _ => Post.newT R (Rls.append r1 r2) p⟩
      · subst e
        have : (_ : List LV) = [] := List.eq_nil_of_length_eq_zero r1.length
        subst this
        exact Post.oldT R s2 (by simpa using r2) p
      · subst e
        have : (_ : List LV) = [] := List.eq_nil_of_length_eq_zero r2.length
        subst this
        exact Post.oldT R s1 (by simpa using r1) p
    · exact p.elim
  · obtain ⟨a, h1, rfl⟩ := Rl.ref.mp rlx
    obtain ⟨b, h2, rfl⟩ := Rl.ref.mp rly
    split at p
    · rename_i e1 e2
      obtain ⟨a', vs, q1, q2, q3⟩ := R.lst e1
      obtain ⟨b', ws, t1, t2, t3⟩ := R.lst e2
      rw [h1] at q1; cases q1
      rw [h2] at t1; cases t1
      split at p
      · rename_i hc
        rw [q3.length, t3.length] at hc
        exact op_cat pins s σ H _ _ v u Q I rx ry ⟨a, b, vs, ws, rfl, rfl, q2, t2, hc, Post.newL R (Rls.append q3 t3) p⟩
      · exact p.elim
    · exact p.elim
  · obtain ⟨a, h1, rfl⟩ := Rl.ref.mp rlx
    cases Rl.int.mp rly
    split at p
    · rename_i e1
      obtain ⟨a', vs, q1, q2, q3⟩ := R.lst e1
      rw [h1] at q1; cases q1
      split at p
      · rename_i hc
        rw [q3.length] at hc
        exact op_rep pins s σ H _ _ v u Q I rx ry ⟨a, _, vs, rfl, rfl, q2, hc.1, hc.2.1, hc.2.2, Post.newL R (Rls.replicate q3 _) p⟩
      · exact p.elim
    · exact p.elim
  · exact p.elim
/-! ### comparisons -/
def rCmp (N : Na) (K : PySem.W.Frag) (o : C2) : R2 := fun x y H Q => ∃ lx ly L ρ b, Rep N K H L ρ ∧ Rl K H ρ lx x ∧ Rl K H ρ ly y ∧ cmpV L o lx ly = some b ∧ Q (.bl b) H
def cop : C2 → CmpOp
  | .eq => .Eq | .ne => .NotEq | .lt => .Lt | .le => .LtE | .gt => .Gt | .ge => .GtE | .isn => .Is | .notn => .IsNot | .inn => .In | .nin => .NotIn
theorem eqD_ok (neg : Bool) (hu : X.A.units + 64 < cLine) : OpR X (compareOp (if neg = true then .NotEq else .Eq)) (fun x y H Q => ∃ lx ly L ρ b, Rep N X.K H L ρ ∧ Rl X.K H ρ lx x ∧ Rl X.K H ρ ly y ∧ eqD L lx ly = some b ∧ Q (.bl (if neg = true then !b else b)) H) := by
  intro pins s σ H x y v u Q I rx ry h
  obtain ⟨lx, ly, L, ρ, b, R, rlx, rly, e, q⟩ := h
  have scalar : scal x y = true → b = decide (x = y) → wpAny (model X.prog X.w) X.A (compareOp (if neg = true then .NotEq else .Eq) v u) (EP X pins σ Q) X.xe s := fun hs hb => by
    subst hb
    cases neg with
    | true => exact op_ne pins s σ H _ _ v u Q I rx ry ⟨hs, q⟩
    | false => exact op_eq pins s σ H _ _ v u Q I rx ry ⟨hs, q⟩
  unfold eqD at e
  split at e
  · cases Rl.int.mp rlx; cases Rl.int.mp rly
    cases e
    refine scalar rfl ?_
    simp
  · cases Rl.str.mp rlx; cases Rl.str.mp rly
    cases e
    refine scalar rfl ?_
    simp
  · cases Rl.bl.mp rlx; cases Rl.bl.mp rly
    cases e
    refine scalar rfl ?_
    simp
  · cases e1 : datL L lx with
    | none => rw [e1] at e; simp at e
    | some d =>
      cases e2 : datL L ly with
      | none => rw [e1, e2] at e; simp at e
      | some d' =>
        rw [e1, e2] at e
        simp only [Option.bind_some] at e
        split at e
        · rename_i hs
          cases e
          cases neg with
          | true => exact op_neD hu pins s σ H _ _ v u Q I rx ry ⟨d, d', datL_dp R e1 rlx, datL_dp R e2 rly, hs.1, hs.2, q⟩
          | false => exact op_eqD hu pins s σ H _ _ v u Q I rx ry ⟨d, d', datL_dp R e1 rlx, datL_dp R e2 rly, hs.1, hs.2, q⟩
        · cases e
theorem inF_ok (neg : Bool) (hu : X.A.units + 64 < cLine) : OpR X (compareOp (if neg = true then .NotIn else .In)) (fun x y H Q => ∃ lx ly L ρ b, Rep N X.K H L ρ ∧ Rl X.K H ρ lx x ∧ Rl X.K H ρ ly y ∧ inF L lx ly = some b ∧ Q (.bl (if neg = true then !b else b)) H) := by
  intro pins s σ H x y v u Q I rx ry h
  obtain ⟨lx, ly, L, ρ, b, R, rlx, rly, e, q⟩ := h
  have sq : ∀ (a : Addr) (xs : List LV) (vs : List V), y = .ref a → (SqL X.K H a vs ∨ SqT X.K H a vs) → Rls X.K H ρ xs vs → (if flat lx = true ∧ xs.all flat = true then some (xs.any fun z => eqF z lx) else none) = some b →
      wpAny (model X.prog X.w) X.A (compareOp (if neg = true then .NotIn else .In) v u) (EP X pins σ Q) X.xe s := fun a xs vs ey hs hr e => by
    subst ey
    split at e
    · rename_i hf
      cases e
      have ex := flat_rl hf.1 rlx
      have ev := flats_rl hf.2 hr
      subst ex ev
      have f1 := flat_toF hf.1
      have f2 := flats_all hf.2
      have f3 := inV_toF hf.1 hf.2
      cases neg with
      | true => exact op_notIn_seq pins s σ H _ _ v u Q I rx ry ⟨a, _, rfl, hs, f1, f2, by simpa [f3] using q⟩
      | false => exact op_in_seq pins s σ H _ _ v u Q I rx ry ⟨a, _, rfl, hs, f1, f2, by simpa [f3] using q⟩
    · cases e
  unfold inF at e
  split at e
  · obtain ⟨a, h1, rfl⟩ := Rl.ref.mp rly
    split at e
    · rename_i xs e1
      obtain ⟨a', vs, q1, q2, q3⟩ := R.lst e1
      rw [h1] at q1; cases q1
      exact sq a xs vs rfl (.inl (.inl (.inl q2))) q3 e
    · rename_i kvs e1
      obtain ⟨a', vs, q1, q2, q3⟩ := R.dct e1
      rw [h1] at q1; cases q1
      cases ek : keyOf lx with
      | none => rw [ek] at e; simp at e
      | some k =>
        rw [ek] at e
        simp only [Option.map_some, Option.some.injEq] at e
        have ex := keyOf_kV ek rlx
        subst ex
        have g : DGet H a (kV k) (valV vs k) := DGet.k q2
        have eb : (valV vs k).isSome = b := by
          have := q3.get (k := k)
          cases ed : dget k kvs with
          | none => rw [this.2 ed]; rw [ed] at e; exact e
          | some z => obtain ⟨w, hw, _⟩ := this.1 z ed; rw [hw]; rw [ed] at e; exact e
        cases ry
        cases neg with
        | true => exact d_notIn (by omega) I g rx fun s' I' => ⟨.bl (!(valV vs k).isSome), H, I', rfl, by rw [eb]; exact q⟩
        | false => exact d_in (by omega) I g rx fun s' I' => ⟨.bl (valV vs k).isSome, H, I', rfl, by rw [eb]; exact q⟩
    · cases e
  · obtain ⟨a, vs, rfl, s1, r1⟩ := Rl.tup.mp rly
    exact sq a _ vs rfl (.inr s1) r1 e
  · obtain ⟨a, vs, rfl, s1, r1⟩ := Rl.scr.mp rly
    exact sq a _ vs rfl (.inl s1.sq) r1 e
  · cases e
theorem op_cmpV (o : C2) (hu : X.A.units + 64 < cLine) : OpR X (compareOp (cop o)) (rCmp N X.K o) := by
  intro pins s σ H x y v u Q I rx ry h
  obtain ⟨lx, ly, L, ρ, b, R, rlx, rly, e, q⟩ := h
  unfold cmpV at e
  split at e
  · exact eqD_ok false hu pins s σ H _ _ v u Q I rx ry ⟨lx, ly, L, ρ, b, R, rlx, rly, e, q⟩
  · cases e1 : eqD L lx ly with
    | none => rw [e1] at e; simp at e
    | some c =>
      rw [e1] at e
      simp only [Option.map_some, Option.some.injEq] at e
      subst e
      exact eqD_ok true hu pins s σ H _ _ v u Q I rx ry ⟨lx, ly, L, ρ, c, R, rlx, rly, e1, q⟩
  · cases Rl.int.mp rlx; cases Rl.int.mp rly; cases e
    exact op_lt pins s σ H _ _ v u Q I rx ry ⟨_, _, rfl, rfl, q⟩
  · cases Rl.int.mp rlx; cases Rl.int.mp rly; cases e
    exact op_le pins s σ H _ _ v u Q I rx ry ⟨_, _, rfl, rfl, q⟩
  · cases Rl.int.mp rlx; cases Rl.int.mp rly; cases e
    exact op_gt pins s σ H _ _ v u Q I rx ry ⟨_, _, rfl, rfl, q⟩
  · cases Rl.int.mp rlx; cases Rl.int.mp rly; cases e
    exact op_ge pins s σ H _ _ v u Q I rx ry ⟨_, _, rfl, rfl, q⟩
  · cases Rl.non.mp rly
    refine op_isN pins s σ H _ _ v u Q I rx ry ⟨rfl, ?_⟩
    have : b = decide (x = V.non) := by
      cases lx <;> simp only [Option.some.injEq] at e <;> subst e
      · rw [Rl.non.mp rlx]; rfl
      · rw [Rl.bl.mp rlx]; rfl
      · rw [Rl.int.mp rlx]; rfl
      · rw [Rl.str.mp rlx]; rfl
      · obtain ⟨a, vs, rfl, _⟩ := Rl.tup.mp rlx; rfl
      · obtain ⟨a, _, rfl⟩ := Rl.ref.mp rlx; rfl
      · obtain ⟨a, vs, rfl, _⟩ := Rl.scr.mp rlx; rfl
      · obtain ⟨a, vs, rfl, _⟩ := Rl.exc.mp rlx; rfl
    rw [← this]; exact q
  · cases Rl.non.mp rly
    refine op_notN pins s σ H _ _ v u Q I rx ry ⟨rfl, ?_⟩
    have : b = !decide (x = V.non) := by
      cases lx <;> simp only [Option.some.injEq] at e <;> subst e
      · rw [Rl.non.mp rlx]; rfl
      · rw [Rl.bl.mp rlx]; rfl
      · rw [Rl.int.mp rlx]; rfl
      · rw [Rl.str.mp rlx]; rfl
      · obtain ⟨a, vs, rfl, _⟩ := Rl.tup.mp rlx; rfl
      · obtain ⟨a, _, rfl⟩ := Rl.ref.mp rlx; rfl
      · obtain ⟨a, vs, rfl, _⟩ := Rl.scr.mp rlx; rfl
      · obtain ⟨a, vs, rfl, _⟩ := Rl.exc.mp rlx; rfl
    rw [← this]; exact q
  · exact inF_ok false hu pins s σ H _ _ v u Q I rx ry ⟨lx, ly, L, ρ, b, R, rlx, rly, e, q⟩
  · cases e1 : inF L lx ly with
    | none => rw [e1] at e; simp at e
    | some c =>
      rw [e1] at e
      simp only [Option.map_some, Option.some.injEq] at e
      subst e
      exact inF_ok true hu pins s σ H _ _ v u Q I rx ry ⟨lx, ly, L, ρ, c, R, rlx, rly, e1, q⟩
  · cases e
/-! ### subscripts, slices -/
theorem atI_rel {K : PySem.W.Frag} {H : Hp} {ρ : Rho} {xs : List LV} {vs : List V} {i : Int} {x : LV} (r : Rls K H ρ xs vs) (h : atI xs i = some x) : ∃ v, atI vs i = some v ∧ Rl K H ρ x v := by
  unfold atI at h ⊢
  rw [r.length] at h
  cases e : ixN vs.length i with
  | none => rw [e] at h; simp at h
  | some j =>
    rw [e] at h
    simp only [Option.bind_some] at h ⊢
    exact r.get h
theorem ix_idxV (hu : X.A.units + 64 < cLine) : IxR X (rBin N X.K idxV) := by
  intro value slice pins s σ H x y v u Q I rx ry h hs
  obtain ⟨lx, ly, L, ρ, R, rlx, rly, p⟩ := h
  unfold idxV at p
  split at p
  · obtain ⟨a, h1, rfl⟩ := Rl.ref.mp rlx
    split at p
    · rename_i e1
      obtain ⟨a', vs, q1, q2, q3⟩ := R.lst e1
      rw [h1] at q1; cases q1
      split at p
      · cases Rl.int.mp rly
        split at p
        · rename_i e2
          obtain ⟨w, hw, rw'⟩ := atI_rel q3 e2
          exact ix_list value slice pins s σ H _ _ v u Q I rx ry ⟨a, vs, _, w, rfl, rfl, .inl (.inl q2), hw, p.here R rw'⟩ hs
        · exact p.elim
      · exact p.elim
    · rename_i e1
      obtain ⟨a', vs, q1, q2, q3⟩ := R.dct e1
      rw [h1] at q1; cases q1
      split at p
      · rename_i k ek
        have ey := keyOf_kV ek rly
        subst ey
        split at p
        · rename_i z ez
          obtain ⟨w, hw, rw'⟩ := (q3.get (k := k)).1 z ez
          have g : DGet H a (kV k) (some w) := by rw [← hw]; exact DGet.k q2
          cases rx
          exact tail_any (dict_typeIs I g) PySem.F.slot_dict_getitem.lookup (d_getItem (by omega) I g ry fun w' s' I' r' => ⟨w, H, I', r', p.here R rw'⟩) hs
        · exact p.elim
      · exact p.elim
    · exact p.elim
  · obtain ⟨a, vs, rfl, s1, r1⟩ := Rl.tup.mp rlx
    cases Rl.int.mp rly
    split at p
    · rename_i e2
      obtain ⟨w, hw, rw'⟩ := atI_rel r1 e2
      exact ix_tup value slice pins s σ H _ _ v u Q I rx ry ⟨a, vs, _, w, rfl, rfl, s1, hw, p.here R rw'⟩ hs
    · exact p.elim
  · obtain ⟨a, vs, rfl, s1, r1⟩ := Rl.scr.mp rlx
    cases Rl.int.mp rly
    split at p
    · rename_i e2
      obtain ⟨w, hw, rw'⟩ := atI_rel r1 e2
      exact ix_list value slice pins s σ H _ _ v u Q I rx ry ⟨a, vs, _, w, rfl, rfl, s1.sq, hw, p.here R rw'⟩ hs
    · exact p.elim
  · exact p.elim
theorem cut_rel {K : PySem.W.Frag} {H : Hp} {ρ : Rho} {xs : List LV} {vs : List V} {lo hi : Option Int} (r : Rls K H ρ xs vs) : Rls K H ρ (cut xs lo hi) (cutV vs lo hi) := by
  unfold cut cutV
  rw [r.length]
  exact Rls.take _ (Rls.drop _ r)
def rSlc (N : Na) (K : PySem.W.Frag) : V → Option Int → Option Int → Hp → VK → Prop := fun x lo hi H Q => ∃ lx L ρ, Rep N K H L ρ ∧ Rl K H ρ lx x ∧
  PostV N K (slcV lx lo hi L) H ρ Q
theorem sl_slcV : SlR X (rSlc N X.K) := by
  intro pins s σ H x v vl vu lo hi sl Q I rx hsl hl hh h
  obtain ⟨lx, L, ρ, R, rlx, p⟩ := h
  unfold slcV at p
  split at p
  · obtain ⟨a, vs, rfl, s1, r1⟩ := Rl.tup.mp rlx
    refine sl_tupA pins s σ H _ v vl vu lo hi sl Q I rx hsl hl hh ⟨a, vs, rfl, s1, fun ec => ?_, fun _ => Post.newT R (cut_rel r1) p⟩
    refine Post.oldT (vs := vs) R s1 ?_ p
    have := cut_rel (lo := lo) (hi := hi) r1
    have e : cutV vs lo hi = vs := by
      unfold cutV
      rw [ec.1, ec.2]
      simp
    rw [e] at this
    exact this
  · obtain ⟨a, vs, rfl, s1, r1⟩ := Rl.scr.mp rlx
    exact sl_list pins s σ H _ v vl vu lo hi sl Q I rx hsl hl hh ⟨a, vs, rfl, s1.sq, Post.newL R (cut_rel r1) p⟩
  · obtain ⟨a, h1, rfl⟩ := Rl.ref.mp rlx
    split at p
    · rename_i e1
      obtain ⟨a', vs, q1, q2, q3⟩ := R.lst e1
      rw [h1] at q1; cases q1
      exact sl_list pins s σ H _ v vl vu lo hi sl Q I rx hsl hl hh ⟨a, vs, rfl, .inl (.inl q2), Post.newL R (cut_rel q3) p⟩
    · exact p.elim
  · exact p.elim
end
end LG
end

section
set_option Elab.async false
set_option linter.all false
set_option maxRecDepth 100000
set_option maxHeartbeats 2000000
/-! LG4: built-in functions and methods over the logical heap. -/
namespace LG
open PySem PySem.Spec PyProof.Rows L2

open PySem.AutoSeq1 in
set_option maxRecDepth 8000 in
theorem list_extend_tup (l : Addr) (items : Array Value) (n : Nat) (b : Addr) (items2 : Array Value) (n2 : Nat) (dd : Option Addr) (sl : Array (Option Value)) (hs0 : ¬(!items.isEmpty && Builtin.List.listTooLong (items.size + items2.size)) = true) (hs1 : items.size ≤ sizeLine) (hs2 : items.size + items2.size ≤ sizeLine + 1) :
    Meets (Builtin.«list.extend» ⟨[.ref l, .ref b], []⟩) (fun _ R s => s.heap.get? l = some { cls := .type "list", dict := none, data := .seq items n, slots := #[] } ∧ s.heap.get? b = some { cls := .type "tuple", dict := dd, data := .seq items2 n2, slots := sl } ∧ R (.ok (.ret Value.none)) { s with heap := s.heap.update l (Obj.mapSeq fun x => x ++ items2), toks := s.toks }) :=
  .of_wp fun prog w A R s h => by
    obtain ⟨hp, g, d, tk, os⟩ := s; obtain ⟨hl, hb, h⟩ := h; have f1 := AutoSeq1.idx_int; have f2 := AutoSeq1.sub_tuple_tuple; have f3 := AutoSeq1.sub_list_list; have f4 := AutoSeq1.sub_tuple_list; have f5 := AutoSeq1.sub_list_tuple;
    have hz' : (items ++ items2).size ≤ sizeLine + 1 := by rw [Array.size_append]; exact hs2
    wp_walk using (wpAny_updateSeq hl rfl (hz := hs1) (_hz' := hz')), wpAny_loadPart' hl, wpAny_loadPart' hb; exact ⟨_, rfl, h⟩
open PySem.AutoSeq1 in
set_option maxRecDepth 8000 in
theorem list_extend_lst (l : Addr) (items : Array Value) (n : Nat) (b : Addr) (items2 : Array Value) (n2 : Nat) (sl : Array (Option Value)) (hs0 : ¬(!items.isEmpty && Builtin.List.listTooLong (items.size + items2.size)) = true) (hs1 : items.size ≤ sizeLine) (hs2 : items.size + items2.size ≤ sizeLine + 1) :
    Meets (Builtin.«list.extend» ⟨[.ref l, .ref b], []⟩) (fun _ R s => s.heap.get? l = some { cls := .type "list", dict := none, data := .seq items n, slots := #[] } ∧ s.heap.get? b = some { cls := .type "list", dict := none, data := .seq items2 n2, slots := sl } ∧ R (.ok (.ret Value.none)) { s with heap := s.heap.update l (Obj.mapSeq fun x => x ++ items2), toks := s.toks }) :=
  .of_wp fun prog w A R s h => by
    obtain ⟨hp, g, d, tk, os⟩ := s; obtain ⟨hl, hb, h⟩ := h; have f1 := AutoSeq1.idx_int; have f2 := AutoSeq1.sub_tuple_tuple; have f3 := AutoSeq1.sub_list_list; have f4 := AutoSeq1.sub_tuple_list; have f5 := AutoSeq1.sub_list_tuple;
    have hz' : (items ++ items2).size ≤ sizeLine + 1 := by rw [Array.size_append]; exact hs2
    wp_walk using (wpAny_updateSeq hl rfl (hz := hs1) (_hz' := hz')), wpAny_loadPart' hl, wpAny_loadPart' hb; exact ⟨_, rfl, h⟩
section
variable {N : Na} {X : Cx}
theorem mt_extendF : MtM X "list.extend" (fun x vs H Q => ∃ l b xs zs, x = .ref l ∧ vs = [.ref b] ∧ H l = some (.lst xs) ∧ SqL X.K H b zs ∧ xs.length + zs.length ≤ sizeLine ∧ Q .non (upd H l (.lst (xs ++ zs)))) := by
  intro pins s σ H x vs v us Q I rx rv h
  obtain ⟨l, b, xs, zs, rfl, rfl, hH, hB, hz, q⟩ := h
  cases rx
  obtain ⟨u, rfl, ru⟩ := rv.one
  cases ru
  obtain ⟨z, its, n, r, hl, e⟩ := I.lstM hH
  obtain ⟨its2, r2, ⟨o, n2, e2, hc, hdn, hd⟩, z2⟩ := I.list hB
  have hl2 := r2.length
  obtain ⟨oc, od, dt, sl⟩ := o
  simp only at hc hd hdn
  subst hc hd hdn
  have hsz : its.toArray.size + its2.toArray.size ≤ sizeLine := by rw [List.size_toArray, List.size_toArray]; omega
  have hlong : ¬ (!its.toArray.isEmpty && Builtin.List.listTooLong (its.toArray.size + its2.toArray.size)) = true := by
    rw [notLongL hsz, Bool.and_false]
    exact Bool.false_ne_true
  refine call_meets F.slot_list_extend ⟨_, e, rfl⟩ F.entry_list_extend (F.args_list_extend_2 _ _)
    (list_extend_lst l its.toArray n b its2.toArray n2 sl hlong (by rw [List.size_toArray]; omega) (by omega)) ⟨e, e2, ?_⟩
  refine ⟨.non, _, I.lset (its' := its ++ its2) hH e (by simp) (r.append r2) ?_, rfl, q⟩
  rw [List.length_append]
  omega
theorem mt_extendT : MtM X "list.extend" (fun x vs H Q => ∃ l b xs zs, x = .ref l ∧ vs = [.ref b] ∧ H l = some (.lst xs) ∧ SqT X.K H b zs ∧ xs.length + zs.length ≤ sizeLine ∧ Q .non (upd H l (.lst (xs ++ zs)))) := by
  intro pins s σ H x vs v us Q I rx rv h
  obtain ⟨l, b, xs, zs, rfl, rfl, hH, hB, hz, q⟩ := h
  cases rx
  obtain ⟨u, rfl, ru⟩ := rv.one
  cases ru
  obtain ⟨z, its, n, r, hl, e⟩ := I.lstM hH
  obtain ⟨its2, r2, ⟨o, e2, hc, n2, hd⟩, z2⟩ := I.tuple hB
  have hl2 := r2.length
  obtain ⟨oc, od, dt, sl⟩ := o
  simp only at hc hd
  subst hc hd
  have hsz : its.toArray.size + its2.toArray.size ≤ sizeLine := by rw [List.size_toArray, List.size_toArray]; omega
  have hlong : ¬ (!its.toArray.isEmpty && Builtin.List.listTooLong (its.toArray.size + its2.toArray.size)) = true := by
    rw [notLongL hsz, Bool.and_false]
    exact Bool.false_ne_true
  refine call_meets F.slot_list_extend ⟨_, e, rfl⟩ F.entry_list_extend (F.args_list_extend_2 _ _)
    (list_extend_tup l its.toArray n b its2.toArray n2 od sl hlong (by rw [List.size_toArray]; omega) (by omega)) ⟨e, e2, ?_⟩
  refine ⟨.non, _, I.lset (its' := its ++ its2) hH e (by simp) (r.append r2) ?_, rfl, q⟩
  rw [List.length_append]
  omega

/-! ### built-in functions -/
def rArgs (N : Na) (K : PySem.W.Frag) (f : List LV → LH → Out LV) : List V → Hp → VK → Prop := fun xs H Q => ∃ lxs L ρ, Rep N K H L ρ ∧ Rls K H ρ lxs xs ∧ PostV N K (f lxs L) H ρ Q
theorem Rls.one {K : PySem.W.Frag} {H : Hp} {ρ : Rho} {x : LV} {vs : List V} (h : Rls K H ρ [x] vs) : ∃ v, vs = [v] ∧ Rl K H ρ x v := by
  obtain ⟨v, r, rfl, h1, h2⟩ := Rls.cons.mp h
  rw [Rls.nil.mp h2]
  exact ⟨v, rfl, h1⟩
theorem Rls.two {K : PySem.W.Frag} {H : Hp} {ρ : Rho} {x y : LV} {vs : List V} (h : Rls K H ρ [x, y] vs) : ∃ v u, vs = [v, u] ∧ Rl K H ρ x v ∧ Rl K H ρ y u := by
  obtain ⟨v, r, rfl, h1, h2⟩ := Rls.cons.mp h
  obtain ⟨u, rfl, h3⟩ := Rls.one h2
  exact ⟨v, u, rfl, h1, h3⟩
theorem lstOf_sq {K : PySem.W.Frag} {H : Hp} {ρ : Rho} {L : LH} {x : LV} {xs : List LV} {v : V} (R : Rep N K H L ρ) (h : lstOf L x = some xs) (r : Rl K H ρ x v) : ∃ a vs, v = .ref a ∧ SqL K H a vs ∧ Rls K H ρ xs vs := by
  cases x with
  | scr ys =>
    simp only [lstOf, Option.some.injEq] at h
    subst h
    obtain ⟨a, vs, rfl, h1, h2⟩ := Rl.scr.mp r
    exact ⟨a, vs, rfl, h1.sq, h2⟩
  | ref i =>
    simp only [lstOf] at h
    obtain ⟨a, h1, rfl⟩ := Rl.ref.mp r
    split at h
    · rename_i ys e
      cases h
      obtain ⟨b, vs, h2, h3, h4⟩ := R.lst e
      rw [h1] at h2
      cases h2
      exact ⟨a, vs, rfl, .inl (.inl h3), h4⟩
    · cases h
  | _ => simp [lstOf] at h
theorem sumI_rel {K : PySem.W.Frag} {H : Hp} {ρ : Rho} : ∀ {xs : List LV} {vs : List V} {i : Int}, sumI xs = some i → Rls K H ρ xs vs → ∃ ns : List Int, vs = ns.map V.int ∧ ns.sum = i
  | [], vs, i, h, r => by
    simp only [sumI, Option.some.injEq] at h
    subst h
    exact ⟨[], Rls.nil.mp r, rfl⟩
  | x :: xs, vs, i, h, r => by
    cases x with
    | int j =>
      obtain ⟨v, q, rfl, r1, r2⟩ := Rls.cons.mp r
      simp only [sumI] at h
      cases e : sumI xs with
      | none => rw [e] at h; simp at h
      | some k =>
        rw [e] at h
        simp only [Option.map_some, Option.some.injEq] at h
        obtain ⟨ns, rfl, e2⟩ := sumI_rel e r2
        exact ⟨j :: ns, by rw [Rl.int.mp r1]; rfl, by rw [List.sum_cons, e2]; exact h⟩
    | _ => simp [sumI] at h
theorem bools_rel {K : PySem.W.Frag} {H : Hp} {ρ : Rho} : ∀ {xs : List LV} {vs : List V} {bs : List Bool}, bools xs = some bs → Rls K H ρ xs vs → vs = bs.map V.bl
  | [], vs, bs, h, r => by
    simp only [bools, Option.some.injEq] at h
    subst h
    exact Rls.nil.mp r
  | x :: xs, vs, bs, h, r => by
    cases x with
    | bl b =>
      obtain ⟨v, q, rfl, r1, r2⟩ := Rls.cons.mp r
      simp only [bools] at h
      cases e : bools xs with
      | none => rw [e] at h; simp at h
      | some cs =>
        rw [e] at h
        simp only [Option.map_some, Option.some.injEq] at h
        subst h
        rw [bools_rel e r2, Rl.bl.mp r1]
        rfl
    | _ => simp [bools] at h
def bfVal : BF → Value
  | .len => .builtin "len" | .tuple => .type "tuple" | .list => .type "list" | .int => .type "int" | .min => .builtin "min" | .max => .builtin "max" | .sum => .builtin "sum" | .any => .builtin "any" | .all => .builtin "all" | .str => .type "str"
theorem call_bfV (hc : X.calm = true) (f : BF) : CallR X (bfVal f) (rArgs N X.K (bfV f)) := by
  intro pins s σ H xs us Q I r h
  obtain ⟨lxs, L, ρ, R, rl, p⟩ := h
  unfold bfV at p
  split at p
  · -- len
    obtain ⟨v, rfl, rv⟩ := Rls.one rl
    split at p
    · rename_i ys e
      obtain ⟨a, vs, rfl, hs, hr⟩ := seqOf_sq R e rv
      refine call_len_seq pins s σ H _ us Q I r ⟨a, vs, rfl, hs, ?_⟩
      rw [← hr.length]
      exact p.here R (Rl.int.mpr rfl)
    · split at p
      · cases Rl.str.mp rv
        split at p
        · rename_i hc'
          exact call_len_str pins s σ H _ us Q I r ⟨_, rfl, hc', p.here R (Rl.int.mpr rfl)⟩
        · exact p.elim
      · exact p.elim
  · obtain ⟨v, rfl, rv⟩ := Rls.one rl
    split at p
    · rename_i ys e
      obtain ⟨a, vs, rfl, hs, hr⟩ := seqOf_sq R e rv
      refine call_tuple_of pins s σ H _ us Q I r ⟨a, vs, rfl, ?_⟩
      rcases hs with hs | hs
      · exact .inl ⟨hs, Post.newT R hr p⟩
      · exact .inr ⟨hs, Post.oldT R hs hr p⟩
    · exact p.elim
  · obtain ⟨v, rfl, rv⟩ := Rls.one rl
    split at p
    · rename_i ys e
      obtain ⟨a, vs, rfl, hs, hr⟩ := seqOf_sq R e rv
      exact call_list_of pins s σ H _ us Q I r ⟨a, vs, rfl, hs, Post.newL R hr p⟩
    · exact p.elim
  · obtain ⟨v, rfl, rv⟩ := Rls.one rl
    cases Rl.int.mp rv
    exact call_int1 pins s σ H _ us Q I r (.inl ⟨_, rfl, p.here R (Rl.int.mpr rfl)⟩)
  · obtain ⟨v, rfl, rv⟩ := Rls.one rl
    cases Rl.bl.mp rv
    exact call_int1 pins s σ H _ us Q I r (.inr ⟨_, rfl, p.here R (Rl.int.mpr rfl)⟩)
  · obtain ⟨v, u, rfl, rv, ru⟩ := Rls.two rl
    cases Rl.int.mp rv; cases Rl.int.mp ru
    exact call_min2 hc pins s σ H _ us Q I r ⟨_, _, rfl, p.here R (Rl.int.mpr rfl)⟩
  · obtain ⟨v, u, rfl, rv, ru⟩ := Rls.two rl
    cases Rl.int.mp rv; cases Rl.int.mp ru
    exact call_max2 hc pins s σ H _ us Q I r ⟨_, _, rfl, p.here R (Rl.int.mpr rfl)⟩
  · obtain ⟨v, rfl, rv⟩ := Rls.one rl
    split at p
    · rename_i ys e
      obtain ⟨a, vs, rfl, hs, hr⟩ := lstOf_sq R e rv
      split at p
      · rename_i i ei
        obtain ⟨ns, rfl, en⟩ := sumI_rel ei hr
        exact cr_sum hc pins s σ H _ us Q I r ⟨a, ns, rfl, hs, by rw [en]; exact p.here R (Rl.int.mpr rfl)⟩
      · exact p.elim
    · exact p.elim
  · obtain ⟨v, rfl, rv⟩ := Rls.one rl
    split at p
    · rename_i ys e
      obtain ⟨a, vs, rfl, hs, hr⟩ := lstOf_sq R e rv
      split at p
      · rename_i bs eb
        have := bools_rel eb hr
        subst this
        exact cr_any hc pins s σ H _ us Q I r ⟨a, bs, rfl, hs, p.here R (Rl.bl.mpr rfl)⟩
      · exact p.elim
    · exact p.elim
  · obtain ⟨v, rfl, rv⟩ := Rls.one rl
    split at p
    · rename_i ys e
      obtain ⟨a, vs, rfl, hs, hr⟩ := lstOf_sq R e rv
      split at p
      · rename_i bs eb
        have := bools_rel eb hr
        subst this
        exact cr_all hc pins s σ H _ us Q I r ⟨a, bs, rfl, hs, p.here R (Rl.bl.mpr rfl)⟩
      · exact p.elim
    · exact p.elim
  · exact p.elim
/-! ### methods of lists and dicts -/
def bmT : BM → String
  | .dget1 => "dict" | .dget2 => "dict" | _ => "list"
def bmName : BM → Str
  | .lappend => "append" | .lextend => "extend" | .lpop => "pop" | .lpopAt => "pop" | .linsert => "insert" | .lindex => "index" | .dget1 => "get" | .dget2 => "get"
def bmId : BM → String
  | .lappend => "list.append" | .lextend => "list.extend" | .lpop => "list.pop" | .lpopAt => "list.pop" | .linsert => "list.insert" | .lindex => "list.index" | .dget1 => "dict.get" | .dget2 => "dict.get"
theorem bm_slot (m : BM) : PlainAttrs (bmT m) ∧ Slot (bmT m) (bmName m) (bmId m) ∧ typeOf (.builtin (bmId m)) = pure (.type "method_descriptor") := by
  cases m
  · exact ⟨PySem.F.plainAttrs_list, PySem.F.slot_list_append, PySem.F.type_list_append⟩
  · exact ⟨PySem.F.plainAttrs_list, PySem.F.slot_list_extend, PySem.F.type_list_extend⟩
  · exact ⟨PySem.F.plainAttrs_list, PySem.F.slot_list_pop, PySem.F.type_list_pop⟩
  · exact ⟨PySem.F.plainAttrs_list, PySem.F.slot_list_pop, PySem.F.type_list_pop⟩
  · exact ⟨PySem.F.plainAttrs_list, PySem.F.slot_list_insert, PySem.F.type_list_insert⟩
  · exact ⟨PySem.F.plainAttrs_list, PySem.F.slot_list_index, PySem.F.type_list_index⟩
  · exact ⟨PySem.F.plainAttrs_dict, PySem.F.slot_dict_get, PySem.F.type_dict_get⟩
  · exact ⟨PySem.F.plainAttrs_dict, PySem.F.slot_dict_get, PySem.F.type_dict_get⟩
def rMeth (N : Na) (K : PySem.W.Frag) (f : LV → List LV → LH → Out LV) : V → List V → Hp → VK → Prop := fun x xs H Q => ∃ lx lxs L ρ, Rep N K H L ρ ∧ Rl K H ρ lx x ∧ Rls K H ρ lxs xs ∧ PostV N K (f lx lxs L) H ρ Q
theorem findF_at {x : LV} (hx : flat x = true) : ∀ {xs : List LV} {j : Nat}, xs.all flat = true → findF x xs = some j →
    ∃ z, (xs.map toF)[j]? = some z ∧ eqV z (toF x) = true ∧ ∀ (m : Nat) (z' : V), m < j → (xs.map toF)[m]? = some z' → eqV z' (toF x) = false
  | [], j, _, h => by simp [findF] at h
  | y :: ys, j, hf, h => by
    simp only [List.all_cons, Bool.and_eq_true] at hf
    simp only [findF] at h
    split at h
    · rename_i e
      cases h
      exact ⟨toF y, rfl, by rw [eqF_toF hf.1 hx]; exact e, fun m z' hm => absurd hm (Nat.not_lt_zero m)⟩
    · rename_i e
      cases e2 : findF x ys with
      | none => rw [e2] at h; simp at h
      | some k =>
        rw [e2] at h
        simp only [Option.map_some, Option.some.injEq] at h
        subst h
        obtain ⟨z, h1, h2, h3⟩ := findF_at hx hf.2 e2
        refine ⟨z, by simpa using h1, h2, fun m z' hm hz => ?_⟩
        cases m with
        | zero =>
          simp at hz
          subst hz
          rw [eqF_toF hf.1 hx]
          simpa using e
        | succ m => exact h3 m z' (by omega) (by simpa using hz)
theorem mt_bmV (hu : X.A.units + 64 < cLine) (m : BM) : MtR X (bmId m) (rMeth N X.K (bmV m)) := by
  intro pins s σ H x xs v us Q I rx rxs h
  obtain ⟨lx, lxs, L, ρ, R, rlx, rls, p⟩ := h
  unfold bmV at p
  split at p
  · obtain ⟨a, h1, rfl⟩ := Rl.ref.mp rlx
    obtain ⟨y, rfl, ry⟩ := Rls.one rls
    split at p
    · rename_i ys e
      obtain ⟨a', vs, q1, q2, q3⟩ := R.lst e
      rw [h1] at q1; cases q1
      split at p
      · rename_i hz
        rw [q3.length] at hz
        exact mt_append pins s σ H _ _ v us Q I rx rxs ⟨a, vs, y, rfl, rfl, q2, hz, Post.putL R h1 e (Rls.append q3 (Rls.mk ry Rls.nil')) (Rl.non.mpr rfl) p⟩
      · exact p.elim
    · exact p.elim
  · obtain ⟨a, h1, rfl⟩ := Rl.ref.mp rlx
    obtain ⟨y, rfl, ry⟩ := Rls.one rls
    split at p
    · rename_i ys zs e1 e2
      obtain ⟨a', vs, q1, q2, q3⟩ := R.lst e1
      rw [h1] at q1; cases q1
      obtain ⟨b, ws, rfl, hs, hr⟩ := seqOf_sq R e2 ry
      split at p
      · rename_i hz
        rw [q3.length, hr.length] at hz
        have fin := Post.putL R h1 e1 (Rls.append q3 hr) (Rl.non.mpr rfl) p
        rcases hs with hs | hs
        · rcases hs with (hs | ⟨o, hs⟩) | hs
          · exact mt_extend pins s σ H _ _ v us Q I rx rxs ⟨a, b, vs, ws, rfl, rfl, q2, hs, hz, fin⟩
          · exact mt_extendF pins s σ H _ _ v us Q I rx rxs ⟨a, b, vs, ws, rfl, rfl, q2, .inl (.inr ⟨o, hs⟩), hz, fin⟩
          · exact mt_extendF pins s σ H _ _ v us Q I rx rxs ⟨a, b, vs, ws, rfl, rfl, q2, .inr hs, hz, fin⟩
        · exact mt_extendT pins s σ H _ _ v us Q I rx rxs ⟨a, b, vs, ws, rfl, rfl, q2, hs, hz, fin⟩
      · exact p.elim
    · exact p.elim
  · obtain ⟨a, h1, rfl⟩ := Rl.ref.mp rlx
    have e0 := Rls.nil.mp rls
    subst e0
    split at p
    · rename_i ys e
      obtain ⟨a', vs, q1, q2, q3⟩ := R.lst e
      rw [h1] at q1; cases q1
      split at p
      · rename_i w ew
        obtain ⟨w', hw, rw'⟩ := q3.get ew
        rw [q3.length] at hw
        exact mt_pop pins s σ H _ _ v us Q I rx rxs ⟨a, vs, w', rfl, rfl, q2, hw, Post.putL R h1 e (Rls.dropLast q3) rw' p⟩
      · exact p.elim
    · exact p.elim
  · obtain ⟨a, h1, rfl⟩ := Rl.ref.mp rlx
    obtain ⟨y, rfl, ry⟩ := Rls.one rls
    cases Rl.int.mp ry
    split at p
    · rename_i ys e
      obtain ⟨a', vs, q1, q2, q3⟩ := R.lst e
      rw [h1] at q1; cases q1
      split at p
      · rename_i hb
        split at p
        · rename_i k ek
          split at p
          · rename_i w ew
            obtain ⟨w', hw, rw'⟩ := q3.get ew
            rw [q3.length] at ek
            exact mt_popAt pins s σ H _ _ v us Q I rx rxs ⟨a, vs, _, k, w', rfl, rfl, q2, hb.1, hb.2, ek, hw, Post.putL R h1 e (Rls.erase k q3) rw' p⟩
          · exact p.elim
        · exact p.elim
      · exact p.elim
    · exact p.elim
  · obtain ⟨a, h1, rfl⟩ := Rl.ref.mp rlx
    obtain ⟨y, z, rfl, ry, rz⟩ := Rls.two rls
    cases Rl.int.mp ry
    split at p
    · rename_i ys e
      obtain ⟨a', vs, q1, q2, q3⟩ := R.lst e
      rw [h1] at q1; cases q1
      split at p
      · rename_i hb
        rw [q3.length] at hb
        exact mt_insert pins s σ H _ _ v us Q I rx rxs ⟨a, vs, _, z, rfl, rfl, q2, hb.1, hb.2.1, hb.2.2, Post.putL R h1 e (Rls.append (Rls.append (Rls.take _ q3) (Rls.mk rz Rls.nil')) (Rls.drop _ q3)) (Rl.non.mpr rfl) p⟩
      · exact p.elim
    · exact p.elim
  · obtain ⟨a, h1, rfl⟩ := Rl.ref.mp rlx
    obtain ⟨y, rfl, ry⟩ := Rls.one rls
    split at p
    · rename_i ys e
      obtain ⟨a', vs, q1, q2, q3⟩ := R.lst e
      rw [h1] at q1; cases q1
      split at p
      · rename_i hf
        split at p
        · rename_i j ej
          have ey := flat_rl hf.1 ry
          have ev := flats_rl hf.2 q3
          subst ey ev
          obtain ⟨z, hz, hz2, hz3⟩ := findF_at hf.1 hf.2 ej
          exact mt_index pins s σ H _ _ v us Q I rx rxs ⟨a, _, _, j, z, rfl, rfl, .inl (.inl q2), flat_toF hf.1, flats_all hf.2, hz, hz2, hz3, p.here R (Rl.int.mpr rfl)⟩
        · exact p.elim
      · exact p.elim
    · exact p.elim
  · obtain ⟨a, h1, rfl⟩ := Rl.ref.mp rlx
    obtain ⟨y, rfl, ry⟩ := Rls.one rls
    split at p
    · rename_i kvs k e1 e2
      obtain ⟨a', vs, q1, q2, q3⟩ := R.dct e1
      rw [h1] at q1; cases q1
      have ey := keyOf_kV e2 ry
      subst ey
      have g : DGet H a (kV k) (valV vs k) := DGet.k q2
      cases rx
      cases rxs with
      | cons rk rr =>
        cases rr
        refine d_get1 (by omega) I g rk fun w' s' I' r' => ⟨_, H, I', r', ?_⟩
        refine p.here R ?_
        have := q3.get (k := k)
        cases ed : dget k kvs with
        | none => rw [this.2 ed]; exact Rl.non.mpr rfl
        | some z => obtain ⟨w, hw, hz⟩ := this.1 z ed; rw [hw]; exact hz
    · exact p.elim
  · obtain ⟨a, h1, rfl⟩ := Rl.ref.mp rlx
    obtain ⟨y, z, rfl, ry, rz⟩ := Rls.two rls
    split at p
    · rename_i kvs k e1 e2
      obtain ⟨a', vs, q1, q2, q3⟩ := R.dct e1
      rw [h1] at q1; cases q1
      have ey := keyOf_kV e2 ry
      subst ey
      have g : DGet H a (kV k) (valV vs k) := DGet.k q2
      cases rx
      cases rxs with
      | cons rk rr =>
        cases rr with
        | cons rd rr =>
        cases rr
        refine d_get2 (by omega) I g rk rd fun w' s' I' r' => ⟨_, H, I', r', ?_⟩
        refine p.here R ?_
        have := q3.get (k := k)
        cases ed : dget k kvs with
        | none => rw [this.2 ed]; exact rz
        | some z' => obtain ⟨w, hw, hz⟩ := this.1 z' ed; rw [hw]; exact hz
    · exact p.elim
  · exact p.elim
theorem bmTy_tyV {K : PySem.W.Frag} {H : Hp} {ρ : Rho} {L : LH} {m : BM} {lx : LV} {x : V} (R : Rep N K H L ρ) (h : bmTy L m lx = true) (r : Rl K H ρ lx x) : tyV K (bmT m) x H := by
  cases lx with
  | ref i =>
    obtain ⟨a, h1, rfl⟩ := Rl.ref.mp r
    simp only [bmTy] at h
    cases e : L.at_ i with
    | none => rw [e] at h; simp at h
    | some o =>
      cases o with
      | lst xs =>
        obtain ⟨a', vs, q1, q2, q3⟩ := R.lst e
        rw [h1] at q1; cases q1
        rw [e] at h
        cases m <;> first | (simp at h; done) | exact .inl ⟨rfl, vs, .inl (.inl q2)⟩
      | dct kvs =>
        obtain ⟨a', vs, q1, q2, q3⟩ := R.dct e
        rw [h1] at q1; cases q1
        rw [e] at h
        cases m <;> first | (simp at h; done) | exact .inr (.inr (.inl ⟨rfl, .inl ⟨vs, q2⟩⟩))
      | ins c fs =>
        rw [e] at h
        simp at h
  | _ => simp [bmTy] at h
end
end LG
end

section
set_option Elab.async false
set_option linter.all false
set_option maxRecDepth 100000
set_option maxHeartbeats 4000000
/-! LG5: how a text is checked against the small language; facts of the module; small lemmas. -/
namespace LG
open PySem PySem.Spec PyProof.Rows L2

/-! ### shapes of expressions -/
def notStar : Expr → Bool
  | .Starred _ _ => false
  | _ => true
def notComp : Expr → Bool
  | .ListComp _ _ _ _ => false
  | .SetComp _ _ _ _ => false
  | .DictComp _ _ _ _ _ => false
  | _ => true
def notCall0 : Expr → Bool
  | .Call (.Name _ _) [] [] _ => false
  | _ => true
def notSlice : Expr → Bool
  | .Slice _ _ _ _ => false
  | _ => true
def notSet : Expr → Bool
  | .Set _ _ _ => false
  | _ => true
theorem star_cons {e : Expr} {es : List Expr} {env : Env} (h : notStar e = true) : starEach (e :: es) env = (false, eval e env) :: starEach es env := by
  cases e <;> first | rfl | (simp [notStar] at h; done)
theorem star_any {es : List Expr} {env : Env} {pos : Pos} (h : es.all notStar = true) : (backTo pos (starEach es env)).any (·.1) = false := by
  induction es with
  | nil => rfl
  | cons e es ih =>
    simp only [List.all_cons, Bool.and_eq_true] at h
    rw [star_cons h.1]
    have := ih h.2
    unfold backTo at this ⊢
    simp only [List.map_cons, List.any_cons, Bool.false_or]
    exact this
theorem star_all {es : List Expr} {env : Env} {pos : Pos} (h : es.all notStar = true) : (backTo pos (starEach es env)).all (fun x => !x.1) = true := by
  induction es with
  | nil => rfl
  | cons e es ih =>
    simp only [List.all_cons, Bool.and_eq_true] at h
    rw [star_cons h.1]
    have := ih h.2
    unfold backTo at this ⊢
    simp only [List.map_cons, List.all_cons, Bool.not_false, Bool.true_and]
    exact this
theorem star_len {es : List Expr} {env : Env} {pos : Pos} (h : es.all notStar = true) : (backTo pos (starEach es env)).length = es.length := by
  induction es with
  | nil => rfl
  | cons e es ih =>
    simp only [List.all_cons, Bool.and_eq_true] at h
    rw [star_cons h.1]
    have := ih h.2
    unfold backTo at this ⊢
    simp only [List.map_cons, List.length_cons]
    rw [this]
theorem swaps_no {e : Expr} {t : Option Expr} {l : Nat} {env : Env} (h : notComp e = true) : swapsWith e t l env = pure false := by
  cases e <;> first | rfl | (simp [notComp] at h; done)
theorem attr_no {o : Expr} {a : Str} {env : Env} {wh : Sem Value} (h : notCall0 o = true) : attributeBase o a env wh = wh := by
  unfold attributeBase
  split
  · simp [notCall0] at h
  · rfl
theorem ix_plain {i : Expr} (h : notSlice i = true) : PlainIx i := fun o v => by
  cases i <;> first | rfl | (simp [notSlice] at h; done)
theorem set_no {e : Expr} {env : Env} (h : notSet e = true) (x : Value) : foldedSetIterable e env x = pure x := by
  cases e <;> first | rfl | (simp [notSet] at h; done)
/-- a method's call on one line -/
theorem eval_meth {o : Expr} {m : Str} {apos pos : Pos} {es : List Expr} {env : Env} (h0 : notCall0 o = true) (hs : es.all notStar = true) (hl : decide (es.length < 30) = true) (hp : (apos.endLine == pos.line) = true) :
    eval (.Call (.Attribute o m apos) es [] pos) env = (do
      let ov ← eval o env
      standAt apos.atName
      let (f, first) ← holding [ov] (getMethod ov m (plainOf o env))
      callWith pos f first (backTo pos (starEach es env)) (backToKw pos (keywordEach [] env))) := by
  rw [arm_eval_Call, attr_no h0]
  have hf : methodCallForm (es.length + ([] : List Keyword).length) (backTo pos (starEach es env)) (backToKw pos (keywordEach [] env)) = true := by
    unfold methodCallForm
    rw [star_all hs]
    have := of_decide_eq_true hl
    simp only [List.length_nil, Nat.add_zero, Bool.true_and]
    simp [keywordEach, backToKw]
    exact this
  simp only [mcall_line hf hp]
theorem few_ok {es : List Expr} {env : Env} {pos : Pos} (hs : es.all notStar = true) (hl : decide (es.length < 30) = true) :
    ((backTo pos (starEach es env)).all (fun x => !x.1) && (backToKw pos (keywordEach [] env)).all (fun x => x.1.isSome)
      && decide (es.length + ([] : List Keyword).length + (if ([] : List Keyword).isEmpty then 0 else 1) < 30)) = true := by
  rw [star_all hs]
  have := of_decide_eq_true hl
  simp [keywordEach, backToKw]
  exact this

/-! ### names -/
def visB (sc : Scope) (x : Str) : Bool := match sc.names.lookup x with
  | some .local => true
  | some .cell => true
  | some .free => true
  | _ => false
def locB (sc : Scope) (x : Str) : Bool := match sc.names.lookup x with
  | some .local => true
  | some .cell => true
  | _ => false
def glB (sc : Scope) (x : Str) : Bool := decide (sc.names.lookup x = some .globalImplicit) && !(x == ("__debug__" : Str)) && decide (x ≠ "__name__")
theorem visB_ok {sc : Scope} {x : Str} (h : visB sc x = true) : Vis sc x := by
  unfold visB at h
  unfold Vis
  split at h <;> first | (rename_i e; exact .inl e) | (rename_i e; exact .inr (.inl e)) | (rename_i e; exact .inr (.inr e)) | cases h
theorem locB_ok {sc : Scope} {x : Str} (h : locB sc x = true) : L2.Loc sc x := by
  unfold locB at h
  unfold L2.Loc
  split at h <;> first | (rename_i e; exact .inl e) | (rename_i e; exact .inr e) | cases h
theorem glB_ok {X : Cx} {x : Str} (h : glB X.env.scope x = true) : Gl X x ∧ (x == ("__debug__" : Str)) = false ∧ x ≠ "__name__" := by
  unfold glB at h
  simp only [Bool.and_eq_true, decide_eq_true_eq, Bool.not_eq_true'] at h
  exact ⟨h.1.1, h.1.2, h.2⟩

/-! ### the tables, the check -/
structure Tb where
  nms : List Str
  fns : List Str
  cls : List Str
  glos : List Str
  gds : List Str
  fks : List (Nat × Str)
def ckC : LV → Const → Bool
  | .int i, .int j => decide (i = j)
  | .str x, .str y => decide (x = y)
  | .bl a, .bool b => decide (a = b)
  | .non, .none => true
  | _, _ => false
def bfName : BF → Str
  | .len => "len" | .tuple => "tuple" | .list => "list" | .int => "int" | .min => "min" | .max => "max" | .sum => "sum" | .any => "any" | .all => "all" | .str => "str"
def tyName : Ty → Option Str
  | .int => some "int" | .bool => some "bool" | .str => some "str" | .tuple => some "tuple" | .list => some "list" | .own _ => none
def ckTyL (sc : Scope) : List Ty → List Expr → Bool
  | [], [] => true
  | t :: ts, .Name x _ :: es => decide (tyName t = some x) && glB sc x && ckTyL sc ts es
  | _, _ => false
def ckTy (sc : Scope) (ts : List Ty) : Expr → Bool
  | .Name x p => ckTyL sc ts [.Name x p]
  | .Tuple es _ _ => decide (ts.length ≤ 8) && !ts.isEmpty && ckTyL sc ts es
  | _ => false
/-- a name of the block's own -/
def lclB (sc : Scope) (x : Str) : Bool := decide (sc.names.lookup x = some .local)
def ckTg (N : List Str) (lb : Str → Bool) : LTg → Expr → Bool
  | .name i, .Name x _ => decide (N[i]? = some x) && lb x
  | .tup is, .Tuple es _ _ => decide (is.length = es.length) && (is.zip es).all fun p => match p.2 with
      | .Name x _ => decide (N[p.1]? = some x) && lb x
      | _ => false
  | _, _ => false
def ownB (own : List Nat) : LTg → Bool
  | .name i => own.contains i
  | .tup is => is.all own.contains
mutual
def ckE (T : Tb) (N : List Str) : LE → Scope → Expr → Bool
  | .var i => fun sc e => match e with
    | .Name x _ => decide (N[i]? = some x) && visB sc x && !(x == ("__debug__" : Str)) && !(x == ("__classdict__" : Str))
    | _ => false
  | .con v => fun sc e => match e with
    | .Constant c _ _ => ckC v c
    | _ => false
  | .glo i => fun sc e => match e with
    | .Name x _ => decide (T.glos[i]? = some x) && glB sc x
    | _ => false
  | .bin o a b => fun sc e => match e with
    | .BinOp l op r _ => decide (op = bop o) && ckE T N a sc l && ckE T N b sc r
    | _ => false
  | .neg a => fun sc e => match e with
    | .UnaryOp op x _ => decide (op = .USub) && ckE T N a sc x
    | _ => false
  | .cmp o a b => fun sc e => match e with
    | .Compare l [op] [r] _ => decide (op = cop o) && !(behindInMarks op r) && ckE T N a sc l && ckE T N b sc r
    | _ => false
  | .chn o p a b c => fun sc e => match e with
    | .Compare l [op, op'] [r, q] _ => decide (op = cop o) && decide (op' = cop p) && !(lastMarks [op, op'] [r, q]) && ckE T N a sc l && ckE T N b sc r && ckE T N c sc q
    | _ => false
  | .ands es => fun sc e => match e with
    | .BoolOp .And l _ => ckEs T N es sc l
    | _ => false
  | .ors es => fun sc e => match e with
    | .BoolOp .Or l _ => ckEs T N es sc l
    | _ => false
  | .not a => fun sc e => match e with
    | .UnaryOp op x _ => decide (op = .Not) && ckE T N a sc x
    | _ => false
  | .ite c a b => fun sc e => match e with
    | .IfExp t x y _ => ckE T N c sc t && ckE T N a sc x && ckE T N b sc y
    | _ => false
  | .tup es => fun sc e => match e with
    | .Tuple l _ _ => l.all notStar && ckEs T N es sc l
    | _ => false
  | .lst es => fun sc e => match e with
    | .List l _ => l.all notStar && ckEs T N es sc l
    | _ => false
  | .dct0 => fun sc e => match e with
    | .Dict [] [] _ => true
    | _ => false
  | .idx a i => fun sc e => match e with
    | .Subscript x s _ => notSlice s && ckE T N a sc x && ckE T N i sc s
    | _ => false
  | .slc a lo hi => fun sc e => match e with
    | .Subscript x (.Slice l h none _) _ => ckE T N a sc x && (match l with
        | none => isNon lo
        | some l => !(isNon lo) && ckE T N lo sc l) && (match h with
        | none => isNon hi
        | some h => !(isNon hi) && ckE T N hi sc h)
    | _ => false
  | .fld a f => fun sc e => match e with
    | .Attribute x at' _ => decide (T.nms[f]? = some at') && notCall0 x && ckE T N a sc x
    | _ => false
  | .call f es => fun sc e => match e with
    | .Call (.Name x _) l [] _ => decide (T.fns[f]? = some x) && glB sc x && l.all notStar && ckEs T N es sc l
    | _ => false
  | .callk f es ks kes => fun sc e => match e with
    | .Call (.Name x _) l kws _ => decide (T.fks.lookup f = some x) && glB sc x && !l.isEmpty && l.all notStar && decide (kws.map (·.arg) = ks.map fun i => T.nms[i]?) && kws.all (fun k => k.arg.isSome) && ckEs T N es sc l && ckEs T N kes sc (kws.map (·.value))
    | _ => false
  | .make c es => fun sc e => match e with
    | .Call (.Name x _) l [] _ => decide (T.cls[c]? = some x) && glB sc x && l.all notStar && ckEs T N es sc l
    | _ => false
  | .meth a m es => fun sc e => match e with
    | .Call (.Attribute o nm apos) l [] pos => decide (T.nms[m]? = some nm) && notCall0 o && l.all notStar && decide (l.length < 30) && (apos.endLine == pos.line) && ckE T N a sc o && ckEs T N es sc l
    | _ => false
  | .bf f es => fun sc e => match e with
    | .Call (.Name x _) l [] _ => decide (bfName f = x) && glB sc x && !l.isEmpty && l.all notStar && ckEs T N es sc l
    | _ => false
  | .bm m a es => fun sc e => match e with
    | .Call (.Attribute o nm apos) l [] pos => decide (bmName m = nm) && notCall0 o && l.all notStar && decide (l.length < 30) && (apos.endLine == pos.line) && ckE T N a sc o && ckEs T N es sc l
    | _ => false
  | .isin a ts => fun sc e => match e with
    | .Call (.Name x _) [y, c] [] _ => decide (x = "isinstance") && glB sc x && notStar y && notStar c && ckTy sc ts c && ckE T N a sc y
    | _ => false
  | .mkx x es => fun sc e => match e with
    | .Call (.Name y _) l [] _ => decide (x = y) && glB sc y && l.all notStar && ckEs T N es sc l
    | _ => false
  | .isx a t => fun sc e => match e with
    | .Call (.Name y _) [z, .Name u _] [] _ => decide (y = "isinstance") && glB sc y && notStar z && decide (u = t) && glB sc u && ckE T N a sc z
    | _ => false
  | .xfl a f => fun sc e => match e with
    | .Attribute x at' _ => decide (at' = f) && notCall0 x && ckE T N a sc x
    | _ => false
  | .gidx g a => fun sc e => match e with
    | .Call (.Attribute (.Name gx _) nm apos) [x] [] pos => decide (T.glos[g]? = some gx) && glB sc gx && decide (nm = "index") && notStar x && (apos.endLine == pos.line) && ckE T N a sc x
    | _ => false
  | .kget g a d => fun sc e => match e with
    | .Call (.Attribute (.Name gx _) nm apos) [x, y] [] pos => decide (T.gds[g]? = some gx) && glB sc gx && decide (nm = "get") && notStar x && notStar y && (apos.endLine == pos.line) && ckE T N a sc x && ckE T N d sc y
    | _ => false
  | .comp own tg it t c e' => fun sc e => match e with
    | .ListComp elt [⟨tgx, iter, ifs, 0⟩] scope _ => own.all (fun i => decide (i < N.length)) && blkC N sc scope (own.map fun i => (N.getD i "", i)) && (match tg with
        | .name i => own.contains i
        | .tup is => is.all own.contains) && ckTg N (lclB (relS scope sc)) tg tgx && notSet iter && ckI T N it sc iter && (match t, ifs with
        | none, [] => true
        | some _, [q] => ckE T N c (relS scope sc) q
        | _, _ => false) && ckE T N e' (relS scope sc) elt
    | _ => false
  | .comp2 own own1 tg it tg1 it1 e' => fun sc e => match e with
    | .ListComp elt [⟨tgx, iter, [], 0⟩, ⟨tgx1, iter1, [], 0⟩] scope _ => own.all (fun i => decide (i < N.length)) && blkC N sc scope (own.map fun i => (N.getD i "", i)) && ownB own tg && ownB own1 tg1 && own1.all own.contains && ckTg N (lclB (relS scope sc)) tg tgx && ckTg N (lclB (relS scope sc)) tg1 tgx1 && notSet iter && notSet iter1 && ckI T N it sc iter && ckI T N it1 (relS scope sc) iter1 && ckE T N e' (relS scope sc) elt
    | _ => false
def ckEs (T : Tb) (N : List Str) : LEs → Scope → List Expr → Bool
  | .nil => fun _ l => l.isEmpty
  | .cons e es => fun sc l => match l with
    | x :: xs => ckE T N e sc x && ckEs T N es sc xs
    | [] => false
def ckI (T : Tb) (N : List Str) : LI → Scope → Expr → Bool
  | .seq a => fun sc e => ckE T N a sc e
  | .rng1 a => fun sc e => match e with
    | .Call (.Name x _) [y] [] _ => decide (x = "range") && glB sc x && notStar y && ckE T N a sc y
    | _ => false
  | .rng2 a b => fun sc e => match e with
    | .Call (.Name x _) [y, z] [] _ => decide (x = "range") && glB sc x && notStar y && notStar z && ckE T N a sc y && ckE T N b sc z
    | _ => false
end

/-! ### slots -/
def RS (K : PySem.W.Frag) (H : Hp) (ρ : Rho) (l : LSt) (σ : L2.St) : Prop := l.length = σ.length ∧ ∀ (i : Nat) (v : LV), l[i]? = some (some v) → ∃ v', σ[i]? = some (some v') ∧ Rl K H ρ v v'
section
variable {K : PySem.W.Frag} {H H' : Hp} {ρ ρ' : Rho} {l : LSt} {σ : L2.St}
theorem RS.mono (s : Sty H H') (e : Ex ρ ρ') (h : RS K H ρ l σ) : RS K H' ρ' l σ := ⟨h.1, fun i v q => by
  obtain ⟨v', a, b⟩ := h.2 i v q
  exact ⟨v', a, Rl.mono s e _ _ b⟩⟩
theorem RS.set (h : RS K H ρ l σ) {i : Nat} {x : LV} {v : V} (r : Rl K H ρ x v) : RS K H ρ (l.set i (some x)) (σ.set i (some v)) := by
  refine ⟨by simp [h.1], fun j y q => ?_⟩
  by_cases e : i = j
  · subst e
    rw [List.getElem?_set] at q ⊢
    simp only [if_true] at q ⊢
    by_cases hl : i < l.length
    · rw [if_pos hl] at q
      simp only [Option.some.injEq] at q
      subst q
      rw [if_pos (by rw [← h.1]; exact hl)]
      exact ⟨v, rfl, r⟩
    · rw [if_neg hl] at q; cases q
  · rw [List.getElem?_set_ne e] at q ⊢
    exact h.2 j y q
theorem RS.none (h : RS K H ρ l σ) (i : Nat) : RS K H ρ (l.set i none) (σ.set i none) := by
  refine ⟨by simp [h.1], fun j y q => ?_⟩
  by_cases e : i = j
  · subst e
    rw [List.getElem?_set] at q
    simp only [if_true] at q
    split at q <;> simp at q
  · rw [List.getElem?_set_ne e] at q ⊢
    exact h.2 j y q
theorem RS.wipe (h : RS K H ρ l σ) : ∀ own : List Nat, RS K H ρ (wipeL l own) (L2.wipe σ own)
  | [] => h
  | v :: vs => by
    unfold wipeL L2.wipe
    exact (RS.wipe h vs).none v
theorem wipe_get : ∀ (own : List Nat) (σ : L2.St) (j : Nat), (L2.wipe σ own)[j]? = if j ∈ own then (if j < σ.length then some Option.none else Option.none) else σ[j]?
  | [], σ, j => by simp [L2.wipe]
  | v :: vs, σ, j => by
    unfold L2.wipe
    rw [List.getElem?_set]
    by_cases e : v = j
    · subst e
      simp [wipe_length]
    · rw [if_neg e, wipe_get vs σ j]
      have : j ∈ v :: vs ↔ j ∈ vs := by simp [Ne.symm e]
      simp only [this]
theorem wipe_set {own : List Nat} {σ : L2.St} {i : Nat} {x : Option V} (h : i ∈ own) : L2.wipe (σ.set i x) own = L2.wipe σ own := by
  apply List.ext_getElem?
  intro j
  rw [wipe_get, wipe_get]
  by_cases e : j ∈ own
  · simp [e]
  · simp only [if_neg e]
    rw [List.getElem?_set_ne]
    rintro rfl
    exact e h
theorem wipe_wipe {own : List Nat} {σ : L2.St} : L2.wipe (L2.wipe σ own) own = L2.wipe σ own := by
  apply List.ext_getElem?
  intro j
  rw [wipe_get, wipe_get]
  by_cases e : j ∈ own
  · simp [e, wipe_length]
  · simp [e, wipe_get]
end

/-! ### the facts of the module -/
abbrev bmVE : List Value := [.type "ValueError", .type "Exception", .type "BaseException", .type "object"]
/-- an own exception can be made -/
def XMk (P : Program) (w : World) (K : PySem.W.Frag) (mg : Str → Option Value) (base : Heap) (lv : Nat) (x : Str) (fs : List Str) : Prop :=
  mg x = some (.ref (He.ga K x)) ∧ XOk K x fs ∧ ((fs = [] ∧ PySem.W.excIn K (He.ga K x) bmVE "ValueError.__new__" = true ∧ PySem.W.keepIn K (.ref (He.ga K x)) = true) ∨
    (fs ≠ [] ∧ fs.length ≤ 900 ∧ OexC K (He.ga K x) ∧ ∃ fI fd ps, PySem.W.findIn K (.ref (He.ga K x)) "__init__" = some (some (.ref fI)) ∧ PySem.W.typeIn K (.ref fI) = some (.type "function") ∧ Binds K fd ps [] ∧ FnOk P w K mg base CX0 lv fI fd ps (HX.xsp K (He.ga K x) fs)))
/-- a class that is asked for -/
def XTy (K : PySem.W.Frag) (mg : Str → Option Value) (t : Str) (cv : Value) : Prop := (∃ a, cv = .ref a ∧ mg t = some (.ref a)) ∨ (∃ n, cv = .type n ∧ mg t = none ∧ bootBuiltins t = some (.type n) ∧ t ≠ "__name__")
/-- a def's promise by its computation -/
def SpL (N : Na) (K : PySem.W.Frag) (f : List LV → LH → Out LV) : Sp := fun vs H Q _ => ∃ lvs L ρ, Rep N K H L ρ ∧ Rls K H ρ lvs vs ∧ PostV N K (f lvs L) H ρ Q
structure Fx (T : Tb) (N : Na) (F : Fn) (lv : Nat) (P : Program) (w : World) (K : PySem.W.Frag) (mg : Str → Option Value) (base : Heap) : Prop where
  inj : ∀ f g, N.nm f = N.nm g → f = g
  nms : ∀ i x, T.nms[i]? = some x → N.nm i = x
  bfn : ∀ f, mg (bfName f) = none
  tyn : ∀ t x, tyName t = some x → mg x = none
  rng : mg "range" = none
  isi : mg "isinstance" = none
  glo : ∀ i x v, T.glos[i]? = some x → F.glo i = some v → ∃ u v', mg x = some u ∧ RelV v' u ∧ (∀ H ρ, Rl K H ρ v v') ∧ ∀ xs, v = .tup xs → ∃ a o, u = .ref a ∧ K.lookup a = some o ∧ o.cls = .type "tuple" ∧ o.dict = none
  kd : ∀ i x kvs, T.gds[i]? = some x → F.kd i = some kvs → ∃ d es n, mg x = some (.ref d) ∧ KDict K w d es n ∧
    ∀ z : Str, (∀ v, kvs.lookup z = some v → ∃ u v', PySem.W.nsIn K d z = some (some u) ∧ RelV v' u ∧ ∀ H ρ, Rl K H ρ v v') ∧ (kvs.lookup z = none → PySem.W.nsIn K d z = some none)
  call : ∀ f x, T.fns[f]? = some x → ∃ fa fd ps, mg x = some (.ref fa) ∧ PySem.W.keepIn K (.ref fa) = true ∧ Binds K fd ps [] ∧ FnOk P w K mg base CX0 lv fa fd ps (SpL N K (F.call f))
  calld : ∀ f x n sl, T.fks.lookup f = some x → F.kw f n [] = some sl → ∃ fa fd ps ds dvs, mg x = some (.ref fa) ∧ PySem.W.keepIn K (.ref fa) = true ∧ Binds K fd ps ds ∧ Vals dvs ds ∧ FnOk P w K mg base CX0 lv fa fd ps (SpL N K (F.call f)) ∧
    ∀ (lvs ws : List LV), lvs.length = n → fill lvs [] sl = some ws → ∃ lds, ws = lvs ++ lds ∧ ∀ H ρ, Rls K H ρ lds dvs
  callk : ∀ f x n ks sl, T.fks.lookup f = some x → ks ≠ [] → F.kw f n ks = some sl → ∃ fa fd ps nks g gV, (ks.map fun i => T.nms[i]?) = nks.map some ∧ mg x = some (.ref fa) ∧ PySem.W.keepIn K (.ref fa) = true ∧ KBn K fd ps n nks g gV ∧ FnOk P w K mg base CX0 lv fa fd ps (SpL N K (F.call f)) ∧
    ∀ H ρ (lvs lzs ws : List LV) (vs zs : List V), lvs.length = n → lzs.length = ks.length → Rls K H ρ lvs vs → Rls K H ρ lzs zs → fill lvs lzs sl = some ws → Rls K H ρ ws (gV vs zs)
  make : ∀ c x f, T.cls[c]? = some x → F.init c = some f → ∃ fi fd ps, mg x = some (.ref (N.ca c)) ∧ Mk K (N.ca c) fi ∧ Cls K (N.ca c) ∧ Binds K fd ps [] ∧ FnOk P w K mg base CX0 lv fi fd ps (SpL N K (F.call f))
  mth : ∀ c m f, F.mth c m = some f → ∃ g fd ps, Meth K (N.ca c) (N.nm m) g ∧ Binds K fd ps [] ∧ FnOk P w K mg base CX0 lv g fd ps (SpL N K (F.call f))
  fld : ∀ c f, F.fld c f = true → NoAttr K (N.ca c) (N.nm f)
  xin : ∀ x fs, F.xin x = some fs → XMk P w K mg base lv x fs
  xis : ∀ x t b, F.xis x t = some b → ∃ cv, XTy K mg t cv ∧ PySem.W.kitOne K (.ref (He.ga K x)) cv = some b
/-- a context in which the rules hold -/
structure Good (T : Tb) (N : Na) (F : Fn) (lv : Nat) (X : Cx) : Prop where
  calm : X.calm = true
  nd : X.N.Nodup
  room : Room (lv + 1) X.A
  fx : Fx T N F lv X.prog X.w X.K X.mg X.base
theorem Good.hu {T : Tb} {N : Na} {F : Fn} {lv : Nat} {X : Cx} (G : Good T N F lv X) : X.A.units + 64 < cLine := G.room.units

/-! ### consequence, sequencing -/
section
variable {X : Cx} {N : Na}
theorem PE.of {e : Expr} {t t' : TE} (h : PE X e t) (c : ∀ σ H Q, t' σ H Q → t σ H Q) : PE X e t' := ⟨fun pins s σ H Q I q => h.run pins s σ H Q I (c _ _ _ q)⟩
theorem PT.of {e : Expr} {t t' : TT} (h : PT X e t) (c : ∀ σ H Q, t' σ H Q → t σ H Q) : PT X e t' := ⟨fun pins s σ H Q I q => h.run pins s σ H Q I (c _ _ _ q)⟩
theorem PW.of {e : Expr} {t t' : TT} (h : PW X e t) (c : ∀ σ H Q, t' σ H Q → t σ H Q) : PW X e t' := ⟨fun wh pins s σ H Q I q => h.run wh pins s σ H Q I (c _ _ _ q)⟩
theorem PA.of {es : List Expr} {t t' : TA} (h : PA X es t) (c : ∀ σ H Q, t' σ H Q → t σ H Q) : PA X es t' := ⟨fun pos pins s σ H Q I q => h.run pos pins s σ H Q I (c _ _ _ q)⟩
theorem PS.of {st : Stmt} {t t' : TS} (h : PS X st t) (c : ∀ D σ H, t' D σ H → t D σ H) : PS X st t' := ⟨fun pins s σ H D I q => h.run pins s σ H D I (c _ _ _ q)⟩
theorem PSs.of {st : List Stmt} {t t' : TS} (h : PSs X st t) (c : ∀ D σ H, t' D σ H → t D σ H) : PSs X st t' := ⟨fun pins s σ H D I q => h.run pins s σ H D I (c _ _ _ q)⟩
/-- the reading of a computation -/
def LT {α β : Type} (N : Na) (K : PySem.W.Frag) (R : Hp → Rho → α → β → Prop) (f : LSt → LH → Out α) : L2.St → Hp → (β → Hp → Prop) → Prop := fun σ H Q => ∃ l L ρ, RS K H ρ l σ ∧ Rep N K H L ρ ∧ Post N K R (f l L) H ρ Q
abbrev LTE (N : Na) (K : PySem.W.Frag) (f : LSt → LH → Out LV) : TE := LT N K (fun H ρ => Rl K H ρ) f
abbrev LTB (N : Na) (K : PySem.W.Frag) (f : LSt → LH → Out Bool) : TT := LT N K (fun _ _ (a b : Bool) => a = b) f
abbrev LTA (N : Na) (K : PySem.W.Frag) (f : LSt → LH → Out (List LV)) : TA := LT N K (fun H ρ => Rls K H ρ) f
theorem LT.bind {α β γ δ : Type} {K : PySem.W.Frag} {R : Hp → Rho → α → β → Prop} {S : Hp → Rho → γ → δ → Prop} {f : LSt → LH → Out α} {k : α → LH → Out γ} {l : LSt} {L : LH} {ρ : Rho} {σ : L2.St} {H : Hp} {Q : δ → Hp → Prop} {Q1 : β → Hp → Prop}
    (rs : RS K H ρ l σ) (rep : Rep N K H L ρ) (p : Post N K S ((f l L).bind k) H ρ Q)
    (n : ∀ a b L1 H1 ρ1, Sty H H1 → Ex ρ ρ1 → RS K H1 ρ1 l σ → Rep N K H1 L1 ρ1 → R H1 ρ1 a b → Post N K S (k a L1) H1 ρ1 Q → Q1 b H1) : LT N K R f σ H Q1 := by
  refine ⟨l, L, ρ, rs, rep, ?_⟩
  cases e : f l L with
  | ok a L1 =>
    rw [e] at p
    intro H1 ρ1 b s1 e1 rep1 r
    exact n a b L1 H1 ρ1 s1 e1 (rs.mono s1 e1) rep1 r (p.mono s1 e1)
  | err x L1 =>
    rw [e] at p
    exact p.elim
  | bad =>
    rw [e] at p
    exact p.elim
end
end LG
end

section
set_option Elab.async false
set_option linter.all false
set_option maxRecDepth 100000
set_option maxHeartbeats 4000000
/-! LG6: the rules for expressions over the small language. -/
namespace LG
open PySem PySem.Spec PyProof.Rows L2

section
variable {T : Tb} {N : Na} {F : Fn} {lv : Nat} {X : Cx}

/-! ### what is walked -/
/-- an iterator that yields the items of S, made at H1, ρ1 -/
def Drv (N : Na) (K : PySem.W.Frag) (J : It) (S : Src) (H1 : Hp) (ρ1 : Rho) : Prop := ∀ (i : Nat) (H : Hp) (L : LH) (ρ : Rho), Sty H1 H → Ex ρ1 ρ → Rep N K H L ρ → Keeps L S →
  (∀ x, S.items[i]? = some x → J.go i H ∧ ∀ v H', J.yld i H v H' → ∃ ρ', Sty H H' ∧ Ex ρ ρ' ∧ Rep N K H' L ρ' ∧ Rl K H' ρ' x v) ∧ (S.items.length ≤ i → J.stop i H)
def PostI (N : Na) (K : PySem.W.Frag) (o : Out Src) (H : Hp) (ρ : Rho) (R : It → Hp → Prop) : Prop :=
  match o with
  | .ok S L' => ∀ H' ρ', Sty H H' → Ex ρ ρ' → Rep N K H' L' ρ' → ∀ J, Drv N K J S H' ρ' → R J H'
  | _ => False
def LTI (N : Na) (K : PySem.W.Frag) (f : LSt → LH → Out Src) : TI := fun σ H R => ∃ l L ρ, RS K H ρ l σ ∧ Rep N K H L ρ ∧ PostI N K (f l L) H ρ R
theorem PI.of {tg e : Expr} {t t' : TI} (h : PI X tg e t) (c : ∀ σ H R, t' σ H R → t σ H R) : PI X tg e t' := ⟨fun pins s σ H R I q => h.run pins s σ H R I (c _ _ _ q)⟩
/-- a list or a tuple -/
def iSeq (K : PySem.W.Frag) (te : TE) : TI := fun σ H R => te σ H fun x H1 => ∃ a, x = .ref a ∧ (((∃ xs, SqL K H1 a xs) ∧ R (Itl K a) H1) ∨ ((∃ xs, SqT K H1 a xs) ∧ R (Itt K a) H1))
theorem pi_seq {tg l : Expr} {te : TE} (hl : PE X l te) : PI X tg l (iSeq X.K te) := by
  refine ⟨fun pins s σ H R I h => ?_⟩
  refine thn (hl.run pins s σ H _ I h) fun v s1 ⟨x, H1, I1, r1, q1⟩ => ?_
  obtain ⟨a, e, q1⟩ := q1
  subst e
  cases r1
  rcases q1 with ⟨⟨xs, hq⟩, q⟩ | ⟨⟨xs, hq⟩, q⟩
  · obtain ⟨its, rv, p, hz⟩ := I1.list hq
    refine wpAny_pyIter_list p.isList ?_
    refine ⟨s1.heap.objs.size, [s1.heap.objs.size], _, _, H1, rfl, I1.kept (t' := s1.toks) fun b o e => Heap.get?_push_of_some _ e, turn_list a _, ⟨_, Heap.get?_push_size _ rfl, rfl, rfl⟩, fun b hb => ?_, q⟩
    have e : b = s1.heap.objs.size := by simpa using hb
    subst e
    exact I1.fpOk (Nat.le_refl _) (I1.hok.fresh (Nat.le_refl _))
  · obtain ⟨its, rv, p, hz⟩ := I1.tuple hq
    refine wpAny_pyIter_tuple (show s1.heap.IsTuple a its.toArray from p) ?_
    refine ⟨s1.heap.objs.size, [s1.heap.objs.size], _, _, H1, rfl, I1.kept (t' := s1.toks) fun b o e => Heap.get?_push_of_some _ e, turn_tuple a _, ⟨_, Heap.get?_push_size _ rfl, rfl, rfl⟩, fun b hb => ?_, q⟩
    have e : b = s1.heap.objs.size := by simpa using hb
    subst e
    exact I1.fpOk (Nat.le_refl _) (I1.hok.fresh (Nat.le_refl _))
theorem drv_tup {K : PySem.W.Frag} {H1 : Hp} {ρ1 : Rho} {a : Addr} {xs : List LV} {vs : List V} (s : SqT K H1 a vs) (r : Rls K H1 ρ1 xs vs)
    (inj : ∀ (H : Hp) (us : List V), Sty H1 H → SqT K H a us → us = vs) : Drv N K (Itt K a) (.vals xs) H1 ρ1 := fun i H L ρ st ex rep _ => by
  have s' := st.tup s
  have r' := Rls.mono st ex _ _ r
  refine ⟨fun x hx => ?_, fun hl => ⟨vs, s', by rw [← r.length]; exact hl⟩⟩
  obtain ⟨v, hv, rv⟩ := r'.get hx
  refine ⟨⟨vs, v, s', hv⟩, fun v2 H' y => ?_⟩
  obtain ⟨rfl, y⟩ := y
  have := y vs s'
  rw [hv] at this
  cases this
  exact ⟨ρ, Sty.refl _, Ex.refl _, rep, rv⟩
theorem drv_frz {K : PySem.W.Frag} {H1 : Hp} {ρ1 : Rho} {a : Addr} {xs : List LV} {vs : List V} (s : FzL K H1 a vs) (r : Rls K H1 ρ1 xs vs) : Drv N K (Itl K a) (.vals xs) H1 ρ1 := fun i H L ρ st ex rep _ => by
  have s' := (st.frz s).sq
  have r' := Rls.mono st ex _ _ r
  refine ⟨fun x hx => ?_, fun hl => ⟨vs, s', by rw [← r.length]; exact hl⟩⟩
  obtain ⟨v, hv, rv⟩ := r'.get hx
  refine ⟨⟨vs, v, s', hv⟩, fun v2 H' y => ?_⟩
  obtain ⟨rfl, y⟩ := y
  have := y vs s'
  rw [hv] at this
  cases this
  exact ⟨ρ, Sty.refl _, Ex.refl _, rep, rv⟩
theorem drv_lst {K : PySem.W.Frag} {H1 : Hp} {ρ1 : Rho} {a : Addr} {j : Nat} {xs : List LV} (h : ρ1 j = some a) : Drv N K (Itl K a) (.lst j xs) H1 ρ1 := fun i H L ρ st ex rep kp => by
  obtain ⟨a', vs, q1, q2, q3⟩ := rep.lst kp
  rw [ex _ _ h] at q1
  cases q1
  have s' : SqL K H a vs := .inl (.inl q2)
  refine ⟨fun x hx => ?_, fun hl => ⟨vs, s', by rw [← q3.length]; exact hl⟩⟩
  obtain ⟨v, hv, rv⟩ := q3.get hx
  refine ⟨⟨vs, v, s', hv⟩, fun v2 H' y => ?_⟩
  obtain ⟨rfl, y⟩ := y
  have := y vs s'
  rw [hv] at this
  cases this
  exact ⟨ρ, Sty.refl _, Ex.refl _, rep, rv⟩
theorem drv_rng {K : PySem.W.Frag} {H1 : Hp} {ρ1 : Rho} {lo : Int} {n : Nat} : Drv N K (Itr lo n) (.vals (rngL lo n)) H1 ρ1 := fun i H L ρ st ex rep _ => by
  have hlen : (rngL lo n).length = n := by simp [rngL]
  refine ⟨fun x hx => ?_, fun hl => ?_⟩
  · have hi : i < n := by
      have : i < (rngL lo n).length := (List.getElem?_eq_some_iff.mp hx).1
      omega
    refine ⟨hi, fun v H' y => ?_⟩
    obtain ⟨rfl, rfl⟩ := y
    refine ⟨ρ, Sty.refl _, Ex.refl _, rep, ?_⟩
    have : (rngL lo n)[i]? = some (LV.int (lo + i)) := by simp [rngL, hi]
    rw [show (Src.vals (rngL lo n)).items = rngL lo n from rfl, this] at hx
    cases hx
    exact Rl.int.mpr rfl
  · have : (Src.vals (rngL lo n)).items = rngL lo n := rfl
    rw [this, hlen] at hl
    exact hl
theorem sI_seq {tg e : Expr} {a : LE} (h : PE X e (LTE N X.K (evE F a))) : PI X tg e (LTI N X.K (evI F (.seq a))) := by
  refine PI.of (pi_seq h) fun σ H R ⟨l, L, ρ, rs, rep, p⟩ => ?_
  refine ⟨l, L, ρ, rs, rep, ?_⟩
  simp only [evI] at p
  cases e1 : evE F a l L with
  | err x L1 => rw [e1] at p; exact p.elim
  | bad => rw [e1] at p; exact p.elim
  | ok v L1 =>
    rw [e1] at p
    intro H1 ρ1 x st ex rep1 rx
    simp only [Out.bind] at p
    cases e2 : srcOf L1 v with
    | none => rw [e2] at p; exact p.elim
    | some S =>
      rw [e2] at p
      have p' : ∀ J, Drv N X.K J S H1 ρ1 → R J H1 := p H1 ρ1 st ex rep1
      cases v with
      | tup xs =>
        simp only [srcOf, Option.some.injEq] at e2
        subst e2
        obtain ⟨b, vs, rfl, s1, r1⟩ := Rl.tup.mp rx
        refine ⟨b, rfl, .inr ⟨⟨vs, s1⟩, p' _ ?_⟩⟩
        intro i H L ρ st ex rep _
        have s' := st.tup s1
        have r' := Rls.mono st ex _ _ r1
        refine ⟨fun x hx => ?_, fun hl => ⟨vs, s', by rw [← r1.length]; exact hl⟩⟩
        obtain ⟨v, hv, rv⟩ := r'.get hx
        refine ⟨⟨vs, v, s', hv⟩, fun v2 H' y => ?_⟩
        obtain ⟨rfl, y⟩ := y
        have := y vs s'
        rw [hv] at this
        cases this
        exact ⟨ρ, Sty.refl _, Ex.refl _, rep, rv⟩
      | scr xs =>
        simp only [srcOf, Option.some.injEq] at e2
        subst e2
        obtain ⟨b, vs, rfl, s1, r1⟩ := Rl.scr.mp rx
        exact ⟨b, rfl, .inl ⟨⟨vs, s1.sq⟩, p' _ (drv_frz s1 r1)⟩⟩
      | ref i =>
        simp only [srcOf] at e2
        obtain ⟨b, h1, rfl⟩ := Rl.ref.mp rx
        split at e2
        · rename_i xs e3
          cases e2
          obtain ⟨b', vs, q1, q2, q3⟩ := rep1.lst e3
          rw [h1] at q1; cases q1
          exact ⟨b, rfl, .inl ⟨⟨vs, .inl (.inl q2)⟩, p' _ (drv_lst h1)⟩⟩
        · cases e2
      | _ => simp [srcOf] at e2
theorem sI_rng1 {tg y : Expr} {pr pos : Pos} {a : LE} (G : Good T N F lv X) (hg : Gl X "range") (hs : notStar y = true) (h : PE X y (LTE N X.K (evE F a))) : PI X tg (.Call (.Name "range" pr) [y] [] pos) (LTI N X.K (evI F (.rng1 a))) := by
  refine PI.of (pi_range1 hg G.fx.rng (pa_cons h pa_nil (star_cons hs)) (star_cons hs)) fun σ H R ⟨l, L, ρ, rs, rep, p⟩ => ?_
  refine ⟨l, L, ρ, rs, rep, ?_⟩
  simp only [evI] at p
  cases e1 : evE F a l L with
  | err x L1 => rw [e1] at p; exact p.elim
  | bad => rw [e1] at p; exact p.elim
  | ok v L1 =>
    rw [e1] at p
    intro H1 ρ1 x st ex rep1 rx
    simp only [Out.bind] at p
    split at p
    · cases Rl.int.mp rx
      split at p
      · rename_i hb
        exact ⟨_, rfl, hb.1, hb.2, p H1 ρ1 st ex rep1 _ drv_rng⟩
      · exact p.elim
    · exact p.elim
theorem sI_rng2 {tg y z : Expr} {pr pos : Pos} {a b : LE} (G : Good T N F lv X) (hg : Gl X "range") (hs : notStar y = true) (hs2 : notStar z = true) (h : PE X y (LTE N X.K (evE F a))) (h2 : PE X z (LTE N X.K (evE F b))) :
    PI X tg (.Call (.Name "range" pr) [y, z] [] pos) (LTI N X.K (evI F (.rng2 a b))) := by
  refine PI.of (pi_range2 hg G.fx.rng (pa_cons h (pa_cons h2 pa_nil (star_cons hs2)) (star_cons hs)) (by rw [star_cons hs, star_cons hs2]; rfl) (star_cons hs2)) fun σ H R ⟨l, L, ρ, rs, rep, p⟩ => ?_
  refine ⟨l, L, ρ, rs, rep, ?_⟩
  simp only [evI] at p
  cases e1 : evE F a l L with
  | err x L1 => rw [e1] at p; exact p.elim
  | bad => rw [e1] at p; exact p.elim
  | ok v L1 =>
    rw [e1] at p
    intro H1 ρ1 x st ex rep1 rx
    refine ⟨l, L1, ρ1, rs.mono st ex, rep1, ?_⟩
    simp only [Out.bind] at p
    cases e2 : evE F b l L1 with
    | err x L1 => rw [e2] at p; exact p.elim
    | bad => rw [e2] at p; exact p.elim
    | ok u L2 =>
      rw [e2] at p
      intro H2 ρ2 x2 st2 ex2 rep2 rx2
      simp only [Out.bind] at p
      split at p
      · cases Rl.int.mp rx; cases Rl.int.mp rx2
        split at p
        · rename_i hb
          exact ⟨_, _, rfl, hb, p H2 ρ2 (st.trans st2) (ex.trans ex2) rep2 _ drv_rng⟩
        · exact p.elim
      · exact p.elim

/-! ### leaves -/
theorem sE_var {i : Nat} {x : Str} {pos : Pos} (hN : X.N[i]? = some x) (hv : visB X.env.scope x = true) (hd : (x == ("__debug__" : Str)) = false) (hcd : (x == ("__classdict__" : Str)) = false) : PE X (.Name x pos) (LTE N X.K (evE F (.var i))) := by
  refine PE.of (pe_var hN (visB_ok hv) hd hcd) fun σ H Q ⟨l, L, ρ, rs, rep, p⟩ => ?_
  simp only [evE] at p
  split at p
  · rename_i v e
    obtain ⟨v', h1, h2⟩ := rs.2 i v e
    exact ⟨v', h1, p.here rep h2⟩
  · exact p.elim
theorem sE_con {v : LV} {c : Const} {j : Nat} {pos : Pos} (h : ckC v c = true) : PE X (.Constant c j pos) (LTE N X.K (evE F (.con v))) := by
  unfold ckC at h
  split at h
  · have e := of_decide_eq_true h
    subst e
    exact PE.of pe_int fun σ H Q ⟨l, L, ρ, rs, rep, p⟩ => p.here rep (Rl.int.mpr rfl)
  · have e := of_decide_eq_true h
    subst e
    exact PE.of pe_str fun σ H Q ⟨l, L, ρ, rs, rep, p⟩ => p.here rep (Rl.str.mpr rfl)
  · have e := of_decide_eq_true h
    subst e
    exact PE.of pe_bl fun σ H Q ⟨l, L, ρ, rs, rep, p⟩ => p.here rep (Rl.bl.mpr rfl)
  · exact PE.of pe_non fun σ H Q ⟨l, L, ρ, rs, rep, p⟩ => p.here rep (Rl.non.mpr rfl)
  · cases h
theorem sE_glo {i : Nat} {x : Str} {pos : Pos} (G : Good T N F lv X) (ht : T.glos[i]? = some x) (hg : glB X.env.scope x = true) : PE X (.Name x pos) (LTE N X.K (evE F (.glo i))) := by
  obtain ⟨g1, g2, g3⟩ := glB_ok hg
  cases e : F.glo i with
  | none =>
    refine ⟨fun pins s σ H Q I ⟨l, L, ρ, rs, rep, p⟩ => ?_⟩
    simp only [evE, e, ofOpt] at p
    exact p.elim
  | some v =>
    obtain ⟨u, v', h1, h2, h3, _⟩ := G.fx.glo i x v ht e
    refine PE.of (pe_glob g1 h1 h2 g2) fun σ H Q ⟨l, L, ρ, rs, rep, p⟩ => ?_
    simp only [evE, e, ofOpt] at p
    exact p.here rep (h3 _ _)
/-! ### operators -/
theorem sE_bin {o : B2} {a b : LE} {x y : Expr} {pos : Pos} (ha : PE X x (LTE N X.K (evE F a))) (hb : PE X y (LTE N X.K (evE F b))) : PE X (.BinOp x (bop o) y pos) (LTE N X.K (evE F (.bin o a b))) := by
  refine PE.of (pe_op (op_binV (N := N) o) ha hb) fun σ H Q ⟨l, L, ρ, rs, rep, p⟩ => ?_
  simp only [evE] at p
  exact LT.bind rs rep p fun v x L1 H1 ρ1 s1 e1 rs1 rep1 r1 p1 => LT.bind rs1 rep1 p1 fun u y L2 H2 ρ2 s2 e2 rs2 rep2 r2 p2 => ⟨v, u, L2, ρ2, rep2, Rl.mono s2 e2 _ _ r1, r2, p2⟩
theorem sE_neg {a : LE} {x : Expr} {pos : Pos} (ha : PE X x (LTE N X.K (evE F a))) : PE X (.UnaryOp .USub x pos) (LTE N X.K (evE F (.neg a))) := by
  refine PE.of (pe_un un_neg ha) fun σ H Q ⟨l, L, ρ, rs, rep, p⟩ => ?_
  simp only [evE] at p
  refine LT.bind rs rep p fun v x L1 H1 ρ1 s1 e1 rs1 rep1 r1 p1 => ?_
  split at p1
  · cases Rl.int.mp r1
    exact ⟨_, rfl, p1.here rep1 (Rl.int.mpr rfl)⟩
  · exact p1.elim
theorem sE_cmp {o : C2} {a b : LE} {x y : Expr} {pos : Pos} (G : Good T N F lv X) (hm : behindInMarks (cop o) y = false) (ha : PE X x (LTE N X.K (evE F a))) (hb : PE X y (LTE N X.K (evE F b))) :
    PE X (.Compare x [cop o] [y] pos) (LTE N X.K (evE F (.cmp o a b))) := by
  refine PE.of (pe_cmpR (op_cmpV (N := N) o G.hu) ha hb hm) fun σ H Q ⟨l, L, ρ, rs, rep, p⟩ => ?_
  simp only [evE] at p
  refine LT.bind rs rep p fun v x L1 H1 ρ1 s1 e1 rs1 rep1 r1 p1 => LT.bind rs1 rep1 p1 fun u y L2 H2 ρ2 s2 e2 rs2 rep2 r2 p2 => ?_
  cases e : cmpV L2 o v u with
  | none => rw [e] at p2; exact p2.elim
  | some k =>
    rw [e] at p2
    exact ⟨v, u, L2, ρ2, k, rep2, Rl.mono s2 e2 _ _ r1, r2, e, p2.here rep2 (Rl.bl.mpr rfl)⟩
theorem sT_cmp {o : C2} {a b : LE} {x y : Expr} {pos : Pos} (G : Good T N F lv X) (hm : behindInMarks (cop o) y = false) (ha : PE X x (LTE N X.K (evE F a))) (hb : PE X y (LTE N X.K (evE F b))) :
    PT X (.Compare x [cop o] [y] pos) (LTB N X.K (evT F (.cmp o a b))) := by
  refine PT.of (pt_cmpR (op_cmpV (N := N) o G.hu) ha hb hm) fun σ H Q ⟨l, L, ρ, rs, rep, p⟩ => ?_
  simp only [evT] at p
  refine LT.bind rs rep p fun v x L1 H1 ρ1 s1 e1 rs1 rep1 r1 p1 => LT.bind rs1 rep1 p1 fun u y L2 H2 ρ2 s2 e2 rs2 rep2 r2 p2 => ?_
  cases e : cmpV L2 o v u with
  | none => rw [e] at p2; exact p2.elim
  | some k =>
    rw [e] at p2
    exact ⟨v, u, L2, ρ2, k, rep2, Rl.mono s2 e2 _ _ r1, r2, e, k, rfl, p2.here rep2 rfl⟩
theorem sE_chn {o o' : C2} {a b c : LE} {x y z : Expr} {pos : Pos} (G : Good T N F lv X) (hm : lastMarks [cop o, cop o'] [y, z] = false) (ha : PE X x (LTE N X.K (evE F a))) (hb : PE X y (LTE N X.K (evE F b))) (hc : PE X z (LTE N X.K (evE F c))) :
    PE X (.Compare x [cop o, cop o'] [y, z] pos) (LTE N X.K (evE F (.chn o o' a b c))) := by
  refine PE.of (pe_chain (op_cmpV (N := N) o G.hu) (op_cmpV (N := N) o' G.hu) ha hb hc hm) fun σ H Q ⟨l, L, ρ, rs, rep, p⟩ => ?_
  simp only [evE] at p
  refine LT.bind rs rep p fun v x L1 H1 ρ1 s1 e1 rs1 rep1 r1 p1 => LT.bind rs1 rep1 p1 fun u y L2 H2 ρ2 s2 e2 rs2 rep2 r2 p2 => ?_
  cases e : cmpV L2 o v u with
  | none => rw [e] at p2; exact p2.elim
  | some k =>
    rw [e] at p2
    refine ⟨v, u, L2, ρ2, k, rep2, Rl.mono s2 e2 _ _ r1, r2, e, k, rfl, ?_⟩
    cases k with
    | false =>
      simp only [ofOpt, Out.bind, Bool.false_eq_true, if_false] at p2 ⊢
      exact p2.here rep2 (Rl.bl.mpr rfl)
    | true =>
      simp only [ofOpt, Out.bind, if_true] at p2 ⊢
      refine LT.bind rs2 rep2 p2 fun w z L4 H4 ρ4 s4 e4 rs4 rep4 r4 p4 => ?_
      cases e' : cmpV L4 o' u w with
      | none => rw [e'] at p4; exact p4.elim
      | some k' =>
        rw [e'] at p4
        exact ⟨u, w, L4, ρ4, k', rep4, Rl.mono s4 e4 _ _ r2, r4, e', p4.here rep4 (Rl.bl.mpr rfl)⟩
theorem sT_chn {o o' : C2} {a b c : LE} {x y z : Expr} {pos : Pos} (G : Good T N F lv X) (hm : lastMarks [cop o, cop o'] [y, z] = false) (ha : PE X x (LTE N X.K (evE F a))) (hb : PE X y (LTE N X.K (evE F b))) (hc : PE X z (LTE N X.K (evE F c))) :
    PT X (.Compare x [cop o, cop o'] [y, z] pos) (LTB N X.K (evT F (.chn o o' a b c))) := by
  refine PT.of (pt_chain (op_cmpV (N := N) o G.hu) (op_cmpV (N := N) o' G.hu) ha hb hc hm) fun σ H Q ⟨l, L, ρ, rs, rep, p⟩ => ?_
  simp only [evT] at p
  refine LT.bind rs rep p fun v x L1 H1 ρ1 s1 e1 rs1 rep1 r1 p1 => LT.bind rs1 rep1 p1 fun u y L2 H2 ρ2 s2 e2 rs2 rep2 r2 p2 => ?_
  cases e : cmpV L2 o v u with
  | none => rw [e] at p2; exact p2.elim
  | some k =>
    rw [e] at p2
    refine ⟨v, u, L2, ρ2, k, rep2, Rl.mono s2 e2 _ _ r1, r2, e, k, rfl, ?_⟩
    cases k with
    | false =>
      simp only [ofOpt, Out.bind, Bool.false_eq_true, if_false] at p2 ⊢
      exact ⟨false, rfl, p2.here rep2 rfl⟩
    | true =>
      simp only [ofOpt, Out.bind, if_true] at p2 ⊢
      refine LT.bind rs2 rep2 p2 fun w z L4 H4 ρ4 s4 e4 rs4 rep4 r4 p4 => ?_
      cases e' : cmpV L4 o' u w with
      | none => rw [e'] at p4; exact p4.elim
      | some k' =>
        rw [e'] at p4
        exact ⟨u, w, L4, ρ4, k', rep4, Rl.mono s4 e4 _ _ r2, r4, e', k', rfl, p4.here rep4 rfl⟩
theorem sE_not {a : LE} {x : Expr} {pos : Pos} (ha : PE X x (LTE N X.K (evE F a))) : PE X (.UnaryOp .Not x pos) (LTE N X.K (evE F (.not a))) := by
  refine PE.of (pe_not ha) fun σ H Q ⟨l, L, ρ, rs, rep, p⟩ => ?_
  simp only [evE] at p
  refine LT.bind rs rep p fun v x L1 H1 ρ1 s1 e1 rs1 rep1 r1 p1 => ?_
  split at p1
  · cases Rl.bl.mp r1
    exact ⟨_, rfl, p1.here rep1 (Rl.bl.mpr rfl)⟩
  · exact p1.elim
theorem sT_not {a : LE} {x : Expr} {pos : Pos} (ha : PT X x (LTB N X.K (evT F a))) : PT X (.UnaryOp .Not x pos) (LTB N X.K (evT F (.not a))) := by
  refine PT.of (pt_not ha) fun σ H Q ⟨l, L, ρ, rs, rep, p⟩ => ?_
  simp only [evT] at p
  refine LT.bind rs rep p fun v x L1 H1 ρ1 s1 e1 rs1 rep1 r1 p1 => ?_
  subst r1
  exact p1.here rep1 rfl
theorem sE_ite {c a b : LE} {t x y : Expr} {pos : Pos} (hc : PT X t (LTB N X.K (evT F c))) (ha : PE X x (LTE N X.K (evE F a))) (hb : PE X y (LTE N X.K (evE F b))) : PE X (.IfExp t x y pos) (LTE N X.K (evE F (.ite c a b))) := by
  refine PE.of (pe_ifExp hc ha hb) fun σ H Q ⟨l, L, ρ, rs, rep, p⟩ => ?_
  simp only [evE] at p
  refine LT.bind rs rep p fun v x L1 H1 ρ1 s1 e1 rs1 rep1 r1 p1 => ?_
  subst r1
  cases v with
  | true => exact ⟨l, L1, ρ1, rs1, rep1, p1⟩
  | false => exact ⟨l, L1, ρ1, rs1, rep1, p1⟩
/-! ### and, or -/
theorem sAnd_one {op : BoolOp} {e : LE} {x : Expr} {pos : Pos} (h : PE X x (LTE N X.K (evE F e))) : PE X (.BoolOp op [x] pos) (LTE N X.K (evE F e)) := pe_one h
theorem sAnd_cons {e e2 : LE} {es : LEs} {x y : Expr} {l : List Expr} {pos : Pos} (h : PE X x (LTE N X.K (evE F e))) (h2 : PE X (.BoolOp .And (y :: l) pos) (LTE N X.K (evAnd F (.cons e2 es)))) :
    PE X (.BoolOp .And (x :: y :: l) pos) (LTE N X.K (evAnd F (.cons e (.cons e2 es)))) := by
  refine PE.of (pe_and h h2) fun σ H Q ⟨l, L, ρ, rs, rep, p⟩ => ?_
  rw [evAnd] at p
  · refine LT.bind rs rep p fun v x L1 H1 ρ1 s1 e1 rs1 rep1 r1 p1 => ?_
    split at p1
    · cases Rl.bl.mp r1
      exact ⟨true, rfl, l, L1, ρ1, rs1, rep1, p1⟩
    · cases Rl.bl.mp r1
      exact ⟨false, rfl, p1.here rep1 (Rl.bl.mpr rfl)⟩
    · exact p1.elim
  · intro h; cases h
theorem sOr_cons {e e2 : LE} {es : LEs} {x y : Expr} {l : List Expr} {pos : Pos} (h : PE X x (LTE N X.K (evE F e))) (h2 : PE X (.BoolOp .Or (y :: l) pos) (LTE N X.K (evOr F (.cons e2 es)))) :
    PE X (.BoolOp .Or (x :: y :: l) pos) (LTE N X.K (evOr F (.cons e (.cons e2 es)))) := by
  refine PE.of (pe_or h h2) fun σ H Q ⟨l, L, ρ, rs, rep, p⟩ => ?_
  rw [evOr] at p
  · refine LT.bind rs rep p fun v x L1 H1 ρ1 s1 e1 rs1 rep1 r1 p1 => ?_
    split at p1
    · cases Rl.bl.mp r1
      exact ⟨true, rfl, p1.here rep1 (Rl.bl.mpr rfl)⟩
    · cases Rl.bl.mp r1
      exact ⟨false, rfl, l, L1, ρ1, rs1, rep1, p1⟩
    · exact p1.elim
  · intro h; cases h
theorem sTA_one {e : LE} {x : Expr} {pos : Pos} (h : PT X x (LTB N X.K (evT F e))) : PW X (.BoolOp .And [x] pos) (LTB N X.K (evTA F (.cons e .nil))) := PW.of (pw_and1 h) fun σ H Q q => q
theorem sTO_one {e : LE} {x : Expr} {pos : Pos} (h : PT X x (LTB N X.K (evT F e))) : PW X (.BoolOp .Or [x] pos) (LTB N X.K (evTO F (.cons e .nil))) := PW.of (pw_or1 h) fun σ H Q q => q
theorem sTA_cons {e e2 : LE} {es : LEs} {x y : Expr} {l : List Expr} {pos : Pos} (h : PT X x (LTB N X.K (evT F e))) (h2 : PW X (.BoolOp .And (y :: l) pos) (LTB N X.K (evTA F (.cons e2 es)))) :
    PW X (.BoolOp .And (x :: y :: l) pos) (LTB N X.K (evTA F (.cons e (.cons e2 es)))) := by
  refine PW.of (pw_and h h2) fun σ H Q ⟨l, L, ρ, rs, rep, p⟩ => ?_
  rw [evTA] at p
  · refine LT.bind rs rep p fun v x L1 H1 ρ1 s1 e1 rs1 rep1 r1 p1 => ?_
    subst r1
    cases v with
    | true => exact ⟨l, L1, ρ1, rs1, rep1, p1⟩
    | false => exact p1.here rep1 rfl
  · intro h; cases h
theorem sTO_cons {e e2 : LE} {es : LEs} {x y : Expr} {l : List Expr} {pos : Pos} (h : PT X x (LTB N X.K (evT F e))) (h2 : PW X (.BoolOp .Or (y :: l) pos) (LTB N X.K (evTO F (.cons e2 es)))) :
    PW X (.BoolOp .Or (x :: y :: l) pos) (LTB N X.K (evTO F (.cons e (.cons e2 es)))) := by
  refine PW.of (pw_or h h2) fun σ H Q ⟨l, L, ρ, rs, rep, p⟩ => ?_
  rw [evTO] at p
  · refine LT.bind rs rep p fun v x L1 H1 ρ1 s1 e1 rs1 rep1 r1 p1 => ?_
    subst r1
    cases v with
    | true => exact p1.here rep1 rfl
    | false => exact ⟨l, L1, ρ1, rs1, rep1, p1⟩
  · intro h; cases h
/-! ### displays, subscripts, fields -/
theorem sA_nil : PA X [] (LTA N X.K (evA F .nil)) := PA.of pa_nil fun σ H Q ⟨l, L, ρ, rs, rep, p⟩ => p.here rep Rls.nil'
theorem sA_cons {e : LE} {es : LEs} {x : Expr} {xs : List Expr} (hs : notStar x = true) (h : PE X x (LTE N X.K (evE F e))) (h2 : PA X xs (LTA N X.K (evA F es))) : PA X (x :: xs) (LTA N X.K (evA F (.cons e es))) := by
  refine PA.of (pa_cons h h2 (star_cons hs)) fun σ H Q ⟨l, L, ρ, rs, rep, p⟩ => ?_
  simp only [evA] at p
  exact LT.bind rs rep p fun v x L1 H1 ρ1 s1 e1 rs1 rep1 r1 p1 => LT.bind rs1 rep1 p1 fun u y L2 H2 ρ2 s2 e2 rs2 rep2 r2 p2 => p2.here rep2 (Rls.mk (Rl.mono s2 e2 _ _ r1) r2)
theorem sE_tup {es : LEs} {xs : List Expr} {k : Nat} {pos : Pos} (h : PA X xs (LTA N X.K (evA F es))) : PE X (.Tuple xs k pos) (LTE N X.K (evE F (.tup es))) := by
  refine PE.of (pe_tup h) fun σ H Q ⟨l, L, ρ, rs, rep, p⟩ => ?_
  simp only [evE] at p
  refine LT.bind rs rep p fun v x L1 H1 ρ1 s1 e1 rs1 rep1 r1 p1 => ?_
  split at p1
  · rename_i hz
    rw [r1.length] at hz
    exact ⟨hz, Post.newT rep1 r1 p1⟩
  · exact p1.elim
theorem sE_lst {es : LEs} {xs : List Expr} {pos : Pos} (h : PA X xs (LTA N X.K (evA F es))) : PE X (.List xs pos) (LTE N X.K (evE F (.lst es))) := by
  refine PE.of (pe_lst h) fun σ H Q ⟨l, L, ρ, rs, rep, p⟩ => ?_
  simp only [evE] at p
  refine LT.bind rs rep p fun v x L1 H1 ρ1 s1 e1 rs1 rep1 r1 p1 => ?_
  split at p1
  · rename_i hz
    rw [r1.length] at hz
    exact ⟨hz, Post.newL rep1 r1 p1⟩
  · exact p1.elim
theorem sE_dct0 {pos : Pos} : PE X (.Dict [] [] pos) (LTE N X.K (evE F .dct0)) := by
  refine PE.of pe_dnewK fun σ H Q ⟨l, L, ρ, rs, rep, p⟩ => ?_
  intro q hq
  exact p _ _ _ (Sty.new hq) (rep.exNew q) (rep.new hq (fun z => z) ⟨[], upd_same, rfl⟩) (Rl.ref.mpr ⟨q, rhoNew_self, rfl⟩)
theorem sE_idx {a i : LE} {x y : Expr} {pos : Pos} (G : Good T N F lv X) (hi : notSlice y = true) (ha : PE X x (LTE N X.K (evE F a))) (hb : PE X y (LTE N X.K (evE F i))) : PE X (.Subscript x y pos) (LTE N X.K (evE F (.idx a i))) := by
  refine PE.of (pe_ix (ix_idxV (N := N) G.hu) ha hb (ix_plain hi)) fun σ H Q ⟨l, L, ρ, rs, rep, p⟩ => ?_
  simp only [evE] at p
  exact LT.bind rs rep p fun v x L1 H1 ρ1 s1 e1 rs1 rep1 r1 p1 => LT.bind rs1 rep1 p1 fun u y L2 H2 ρ2 s2 e2 rs2 rep2 r2 p2 => ⟨v, u, L2, ρ2, rep2, Rl.mono s2 e2 _ _ r1, r2, p2⟩
theorem po_part {lo : LE} {o : Option Expr} (h : (match o with
    | none => isNon lo = true
    | some e => isNon lo = false ∧ PE X e (LTE N X.K (evE F lo)))) :
    ∃ t, PO X o t ∧ ∀ σ H Q, LT N X.K (fun _ _ (a b : Option Int) => a = b) (fun l L => if isNon lo = true then .ok none L else (evE F lo l L).bind partV) σ H Q → t σ H Q := by
  cases o with
  | none =>
    refine ⟨_, po_none, fun σ H Q ⟨l, L, ρ, rs, rep, p⟩ => ?_⟩
    dsimp only at h p
    rw [if_pos h] at p
    exact p.here rep rfl
  | some e =>
    obtain ⟨h1, h2⟩ := h
    refine ⟨_, po_some h2, fun σ H Q ⟨l, L, ρ, rs, rep, p⟩ => ?_⟩
    dsimp only at p
    rw [if_neg (by rw [h1]; exact Bool.false_ne_true)] at p
    refine LT.bind rs rep p fun v x L1 H1 ρ1 s1 e1 rs1 rep1 r1 p1 => ?_
    unfold partV at p1
    split at p1
    · cases Rl.int.mp r1
      exact ⟨_, rfl, p1.here rep1 rfl⟩
    · exact p1.elim
theorem PO.of {o : Option Expr} {t t' : TO} (h : PO X o t) (c : ∀ σ H Q, t' σ H Q → t σ H Q) : PO X o t' := ⟨fun pins s σ H Q I q => h.run pins s σ H Q I (c _ _ _ q)⟩
theorem sE_slc {a lo hi : LE} {x : Expr} {l h : Option Expr} {p2 pos : Pos} (ha : PE X x (LTE N X.K (evE F a)))
    (hl : match l with
      | none => isNon lo = true
      | some e => isNon lo = false ∧ PE X e (LTE N X.K (evE F lo)))
    (hh : match h with
      | none => isNon hi = true
      | some e => isNon hi = false ∧ PE X e (LTE N X.K (evE F hi))) : PE X (.Subscript x (.Slice l h none p2) pos) (LTE N X.K (evE F (.slc a lo hi))) := by
  obtain ⟨tl, pl, cl⟩ := po_part hl
  obtain ⟨th, ph, ch⟩ := po_part hh
  refine PE.of (pe_slice (sl_slcV (N := N)) ha (PO.of pl cl) (PO.of ph ch)) fun σ H Q ⟨l, L, ρ, rs, rep, p⟩ => ?_
  simp only [evE] at p
  exact LT.bind rs rep p fun v x L1 H1 ρ1 s1 e1 rs1 rep1 r1 p1 => LT.bind (f := fun l L => if isNon lo = true then .ok none L else (evE F lo l L).bind partV) rs1 rep1 p1 fun u y L2 H2 ρ2 s2 e2 rs2 rep2 r2 p2 =>
    LT.bind (f := fun l L => if isNon hi = true then .ok none L else (evE F hi l L).bind partV) rs2 rep2 p2 fun w z L3 H3 ρ3 s3 e3 rs3 rep3 r3 p3 => by
      subst r2 r3
      exact ⟨v, L3, ρ3, rep3, Rl.mono (s2.trans s3) (e2.trans e3) _ _ r1, p3⟩
theorem sE_fld {a : LE} {f : Nat} {x : Expr} {at' : Str} {pos : Pos} (G : Good T N F lv X) (ht : T.nms[f]? = some at') (h0 : notCall0 x = true) (ha : PE X x (LTE N X.K (evE F a))) : PE X (.Attribute x at' pos) (LTE N X.K (evE F (.fld a f))) := by
  refine PE.of (pe_fld ha (attr_no h0)) fun σ H Q ⟨l, L, ρ, rs, rep, p⟩ => ?_
  simp only [evE] at p
  refine LT.bind rs rep p fun v x L1 H1 ρ1 s1 e1 rs1 rep1 r1 p1 => ?_
  unfold fldV at p1
  split at p1
  · obtain ⟨b, h1, rfl⟩ := Rl.ref.mp r1
    split at p1
    · rename_i c fs e
      obtain ⟨b', dx, vs, q1, q2, q3, q4, q5⟩ := rep1.ins e
      rw [h1] at q1; cases q1
      split at p1
      · rename_i w ew
        have en := G.fx.nms f at' ht
        obtain ⟨w', hw, rw'⟩ := (q3.lookup G.fx.inj (f := f)).1 w ew
        rw [en] at hw
        have hmem : ∃ y, (f, y) ∈ fs := by
          clear p1 q3 q5 e hw
          induction fs with
          | nil => simp [fget] at ew
          | cons g r ih =>
            obtain ⟨g, y⟩ := g
            simp only [fget] at ew
            split at ew
            · rename_i eg; subst eg; exact ⟨y, List.mem_cons_self⟩
            · obtain ⟨z, hz⟩ := ih ew; exact ⟨z, List.mem_cons_of_mem _ hz⟩
        obtain ⟨y, hy⟩ := hmem
        have na := q5 _ hy
        rw [show N.nm (f, y).1 = at' from en] at na
        exact ⟨b, _, dx, vs, w', rfl, q2, q4, na, hw, p1.here rep1 rw'⟩
      · exact p1.elim
    · exact p1.elim
  · exact p1.elim
/-! ### calls -/
theorem sE_call {f : Nat} {es : LEs} {x : Str} {xs : List Expr} {p pos : Pos} (G : Good T N F lv X) (ht : T.fns[f]? = some x) (hg : glB X.env.scope x = true) (hs : xs.all notStar = true) (h : PA X xs (LTA N X.K (evA F es))) (hnil : xs = [] → es = .nil) :
    PE X (.Call (.Name x p) xs [] pos) (LTE N X.K (evE F (.call f es))) := by
  obtain ⟨g1, g2, g3⟩ := glB_ok hg
  obtain ⟨fa, fd, ps, hm, hk, hb, Fk⟩ := G.fx.call f x ht
  cases xs with
  | nil =>
    have := hnil rfl
    subst this
    refine PE.of (pe_call0 Fk (G.room.mono (Nat.le_succ _)) g1 hm hk hb .nil pass0 g2) fun σ H Q ⟨l, L, ρ, rs, rep, p⟩ => ?_
    exact ⟨[], L, ρ, rep, Rls.nil', p⟩
  | cons y ys =>
    simp only [List.all_cons, Bool.and_eq_true] at hs
    refine PE.of (pe_call Fk (G.room.mono (Nat.le_succ _)) g1 hm hk hb .nil pass0 h g2 (star_cons hs.1) (star_any hs.2)) fun σ H Q ⟨l, L, ρ, rs, rep, p⟩ => ?_
    simp only [evE] at p
    refine LT.bind rs rep p fun v x L1 H1 ρ1 s1 e1 rs1 rep1 r1 p1 => ?_
    rw [List.append_nil]
    exact ⟨v, L1, ρ1, rep1, r1, p1⟩
theorem evA_len : ∀ {es : LEs} {σ : LSt} {L L1 : LH} {vs : List LV}, evA F es σ L = .ok vs L1 → vs.length = es.len
  | .nil, σ, L, L1, vs, h => by simp only [evA] at h; cases h; rfl
  | .cons e es, σ, L, L1, vs, h => by
    simp only [evA] at h
    cases e1 : evE F e σ L with
    | err x L2 => rw [e1] at h; cases h
    | bad => rw [e1] at h; cases h
    | ok v L2 =>
      rw [e1] at h
      simp only [Out.bind] at h
      cases e2 : evA F es σ L2 with
      | err x L2 => rw [e2] at h; cases h
      | bad => rw [e2] at h; cases h
      | ok us L3 =>
        rw [e2] at h
        cases h
        simp [LEs.len, evA_len e2]
/-- sequencing, with what was computed -/
theorem LT.bindE {α β γ δ : Type} {K : PySem.W.Frag} {R : Hp → Rho → α → β → Prop} {S : Hp → Rho → γ → δ → Prop} {f : LSt → LH → Out α} {k : α → LH → Out γ} {l : LSt} {L : LH} {ρ : Rho} {σ : L2.St} {H : Hp} {Q : δ → Hp → Prop} {Q1 : β → Hp → Prop}
    (rs : RS K H ρ l σ) (rep : Rep N K H L ρ) (p : Post N K S ((f l L).bind k) H ρ Q)
    (n : ∀ a b L1 H1 ρ1, f l L = .ok a L1 → Sty H H1 → Ex ρ ρ1 → RS K H1 ρ1 l σ → Rep N K H1 L1 ρ1 → R H1 ρ1 a b → Post N K S (k a L1) H1 ρ1 Q → Q1 b H1) : LT N K R f σ H Q1 := by
  refine ⟨l, L, ρ, rs, rep, ?_⟩
  cases e : f l L with
  | ok a L1 =>
    rw [e] at p
    intro H1 ρ1 b s1 e1 rep1 r
    exact n a b L1 H1 ρ1 e s1 e1 (rs.mono s1 e1) rep1 r (p.mono s1 e1)
  | err x L1 => rw [e] at p; exact p.elim
  | bad => rw [e] at p; exact p.elim
theorem kw_names : ∀ {kws : List Keyword} {nks : List Str} {pos : Pos} {env : Env}, kws.map (·.arg) = nks.map some → (backToKw pos (keywordEach kws env)).filterMap (·.1) = nks ∧ (backToKw pos (keywordEach kws env)).all (·.1.isSome) = true ∧ (backToKw pos (keywordEach kws env)).any (·.1.isNone) = false
  | [], [], _, _, _ => ⟨rfl, rfl, rfl⟩
  | [], _ :: _, _, _, h => by simp at h
  | _ :: _, [], _, _, h => by simp at h
  | ⟨nm, e, kp⟩ :: kws, n :: nks, pos, env, h => by
    simp only [List.map_cons, List.cons.injEq] at h
    obtain ⟨rfl, h2⟩ := h
    obtain ⟨a, b, c⟩ := kw_names (pos := pos) (env := env) h2
    unfold backToKw at a b c ⊢
    simp only [keywordEach, List.map_cons, List.filterMap_cons, List.all_cons, List.any_cons, Option.isSome_some, Option.isNone_some, Bool.true_and, Bool.false_or]
    exact ⟨by rw [a], b, c⟩
/-- f(.., k = ..), or with defaults -/
theorem sE_callk {f : Nat} {es kes : LEs} {ks : List Nat} {x : Str} {y : Expr} {ys : List Expr} {kws : List Keyword} {p pos : Pos} (G : Good T N F lv X) (ht : T.fks.lookup f = some x) (hg : glB X.env.scope x = true) (hs : (y :: ys).all notStar = true)
    (hk : kws.map (·.arg) = ks.map fun i => T.nms[i]?) (h : PA X (y :: ys) (LTA N X.K (evA F es))) (hkw : PK X kws (LTA N X.K (evA F kes))) (hn : (y :: ys).length = es.len) (hn2 : kws.length = kes.len) :
    PE X (.Call (.Name x p) (y :: ys) kws pos) (LTE N X.K (evE F (.callk f es ks kes))) := by
  obtain ⟨g1, g2, g3⟩ := glB_ok hg
  have hs' := hs
  simp only [List.all_cons, Bool.and_eq_true] at hs'
  cases hsl : F.kw f es.len ks with
  | none =>
    refine ⟨fun pins s σ H Q I ⟨l, L, ρ, rs, rep, p⟩ => ?_⟩
    simp only [evE] at p
    exfalso
    cases e1 : evA F es l L with
    | err x L1 => rw [e1] at p; exact p
    | bad => rw [e1] at p; exact p
    | ok vs L1 =>
      rw [e1] at p
      simp only [Out.bind] at p
      rw [evA_len e1] at p
      cases e2 : evA F kes l L1 with
      | err x L1 => rw [e2] at p; exact p
      | bad => rw [e2] at p; exact p
      | ok zs L2 => rw [e2] at p; simp only [hsl] at p; exact p
  | some sl =>
    cases ks with
    | nil =>
      cases kws with
      | cons k kws => simp at hk
      | nil =>
        obtain ⟨fa, fd, ps, ds, dvs, hm, hkk, hb, hd, Fk, hf⟩ := G.fx.calld f x _ sl ht hsl
        refine PE.of (pe_call Fk (G.room.mono (Nat.le_succ _)) g1 hm hkk hb hd pass0 h g2 (star_cons hs'.1) (star_any hs'.2)) fun σ H Q ⟨l, L, ρ, rs, rep, p⟩ => ?_
        simp only [evE] at p
        refine LT.bindE rs rep p fun vs us L1 H1 ρ1 ev s1 e1 rs1 rep1 r1 p1 => ?_
        have hk0 : kes = .nil := by
          cases kes with
          | nil => rfl
          | cons e es => simp [LEs.len] at hn2
        subst hk0
        simp only [evA, Out.bind] at p1
        rw [evA_len ev, hsl] at p1
        dsimp only at p1
        cases ef : fill vs [] sl with
        | none => rw [ef] at p1; exact p1.elim
        | some ws =>
          rw [ef] at p1
          obtain ⟨lds, rfl, rl⟩ := hf vs ws (evA_len ev) ef
          exact ⟨_, L1, ρ1, rep1, Rls.append r1 (rl _ _), p1⟩
    | cons k0 ks =>
      obtain ⟨fa, fd, ps, nks, g, gV, hnk, hm, hkk, hb, Fk, hf⟩ := G.fx.callk f x _ (k0 :: ks) sl ht (by simp) hsl
      rw [hnk] at hk
      obtain ⟨k1, k2, k3⟩ := kw_names (pos := pos) (env := X.env) hk
      have hlen : nks.length = (k0 :: ks).length := by
        have := congrArg List.length hnk
        simpa using this.symm
      have hlen2 : kws.length = nks.length := by
        have := congrArg List.length hk
        simpa using this
      refine PE.of (pe_callN Fk (G.room.mono (Nat.le_succ _)) g1 hm hkk hb pass0 h hkw k2 k1 g2 (star_cons hs'.1) (by rw [k3, star_any hs]; rfl)) fun σ H Q ⟨l, L, ρ, rs, rep, p⟩ => ?_
      simp only [evE] at p
      refine LT.bindE rs rep p fun vs us L1 H1 ρ1 ev s1 e1 rs1 rep1 r1 p1 => LT.bindE rs1 rep1 p1 fun zs ws L2 H2 ρ2 ev2 s2 e2 rs2 rep2 r2 p2 => ?_
      rw [evA_len ev, hsl] at p2
      dsimp only at p2
      have l1 := evA_len ev
      have l2 := evA_len ev2
      refine ⟨r1.length.symm.trans l1, r2.length.symm.trans (l2.trans (hn2.symm.trans hlen2)), ?_⟩
      cases ef : fill vs zs sl with
      | none => rw [ef] at p2; exact p2.elim
      | some us' =>
        rw [ef] at p2
        exact ⟨us', L2, ρ2, rep2, hf _ _ vs zs us' _ _ l1 (l2.trans (hn2.symm.trans (hlen2.trans hlen))) (Rls.mono s2 e2 _ _ r1) r2 ef, p2⟩
theorem rep_make {H1 : Hp} {L1 : LH} {ρ1 : Rho} {c : Nat} {a dx : Addr} (rep : Rep N X.K H1 L1 ρ1) (cl : Cls X.K (N.ca c)) (ha : H1 a = none) (hd : H1 dx = none) (ne : dx ≠ a) :
    Sty H1 (upd (upd H1 dx (.own a)) a (.ins (N.ca c) dx [])) ∧ Rep N X.K (upd (upd H1 dx (.own a)) a (.ins (N.ca c) dx [])) (L1.new (.ins c [])) (rhoNew ρ1 L1.n a) := by
  have r1 : Rep N X.K (upd H1 dx (.own a)) L1 ρ1 := rep.laid hd
  have ha1 : upd H1 dx (.own a) a = none := by rw [upd_ne (Ne.symm ne)]; exact ha
  exact ⟨(Sty.new hd).trans (Sty.new ha1), r1.new ha1 (fun z => z) ⟨dx, [], upd_same, rfl, cl, fun p hp => nomatch hp⟩⟩
theorem post_make {H1 : Hp} {L1 : LH} {ρ1 : Rho} {c f : Nat} {vs : List LV} {ws : List V} {a dx : Addr} {Q : VK} (rep : Rep N X.K H1 L1 ρ1) (cl : Cls X.K (N.ca c)) (ha : H1 a = none) (hd : H1 dx = none) (ne : dx ≠ a) (r : Rls X.K H1 ρ1 vs ws)
    (hi : F.init c = some f) (p : PostV N X.K (makeV F c vs L1) H1 ρ1 Q) : SpL N X.K (F.call f) (.ref a :: ws) (upd (upd H1 dx (.own a)) a (.ins (N.ca c) dx [])) (fun v H2 => v = .non ∧ Q (.ref a) H2) E0 := by
  obtain ⟨s1, r1⟩ := rep_make rep cl ha hd ne
  have e1 := rep.exNew a
  refine ⟨.ref L1.n :: vs, L1.new (.ins c []), rhoNew ρ1 L1.n a, r1, Rls.mk (Rl.ref.mpr ⟨a, rhoNew_self, rfl⟩) (Rls.mono s1 e1 _ _ r), ?_⟩
  unfold makeV at p
  rw [hi] at p
  dsimp only at p
  cases e : F.call f (.ref L1.n :: vs) (L1.new (.ins c [])) with
  | err x L2 => rw [e] at p; exact p.elim
  | bad => rw [e] at p; exact p.elim
  | ok v L2 =>
    rw [e] at p
    simp only [Out.bind] at p
    intro H2 ρ2 w s2 e2 rep2 rw2
    split at p
    · refine ⟨Rl.non.mp rw2, p H2 ρ2 _ (s1.trans s2) (e1.trans e2) rep2 (Rl.ref.mpr ⟨a, e2 _ _ rhoNew_self, rfl⟩)⟩
    · exact p.elim
theorem sE_make {c : Nat} {es : LEs} {x : Str} {xs : List Expr} {p pos : Pos} (G : Good T N F lv X) (ht : T.cls[c]? = some x) (hg : glB X.env.scope x = true) (hs : xs.all notStar = true) (h : PA X xs (LTA N X.K (evA F es))) (hnil : xs = [] → es = .nil) :
    PE X (.Call (.Name x p) xs [] pos) (LTE N X.K (evE F (.make c es))) := by
  obtain ⟨g1, g2, g3⟩ := glB_ok hg
  cases hi : F.init c with
  | none =>
    refine ⟨fun pins s σ H Q I ⟨l, L, ρ, rs, rep, p⟩ => ?_⟩
    simp only [evE] at p
    cases e : evA F es l L with
    | ok v L1 => rw [e] at p; simp only [Out.bind, makeV, hi] at p; exact p.elim
    | err x L1 => rw [e] at p; exact p.elim
    | bad => rw [e] at p; exact p.elim
  | some f =>
    obtain ⟨fi, fd, ps, hm, mk, cl, hb, Fk⟩ := G.fx.make c x f ht hi
    cases xs with
    | nil =>
      have := hnil rfl
      subst this
      refine PE.of (pe_make0 mk Fk G.room g1 hm hb .nil pass0 g2) fun σ H Q ⟨l, L, ρ, rs, rep, p⟩ => ?_
      simp only [evE, evA, Out.bind] at p
      exact fun a dx ha hd ne => post_make rep cl ha hd ne Rls.nil' hi p
    | cons y ys =>
      simp only [List.all_cons, Bool.and_eq_true] at hs
      refine PE.of (pe_make mk Fk G.room g1 hm hb .nil pass0 h g2 (star_cons hs.1) (star_any hs.2)) fun σ H Q ⟨l, L, ρ, rs, rep, p⟩ => ?_
      simp only [evE] at p
      refine LT.bind rs rep p fun v w L1 H1 ρ1 s1 e1 rs1 rep1 r1 p1 => ?_
      intro a dx ha hd ne
      rw [List.append_nil]
      exact post_make rep1 cl ha hd ne r1 hi p1
/-- o.m(..): the class is known behind o -/
theorem pe_methD {o : Expr} {m : Str} {apos pos : Pos} {y : Expr} {ys : List Expr} {ta : TE} {t : TA} {k : Nat} (h0 : notCall0 o = true) (hs : (y :: ys).all notStar = true) (hl : decide ((y :: ys).length < 30) = true) (hp : (apos.endLine == pos.line) = true) (he : PE X o ta) (hr : Room k X.A) (ha : PA X (y :: ys) t) :
    PE X (.Call (.Attribute o m apos) (y :: ys) [] pos) (fun σ H Q => ta σ H fun x H1 => ∃ a C dx fs f fd ps sp, x = .ref a ∧ H1 a = some (.ins C dx fs) ∧ fs.lookup m = none ∧ Cls X.K C ∧ Meth X.K C m f ∧ Binds X.K fd ps [] ∧ FnOk X.prog X.w X.K X.mg X.base CX0 k f fd ps sp ∧
      t σ H1 fun vs H2 => sp (x :: vs) H2 Q E0) := by
  refine ⟨fun pins s σ H Q I h => ?_⟩
  refine PySem.W.methodCall_KW (pl := plainOf o X.env) (thn (he.run pins s σ H _ I h) fun u s1 ⟨x, H1, I1, rx, a, C, dx, fs, f, fd, ps, sp, ex, ea, l, c, hm, hb, F, q⟩ => ?_) (eval_meth h0 hs hl hp)
  subst ex
  obtain rfl : u = Value.ref a := rx
  refine getmeth_ok I1 ea c hm l ?_
  simp only [List.all_cons, Bool.and_eq_true] at hs
  refine PySem.W.callWith_K (first := [.ref a]) (h₀ := X.base) I1.ok.mod.kin hm.kp (thn (ha.run pos pins s1 σ H1 _ I1 q) fun us s2 ⟨vs, H2, I2, r, q2⟩ => ⟨I2.kIn, ?_⟩) (star_cons hs.1) (star_any hs.2)
  exact run_fn (us := .ref a :: us) (vs := .ref a :: vs) (ds := []) (dvs := []) F hr hb .nil pass0 I2 (.cons rfl r) (by rw [List.append_nil]; exact q2)
theorem pe_methD0 {o : Expr} {m : Str} {apos pos : Pos} {ta : TE} {k : Nat} (h0 : notCall0 o = true) (hp : (apos.endLine == pos.line) = true) (he : PE X o ta) (hr : Room k X.A) :
    PE X (.Call (.Attribute o m apos) [] [] pos) (fun σ H Q => ta σ H fun x H1 => ∃ a C dx fs f fd ps sp, x = .ref a ∧ H1 a = some (.ins C dx fs) ∧ fs.lookup m = none ∧ Cls X.K C ∧ Meth X.K C m f ∧ Binds X.K fd ps [] ∧ FnOk X.prog X.w X.K X.mg X.base CX0 k f fd ps sp ∧
      sp [x] H1 Q E0) := by
  refine ⟨fun pins s σ H Q I h => ?_⟩
  refine PySem.W.methodCall_KW (pl := plainOf o X.env) (thn (he.run pins s σ H _ I h) fun u s1 ⟨x, H1, I1, rx, a, C, dx, fs, f, fd, ps, sp, ex, ea, l, c, hm, hb, F, q⟩ => ?_) (eval_meth h0 rfl rfl hp)
  subst ex
  obtain rfl : u = Value.ref a := rx
  refine getmeth_ok I1 ea c hm l ?_
  refine PySem.W.callWith_K0 (first := [.ref a]) I1.kIn hm.kp ?_
  exact run_fn (us := [.ref a]) (vs := [.ref a]) (ds := []) (dvs := []) F hr hb .nil pass0 I1 (.cons rfl .nil) q
theorem recv_ok {H1 : Hp} {L1 : LH} {ρ1 : Rho} {m f : Nat} {v : LV} {x : V} {nm : Str} (G : Good T N F lv X) (ht : T.nms[m]? = some nm) (rep : Rep N X.K H1 L1 ρ1) (h : recvF F L1 m v = some f) (r : Rl X.K H1 ρ1 v x) :
    ∃ a C dx vs g fd ps, x = .ref a ∧ H1 a = some (.ins C dx vs) ∧ vs.lookup nm = none ∧ Cls X.K C ∧ Meth X.K C nm g ∧ Binds X.K fd ps [] ∧ FnOk X.prog X.w X.K X.mg X.base CX0 lv g fd ps (SpL N X.K (F.call f)) := by
  unfold recvF at h
  split at h
  · rename_i i
    obtain ⟨b, h1, rfl⟩ := Rl.ref.mp r
    split at h
    · rename_i c fs e
      obtain ⟨b', dx, vs, q1, q2, q3, q4, q5⟩ := rep.ins e
      rw [h1] at q1; cases q1
      split at h
      · rename_i hn
        have hn : fget m fs = none := by simpa using hn
        have := (q3.lookup G.fx.inj (f := m)).2 hn
        rw [G.fx.nms m nm ht] at this
        obtain ⟨g, fd, ps, hm, hb, Fk⟩ := G.fx.mth c m f h
        rw [G.fx.nms m nm ht] at hm
        exact ⟨b, _, dx, vs, g, fd, ps, rfl, q2, this, q4, hm, hb, Fk⟩
      · cases h
    · cases h
  · cases h
theorem sE_meth {a : LE} {m : Nat} {es : LEs} {o : Expr} {nm : Str} {xs : List Expr} {apos pos : Pos} (G : Good T N F lv X) (ht : T.nms[m]? = some nm) (h0 : notCall0 o = true) (hs : xs.all notStar = true) (hl : decide (xs.length < 30) = true) (hp : (apos.endLine == pos.line) = true)
    (ho : PE X o (LTE N X.K (evE F a))) (h : PA X xs (LTA N X.K (evA F es))) (hnil : xs = [] → es = .nil) :
    PE X (.Call (.Attribute o nm apos) xs [] pos) (LTE N X.K (evE F (.meth a m es))) := by
  cases xs with
  | nil =>
    have := hnil rfl
    subst this
    refine PE.of (pe_methD0 h0 hp ho (G.room.mono (Nat.le_succ lv))) fun σ H Q ⟨l, L, ρ, rs, rep, p⟩ => ?_
    simp only [evE] at p
    refine LT.bind rs rep p fun v x L1 H1 ρ1 s1 e1 rs1 rep1 r1 p1 => ?_
    split at p1
    · rename_i f hr
      obtain ⟨b, C, dx, vs, g, fd, ps, rfl, q2, q3, q4, hm, hb, Fk⟩ := recv_ok G ht rep1 hr r1
      exact ⟨b, C, dx, vs, g, fd, ps, _, rfl, q2, q3, q4, hm, hb, Fk, [v], L1, ρ1, rep1, Rls.mk r1 Rls.nil', p1⟩
    · exact p1.elim
  | cons y ys =>
    refine PE.of (pe_methD h0 hs hl hp ho (G.room.mono (Nat.le_succ lv)) h) fun σ H Q ⟨l, L, ρ, rs, rep, p⟩ => ?_
    simp only [evE] at p
    refine LT.bind rs rep p fun v x L1 H1 ρ1 s1 e1 rs1 rep1 r1 p1 => ?_
    split at p1
    · rename_i f hr
      obtain ⟨b, C, dx, vs, g, fd, ps, rfl, q2, q3, q4, hm, hb, Fk⟩ := recv_ok G ht rep1 hr r1
      refine ⟨b, C, dx, vs, g, fd, ps, _, rfl, q2, q3, q4, hm, hb, Fk, ?_⟩
      exact LT.bind rs1 rep1 p1 fun us ws L2 H2 ρ2 s2 e2 rs2 rep2 r2 p2 => ⟨v :: us, L2, ρ2, rep2, Rls.mk (Rl.mono s2 e2 _ _ r1) r2, p2⟩
    · exact p1.elim
/-! ### built-in functions and methods -/
theorem bf_boot (f : BF) : bootBuiltins (bfName f) = some (bfVal f) := by
  cases f <;> decide +kernel
theorem bfN (f : BF) : bfName f ≠ "__name__" ∧ (bfName f == ("__debug__" : Str)) = false := by
  cases f <;> decide
theorem sE_bf {f : BF} {es : LEs} {y : Expr} {ys : List Expr} {p pos : Pos} (G : Good T N F lv X) (hg : Gl X (bfName f)) (hs : (y :: ys).all notStar = true) (h : PA X (y :: ys) (LTA N X.K (evA F es))) :
    PE X (.Call (.Name (bfName f) p) (y :: ys) [] pos) (LTE N X.K (evE F (.bf f es))) := by
  simp only [List.all_cons, Bool.and_eq_true] at hs
  have hb := bf_boot f
  have c := call_bfV (N := N) G.calm f
  have fin : ∀ σ H Q, LTE N X.K (evE F (.bf f es)) σ H Q → tCB (rArgs N X.K (bfV f)) (LTA N X.K (evA F es)) σ H Q := fun σ H Q ⟨l, L, ρ, rs, rep, p⟩ => by
    simp only [evE] at p
    exact LT.bind rs rep p fun v x L1 H1 ρ1 s1 e1 rs1 rep1 r1 p1 => ⟨v, L1, ρ1, rep1, r1, p1⟩
  cases e : bfVal f with
  | builtin id =>
    rw [e] at hb c
    exact PE.of (pe_callB c hg (G.fx.bfn f) hb h (bfN f).1 (bfN f).2 (star_cons hs.1) (star_any hs.2)) fin
  | type id =>
    rw [e] at hb c
    exact PE.of (pe_callTy c hg (G.fx.bfn f) hb h (bfN f).1 (bfN f).2 (star_cons hs.1) (star_any hs.2)) fin
  | _ => cases f <;> simp [bfVal] at e
theorem sE_bm {m : BM} {a : LE} {es : LEs} {o : Expr} {xs : List Expr} {apos pos : Pos} (G : Good T N F lv X) (h0 : notCall0 o = true) (hs : xs.all notStar = true) (hl : decide (xs.length < 30) = true) (hp : (apos.endLine == pos.line) = true)
    (ho : PE X o (LTE N X.K (evE F a))) (h : PA X xs (LTA N X.K (evA F es))) (hnil : xs = [] → es = .nil) :
    PE X (.Call (.Attribute o (bmName m) apos) xs [] pos) (LTE N X.K (evE F (.bm m a es))) := by
  obtain ⟨s1, s2, s3⟩ := bm_slot m
  have mr := mt_bmV (N := N) G.hu m
  cases xs with
  | nil =>
    have := hnil rfl
    subst this
    refine PE.of (pe_bm0 s1 s2 s3 mr ho (attr_no h0) hp) fun σ H Q ⟨l, L, ρ, rs, rep, p⟩ => ?_
    simp only [evE] at p
    refine LT.bind rs rep p fun v x L1 H1 ρ1 s1 e1 rs1 rep1 r1 p1 => ?_
    split at p1
    · rename_i hr
      exact ⟨bmTy_tyV rep1 hr r1, v, [], L1, ρ1, rep1, r1, Rls.nil', p1⟩
    · exact p1.elim
  | cons y ys =>
    have hs' := hs
    simp only [List.all_cons, Bool.and_eq_true] at hs'
    refine PE.of (pe_bm s1 s2 s3 mr ho h (attr_no h0) (few_ok hs hl) hp (star_cons hs'.1) (star_any hs'.2)) fun σ H Q ⟨l, L, ρ, rs, rep, p⟩ => ?_
    simp only [evE] at p
    refine LT.bind rs rep p fun v x L1 H1 ρ1 s1 e1 rs1 rep1 r1 p1 => ?_
    split at p1
    · rename_i hr
      refine ⟨bmTy_tyV rep1 hr r1, ?_⟩
      exact LT.bind rs1 rep1 p1 fun us ws L2 H2 ρ2 s2 e2 rs2 rep2 r2 p2 => ⟨v, us, L2, ρ2, rep2, Rl.mono s2 e2 _ _ r1, r2, p2⟩
    · exact p1.elim
/-! ### isinstance -/
theorem kit_dec {K : PySem.W.Frag} : ∀ (a b : Ty) (x y : Str), True := fun _ _ _ _ => trivial
def tyS : Ty → String
  | .int => "int" | .bool => "bool" | .str => "str" | .tuple => "tuple" | .list => "list" | .own _ => ""
theorem ty_boot {t : Ty} {x : Str} (h : tyName t = some x) : bootBuiltins x = some (.type (tyS t)) ∧ x ≠ "__name__" ∧ (x == ("__debug__" : Str)) = false := by
  cases t <;> simp only [tyName, Option.some.injEq, reduceCtorEq] at h <;> subst h <;> exact ⟨by decide +kernel, by decide, by decide⟩
theorem kitB_all : ∀ a b : Fin 6, ∀ c : Fin 5, True := fun _ _ _ => trivial
/-- the answer for one class -/
theorem tyIs_kit {K : PySem.W.Frag} {H : Hp} {L : LH} {ρ : Rho} {v : LV} {x : V} (rep : Rep N K H L ρ) (r : Rl K H ρ v x) : ∃ tv : Value, (∀ ty b, tyIs L v ty = some b → TyX K H x tv ∧ PySem.W.kitOne K tv (.type (tyS ty)) = some b) := by
  cases v with
  | non =>
    cases Rl.non.mp r
    refine ⟨_, fun ty b h => ⟨.base .non, ?_⟩⟩
    cases ty <;> simp only [tyIs, Option.some.injEq, reduceCtorEq] at h <;> subst h <;> exact kit_ty (by decide +kernel)
  | bl y =>
    cases Rl.bl.mp r
    refine ⟨_, fun ty b h => ⟨.base (.bl y), ?_⟩⟩
    cases ty <;> simp only [tyIs, Option.some.injEq, reduceCtorEq] at h <;> subst h <;> exact kit_ty (by decide +kernel)
  | int y =>
    cases Rl.int.mp r
    refine ⟨_, fun ty b h => ⟨.base (.int y), ?_⟩⟩
    cases ty <;> simp only [tyIs, Option.some.injEq, reduceCtorEq] at h <;> subst h <;> exact kit_ty (by decide +kernel)
  | str y =>
    cases Rl.str.mp r
    refine ⟨_, fun ty b h => ⟨.base (.str y), ?_⟩⟩
    cases ty <;> simp only [tyIs, Option.some.injEq, reduceCtorEq] at h <;> subst h <;> exact kit_ty (by decide +kernel)
  | tup xs =>
    obtain ⟨a, vs, rfl, s1, r1⟩ := Rl.tup.mp r
    have tx : TyX K H (.ref a) (.type "tuple") := by
      rcases s1 with (s1 | ⟨o, s1⟩) | ⟨o, its, n, h1, h2, _⟩
      · exact .base (.tup s1)
      · exact .fTuple s1
      · exact .kTuple h1 h2
    refine ⟨_, fun ty b h => ⟨tx, ?_⟩⟩
    cases ty <;> simp only [tyIs, Option.some.injEq, reduceCtorEq] at h <;> subst h <;> exact kit_ty (by decide +kernel)
  | scr xs =>
    obtain ⟨a, vs, rfl, s1, r1⟩ := Rl.scr.mp r
    have tx : TyX K H (.ref a) (.type "list") := by
      rcases s1 with ⟨o, s1⟩ | ⟨o, its, n, h1, h2, _⟩
      · exact .base (.frz s1)
      · exact .kList h1 h2
    refine ⟨_, fun ty b h => ⟨tx, ?_⟩⟩
    cases ty <;> simp only [tyIs, Option.some.injEq, reduceCtorEq] at h <;> subst h <;> exact kit_ty (by decide +kernel)
  | exc c fs xs => exact ⟨.none, fun ty b h => by cases ty <;> cases h⟩
  | ref i =>
    obtain ⟨a, h1, rfl⟩ := Rl.ref.mp r
    cases e : L.at_ i with
    | none => exact ⟨.none, fun ty b h => by simp only [tyIs, e] at h; cases h⟩
    | some o =>
      cases o with
      | lst xs =>
        obtain ⟨a', vs, q1, q2, q3⟩ := rep.lst e
        rw [h1] at q1; cases q1
        refine ⟨_, fun ty b h => ⟨.base (.lst q2), ?_⟩⟩
        cases ty <;> simp only [tyIs, e, Option.some.injEq, reduceCtorEq] at h <;> subst h <;> exact kit_ty (by decide +kernel)
      | dct kvs => exact ⟨.none, fun ty b h => by simp only [tyIs, e] at h; cases h⟩
      | ins c fs => exact ⟨.none, fun ty b h => by simp only [tyIs, e] at h; cases h⟩
theorem tyAny_kit {K : PySem.W.Frag} {H : Hp} {L : LH} {v : LV} {x : V} {tv : Value} (k : ∀ ty b, tyIs L v ty = some b → TyX K H x tv ∧ PySem.W.kitOne K tv (.type (tyS ty)) = some b) : ∀ (ts : List Ty) (b : Bool), tyAny L v ts = some b →
    PySem.W.kitAny K tv (ts.map fun t => .type (tyS t)) = some b
  | [], b, h => by simp only [tyAny, Option.some.injEq] at h; subst h; rfl
  | t :: ts, b, h => by
    unfold tyAny at h
    split at h
    · rename_i e
      cases h
      exact kitAny_cons (k t true e).2 (fun z => nomatch z) (fun _ => rfl)
    · rename_i e
      exact kitAny_cons (k t false e).2 (fun _ => tyAny_kit k ts b h) (fun z => nomatch z)
    · cases h
theorem pa_types : ∀ (ts : List Ty) (es : List Expr), Fx T N F lv X.prog X.w X.K X.mg X.base → ckTyL X.env.scope ts es = true → PA X es (fun _ H Q => Q (ts.map fun t => V.ty (tyS t)) H) ∧ es.all notStar = true
  | [], [], _, _ => ⟨pa_nil, rfl⟩
  | [], _ :: _, _, h => by simp [ckTyL] at h
  | t :: ts, [], _, h => by simp [ckTyL] at h
  | t :: ts, e :: es, fx, h => by
    cases e with
    | Name x pos =>
      simp only [ckTyL, Bool.and_eq_true, decide_eq_true_eq] at h
      obtain ⟨⟨h1, h2⟩, h3⟩ := h
      obtain ⟨g1, g2, g3⟩ := glB_ok h2
      obtain ⟨b1, b2, b3⟩ := ty_boot h1
      obtain ⟨p1, p2⟩ := pa_types ts es fx h3
      refine ⟨PA.of (pa_cons (pe_bltn (v := .ty (tyS t)) g1 (fx.tyn t x h1) b1 rfl b2 b3) p1 rfl) fun σ H Q q => q, ?_⟩
      simp [notStar, p2]
    | _ => simp [ckTyL] at h
theorem sE_isin {a : LE} {ts : List Ty} {y c : Expr} {p pos : Pos} (G : Good T N F lv X) (hg : Gl X "isinstance") (hs1 : notStar y = true) (hs2 : notStar c = true) (hc : ckTy X.env.scope ts c = true) (ha : PE X y (LTE N X.K (evE F a))) :
    PE X (.Call (.Name "isinstance" p) [y, c] [] pos) (LTE N X.K (evE F (.isin a ts))) := by
  have hb : bootBuiltins "isinstance" = some (.builtin "isinstance") := by decide +kernel
  have he : starEach [y, c] X.env = (false, eval y X.env) :: starEach [c] X.env := star_cons hs1
  have hpl : (backTo pos (starEach [c] X.env)).any (·.1) = false := star_any (by simp [hs2])
  cases c with
  | Name x pp =>
    have hc' : ckTyL X.env.scope ts [.Name x pp] = true := hc
    cases ts with
    | nil => simp [ckTyL] at hc'
    | cons t ts =>
      cases ts with
      | cons t2 ts => simp [ckTyL] at hc'
      | nil =>
        simp only [ckTyL, Bool.and_eq_true, decide_eq_true_eq, and_true] at hc'
        obtain ⟨h1, h2⟩ := hc'
        obtain ⟨g1, g2, g3⟩ := glB_ok h2
        obtain ⟨b1, b2, b3⟩ := ty_boot h1
        have pc : PE X (.Name x pp) (tC (.ty (tyS t))) := pe_bltn g1 (G.fx.tyn t x h1) b1 rfl b2 b3
        refine PE.of (pe_callB call_isi hg G.fx.isi hb (pa_cons ha (pa_cons pc pa_nil rfl) he) (by decide) (by decide) he hpl) fun σ H Q ⟨l, L, ρ, rs, rep, p⟩ => ?_
        simp only [evE] at p
        refine LT.bind rs rep p fun v x L1 H1 ρ1 s1 e1 rs1 rep1 r1 p1 => ?_
        cases e : tyAny L1 v [t] with
        | none => rw [e] at p1; exact p1.elim
        | some b =>
          rw [e] at p1
          obtain ⟨tv, k⟩ := tyIs_kit rep1 r1
          have e2 : tyIs L1 v t = some b := by
            unfold tyAny at e
            split at e
            · rename_i e3; rw [e3]; exact e
            · rename_i e3; simp only [tyAny, Option.some.injEq] at e; subst e; exact e3
            · cases e
          obtain ⟨k1, k2⟩ := k t b e2
          exact ⟨x, .ty (tyS t), tv, .type (tyS t), b, rfl, .ty _, k1, k2, p1.here rep1 (Rl.bl.mpr rfl)⟩
  | Tuple es k pp =>
    have hc0 : (decide (ts.length ≤ 8) && !ts.isEmpty && ckTyL X.env.scope ts es) = true := hc
    simp only [Bool.and_eq_true, decide_eq_true_eq, Bool.not_eq_true'] at hc0
    obtain ⟨⟨hlen, hne⟩, hc'⟩ := hc0
    obtain ⟨pa, _⟩ := pa_types ts es G.fx hc'
    refine PE.of (pe_callB call_isiT hg G.fx.isi hb (pa_cons ha (pa_cons (pe_tup pa) pa_nil rfl) he) (by decide) (by decide) he hpl) fun σ H Q ⟨l, L, ρ, rs, rep, p⟩ => ?_
    simp only [evE] at p
    refine LT.bind rs rep p fun v x L1 H1 ρ1 s1 e1 rs1 rep1 r1 p1 => ?_
    cases e : tyAny L1 v ts with
    | none => rw [e] at p1; exact p1.elim
    | some b =>
      rw [e] at p1
      refine ⟨?_, fun q hq => ?_⟩
      · rw [List.length_map, sizeLine_eq]
        omega
      · have st := Sty.new (o := HO.tup (ts.map fun t => V.ty (tyS t))) hq
        have rep2 := rep1.laid (u := HO.tup (ts.map fun t => V.ty (tyS t))) hq
        have r2 := Rl.mono st (Ex.refl _) _ _ r1
        obtain ⟨tv, k⟩ := tyIs_kit rep2 r2
        refine ⟨x, q, _, tv, ts.map fun t => .type (tyS t), b, rfl, upd_same, ?_, ?_, tyAny_kit k ts b e, (p1.mono st (Ex.refl _)).here rep2 (Rl.bl.mpr rfl)⟩
        · have : ∀ ts : List Ty, Paired ClsV (ts.map fun t => V.ty (tyS t)) (ts.map fun t => Value.type (tyS t)) := fun ts => by
            induction ts with
            | nil => exact .nil
            | cons t ts ih => exact .cons (.ty _) ih
          exact this ts
        · cases ts with
          | nil => simp at hne
          | cons t ts =>
            unfold tyAny at e
            split at e
            · rename_i e3; exact (k t true e3).1
            · rename_i e3; exact (k t false e3).1
            · cases e
  | _ => simp [ckTy] at hc
/-! ### exceptions -/
theorem Rls.lookup_zip {K : PySem.W.Frag} {H : Hp} {ρ : Rho} {f : Str} {w : LV} : ∀ {fs : List Str} {xs : List LV} {vs : List V} {acc : List (Str × LV)} {acc2 : List (Str × V)}, Rls K H ρ xs vs →
    (∀ w, acc.lookup f = some w → ∃ v, acc2.lookup f = some v ∧ Rl K H ρ w v) → (acc.lookup f = none → acc2.lookup f = none) → ((fs.zip xs).reverse ++ acc).lookup f = some w → ∃ v, ((fs.zip vs).reverse ++ acc2).lookup f = some v ∧ Rl K H ρ w v
  | [], xs, vs, acc, acc2, r, h, hn, e => h w (by simpa using e)
  | g :: fs, [], vs, acc, acc2, r, h, hn, e => by
    cases Rls.nil.mp r
    exact h w (by simpa using e)
  | g :: fs, x :: xs, vs, acc, acc2, r, h, hn, e => by
    obtain ⟨v, r0, rfl, r1, r2⟩ := Rls.cons.mp r
    simp only [List.zip_cons_cons, List.reverse_cons, List.append_assoc, List.cons_append, List.nil_append] at e ⊢
    refine Rls.lookup_zip r2 (fun w hw => ?_) (fun hw => ?_) e
    · simp only [List.lookup] at hw ⊢
      cases q : f == g with
      | true => rw [q] at hw; cases hw; exact ⟨v, rfl, r1⟩
      | false => rw [q] at hw; exact h w hw
    · simp only [List.lookup] at hw ⊢
      cases q : f == g with
      | true => rw [q] at hw; cases hw
      | false => rw [q] at hw; exact hn hw
theorem pe_xty {t : Str} {pos : Pos} {cv : Value} (h : XTy X.K X.mg t cv) (hg : glB X.env.scope t = true) : ∃ v, PE X (.Name t pos) (tC v) ∧ RelV v cv ∧ ∀ u, RelV v u → u = cv := by
  obtain ⟨g1, g2, g3⟩ := glB_ok hg
  rcases h with ⟨a, rfl, hm⟩ | ⟨n, rfl, hm, hb, hn⟩
  · exact ⟨.ref a, pe_glob g1 hm rfl g2, rfl, fun u r => r⟩
  · exact ⟨.ty n, pe_bltn g1 hm hb rfl hn g2, rfl, fun u r => r⟩
theorem sE_isx {a : LE} {t : Str} {y : Expr} {p p2 pos : Pos} (G : Good T N F lv X) (hg : Gl X "isinstance") (hs1 : notStar y = true) (ht : glB X.env.scope t = true) (ha : PE X y (LTE N X.K (evE F a))) :
    PE X (.Call (.Name "isinstance" p) [y, .Name t p2] [] pos) (LTE N X.K (evE F (.isx a t))) := by
  have hb : bootBuiltins "isinstance" = some (.builtin "isinstance") := by decide +kernel
  have he : starEach [y, .Name t p2] X.env = (false, eval y X.env) :: starEach [.Name t p2] X.env := star_cons hs1
  have hpl : (backTo pos (starEach [.Name t p2] X.env)).any (·.1) = false := star_any rfl
  by_cases hx : ∃ x b, F.xis x t = some b
  · obtain ⟨x0, b0, hx0⟩ := hx
    obtain ⟨cv, h1, _⟩ := G.fx.xis x0 t b0 hx0
    obtain ⟨cV, pc, _, hcv⟩ := pe_xty (pos := p2) h1 ht
    refine PE.of (pe_callB HX.call_isX hg G.fx.isi hb (pa_cons ha (pa_cons pc pa_nil rfl) he) (by decide) (by decide) he hpl) fun σ H Q ⟨l, L, ρ, rs, rep, p⟩ => ?_
    simp only [evE] at p
    refine LT.bind rs rep p fun v x L1 H1 ρ1 s1 e1 rs1 rep1 r1 p1 => ?_
    cases v with
    | exc c fs xs =>
      simp only [isxV] at p1
      cases e : F.xis c t with
      | none => rw [e] at p1; exact p1.elim
      | some b =>
        rw [e] at p1
        obtain ⟨cv2, h2, k2⟩ := G.fx.xis c t b e
        have ecv : cv2 = cv := by
          rcases h1 with ⟨a1, rfl, m1⟩ | ⟨n1, rfl, m1, b1, _⟩ <;> rcases h2 with ⟨a2, rfl, m2⟩ | ⟨n2, rfl, m2, b2, _⟩
          · rw [m1] at m2; exact (Option.some.inj m2).symm
          · rw [m1] at m2; cases m2
          · rw [m1] at m2; cases m2
          · rw [b1] at b2; exact (Option.some.inj b2).symm
        subst ecv
        obtain ⟨a, vs, rfl, ⟨q1, q2, _⟩, _⟩ := Rl.exc.mp r1
        exact ⟨a, _, _, cV, cv2, b, rfl, q1, q2, hcv, k2, p1.here rep1 (Rl.bl.mpr rfl)⟩
    | _ => exact p1.elim
  · have pc : PE X (.Name t p2) (fun _ _ _ => False) := ⟨fun pins s σ H Q I h => h.elim⟩
    refine ⟨fun pins s σ H Q I ⟨l, L, ρ, rs, rep, p⟩ => ?_⟩
    simp only [evE] at p
    cases e : evE F a l L with
    | ok v L1 =>
      rw [e] at p
      simp only [Out.bind] at p
      cases v with
      | exc c fs xs =>
        simp only [isxV] at p
        cases e2 : F.xis c t with
        | none => rw [e2] at p; exact p.elim
        | some b => exact absurd ⟨c, b, e2⟩ hx
      | _ => exact p.elim
    | err x L1 => rw [e] at p; exact p.elim
    | bad => rw [e] at p; exact p.elim
theorem pe_xfl {te : TE} {x : Expr} {f : Str} {pos : Pos} (h0 : notCall0 x = true) (ha : PE X x te) : PE X (.Attribute x f pos) (HX.tXfl X.K f te) := by
  refine ⟨fun pins s σ H Q I h => ?_⟩
  refine attr_of (attr_no h0) (thn (ha.run pins s σ H _ I h) fun u s1 ⟨v, H1, I1, r, q⟩ => HX.xfl_ok I1 r q)
theorem sE_xfl {a : LE} {f : Str} {x : Expr} {pos : Pos} (G : Good T N F lv X) (h0 : notCall0 x = true) (ha : PE X x (LTE N X.K (evE F a))) : PE X (.Attribute x f pos) (LTE N X.K (evE F (.xfl a f))) := by
  refine PE.of (pe_xfl h0 ha) fun σ H Q ⟨l, L, ρ, rs, rep, p⟩ => ?_
  simp only [evE] at p
  refine LT.bind rs rep p fun v x L1 H1 ρ1 s1 e1 rs1 rep1 r1 p1 => ?_
  cases v with
  | exc c fs xs =>
    simp only [xflV] at p1
    cases e : (fs.zip xs).reverse.lookup f with
    | none => rw [e] at p1; exact p1.elim
    | some w =>
      rw [e] at p1
      obtain ⟨a, vs, rfl, ⟨q1, q2, q3⟩, r2⟩ := Rl.exc.mp r1
      obtain ⟨u, hu, ru⟩ := Rls.lookup_zip (fs := fs) (acc := []) (acc2 := []) r2 (fun w h => by cases h) (fun _ => rfl) (by rw [List.append_nil]; exact e)
      rw [List.append_nil] at hu
      have hm : f ∈ fs := by
        have := PySem.mem_of_lookup e
        exact (List.of_mem_zip (List.mem_reverse.mp this)).1
      exact ⟨a, _, _, u, rfl, q1, q2, q3 f hm, hu, p1.here rep1 ru⟩
  | _ => exact p1.elim
theorem sE_mkx {x : Str} {es : LEs} {xs : List Expr} {p pos : Pos} (G : Good T N F lv X) (hg : glB X.env.scope x = true) (hs : xs.all notStar = true) (h : PA X xs (LTA N X.K (evA F es))) (hnil : xs = [] → es = .nil) (hcons : xs ≠ [] → es ≠ .nil) :
    PE X (.Call (.Name x p) xs [] pos) (LTE N X.K (evE F (.mkx x es))) := by
  obtain ⟨g1, g2, g3⟩ := glB_ok hg
  cases hi : F.xin x with
  | none =>
    refine ⟨fun pins s σ H Q I ⟨l, L, ρ, rs, rep, p⟩ => ?_⟩
    simp only [evE] at p
    cases e : evA F es l L with
    | ok v L1 => rw [e] at p; simp only [Out.bind, mkxV, hi] at p; exact p.elim
    | err x L1 => rw [e] at p; exact p.elim
    | bad => rw [e] at p; exact p.elim
  | some fs =>
    obtain ⟨hm, hx, hcase⟩ := G.fx.xin x fs hi
    rcases hcase with ⟨rfl, k1, k2⟩ | ⟨hne, hz, T0, fI, fd, ps, iC, tI, hb, Fk⟩
    · cases xs with
      | nil =>
        have := hnil rfl
        subst this
        refine PE.of (HX.pe_mk0 PySem.F.excBase_ValueError k1 hm k2 g1 g2) fun σ H Q ⟨l, L, ρ, rs, rep, p⟩ => ?_
        simp only [evE, evA, Out.bind, mkxV, hi, List.length_nil, if_true] at p
        intro a ha
        have st := Sty.new (o := exo a (He.ga X.K x) none) ha
        exact (p.mono st (Ex.refl _)).here (rep.laid ha) (Rl.exc.mpr ⟨a, [], rfl, ⟨.inl ⟨rfl, upd_same⟩, hx⟩, Rls.nil'⟩)
      | cons y ys =>
        refine ⟨fun pins s σ H Q I ⟨l, L, ρ, rs, rep, p⟩ => ?_⟩
        cases es with
        | nil => exact absurd rfl (hcons (by simp))
        | cons e1 es =>
          simp only [evE, evA] at p
          cases q1 : evE F e1 l L with
          | ok v L1 =>
            rw [q1] at p
            simp only [Out.bind] at p
            cases q2 : evA F es l L1 with
            | ok vs L2 =>
              rw [q2] at p
              simp [mkxV, hi] at p
              exact p.elim
            | err x L1 => rw [q2] at p; exact p.elim
            | bad => rw [q2] at p; exact p.elim
          | err x L1 => rw [q1] at p; exact p.elim
          | bad => rw [q1] at p; exact p.elim
    · cases xs with
      | nil => 
        have := hnil rfl
        subst this
        refine ⟨fun pins s σ H Q I ⟨l, L, ρ, rs, rep, p⟩ => ?_⟩
        simp only [evE, evA, Out.bind, mkxV, hi] at p
        rw [if_neg (by cases fs <;> simp_all)] at p
        exact p.elim
      | cons y ys =>
        simp only [List.all_cons, Bool.and_eq_true] at hs
        refine PE.of (HX.pe_mkv T0 iC tI Fk G.room hb pass0 g1 hm h g2 (star_cons hs.1) (star_any hs.2)) fun σ H Q ⟨l, L, ρ, rs, rep, p⟩ => ?_
        simp only [evE] at p
        refine LT.bind rs rep p fun v w L1 H1 ρ1 s1 e1 rs1 rep1 r1 p1 => ?_
        simp only [mkxV, hi] at p1
        split at p1
        · rename_i hlen
          have hl := r1.length
          refine ⟨by omega, fun a ha => ⟨a, w, rfl, by omega, hne, hz, upd_same, fun dx hd hn => ⟨rfl, ?_⟩⟩⟩
          have hd1 : H1 dx = none := by rw [← hd, upd_ne hn]
          have e0 : upd (upd (upd H1 a (exo a (He.ga X.K x) none)) dx (exd dx (fs.zip w).reverse)) a (exo a (He.ga X.K x) (some dx)) = upd (upd H1 dx (exd dx (fs.zip w).reverse)) a (exo a (He.ga X.K x) (some dx)) := by
            rw [HX.upd_comm (Ne.symm hn), HX.upd_twice]
          rw [e0]
          have ha2 : upd H1 dx (exd dx (fs.zip w).reverse) a = none := by rw [upd_ne (Ne.symm hn)]; exact ha
          have st1 := Sty.new (o := exd dx (fs.zip w).reverse) hd1
          have st2 := Sty.new (o := exo a (He.ga X.K x) (some dx)) ha2
          have st := st1.trans st2
          exact (p1.mono st (Ex.refl _)).here ((rep1.laid hd1).laid ha2) (Rl.exc.mpr ⟨a, w, rfl, ⟨.inr ⟨dx, upd_same, by rw [upd_ne hn]; exact upd_same⟩, hx⟩, Rls.mono st (Ex.refl _) _ _ r1⟩)
        · exact p1.elim
end
end LG
end

section
set_option Elab.async false
set_option linter.all false
set_option maxRecDepth 100000
set_option maxHeartbeats 4000000
/-! LG7: the rest of the expressions; the whole check is sound for expressions. -/
namespace LG
open PySem PySem.Spec PyProof.Rows L2
theorem Out.bind_assoc {α β γ : Type} (o : Out α) (f : α → LH → Out β) (g : β → LH → Out γ) : (o.bind f).bind g = o.bind fun a L => (f a L).bind g := by
  cases o <;> rfl
section
variable {T : Tb} {N : Na} {F : Fn} {lv : Nat} {X : Cx}
/-! ### truth -/
theorem Rls.isEmpty {K : PySem.W.Frag} {H : Hp} {ρ : Rho} {xs : List LV} {vs : List V} (r : Rls K H ρ xs vs) : xs.isEmpty = vs.isEmpty := by
  have := r.length
  cases xs <;> cases vs <;> first | rfl | (simp at this; done)
theorem RKs.isEmpty {K : PySem.W.Frag} {H : Hp} {ρ : Rho} {xs : List (Key × LV)} {vs : List (Key × V)} (r : RKs K H ρ xs vs) : xs.isEmpty = vs.isEmpty := by
  cases xs with
  | nil => rw [show vs = [] from r]; rfl
  | cons x xs => obtain ⟨v, q, e, _⟩ := r; rw [e]; rfl
theorem tru_V {K : PySem.W.Frag} {H : Hp} {ρ : Rho} {L : LH} {v : LV} {x : V} {k : Bool} (rep : Rep N K H L ρ) (h : tru L v = some k) (r : Rl K H ρ v x) : TruV K x H k := by
  cases v with
  | non => cases Rl.non.mp r; simp only [tru, Option.some.injEq] at h; exact h.symm
  | bl b => cases Rl.bl.mp r; simp only [tru, Option.some.injEq] at h; exact h.symm
  | int i => cases Rl.int.mp r; simp only [tru, Option.some.injEq] at h; exact h.symm
  | str y =>
    cases Rl.str.mp r
    simp only [tru] at h
    split at h
    · rename_i hz
      simp only [Option.some.injEq] at h
      exact ⟨hz, h.symm⟩
    · cases h
  | tup xs =>
    obtain ⟨a, vs, rfl, s1, r1⟩ := Rl.tup.mp r
    simp only [tru, Option.some.injEq] at h
    exact .inr (.inl ⟨vs, s1, by rw [← r1.isEmpty]; exact h.symm⟩)
  | scr xs =>
    obtain ⟨a, vs, rfl, s1, r1⟩ := Rl.scr.mp r
    simp only [tru, Option.some.injEq] at h
    exact .inl ⟨vs, s1.sq, by rw [← r1.isEmpty]; exact h.symm⟩
  | exc c fs xs => cases h
  | ref i =>
    obtain ⟨a, h1, rfl⟩ := Rl.ref.mp r
    simp only [tru] at h
    split at h
    · rename_i xs e
      obtain ⟨a', vs, q1, q2, q3⟩ := rep.lst e
      rw [h1] at q1; cases q1
      simp only [Option.some.injEq] at h
      exact .inl ⟨vs, .inl (.inl q2), by rw [← q3.isEmpty]; exact h.symm⟩
    · rename_i xs e
      obtain ⟨a', vs, q1, q2, q3⟩ := rep.dct e
      rw [h1] at q1; cases q1
      simp only [Option.some.injEq] at h
      exact .inr (.inr ⟨vs, q2, by rw [← q3.isEmpty]; exact h.symm⟩)
    · cases h
theorem sT_of {e : Expr} {le : LE} (hE : PE X e (LTE N X.K (evE F le))) (he : ∀ whole, isTrue e X.env whole = (do let v ← whole; standAt e.pos; holding [v] (truthy v)))
    (ev : ∀ σ L, evT F le σ L = (evE F le σ L).bind fun v L1 => ofOpt (tru L1 v) L1) : PT X e (LTB N X.K (evT F le)) := by
  refine PT.of (pt_truth hE he) fun σ H Q ⟨l, L, ρ, rs, rep, p⟩ => ?_
  rw [ev] at p
  refine LT.bind rs rep p fun v x L1 H1 ρ1 s1 e1 rs1 rep1 r1 p1 => ?_
  cases e : tru L1 v with
  | none => rw [e] at p1; exact p1.elim
  | some k =>
    rw [e] at p1
    exact ⟨k, tru_V rep1 e r1, p1.here rep1 rfl⟩
/-! ### tables of the module -/
theorem strsOf_map : ∀ {xs : List LV} {ys : List Str}, strsOf xs = some ys → xs = ys.map LV.str
  | [], ys, h => by simp only [strsOf, Option.some.injEq] at h; subst h; rfl
  | x :: xs, ys, h => by
    simp only [strsOf] at h
    cases e : isStr x with
    | none => rw [e] at h; simp at h
    | some y =>
      cases e2 : strsOf xs with
      | none => rw [e, e2] at h; simp at h
      | some zs =>
        rw [e, e2] at h
        simp only [Option.bind_some, Option.map_some, Option.some.injEq] at h
        subst h
        rw [strsOf_map e2]
        cases x <;> simp [isStr] at e
        subst e; rfl
theorem Rls.strs {K : PySem.W.Frag} {H : Hp} {ρ : Rho} : ∀ {ys : List Str} {vs : List V}, Rls K H ρ (ys.map LV.str) vs → vs = ys.map V.str
  | [], vs, h => Rls.nil.mp h
  | y :: ys, vs, h => by
    obtain ⟨v, r, rfl, h1, h2⟩ := Rls.cons.mp h
    rw [Rls.strs h2, Rl.str.mp h1]; rfl
theorem idxS_at {x : Str} : ∀ {ys : List Str} {j : Nat}, idxS x ys = some j → ys[j]? = some x ∧ ∀ m, m < j → ys[m]? ≠ some x
  | [], j, h => by simp [idxS] at h
  | y :: ys, j, h => by
    simp only [idxS] at h
    split at h
    · rename_i e; cases h; exact ⟨by simp [e], fun m hm => absurd hm (Nat.not_lt_zero m)⟩
    · rename_i e
      cases e2 : idxS x ys with
      | none => rw [e2] at h; simp at h
      | some k =>
        rw [e2] at h
        simp only [Option.map_some, Option.some.injEq] at h
        subst h
        obtain ⟨h1, h2⟩ := idxS_at e2
        refine ⟨by simpa using h1, fun m hm hx => ?_⟩
        cases m with
        | zero => simp at hx; exact e hx
        | succ m => exact h2 m (by omega) (by simpa using hx)
theorem sE_gidx {g : Nat} {a : LE} {gx : Str} {x : Expr} {p apos pos : Pos} (G : Good T N F lv X) (ht : T.glos[g]? = some gx) (hg : glB X.env.scope gx = true) (hs : notStar x = true) (hp : (apos.endLine == pos.line) = true) (h : PE X x (LTE N X.K (evE F a))) :
    PE X (.Call (.Attribute (.Name gx p) "index" apos) [x] [] pos) (LTE N X.K (evE F (.gidx g a))) := by
  obtain ⟨g1, g2, g3⟩ := glB_ok hg
  cases e : F.glo g with
  | none =>
    refine ⟨fun pins s σ H Q I ⟨l, L, ρ, rs, rep, p⟩ => ?_⟩
    simp only [evE, e] at p
    exfalso
    cases e2 : evE F a l L <;> rw [e2] at p <;> exact p
  | some gv =>
    obtain ⟨u, v', h1, h2, h3, h4⟩ := G.fx.glo g gx gv ht e
    have po : PE X (.Name gx p) (tC v') := pe_glob g1 h1 h2 g2
    have all1 : [x].all notStar = true := by simp [hs]
    refine PE.of (pe_bm PySem.F.plainAttrs_tuple PySem.F.slot_tuple_index PySem.F.type_tuple_index mt_tup_index po (pa_cons h pa_nil (star_cons hs)) rfl (few_ok all1 rfl) hp (star_cons hs) rfl) fun σ H Q ⟨l, L, ρ, rs, rep, p⟩ => ?_
    simp only [evE, e] at p
    have key : ∃ xs, gv = .tup xs := by
      cases e2 : evE F a l L with
      | err x L1 => rw [e2] at p; exact p.elim
      | bad => rw [e2] at p; exact p.elim
      | ok w L1 =>
        rw [e2] at p
        simp only [Out.bind] at p
        unfold gidxV at p
        split at p
        · rename_i xs y q1; cases q1; exact ⟨xs, rfl⟩
        · exact p.elim
    obtain ⟨xs, rfl⟩ := key
    obtain ⟨b, o, rfl, hl, hc, hd⟩ := h4 xs rfl
    obtain ⟨b', vs, rfl, s1, r1⟩ := Rl.tup.mp (h3 H ρ)
    cases (show Value.ref b = Value.ref b' from h2)
    refine ⟨.inr (.inl ⟨rfl, o, hl, hc, hd⟩), ?_⟩
    refine LT.bind rs rep p fun v x L1 H1 ρ1 st1 e1 rs1 rep1 r1' p1 => ?_
    unfold gidxV at p1
    split at p1
    · rename_i xs' y q1
      cases q1
      cases Rl.str.mp r1'
      split at p1
      · rename_i ys ey
        have := strsOf_map ey
        subst this
        have ev := Rls.strs r1
        subst ev
        split at p1
        · rename_i j ej
          obtain ⟨j1, j2⟩ := idxS_at ej
          exact ⟨b, ys, y, j, rfl, rfl, st1.tup s1, j1, j2, p1.here rep1 (Rl.int.mpr rfl)⟩
        · exact p1.elim
      · exact p1.elim
    · exact p1.elim
/-- dict.get of a written dict -/
theorem kd_get2 {pins : List (Addr × Obj)} {s : Shared} {σ : L2.St} {H : Hp} {d : Addr} {es : Array DictEntry} {n : Nat} {z : Str} {t : Tok} {r : Option Value} {dv : Value} {Q : Value → Shared → Prop} (D : KDict X.K X.w d es n) (I : Inv X pins σ H s) (e : PySem.W.nsIn X.K d z = some r)
    (h : Q (r.getD dv) { s with toks := s.toks + 1 }) : wpAny (model X.prog X.w) X.A (call (.builtin "dict.get") [.ref d, .str z t, dv]) Q X.xe s := by
  have dm := PySem.W.mapOf_K (prog := X.prog) (w := X.w) I.kIn D.at_ D.lit
  refine call_meetsIn PySem.F.slot_dict_get dm.typeIs PySem.F.entry_dict_get (PySem.F.args_dict_get_3 _ _ _) (meets_dict_get_default (strKind X.prog X.w) d (PySem.strKind_is X.prog X.w z t) D.low dv) ⟨_, dm, ?_⟩
  rw [PySem.W.find_K D.at_ e]
  exact h
theorem sE_kget {g : Nat} {a d : LE} {gx : Str} {x y : Expr} {p apos pos : Pos} (G : Good T N F lv X) (ht : T.gds[g]? = some gx) (hg : glB X.env.scope gx = true) (hs : notStar x = true) (hs2 : notStar y = true) (hp : (apos.endLine == pos.line) = true)
    (h : PE X x (LTE N X.K (evE F a))) (h2 : PE X y (LTE N X.K (evE F d))) : PE X (.Call (.Attribute (.Name gx p) "get" apos) [x, y] [] pos) (LTE N X.K (evE F (.kget g a d))) := by
  obtain ⟨g1, g2, g3⟩ := glB_ok hg
  have all2 : [x, y].all notStar = true := by simp [hs, hs2]
  refine ⟨fun pins s σ H Q I ⟨l, L, ρ, rs, rep, pp⟩ => ?_⟩
  simp only [evE] at pp
  cases e : F.kd g with
  | none =>
    exfalso
    rw [e] at pp
    cases e2 : evE F a l L with
    | err x L1 => rw [e2] at pp; exact pp
    | bad => rw [e2] at pp; exact pp
    | ok w L1 =>
      rw [e2] at pp
      simp only [Out.bind] at pp
      cases e3 : evE F d l L1 <;> rw [e3] at pp <;> exact pp
  | some kvs =>
    rw [e] at pp
    obtain ⟨da, es, n, hm, D, hz⟩ := G.fx.kd g gx kvs ht e
    have po : PE X (.Name gx p) (tC (.ref da)) := pe_glob g1 hm rfl g2
    refine wpAny_Call_method (T := "dict") (attr_no rfl) (few_ok all2 rfl) hp PySem.F.plainAttrs_dict PySem.F.slot_dict_get PySem.F.type_dict_get
      (thn (po.run pins s σ H (fun v H1 => v = .ref da ∧ H1 = H) I ⟨rfl, rfl⟩) fun u s1 ⟨v, H1, I1, rv, e1, e2⟩ => ?_)
    subst e1 e2
    cases rv
    refine ⟨kd_type D I1, fun a' ea => by cases ea; exact ⟨_, I1.kIn _ _ D.at_, rfl⟩, ?_⟩
    have tr : backTo pos (starEach [x, y] X.env) = backTo pos ((false, eval x X.env) :: (false, eval y X.env) :: []) := by rw [star_cons hs, star_cons hs2]; rfl
    rw [tr]
    have go : LTE N X.K (evE F a) σ H1 (fun xx H2 => LTE N X.K (evE F d) σ H2 fun yy H3 => ∃ v u L2 ρ2, Rep N X.K H3 L2 ρ2 ∧ Rl X.K H3 ρ2 v xx ∧ Rl X.K H3 ρ2 u yy ∧ PostV N X.K (kgetV (some kvs) v u L2) H3 ρ2 Q) :=
      LT.bind rs rep pp fun v x L1 H1 ρ1 st1 e1 rs1 rep1 r1 p1 => LT.bind rs1 rep1 p1 fun u y L2 H2 ρ2 st2 e2 rs2 rep2 r2 p2 => ⟨v, u, L2, ρ2, rep2, Rl.mono st2 e2 _ _ r1, r2, p2⟩
    refine Calls.callWith_builtin rfl (Calls.evalArgs_plain (Calls.spliced_cons (thn (h.run pins s1 σ H1 _ I1 go) fun xv s2 ⟨xx, H2, I2, rx, q2⟩ =>
      Calls.spliced_cons (thn (h2.run pins s2 σ H2 _ I2 q2) fun yv s3 ⟨yy, H3, I3, ry, q3⟩ => Calls.spliced_nil ?b))))
    case b =>
      obtain ⟨v, u, L2, ρ2, rep2, r1, r2, p2⟩ := q3
      unfold kgetV at p2
      split at p2
      · rename_i kvs' z q1
        cases q1
        cases Rl.str.mp r1
        obtain ⟨t, rfl⟩ := rx
        cases el : kvs.lookup z with
        | none =>
          refine kd_get2 D I3 ((hz z).2 el) ⟨yy, H3, I3.tok _, ry, ?_⟩
          rw [el] at p2
          exact p2.here rep2 r2
        | some lvv =>
          obtain ⟨uu, v', k1, k2, k3⟩ := (hz z).1 lvv el
          refine kd_get2 D I3 k1 ⟨v', H3, I3.tok _, k2, ?_⟩
          rw [el] at p2
          exact p2.here rep2 (k3 _ _)
      · exact p2.elim
/-! ### targets -/
theorem assign_star {env : Env} : ∀ {es : List Expr}, es.all notStar = true → (assignEach es env).length = es.length ∧ (assignEach es env).findIdx? (·.1) = none
  | [], _ => ⟨rfl, rfl⟩
  | e :: es, h => by
    simp only [List.all_cons, Bool.and_eq_true] at h
    obtain ⟨h1, h2⟩ := assign_star (env := env) h.2
    have : ∃ f, assignEach (e :: es) env = (false, f) :: assignEach es env := by
      cases e <;> first | exact ⟨_, rfl⟩ | (simp [notStar] at h; done)
    obtain ⟨f, ef⟩ := this
    rw [ef]
    refine ⟨by simp [h1], ?_⟩
    rw [List.findIdx?_cons]
    simp [h2]
theorem names_star : ∀ {is : List Nat} {es : List Expr} {N : List Str} {lb : Str → Bool}, is.length = es.length → ((is.zip es).all fun p => match p.2 with | .Name x _ => decide (N[p.1]? = some x) && lb x | _ => false) = true → es.all notStar = true
  | [], [], _, _, _, _ => rfl
  | [], _ :: _, _, _, h, _ => by simp at h
  | _ :: _, [], _, _, h, _ => by simp at h
  | i :: is, e :: es, N, sc, hl, hc => by
    simp only [List.zip_cons_cons, List.all_cons, Bool.and_eq_true] at hc
    have := names_star (is := is) (es := es) (by simpa using hl) hc.2
    cases e with
    | Name x p => simp [notStar, this]
    | _ => simp at hc
/-- the reading of a target -/
def gsOf : List Nat → TGs
  | [] => gNil
  | i :: is => gCons (gName i) (gsOf is)
def gOf (K : PySem.W.Frag) : LTg → TG
  | .name i => gName i
  | .tup is => gTup K is.length (gsOf is)
def inOwn (own : List Nat) : LTg → Prop
  | .name i => i ∈ own
  | .tup is => ∀ i ∈ is, i ∈ own
theorem gsOf_ok {K : PySem.W.Frag} {H : Hp} {ρ : Rho} : ∀ (is : List Nat) (xs : List LV) (vs : List V) (l : LSt) (σ : L2.St) (Q : L2.St → Hp → Prop), xs.length = is.length → Rls K H ρ xs vs → RS K H ρ l σ →
      (∀ σ', RS K H ρ (setAll is xs l) σ' → (∀ own : List Nat, (∀ i ∈ is, i ∈ own) → L2.wipe σ' own = L2.wipe σ own) → Q σ' H) → gsOf is vs σ H Q
  | [], xs, vs, l, σ, Q, hl, r, rs, q => by
    have : xs = [] := List.eq_nil_of_length_eq_zero hl
    subst this
    exact ⟨Rls.nil.mp r, q σ rs fun _ _ => rfl⟩
  | i :: is, xs, vs, l, σ, Q, hl, r, rs, q => by
    cases xs with
    | nil => simp at hl
    | cons y ys =>
      obtain ⟨v, w, rfl, r1, r2⟩ := Rls.cons.mp r
      refine ⟨v, w, rfl, ?_⟩
      refine gsOf_ok is ys w _ _ Q (by simpa using hl) r2 (rs.set r1) fun σ' rs' wp => q σ' rs' fun own ho => ?_
      rw [wp own fun j hj => ho j (List.mem_cons_of_mem _ hj)]
      exact wipe_set (ho i List.mem_cons_self)
theorem gOf_ok {K : PySem.W.Frag} {H : Hp} {ρ : Rho} {tg : LTg} {x : LV} {v : V} {l l' : LSt} {L : LH} {σ : L2.St} {Q : L2.St → Hp → Prop} (ht : tgt tg x l L = some l') (r : Rl K H ρ x v) (rs : RS K H ρ l σ)
    (q : ∀ σ', RS K H ρ l' σ' → (∀ own : List Nat, inOwn own tg → L2.wipe σ' own = L2.wipe σ own) → Q σ' H) : gOf K tg v σ H Q := by
  cases tg with
  | name i =>
    simp only [tgt, Option.some.injEq] at ht
    subst ht
    exact q _ (rs.set r) fun own ho => wipe_set ho
  | tup is =>
    simp only [tgt] at ht
    split at ht
    · rename_i xs
      split at ht
      · rename_i hl
        simp only [Option.some.injEq] at ht
        subst ht
        obtain ⟨a, vs, rfl, s1, r1⟩ := Rl.tup.mp r
        exact ⟨a, vs, rfl, s1, by rw [← r1.length]; exact hl, gsOf_ok is xs vs l σ Q hl r1 rs q⟩
      · cases ht
    · cases ht
theorem sGs {lb : Str → Bool} (nd : X.N.Nodup) (hl : ∀ x, lb x = true → L2.Loc X.env.scope x ∧ (X.fn x = true ∨ X.env.scope.names.lookup x = some .local)) : ∀ (is : List Nat) (es : List Expr), is.length = es.length →
    ((is.zip es).all fun p => match p.2 with | .Name x _ => decide (X.N[p.1]? = some x) && lb x | _ => false) = true → PGs X es (gsOf is)
  | [], [], _, _ => pgs_nil
  | [], _ :: _, h, _ => by simp at h
  | _ :: _, [], h, _ => by simp at h
  | i :: is, e :: es, hln, hc => by
    simp only [List.zip_cons_cons, List.all_cons, Bool.and_eq_true] at hc
    cases e with
    | Name x pos =>
      obtain ⟨h1, h2⟩ := hc
      simp only [Bool.and_eq_true, decide_eq_true_eq] at h1
      obtain ⟨a, b⟩ := hl x h1.2
      exact pgs_cons (pg_name nd h1.1 a b) (sGs nd hl is es (by simpa using hln) h2)
    | _ => simp at hc
theorem sG {tg : LTg} {e : Expr} {lb : Str → Bool} (nd : X.N.Nodup) (hc : X.calm = true) (hl : ∀ x, lb x = true → L2.Loc X.env.scope x ∧ (X.fn x = true ∨ X.env.scope.names.lookup x = some .local)) (h : ckTg X.N lb tg e = true) : PG X e (gOf X.K tg) := by
  cases tg with
  | name i =>
    cases e with
    | Name x pos =>
      simp only [ckTg, Bool.and_eq_true, decide_eq_true_eq] at h
      obtain ⟨a, b⟩ := hl x h.2
      exact pg_name nd h.1 a b
    | _ => simp [ckTg] at h
  | tup is =>
    cases e with
    | Tuple es k pos =>
      simp only [ckTg, Bool.and_eq_true, decide_eq_true_eq] at h
      obtain ⟨a1, a2⟩ := assign_star (env := X.env) (names_star h.1 h.2)
      exact pg_tup (k := k) (n := is.length) hc (sGs nd hl is es h.1 h.2) (a1.trans h.1.symm) a2
    | _ => simp [ckTg] at h
/-! ### comprehensions -/
theorem Good.blk (G : Good T N F lv X) (s : Shared) (H : Hp) (scope : Scope) (C : Addr) (cl : List (Str × Addr)) (fp : List Addr) : Good T N F lv (X.blk s H scope (compEnvC scope cl C X.env) fp) where
  calm := G.calm
  nd := G.nd
  room := G.room
  fx := G.fx
theorem lclB_ok {scope : Scope} {s : Shared} {H : Hp} {C : Addr} {cl : List (Str × Addr)} {fp : List Addr} (x : Str) (h : lclB (relS scope X.env.scope) x = true) :
    L2.Loc (X.blk s H scope (compEnvC scope cl C X.env) fp).env.scope x ∧ ((X.blk s H scope (compEnvC scope cl C X.env) fp).fn x = true ∨ (X.blk s H scope (compEnvC scope cl C X.env) fp).env.scope.names.lookup x = some .local) := by
  have e := of_decide_eq_true h
  exact ⟨.inl e, .inr e⟩
def PostU (N : Na) (K : PySem.W.Frag) (o : Out Unit) (H : Hp) (ρ : Rho) (P : Hp → Prop) (j : Nat) (D : Addr) : Prop :=
  match o with
  | .ok _ L' => ∀ H' ρ', Sty H H' → Ex ρ ρ' → Rep N K H' L' ρ' → ρ' j = some D → P H'
  | _ => False
theorem PostU.mono {K : PySem.W.Frag} {o : Out Unit} {H H' : Hp} {ρ ρ' : Rho} {P : Hp → Prop} {j : Nat} {D : Addr} (s : Sty H H') (e : Ex ρ ρ') (h : PostU N K o H ρ P j D) : PostU N K o H' ρ' P j D := by
  cases o with
  | ok a L' => exact fun H2 ρ2 s2 e2 => h H2 ρ2 (s.trans s2) (e.trans e2)
  | err x L' => exact h
  | bad => exact h
def ttOf (N : Na) (K : PySem.W.Frag) (F : Fn) (t : Option Unit) (c : LE) : TT := match t with
  | none => tYes
  | some _ => LTB N K (evT F c)
/-- the turns of a comprehension: D (n) the new list -/
theorem comp_loop {own : List Nat} {tg : LTg} {t : Option Unit} {c e' : LE} {tt : TT} {S : Src} {J : It} {Hs Hb : Hp} {ρs ρb : Rho} {Lb : LH} {l : LSt} {σ : L2.St} {n : Nat} {D : Addr} {Qd : Hp → Prop} (hin : inOwn own tg)
    (htc : tt = ttOf N X.K F t c) (drv : Drv N X.K J S Hs ρs) (sb : Sty Hs Hb) (eb : Ex ρs ρb) (rep0 : Rep N X.K Hb Lb ρb) (rsb : RS X.K Hb ρb l σ) (hD : ρb n = some D)
    (p0 : PostU N X.K (compL S n (compB tg (wipeL l own) (optT t (evT F c)) (evE F e')) S.items Lb) Hb ρb Qd n D) :
    ∃ W : Nat → Nat → Hp → Prop, (∃ m, W 0 m Hb) ∧ ∀ i m H, W i m H → (J.stop i H ∧ Qd H) ∨ (J.go i H ∧ ∃ Nx : Hp → Prop, (∀ H', Nx H' → ∃ m', m' < m ∧ W (i + 1) m' H') ∧ ∀ x H', J.yld i H x H' → gOf X.K tg x (_root_.L2.wipe σ own) H' fun σ2 H2 => _root_.L2.wipe σ2 own = _root_.L2.wipe σ own ∧ tt σ2 H2 fun b H3 =>
      if b = true then LTE N X.K (evE F e') σ2 H3 fun y H4 => ∃ acc, H4 D = some (.lst acc) ∧ acc.length < sizeLine ∧ Nx (upd H4 D (.lst (acc ++ [y]))) else Nx H3) := by
    generalize hbody : compB tg (wipeL l own) (optT t (evT F c)) (evE F e') = body at p0
    refine ⟨fun i m H => ∃ L ρ, Sty Hb H ∧ Ex ρb ρ ∧ Rep N X.K H L ρ ∧ i ≤ S.items.length ∧ m = S.items.length - i ∧ PostU N X.K (compL S n body (S.items.drop i) L) H ρ Qd n D,
      ⟨_, Lb, ρb, Sty.refl _, Ex.refl _, rep0, Nat.zero_le _, rfl, by rw [List.drop_zero]; exact p0⟩, ?_⟩
    rintro i m H2 ⟨L2, ρ2, s2, e2, rep2, hi2, hm, p2⟩
    have hj : ρ2 n = some D := e2 _ _ hD
    by_cases hlt : i < S.items.length
    · right
      have ed : S.items.drop i = S.items[i] :: S.items.drop (i + 1) := List.drop_eq_getElem_cons hlt
      rw [ed] at p2
      unfold compL at p2
      split at p2
      · rename_i hk
        obtain ⟨dgo, _⟩ := drv i H2 L2 ρ2 (sb.trans s2) (eb.trans e2) rep2 hk
        obtain ⟨go, yl⟩ := dgo S.items[i] (List.getElem?_eq_getElem hlt)
        refine ⟨go, fun H' => ∃ L ρ, Sty Hb H' ∧ Ex ρb ρ ∧ Rep N X.K H' L ρ ∧ PostU N X.K (compL S n body (S.items.drop (i + 1)) L) H' ρ Qd n D,
          fun H' ⟨L', ρ', q1, q2, q3, q4⟩ => ⟨S.items.length - (i + 1), by omega, L', ρ', q1, q2, q3, hlt, rfl, q4⟩, fun v H3 y => ?_⟩
        obtain ⟨ρ3, s3, e3, rep3, rv⟩ := yl v H3 y
        have hb1 : body S.items[i] L2 = compB tg (wipeL l own) (optT t (evT F c)) (evE F e') S.items[i] L2 := by rw [← hbody]
        rw [hb1] at p2
        unfold compB at p2
        cases et : tgt tg S.items[i] (wipeL l own) L2 with
        | none => rw [et] at p2; exact p2.elim
        | some l2 =>
          rw [et] at p2
          have rs3 : RS X.K H3 ρ3 (wipeL l own) (_root_.L2.wipe σ own) := (rsb.mono (s2.trans s3) (e2.trans e3)).wipe own
          have p3 := p2.mono s3 e3
          refine gOf_ok et rv rs3 fun σ2 rs4 wp => ?_
          refine ⟨by rw [wp own hin]; exact wipe_wipe, ?_⟩
          -- the item is laid
          have elt : ∀ (H4 : Hp) (L4 : LH) (ρ4 : Rho), Sty H3 H4 → Ex ρ3 ρ4 → RS X.K H4 ρ4 l2 σ2 → Rep N X.K H4 L4 ρ4 →
              PostU N X.K (((evE F e' l2 L4).bind fun v L5 => (.ok (some v) L5 : Out (Option LV))).bind fun r L' => match r with
                  | none => compL S n body (S.items.drop (i + 1)) L'
                  | some v => match L'.at_ n with
                    | some (.lst acc) => if acc.length < sizeLine then compL S n body (S.items.drop (i + 1)) (L'.put n (.lst (acc ++ [v]))) else .bad
                    | _ => .bad) H4 ρ4 Qd n D →
              LTE N X.K (evE F e') σ2 H4 fun y H5 => ∃ acc, H5 D = some (.lst acc) ∧ acc.length < sizeLine ∧ ∃ L ρ, Sty Hb (upd H5 D (.lst (acc ++ [y]))) ∧ Ex ρb ρ ∧ Rep N X.K (upd H5 D (.lst (acc ++ [y]))) L ρ ∧
                PostU N X.K (compL S n body (S.items.drop (i + 1)) L) (upd H5 D (.lst (acc ++ [y]))) ρ Qd n D := fun H4 L4 ρ4 s4 e4 rs4 rep4 p4 => by
            refine ⟨l2, L4, ρ4, rs4, rep4, ?_⟩
            cases ee : evE F e' l2 L4 with
            | err x L5 => rw [ee] at p4; exact p4.elim
            | bad => rw [ee] at p4; exact p4.elim
            | ok v5 L5 =>
              rw [ee] at p4
              simp only [Out.bind] at p4
              intro H5 ρ5 w s5 e5 rep5 rw5
              split at p4
              · rename_i acc ea
                split at p4
                · rename_i hz
                  have hj5 : ρ5 n = some D := e5 _ _ (e4 _ _ (e3 _ _ hj))
                  obtain ⟨D', vs, q1, q2, q3⟩ := rep5.lst ea
                  rw [hj5] at q1; cases q1
                  have S5 := rep5.styPut (u := .lst (vs ++ [w])) hj5 ea
                  refine ⟨vs, q2, by rw [← q3.length]; exact hz, L5.put n (.lst (acc ++ [v5])), ρ5, ((s2.trans s3).trans (s4.trans s5)).trans S5, (e2.trans e3).trans (e4.trans e5), ?_, p4.mono (s5.trans S5) e5⟩
                  exact rep5.put hj5 ea (fun z => z) ⟨vs ++ [w], upd_same, Rls.append (Rls.mono S5 (Ex.refl _) _ _ q3) (Rls.mk (Rl.mono S5 (Ex.refl _) _ _ rw5) Rls.nil')⟩
                · exact p4.elim
              · exact p4.elim
          cases t with
          | none =>
            simp only [ttOf] at htc
            subst htc
            simp only [optT] at p3
            unfold tYes
            dsimp only
            rw [if_pos rfl]
            exact elt H3 L2 ρ3 (Sty.refl _) (Ex.refl _) rs4 rep3 p3
          | some u =>
            simp only [ttOf] at htc
            subst htc
            refine ⟨l2, L2, ρ3, rs4, rep3, ?_⟩
            simp only [optT] at p3
            cases ec : evT F c l2 L2 with
            | err x L4 => rw [ec] at p3; exact p3.elim
            | bad => rw [ec] at p3; exact p3.elim
            | ok b L4 =>
              rw [ec] at p3
              intro H4 ρ4 b' s4 e4 rep4 eb
              subst eb
              cases b with
              | true =>
                rw [if_pos rfl]
                exact elt H4 L4 ρ4 s4 e4 (rs4.mono s4 e4) rep4 (p3.mono s4 e4)
              | false =>
                rw [if_neg Bool.false_ne_true]
                refine ⟨L4, ρ4, (s2.trans s3).trans s4, (e2.trans e3).trans e4, rep4, p3.mono s4 e4⟩
      · exact p2.elim
    · left
      have ei : i = S.items.length := by omega
      subst ei
      rw [List.drop_length] at p2
      unfold compL at p2
      split at p2
      · rename_i hk
        obtain ⟨_, dst⟩ := drv S.items.length H2 L2 ρ2 (sb.trans s2) (eb.trans e2) rep2 hk
        exact ⟨dst (Nat.le_refl _), p2 H2 ρ2 (Sty.refl _) (Ex.refl _) rep2 hj⟩
      · exact p2.elim
theorem comp_core {own : List Nat} {tg : LTg} {it : LI} {t : Option Unit} {c e' : LE} {elt tgx iter : Expr} {ifs : List Expr} {scope : Scope} (G : Good T N F lv X)
    (hb : blkC X.N X.env.scope scope (own.map fun i => (X.N.getD i "", i)) = true)
    (hto : (match tg with
        | .name i => own.contains i
        | .tup is => is.all own.contains) = true) (htg : ckTg X.N (lclB (relS scope X.env.scope)) tg tgx = true) (hset : notSet iter = true) (hi : PI X tgx iter (LTI N X.K (evI F it)))
    (hc : match t, ifs with
        | none, [] => True
        | some _, [q] => ∀ (s : Shared) (H : Hp) (C : Addr) (cl : List (Str × Addr)) (fp : List Addr), PT (X.blk s H scope (compEnvC scope cl C X.env) fp) q (LTB N X.K (evT F c))
        | _, _ => False)
    (he : ∀ (s : Shared) (H : Hp) (C : Addr) (cl : List (Str × Addr)) (fp : List Addr), PE (X.blk s H scope (compEnvC scope cl C X.env) fp) elt (LTE N X.K (evE F e'))) :
    ∃ tt : TT, (∀ (s : Shared) (H : Hp) (C : Addr) (cl : List (Str × Addr)) (fp : List Addr), PTs (X.blk s H scope (compEnvC scope cl C X.env) fp) ifs tt) ∧
      ∀ σ H Q, LTE N X.K (evE F (.comp own tg it t c e')) σ H Q → tLc (LTI N X.K (evI F it)) (gOf X.K tg) tt (LTE N X.K (evE F e')) ((own.map fun i => (X.N.getD i "", i)).map (·.2)) σ H Q := by
  have eown : (own.map fun i => (X.N.getD i "", i)).map (·.2) = own := by
    rw [List.map_map]
    exact List.map_id' own
  have hin : inOwn own tg := by
    cases tg with
    | name i => simpa [inOwn] using hto
    | tup is =>
      simp only [List.all_eq_true, List.contains_iff_mem] at hto
      exact hto
  obtain ⟨tt, ht, htc⟩ : ∃ tt : TT, (∀ (s : Shared) (H : Hp) (C : Addr) (cl : List (Str × Addr)) (fp : List Addr), PTs (X.blk s H scope (compEnvC scope cl C X.env) fp) ifs tt) ∧
      tt = ttOf N X.K F t c := by
    cases t with
    | none =>
      cases ifs with
      | nil => exact ⟨tYes, fun _ _ _ _ _ => pts_nil, rfl⟩
      | cons q qs => exact hc.elim
    | some u =>
      cases ifs with
      | nil => exact hc.elim
      | cons q qs =>
        cases qs with
        | nil => exact ⟨LTB N X.K (evT F c), fun s H C cl fp => pts_one (hc s H C cl fp), rfl⟩
        | cons q2 qs => exact hc.elim
  refine ⟨tt, ht, fun σ H Q ⟨l, L, ρ, rs, rep, p⟩ => ?_⟩
  rw [eown]
  simp only [evE] at p
  refine ⟨l, L, ρ, rs, rep, ?_⟩
  cases e1 : evI F it l L with
  | err x L1 => rw [e1] at p; exact p.elim
  | bad => rw [e1] at p; exact p.elim
  | ok S L1 =>
    rw [e1] at p
    intro H1 ρ1 st ex rep1 J drv D hD
    simp only [Out.bind] at p
    -- the new list
    have st0 : Sty H1 (upd H1 D (.lst [])) := Sty.new hD
    have ex0 := rep1.exNew D
    have rep0 : Rep N X.K (upd H1 D (.lst [])) (L1.new (.lst [])) (rhoNew ρ1 L1.n D) := rep1.new hD (fun z => z) ⟨[], upd_same, Rls.nil'⟩
    have p0 : PostU N X.K (compL S L1.n (compB tg (wipeL l own) (optT t (evT F c)) (evE F e')) S.items (L1.new (.lst []))) (upd H1 D (.lst [])) (rhoNew ρ1 L1.n D) (fun H' => Q (.ref D) H') L1.n D := by
      cases e2 : compL S L1.n (compB tg (wipeL l own) (optT t (evT F c)) (evE F e')) S.items (L1.new (.lst [])) with
      | err x L2 => rw [e2] at p; exact p.elim
      | bad => rw [e2] at p; exact p.elim
      | ok u L2 =>
        rw [e2] at p
        intro H' ρ' s' e' rep' hj
        exact p H' ρ' _ (st.trans (st0.trans s')) (ex.trans (ex0.trans e')) rep' (Rl.ref.mpr ⟨D, hj, rfl⟩)
    exact comp_loop hin htc drv st0 ex0 rep0 ((rs.mono st ex).mono st0 ex0) rhoNew_self p0
theorem sE_comp {own : List Nat} {tg : LTg} {it : LI} {t : Option Unit} {c e' : LE} {elt tgx iter : Expr} {ifs : List Expr} {scope : Scope} {pos : Pos} (G : Good T N F lv X)
    (hb : blkC X.N X.env.scope scope (own.map fun i => (X.N.getD i "", i)) = true)
    (hto : (match tg with
        | .name i => own.contains i
        | .tup is => is.all own.contains) = true) (htg : ckTg X.N (lclB (relS scope X.env.scope)) tg tgx = true) (hset : notSet iter = true) (hi : PI X tgx iter (LTI N X.K (evI F it)))
    (hc : match t, ifs with
        | none, [] => True
        | some _, [q] => ∀ (s : Shared) (H : Hp) (C : Addr) (cl : List (Str × Addr)) (fp : List Addr), PT (X.blk s H scope (compEnvC scope cl C X.env) fp) q (LTB N X.K (evT F c))
        | _, _ => False)
    (he : ∀ (s : Shared) (H : Hp) (C : Addr) (cl : List (Str × Addr)) (fp : List Addr), PE (X.blk s H scope (compEnvC scope cl C X.env) fp) elt (LTE N X.K (evE F e'))) :
    PE X (.ListComp elt [⟨tgx, iter, ifs, 0⟩] scope pos) (LTE N X.K (evE F (.comp own tg it t c e'))) := by
  obtain ⟨tt, ht, imp⟩ := comp_core G hb hto htg hset hi hc he
  exact PE.of (pe_lc (tg := tgx) (pos := pos) (g := gOf X.K tg) (tt := tt) G.calm G.nd hi (blkOk_by hb) (fun s H C cl fp => sG (X := X.blk s H scope (compEnvC scope cl C X.env) fp) G.nd G.calm (fun x hx => lclB_ok x hx) htg) ht he (set_no hset)) imp
theorem yes_of {σ : L2.St} {H : Hp} {A B : Hp → Prop} (h : A H) : tYes σ H (fun b H => if b = true then A H else B H) := by
  have : (if true = true then A H else B H) := by rw [if_pos rfl]; exact h
  exact this
/-- two sources -/
theorem comp2_core {own own1 : List Nat} {tg tg1 : LTg} {it it1 : LI} {e' : LE} {tgx tgx1 iter iter1 elt : Expr} {scope : Scope} (G : Good T N F lv X)
    (hin : inOwn own tg) (hin1 : inOwn own1 tg1) :
      ∀ σ H Q, LTE N X.K (evE F (.comp2 own own1 tg it tg1 it1 e')) σ H Q → tLc2 (LTI N X.K (evI F it)) (gOf X.K tg) tYes (LTI N X.K (evI F it1)) (gOf X.K tg1) tYes (LTE N X.K (evE F e')) own own1 σ H Q := by
  intro σ H Q ⟨l, L, ρ, rs, rep, p⟩
  simp only [evE] at p
  refine ⟨l, L, ρ, rs, rep, ?_⟩
  cases e1 : evI F it l L with
  | err x L1 => rw [e1] at p; exact p.elim
  | bad => rw [e1] at p; exact p.elim
  | ok S L1 =>
    rw [e1] at p
    intro H1 ρ1 st ex rep1 J drv D hD
    simp only [Out.bind] at p
    have st0 : Sty H1 (upd H1 D (.lst [])) := Sty.new hD
    have ex0 := rep1.exNew D
    have rep0 : Rep N X.K (upd H1 D (.lst [])) (L1.new (.lst [])) (rhoNew ρ1 L1.n D) := rep1.new hD (fun z => z) ⟨[], upd_same, Rls.nil'⟩
    have rs0 := (rs.mono st ex).mono st0 ex0
    generalize hbody : comp2B tg (wipeL l own) (evI F it1) L1.n (fun σ2 => compB tg1 (wipeL σ2 own1) none (evE F e')) = body at p
    have p0 : PostU N X.K (comp2L S body S.items (L1.new (.lst []))) (upd H1 D (.lst [])) (rhoNew ρ1 L1.n D) (fun H' => Q (.ref D) H') L1.n D := by
      cases e2 : comp2L S body S.items (L1.new (.lst [])) with
      | err x L2 => rw [e2] at p; exact p.elim
      | bad => rw [e2] at p; exact p.elim
      | ok u L2 =>
        rw [e2] at p
        intro H' ρ' s' e' rep' hj
        exact p H' ρ' _ (st.trans (st0.trans s')) (ex.trans (ex0.trans e')) rep' (Rl.ref.mpr ⟨D, hj, rfl⟩)
    refine ⟨fun i m H => ∃ L ρ, Sty (upd H1 D (.lst [])) H ∧ Ex (rhoNew ρ1 L1.n D) ρ ∧ Rep N X.K H L ρ ∧ i ≤ S.items.length ∧ m = S.items.length - i ∧ PostU N X.K (comp2L S body (S.items.drop i) L) H ρ (fun H' => Q (.ref D) H') L1.n D,
      ⟨_, L1.new (.lst []), rhoNew ρ1 L1.n D, Sty.refl _, Ex.refl _, rep0, Nat.zero_le _, rfl, by rw [List.drop_zero]; exact p0⟩, ?_⟩
    rintro i m H2 ⟨L2, ρ2, s2, e2, rep2, hi2, hm, p2⟩
    have hj : ρ2 L1.n = some D := e2 _ _ rhoNew_self
    by_cases hlt : i < S.items.length
    · right
      have ed : S.items.drop i = S.items[i] :: S.items.drop (i + 1) := List.drop_eq_getElem_cons hlt
      rw [ed] at p2
      unfold comp2L at p2
      split at p2
      · rename_i hk
        obtain ⟨dgo, _⟩ := drv i H2 L2 ρ2 (st0.trans s2) (ex0.trans e2) rep2 hk
        obtain ⟨go, yl⟩ := dgo S.items[i] (List.getElem?_eq_getElem hlt)
        refine ⟨go, fun H' => ∃ L ρ, Sty (upd H1 D (.lst [])) H' ∧ Ex (rhoNew ρ1 L1.n D) ρ ∧ Rep N X.K H' L ρ ∧ PostU N X.K (comp2L S body (S.items.drop (i + 1)) L) H' ρ (fun H' => Q (.ref D) H') L1.n D,
          fun H' ⟨L', ρ', q1, q2, q3, q4⟩ => ⟨S.items.length - (i + 1), by omega, L', ρ', q1, q2, q3, hlt, rfl, q4⟩, fun v H3 y => ?_⟩
        obtain ⟨ρ3, s3, e3, rep3, rv⟩ := yl v H3 y
        have hb1 : body S.items[i] L2 = comp2B tg (wipeL l own) (evI F it1) L1.n (fun σ2 => compB tg1 (wipeL σ2 own1) none (evE F e')) S.items[i] L2 := by rw [← hbody]
        rw [hb1] at p2
        unfold comp2B at p2
        cases et : tgt tg S.items[i] (wipeL l own) L2 with
        | none => rw [et] at p2; exact p2.elim
        | some l2 =>
          rw [et] at p2
          have rs3 : RS X.K H3 ρ3 (wipeL l own) (_root_.L2.wipe σ own) := (rs0.mono (s2.trans s3) (e2.trans e3)).wipe own
          have p3 := p2.mono s3 e3
          refine gOf_ok et rv rs3 fun σ2 rs4 wp => ?_
          refine ⟨by rw [wp own hin]; exact wipe_wipe, ?_⟩
          refine yes_of ?_
          dsimp only at p3
          refine ⟨l2, L2, ρ3, rs4, rep3, ?_⟩
          cases ei : evI F it1 l2 L2 with
          | err x L4 => rw [ei] at p3; exact p3.elim
          | bad => rw [ei] at p3; exact p3.elim
          | ok S4 L4 =>
            rw [ei] at p3
            simp only [Out.bind] at p3
            intro H4 ρ4 s4 e4 rep4 J4 drv4
            refine comp_loop (t := none) (c := .dct0) hin1 rfl drv4 (Sty.refl _) (Ex.refl _) rep4 (rs4.mono s4 e4) (e4 _ _ (e3 _ _ hj)) ?_
            have p4 := p3.mono s4 e4
            simp only [optT]
            cases ec : compL S4 L1.n (compB tg1 (wipeL l2 own1) none (evE F e')) S4.items L4 with
            | err x L5 => rw [ec] at p4; exact p4.elim
            | bad => rw [ec] at p4; exact p4.elim
            | ok u L5 =>
              rw [ec] at p4
              intro H5 ρ5 s5 e5 rep5 _
              exact ⟨L5, ρ5, (s2.trans s3).trans (s4.trans s5), (e2.trans e3).trans (e4.trans e5), rep5, p4.mono s5 e5⟩
      · exact p2.elim
    · left
      have ei : i = S.items.length := by omega
      subst ei
      rw [List.drop_length] at p2
      unfold comp2L at p2
      split at p2
      · rename_i hk
        obtain ⟨_, dst⟩ := drv S.items.length H2 L2 ρ2 (st0.trans s2) (ex0.trans e2) rep2 hk
        exact ⟨dst (Nat.le_refl _), p2 H2 ρ2 (Sty.refl _) (Ex.refl _) rep2 hj⟩
      · exact p2.elim
theorem own_eq {NN : List Str} {own : List Nat} : (own.map fun i => (NN.getD i "", i)).map (·.2) = own := by
  rw [List.map_map]
  exact List.map_id' own
theorem sE_comp2 {own own1 : List Nat} {tg tg1 : LTg} {it it1 : LI} {e' : LE} {tgx tgx1 iter iter1 elt : Expr} {scope : Scope} {pos : Pos} (G : Good T N F lv X)
    (hb : blkC X.N X.env.scope scope (own.map fun i => (X.N.getD i "", i)) = true) (hin : inOwn own tg) (hin1 : inOwn own1 tg1) (hv : ∀ i ∈ own1, i ∈ own)
    (htg : ckTg X.N (lclB (relS scope X.env.scope)) tg tgx = true) (htg1 : ckTg X.N (lclB (relS scope X.env.scope)) tg1 tgx1 = true) (hset : notSet iter = true) (hset1 : notSet iter1 = true) (hi : PI X tgx iter (LTI N X.K (evI F it)))
    (hi1 : ∀ (s : Shared) (H : Hp) (C : Addr) (cl : List (Str × Addr)) (fp : List Addr), PI (X.blk s H scope (compEnvC scope cl C X.env) fp) tgx1 iter1 (LTI N X.K (evI F it1)))
    (he : ∀ (s : Shared) (H : Hp) (C : Addr) (cl : List (Str × Addr)) (fp : List Addr), PE (X.blk s H scope (compEnvC scope cl C X.env) fp) elt (LTE N X.K (evE F e'))) :
    PE X (.ListComp elt [⟨tgx, iter, [], 0⟩, ⟨tgx1, iter1, [], 0⟩] scope pos) (LTE N X.K (evE F (.comp2 own own1 tg it tg1 it1 e'))) := by
  refine PE.of (pe_lc2 (tg := tgx) (tg1 := tgx1) (pos := pos) (g := gOf X.K tg) (g1 := gOf X.K tg1) (vs1 := own1) G.calm G.nd hi (blkOk_by hb) (by rw [own_eq]; exact hv) (fun s H C cl fp => sG (X := X.blk s H scope (compEnvC scope cl C X.env) fp) G.nd G.calm (fun x hx => lclB_ok x hx) htg) (fun _ _ _ _ _ => pts_nil) hi1
    (fun s H C cl fp => sG (X := X.blk s H scope (compEnvC scope cl C X.env) fp) G.nd G.calm (fun x hx => lclB_ok x hx) htg1) (fun _ _ _ _ _ => pts_nil) he (set_no hset) (fun env => set_no hset1)) fun σ H Q q => ?_
  rw [own_eq]
  exact comp2_core (X := X) (tgx := tgx) (tgx1 := tgx1) (iter := iter) (iter1 := iter1) (elt := elt) (scope := scope) G hin hin1 σ H Q q
end
end LG
end

section
set_option Elab.async false
set_option linter.all false
set_option maxRecDepth 100000
set_option maxHeartbeats 4000000
/-! LG8: a checked expression computes what the small language says. -/
namespace LG
open PySem PySem.Spec PyProof.Rows L2

def OkE (T : Tb) (N : Na) (F : Fn) (lv : Nat) (le : LE) : Prop := ∀ (X : Cx) (e : Expr), Good T N F lv X → ckE T X.N le X.env.scope e = true → PE X e (LTE N X.K (evE F le)) ∧ PT X e (LTB N X.K (evT F le))
theorem PK.of {X : Cx} {kws : List Keyword} {t t' : TA} (h : PK X kws t) (c : ∀ σ H Q, t' σ H Q → t σ H Q) : PK X kws t' := ⟨fun pos pins s σ H Q I q => h.run pos pins s σ H Q I (c _ _ _ q)⟩
structure EsOk (N : Na) (F : Fn) (X : Cx) (es : LEs) (l : List Expr) : Prop where
  pa : l.all notStar = true → PA X l (LTA N X.K (evA F es))
  an : ∀ pos, PE X (.BoolOp .And l pos) (LTE N X.K (evAnd F es))
  or : ∀ pos, PE X (.BoolOp .Or l pos) (LTE N X.K (evOr F es))
  ta : ∀ pos, PW X (.BoolOp .And l pos) (LTB N X.K (evTA F es))
  to : ∀ pos, PW X (.BoolOp .Or l pos) (LTB N X.K (evTO F es))
  nl : l = [] → es = .nil
  pk : ∀ kws : List Keyword, kws.map (·.value) = l → PK X kws (LTA N X.K (evA F es))
def OkEs (T : Tb) (N : Na) (F : Fn) (lv : Nat) (es : LEs) : Prop := ∀ (X : Cx) (l : List Expr), Good T N F lv X → ckEs T X.N es X.env.scope l = true → EsOk N F X es l
def OkI (T : Tb) (N : Na) (F : Fn) (lv : Nat) (it : LI) : Prop := ∀ (X : Cx) (tg e : Expr), Good T N F lv X → ckI T X.N it X.env.scope e = true → PI X tg e (LTI N X.K (evI F it))
section
variable {T : Tb} {N : Na} {F : Fn} {lv : Nat}
theorem PE.bad {X : Cx} {e : Expr} {f : LSt → LH → Out LV} (h : ∀ l L, f l L = .bad) : PE X e (LTE N X.K f) := ⟨fun pins s σ H Q I ⟨l, L, ρ, rs, rep, p⟩ => by rw [h] at p; exact p.elim⟩
theorem PT.bad {X : Cx} {e : Expr} {f : LSt → LH → Out Bool} (h : ∀ l L, f l L = .bad) : PT X e (LTB N X.K f) := ⟨fun pins s σ H Q I ⟨l, L, ρ, rs, rep, p⟩ => by rw [h] at p; exact p.elim⟩
theorem PW.bad {X : Cx} {e : Expr} {f : LSt → LH → Out Bool} (h : ∀ l L, f l L = .bad) : PW X e (LTB N X.K f) := ⟨fun wh pins s σ H Q I ⟨l, L, ρ, rs, rep, p⟩ => by rw [h] at p; exact p.elim⟩
theorem EsOk.nil' {X : Cx} : EsOk N F X .nil [] where
  pa := fun _ => sA_nil
  an := fun _ => PE.bad fun _ _ => by simp only [evAnd]
  or := fun _ => PE.bad fun _ _ => by simp only [evOr]
  ta := fun _ => PW.bad fun _ _ => by simp only [evTA]
  to := fun _ => PW.bad fun _ _ => by simp only [evTO]
  nl := fun _ => rfl
  pk := fun kws hk => by
    cases kws with
    | cons k kws => simp at hk
    | nil =>
      refine PK.of pk_nil fun σ H Q ⟨l, L, ρ, rs, rep, p⟩ => ?_
      simp only [evA] at p
      exact p.here rep Rls.nil'
theorem EsOk.cons' {X : Cx} {e : LE} {es : LEs} {x : Expr} {l : List Expr} (h : PE X x (LTE N X.K (evE F e))) (ht : PT X x (LTB N X.K (evT F e))) (r : EsOk N F X es l) (hl : es = .nil → l = []) : EsOk N F X (.cons e es) (x :: l) where
  pa := fun hs => by
    simp only [List.all_cons, Bool.and_eq_true] at hs
    exact sA_cons hs.1 h (r.pa hs.2)
  an := fun pos => by
    cases l with
    | nil =>
      rw [r.nl rfl]
      exact PE.of (sAnd_one h) fun σ H Q ⟨l, L, ρ, rs, rep, p⟩ => ⟨l, L, ρ, rs, rep, by simpa only [evAnd] using p⟩
    | cons y l =>
      cases es with
      | nil => cases hl rfl
      | cons e2 es => exact sAnd_cons h (r.an pos)
  or := fun pos => by
    cases l with
    | nil =>
      rw [r.nl rfl]
      exact PE.of (sAnd_one h) fun σ H Q ⟨l, L, ρ, rs, rep, p⟩ => ⟨l, L, ρ, rs, rep, by simpa only [evOr] using p⟩
    | cons y l =>
      cases es with
      | nil => cases hl rfl
      | cons e2 es => exact sOr_cons h (r.or pos)
  ta := fun pos => by
    cases l with
    | nil =>
      rw [r.nl rfl]
      exact PW.of (sTA_one ht) fun σ H Q q => q
    | cons y l =>
      cases es with
      | nil => cases hl rfl
      | cons e2 es => exact sTA_cons ht (r.ta pos)
  to := fun pos => by
    cases l with
    | nil =>
      rw [r.nl rfl]
      exact PW.of (sTO_one ht) fun σ H Q q => q
    | cons y l =>
      cases es with
      | nil => cases hl rfl
      | cons e2 es => exact sTO_cons ht (r.to pos)
  nl := fun h => by cases h
  pk := fun kws hk => by
    cases kws with
    | nil => simp at hk
    | cons k kws =>
      obtain ⟨nm, v, kp⟩ := k
      simp only [List.map_cons, List.cons.injEq] at hk
      obtain ⟨rfl, h2⟩ := hk
      refine PK.of (pk_cons h (r.pk kws h2)) fun σ H Q ⟨l, L, ρ, rs, rep, p⟩ => ?_
      simp only [evA] at p
      exact LT.bind rs rep p fun v x L1 H1 ρ1 s1 e1 rs1 rep1 r1 p1 => LT.bind rs1 rep1 p1 fun u y L2 H2 ρ2 s2 e2 rs2 rep2 r2 p2 => p2.here rep2 (Rls.mk (Rl.mono s2 e2 _ _ r1) r2)
theorem ckEs_nil {NN : List Str} {sc : Scope} {l : List Expr} (h : ckEs T NN .nil sc l = true) : l = [] := by
  simp only [ckEs, List.isEmpty_iff] at h
  exact h
theorem ownB_ok {own : List Nat} {tg : LTg} (h : ownB own tg = true) : inOwn own tg := by
  cases tg with
  | name i => simpa [ownB, inOwn] using h
  | tup is =>
    simp only [ownB, List.all_eq_true, List.contains_iff_mem] at h
    exact h
theorem ckEs_len {NN : List Str} {sc : Scope} : ∀ {es : LEs} {l : List Expr}, ckEs T NN es sc l = true → l.length = es.len
  | .nil, l, h => by rw [ckEs_nil h]; rfl
  | .cons e es, l, h => by
    simp only [ckEs] at h
    split at h
    · simp only [Bool.and_eq_true] at h
      simp [LEs.len, ckEs_len h.2]
    · cases h
mutual
theorem sE : ∀ le : LE, OkE T N F lv le
  | .var i => fun X e G h => by
    simp only [ckE] at h
    split at h
    · simp only [Bool.and_eq_true, decide_eq_true_eq, Bool.not_eq_true'] at h
      obtain ⟨⟨⟨a, b⟩, c⟩, d⟩ := h
      have hE := sE_var (N := N) (F := F) (X := X) (pos := by assumption) a b c d
      exact ⟨hE, sT_of hE (fun _ => rfl) fun σ L => by simp only [evT, evE]; split <;> rfl⟩
    · cases h
  | .con v => fun X e G h => by
    simp only [ckE] at h
    split at h
    · rename_i c j pos
      have hE := sE_con (N := N) (F := F) (X := X) (j := j) (pos := pos) h
      exact ⟨hE, sT_of hE (fun _ => rfl) fun σ L => by simp only [evT, evE]; rfl⟩
    · cases h
  | .glo i => fun X e G h => by
    simp only [ckE] at h
    split at h
    · simp only [Bool.and_eq_true, decide_eq_true_eq, Bool.not_eq_true'] at h
      exact ⟨sE_glo G h.1 h.2, PT.bad fun _ _ => by simp only [evT]⟩
    · cases h
  | .bin o a b => fun X e G h => by
    simp only [ckE] at h
    split at h
    · simp only [Bool.and_eq_true, decide_eq_true_eq, Bool.not_eq_true'] at h
      obtain ⟨⟨rfl, ha⟩, hb⟩ := h
      exact ⟨sE_bin (sE a X _ G ha).1 (sE b X _ G hb).1, PT.bad fun _ _ => by simp only [evT]⟩
    · cases h
  | .neg a => fun X e G h => by
    simp only [ckE] at h
    split at h
    · simp only [Bool.and_eq_true, decide_eq_true_eq, Bool.not_eq_true'] at h
      obtain ⟨rfl, ha⟩ := h
      exact ⟨sE_neg (sE a X _ G ha).1, PT.bad fun _ _ => by simp only [evT]⟩
    · cases h
  | .cmp o a b => fun X e G h => by
    simp only [ckE] at h
    split at h
    · simp only [Bool.and_eq_true, decide_eq_true_eq, Bool.not_eq_true'] at h
      obtain ⟨⟨⟨rfl, hm⟩, ha⟩, hb⟩ := h
      exact ⟨sE_cmp G hm (sE a X _ G ha).1 (sE b X _ G hb).1, sT_cmp G hm (sE a X _ G ha).1 (sE b X _ G hb).1⟩
    · cases h
  | .chn o p a b c => fun X e G h => by
    simp only [ckE] at h
    split at h
    · simp only [Bool.and_eq_true, decide_eq_true_eq, Bool.not_eq_true'] at h
      obtain ⟨⟨⟨⟨⟨rfl, rfl⟩, hm⟩, ha⟩, hb⟩, hc⟩ := h
      exact ⟨sE_chn G hm (sE a X _ G ha).1 (sE b X _ G hb).1 (sE c X _ G hc).1, sT_chn G hm (sE a X _ G ha).1 (sE b X _ G hb).1 (sE c X _ G hc).1⟩
    · cases h
  | .ands es => fun X e G h => by
    simp only [ckE] at h
    split at h
    · have r := sEs es X _ G h
      exact ⟨PE.of (r.an _) fun σ H Q ⟨l, L, ρ, rs, rep, p⟩ => ⟨l, L, ρ, rs, rep, by simpa only [evE] using p⟩, PT.of (r.ta _).pt fun σ H Q ⟨l, L, ρ, rs, rep, p⟩ => ⟨l, L, ρ, rs, rep, by simpa only [evT] using p⟩⟩
    · cases h
  | .ors es => fun X e G h => by
    simp only [ckE] at h
    split at h
    · have r := sEs es X _ G h
      exact ⟨PE.of (r.or _) fun σ H Q ⟨l, L, ρ, rs, rep, p⟩ => ⟨l, L, ρ, rs, rep, by simpa only [evE] using p⟩, PT.of (r.to _).pt fun σ H Q ⟨l, L, ρ, rs, rep, p⟩ => ⟨l, L, ρ, rs, rep, by simpa only [evT] using p⟩⟩
    · cases h
  | .not a => fun X e G h => by
    simp only [ckE] at h
    split at h
    · simp only [Bool.and_eq_true, decide_eq_true_eq, Bool.not_eq_true'] at h
      obtain ⟨rfl, ha⟩ := h
      exact ⟨sE_not (sE a X _ G ha).1, sT_not (sE a X _ G ha).2⟩
    · cases h
  | .ite c a b => fun X e G h => by
    simp only [ckE] at h
    split at h
    · simp only [Bool.and_eq_true, decide_eq_true_eq, Bool.not_eq_true'] at h
      obtain ⟨⟨hc, ha⟩, hb⟩ := h
      exact ⟨sE_ite (sE c X _ G hc).2 (sE a X _ G ha).1 (sE b X _ G hb).1, PT.bad fun _ _ => by simp only [evT]⟩
    · cases h
  | .tup es => fun X e G h => by
    simp only [ckE] at h
    split at h
    · simp only [Bool.and_eq_true] at h
      exact ⟨sE_tup ((sEs es X _ G h.2).pa h.1), PT.bad fun _ _ => by simp only [evT]⟩
    · cases h
  | .lst es => fun X e G h => by
    simp only [ckE] at h
    split at h
    · simp only [Bool.and_eq_true] at h
      exact ⟨sE_lst ((sEs es X _ G h.2).pa h.1), PT.bad fun _ _ => by simp only [evT]⟩
    · cases h
  | .dct0 => fun X e G h => by
    simp only [ckE] at h
    split at h
    · exact ⟨sE_dct0, PT.bad fun _ _ => by simp only [evT]⟩
    · cases h
  | .idx a i => fun X e G h => by
    simp only [ckE] at h
    split at h
    · simp only [Bool.and_eq_true, decide_eq_true_eq, Bool.not_eq_true'] at h
      obtain ⟨⟨hs, ha⟩, hb⟩ := h
      rename_i pos
      have hE := sE_idx (pos := pos) G hs (sE a X _ G ha).1 (sE i X _ G hb).1
      exact ⟨hE, sT_of hE (fun _ => rfl) fun σ L => by simp only [evT, evE, Out.bind_assoc]⟩
    · cases h
  | .slc a lo hi => fun X e G h => by
    simp only [ckE] at h
    split at h
    · rename_i x l hh p2 pos
      simp only [Bool.and_eq_true] at h
      obtain ⟨⟨ha, h1⟩, h2⟩ := h
      refine ⟨sE_slc (sE a X _ G ha).1 ?_ ?_, PT.bad fun _ _ => by simp only [evT]⟩
      · cases l with
        | none => exact h1
        | some l =>
          simp only [Bool.and_eq_true, Bool.not_eq_true'] at h1
          exact ⟨h1.1, (sE lo X _ G h1.2).1⟩
      · cases hh with
        | none => exact h2
        | some l =>
          simp only [Bool.and_eq_true, Bool.not_eq_true'] at h2
          exact ⟨h2.1, (sE hi X _ G h2.2).1⟩
    · cases h
  | .fld a f => fun X e G h => by
    simp only [ckE] at h
    split at h
    · simp only [Bool.and_eq_true, decide_eq_true_eq, Bool.not_eq_true'] at h
      obtain ⟨⟨h1, h2⟩, ha⟩ := h
      rename_i pos
      have hE := sE_fld (pos := pos) G h1 h2 (sE a X _ G ha).1
      exact ⟨hE, sT_of hE (fun _ => rfl) fun σ L => by simp only [evT, evE, Out.bind_assoc]⟩
    · cases h
  | .call f es => fun X e G h => by
    simp only [ckE] at h
    split at h
    · simp only [Bool.and_eq_true, decide_eq_true_eq] at h
      obtain ⟨⟨⟨h1, h2⟩, h3⟩, h4⟩ := h
      rename_i p _ pos
      have hE := sE_call (p := p) (pos := pos) G h1 h2 h3 ((sEs es X _ G h4).pa h3) (sEs es X _ G h4).nl
      exact ⟨hE, sT_of hE (fun _ => rfl) fun σ L => by simp only [evT, evE, Out.bind_assoc]⟩
    · cases h
  | .callk f es ks kes => fun X e G h => by
    simp only [ckE] at h
    split at h
    · rename_i x p l kws pos
      simp only [Bool.and_eq_true, decide_eq_true_eq] at h
      obtain ⟨⟨⟨⟨⟨⟨⟨h1, h2⟩, h3⟩, h4⟩, h5⟩, h6⟩, h7⟩, h8⟩ := h
      cases l with
      | nil => cases h3
      | cons y ys =>
        exact ⟨sE_callk G h1 h2 h4 h5 ((sEs es X _ G h7).pa h4) ((sEs kes X _ G h8).pk kws rfl) (ckEs_len h7) (by simpa using ckEs_len h8), PT.bad fun _ _ => by simp only [evT]⟩
    · cases h
  | .make c es => fun X e G h => by
    simp only [ckE] at h
    split at h
    · simp only [Bool.and_eq_true, decide_eq_true_eq] at h
      obtain ⟨⟨⟨h1, h2⟩, h3⟩, h4⟩ := h
      rename_i p _ pos
      exact ⟨sE_make (p := p) (pos := pos) G h1 h2 h3 ((sEs es X _ G h4).pa h3) (sEs es X _ G h4).nl, PT.bad fun _ _ => by simp only [evT]⟩
    · cases h
  | .meth a m es => fun X e G h => by
    simp only [ckE] at h
    split at h
    · simp only [Bool.and_eq_true, decide_eq_true_eq] at h
      obtain ⟨⟨⟨⟨⟨⟨h1, h2⟩, h3⟩, h4⟩, h5⟩, h6⟩, h7⟩ := h
      have hE := sE_meth G h1 h2 h3 (by simpa using h4) h5 (sE a X _ G h6).1 ((sEs es X _ G h7).pa h3) (sEs es X _ G h7).nl
      exact ⟨hE, sT_of hE (fun _ => rfl) fun σ L => by
        simp only [evT, evE, Out.bind_assoc]
        congr 1
        funext x L1
        split <;> first | rfl | simp only [Out.bind_assoc]⟩
    · cases h
  | .bf f es => fun X e G h => by
    simp only [ckE] at h
    split at h
    · rename_i x p l pos
      simp only [Bool.and_eq_true, decide_eq_true_eq] at h
      obtain ⟨⟨⟨⟨h1, h2⟩, h3⟩, h4⟩, h5⟩ := h
      subst h1
      obtain ⟨g1, g2, g3⟩ := glB_ok h2
      cases l with
      | nil => cases h3
      | cons y ys =>
        have hE := sE_bf (p := p) (pos := pos) G g1 h4 ((sEs es X _ G h5).pa h4)
        exact ⟨hE, sT_of hE (fun _ => rfl) fun σ L => by simp only [evT, evE, Out.bind_assoc]⟩
    · cases h
  | .bm m a es => fun X e G h => by
    simp only [ckE] at h
    split at h
    · simp only [Bool.and_eq_true, decide_eq_true_eq] at h
      obtain ⟨⟨⟨⟨⟨⟨h1, h2⟩, h3⟩, h4⟩, h5⟩, h6⟩, h7⟩ := h
      subst h1
      have hE := sE_bm (m := m) G h2 h3 (by simpa using h4) h5 (sE a X _ G h6).1 ((sEs es X _ G h7).pa h3) (sEs es X _ G h7).nl
      exact ⟨hE, sT_of hE (fun _ => rfl) fun σ L => by
        simp only [evT, evE, Out.bind_assoc]
        congr 1
        funext x L1
        split <;> first | rfl | simp only [Out.bind_assoc]⟩
    · cases h
  | .isin a ts => fun X e G h => by
    simp only [ckE] at h
    split at h
    · simp only [Bool.and_eq_true, decide_eq_true_eq] at h
      obtain ⟨⟨⟨⟨⟨h1, h2⟩, h3⟩, h4⟩, h5⟩, h6⟩ := h
      rename_i p y c pos
      subst h1
      obtain ⟨g1, g2, g3⟩ := glB_ok h2
      have hE := sE_isin (p := p) (pos := pos) G g1 h3 h4 h5 (sE a X _ G h6).1
      exact ⟨hE, sT_of hE (fun _ => rfl) fun σ L => by
        simp only [evT, evE, Out.bind_assoc]
        congr 1
        funext x L1
        cases tyAny L1 x ts <;> rfl⟩
    · cases h
  | .mkx x es => fun X e G h => by
    simp only [ckE] at h
    split at h
    · simp only [Bool.and_eq_true, decide_eq_true_eq] at h
      obtain ⟨⟨⟨h1, h2⟩, h3⟩, h4⟩ := h
      subst h1
      exact ⟨sE_mkx G h2 h3 ((sEs es X _ G h4).pa h3) (sEs es X _ G h4).nl (fun hne e => by subst e; exact hne (ckEs_nil h4)), PT.bad fun _ _ => by simp only [evT]⟩
    · cases h
  | .isx a t => fun X e G h => by
    simp only [ckE] at h
    split at h
    · simp only [Bool.and_eq_true, decide_eq_true_eq] at h
      obtain ⟨⟨⟨⟨⟨h1, h2⟩, h3⟩, h4⟩, h5⟩, h6⟩ := h
      rename_i p y u p2 pos
      subst h1 h4
      obtain ⟨g1, g2, g3⟩ := glB_ok h2
      have hE := sE_isx (p := p) (p2 := p2) (pos := pos) G g1 h3 h5 (sE a X _ G h6).1
      exact ⟨hE, sT_of hE (fun _ => rfl) fun σ L => by
        simp only [evT, evE, Out.bind_assoc]
        congr 1
        funext x L1
        cases isxV F _ x <;> rfl⟩
    · cases h
  | .xfl a f => fun X e G h => by
    simp only [ckE] at h
    split at h
    · simp only [Bool.and_eq_true, decide_eq_true_eq] at h
      obtain ⟨⟨h1, h2⟩, h3⟩ := h
      subst h1
      exact ⟨sE_xfl G h2 (sE a X _ G h3).1, PT.bad fun _ _ => by simp only [evT]⟩
    · cases h
  | .gidx g a => fun X e G h => by
    simp only [ckE] at h
    split at h
    · simp only [Bool.and_eq_true, decide_eq_true_eq] at h
      obtain ⟨⟨⟨⟨⟨h1, h2⟩, h3⟩, h4⟩, h5⟩, h6⟩ := h
      subst h3
      exact ⟨sE_gidx G h1 h2 h4 h5 (sE a X _ G h6).1, PT.bad fun _ _ => by simp only [evT]⟩
    · cases h
  | .kget g a d => fun X e G h => by
    simp only [ckE] at h
    split at h
    · simp only [Bool.and_eq_true, decide_eq_true_eq] at h
      obtain ⟨⟨⟨⟨⟨⟨⟨h1, h2⟩, h3⟩, h4⟩, h5⟩, h6⟩, h7⟩, h8⟩ := h
      subst h3
      exact ⟨sE_kget G h1 h2 h4 h5 h6 (sE a X _ G h7).1 (sE d X _ G h8).1, PT.bad fun _ _ => by simp only [evT]⟩
    · cases h
  | .comp own tg it t c e' => fun X e G h => by
    simp only [ckE] at h
    split at h
    · rename_i elt tgx iter ifs scope pos
      simp only [Bool.and_eq_true] at h
      obtain ⟨⟨⟨⟨⟨⟨⟨h1, h2⟩, h3⟩, h4⟩, h5⟩, h6⟩, h7⟩, h8⟩ := h
      refine ⟨sE_comp G h2 ?_ h4 h5 (sI it X _ _ G h6) ?_ (fun s H C cl fp => (sE e' _ _ (G.blk s H scope C cl fp) h8).1), PT.bad fun _ _ => by simp only [evT]⟩
      · cases tg <;> exact h3
      · cases t with
        | none =>
          cases ifs with
          | nil => trivial
          | cons q qs => cases h7
        | some u =>
          cases ifs with
          | nil => cases h7
          | cons q qs =>
            cases qs with
            | nil => exact fun s H C cl fp => (sE c _ _ (G.blk s H scope C cl fp) h7).2
            | cons q2 qs => cases h7
    · cases h
  | .comp2 own own1 tg it tg1 it1 e' => fun X e G h => by
    simp only [ckE] at h
    split at h
    · rename_i elt tgx iter tgx1 iter1 scope pos
      simp only [Bool.and_eq_true] at h
      obtain ⟨⟨⟨⟨⟨⟨⟨⟨⟨⟨⟨h1, h2⟩, h3⟩, h4⟩, h5⟩, h6⟩, h7⟩, h8⟩, h9⟩, h10⟩, h11⟩, h12⟩ := h
      refine ⟨sE_comp2 G h2 (ownB_ok h3) (ownB_ok h4) ?_ h6 h7 h8 h9 (sI it X _ _ G h10) (fun s H C cl fp => sI it1 _ _ _ (G.blk s H scope C cl fp) h11) (fun s H C cl fp => (sE e' _ _ (G.blk s H scope C cl fp) h12).1), PT.bad fun _ _ => by simp only [evT]⟩
      simp only [List.all_eq_true, List.contains_iff_mem] at h5
      exact h5
    · cases h
theorem sEs : ∀ es : LEs, OkEs T N F lv es
  | .nil => fun X l G h => by
    rw [ckEs_nil h]
    exact EsOk.nil'
  | .cons e es => fun X l G h => by
    simp only [ckEs] at h
    split at h
    · simp only [Bool.and_eq_true] at h
      refine EsOk.cons' (sE e X _ G h.1).1 (sE e X _ G h.1).2 (sEs es X _ G h.2) fun hn => ?_
      subst hn
      exact ckEs_nil h.2
    · cases h
theorem sI : ∀ it : LI, OkI T N F lv it
  | .seq a => fun X tg e G h => by
    simp only [ckI] at h
    exact sI_seq (sE a X _ G h).1
  | .rng1 a => fun X tg e G h => by
    simp only [ckI] at h
    split at h
    · simp only [Bool.and_eq_true, decide_eq_true_eq] at h
      obtain ⟨⟨⟨h1, h2⟩, h3⟩, h4⟩ := h
      subst h1
      obtain ⟨g1, g2, g3⟩ := glB_ok h2
      exact sI_rng1 G g1 h3 (sE a X _ G h4).1
    · cases h
  | .rng2 a b => fun X tg e G h => by
    simp only [ckI] at h
    split at h
    · simp only [Bool.and_eq_true, decide_eq_true_eq] at h
      obtain ⟨⟨⟨⟨⟨h1, h2⟩, h3⟩, h4⟩, h5⟩, h6⟩ := h
      subst h1
      obtain ⟨g1, g2, g3⟩ := glB_ok h2
      exact sI_rng2 G g1 h3 h4 (sE a X _ G h5).1 (sE b X _ G h6).1
    · cases h
end
end
end LG
end

section
set_option Elab.async false
set_option linter.all false
set_option maxRecDepth 100000
set_option maxHeartbeats 4000000
/-! LG9: statements. -/
namespace LG
open PySem PySem.Spec PyProof.Rows L2

/-! ### the check -/
def swF (sc : Scope) (x : Str) (px : Pos) (v : Expr) : Bool := notComp v || match v with
  | .ListComp _ _ _ _ => decide (sc.names.lookup x = some .cell)
  | _ => false
/-- name = [..], swapped -/
def swT (sc : Scope) (x : Str) (px : Pos) (v : Expr) : Bool := match v with
  | .ListComp _ _ scope pos => decide (sc.names.lookup x = some .local) && (px.line == pos.line) && !(scope.names.any fun (n, k) => n == x && (k == .local || k == .cell))
  | _ => false
def notTup : Expr → Bool
  | .Tuple _ _ _ => false
  | _ => true
mutual
def ckS (T : Tb) (N : List Str) : LS → Scope → Stmt → Bool
  | .set i e => fun sc s => match s with
    | .Assign [.Name x px] v _ => decide (N[i]? = some x) && locB sc x && ckE T N e sc v && (swF sc x px v || swT sc x px v)
    | _ => false
  | .setf o f e => fun sc s => match s with
    | .Assign [.Attribute ox a _] v _ => decide (T.nms[f]? = some a) && ckE T N o sc ox && ckE T N e sc v
    | _ => false
  | .seti o i e => fun sc s => match s with
    | .Assign [.Subscript ox ix _] v _ => notSlice ix && ckE T N o sc ox && ckE T N i sc ix && ckE T N e sc v
    | _ => false
  | .unp is e => fun sc s => match s with
    | .Assign [tg] v _ => notTup v && (match tg with
      | .Tuple _ _ _ => true
      | _ => false) && ckTg N (locB sc) (.tup is) tg && ckE T N e sc v
    | _ => false
  | .par i j a b => fun sc s => match s with
    | .Assign [.Tuple [.Name x px, .Name y py] _ _] (.Tuple [u, v] _ _) _ => decide (N[i]? = some x) && decide (N[j]? = some y) && decide (i ≠ j) && decide (x ≠ y) && lclB sc x && lclB sc y && (px.line == py.line) && notStar u && notStar v && (!([u, v].all (foldedForSure 8))) && (!([u, v].all (constantsAlone 8))) && ckE T N a sc u && ckE T N b sc v
    | _ => false
  | .expr e => fun sc s => match s with
    | .Expr v _ => notComp v && ckE T N e sc v
    | _ => false
  | .ret e => fun sc s => match s with
    | .Return (some v) _ => ckE T N e sc v
    | _ => false
  | .retN => fun sc s => match s with
    | .Return none _ => true
    | _ => false
  | .ifs c a b => fun sc s => match s with
    | .If t x y _ => ckE T N c sc t && ckSs T N a sc x && ckSs T N b sc y
    | _ => false
  | .while c b => fun sc s => match s with
    | .While t x [] _ => ckE T N c sc t && ckSs T N b sc x
    | _ => false
  | .for tg it b => fun sc s => match s with
    | .For tgx iter x [] _ => ckTg N (locB sc) tg tgx && notSet iter && ckI T N it sc iter && ckSs T N b sc x
    | _ => false
  | .fori is a b => fun sc s => match s with
    | .For (.Tuple es k tp) (.Call (.Attribute ox nm apos) [] [] cpos) x [] _ => ckTg N (locB sc) (.tup is) (.Tuple es k tp) && decide (nm = "items") && notCall0 ox && (apos.endLine == cpos.line) && ckE T N a sc ox && ckSs T N b sc x
    | _ => false
  | .pass => fun _ s => match s with
    | .Pass _ => true
    | _ => false
  | .brk => fun _ s => match s with
    | .Break _ => true
    | _ => false
  | .cont => fun _ s => match s with
    | .Continue _ => true
    | _ => false
  | .raise _ _ => fun _ _ => false
  | .never => fun _ _ => true
def ckSs (T : Tb) (N : List Str) : LSs → Scope → List Stmt → Bool
  | .nil => fun _ l => l.isEmpty
  | .cons s ss => fun sc l => match l with
    | x :: xs => ckS T N s sc x && ckSs T N ss sc xs
    | [] => false
end

/-! ### readings -/
def FlE (N : Na) (K : PySem.W.Frag) (H : Hp) (ρ : Rho) (fl : Fl) (l : LSt) (D : Ends) : Prop :=
  match fl with
  | .nx => ∀ σ, RS K H ρ l σ → D.nx σ H
  | .brk => ∀ σ, RS K H ρ l σ → D.bk σ H
  | .cont => ∀ σ, RS K H ρ l σ → D.ct σ H
  | .ret v => ∀ x, Rl K H ρ v x → D.rt x H
def PostF (N : Na) (K : PySem.W.Frag) (o : Out (Fl × LSt)) (H : Hp) (ρ : Rho) (D : Ends) : Prop :=
  match o with
  | .ok p L' => ∀ H' ρ', Sty H H' → Ex ρ ρ' → Rep N K H' L' ρ' → FlE N K H' ρ' p.1 p.2 D
  | _ => False
theorem PostF.mono {N : Na} {K : PySem.W.Frag} {o : Out (Fl × LSt)} {H H' : Hp} {ρ ρ' : Rho} {D : Ends} (s : Sty H H') (e : Ex ρ ρ') (h : PostF N K o H ρ D) : PostF N K o H' ρ' D := by
  cases o with
  | ok a L' => exact fun H2 ρ2 s2 e2 => h H2 ρ2 (s.trans s2) (e.trans e2)
  | err x L' => exact h
  | bad => exact h
theorem PostF.nx {N : Na} {K : PySem.W.Frag} {H : Hp} {ρ : Rho} {L : LH} {l : LSt} {σ : L2.St} {D : Ends} (rep : Rep N K H L ρ) (rs : RS K H ρ l σ) (h : PostF N K (.ok (.nx, l) L) H ρ D) : D.nx σ H := h H ρ (Sty.refl _) (Ex.refl _) rep σ rs
def LTS (N : Na) (K : PySem.W.Frag) (f : LSt → LH → Out (Fl × LSt)) : TS := fun D σ H => ∃ l L ρ, RS K H ρ l σ ∧ Rep N K H L ρ ∧ PostF N K (f l L) H ρ D
/-- sequencing into a statement -/
theorem LT.bindS {α β : Type} {N : Na} {K : PySem.W.Frag} {R : Hp → Rho → α → β → Prop} {f : LSt → LH → Out α} {k : α → LH → Out (Fl × LSt)} {l : LSt} {L : LH} {ρ : Rho} {σ : L2.St} {H : Hp} {D : Ends} {Q1 : β → Hp → Prop}
    (rs : RS K H ρ l σ) (rep : Rep N K H L ρ) (p : PostF N K ((f l L).bind k) H ρ D)
    (n : ∀ a b L1 H1 ρ1, Sty H H1 → Ex ρ ρ1 → RS K H1 ρ1 l σ → Rep N K H1 L1 ρ1 → R H1 ρ1 a b → PostF N K (k a L1) H1 ρ1 D → Q1 b H1) : LT N K R f σ H Q1 := by
  refine ⟨l, L, ρ, rs, rep, ?_⟩
  cases e : f l L with
  | ok a L1 =>
    rw [e] at p
    intro H1 ρ1 b s1 e1 rep1 r
    exact n a b L1 H1 ρ1 s1 e1 (rs.mono s1 e1) rep1 r (p.mono s1 e1)
  | err x L1 =>
    rw [e] at p
    exact p.elim
  | bad =>
    rw [e] at p
    exact p.elim
structure GoodS (T : Tb) (N : Na) (F : Fn) (lv : Nat) (X : Cx) : Prop where
  g : Good T N F lv X
  pass : PassesOwn (model X.prog X.w) X.A X.env X.xe
  fn : ∀ x, X.fn x = true
  kind : X.env.scope.kind = .function
section
variable {T : Tb} {N : Na} {F : Fn} {lv : Nat} {X : Cx}
theorem sS_nil : PSs X [] (LTS N X.K (evSs F .nil)) := PSs.of pss_nil fun D σ H ⟨l, L, ρ, rs, rep, p⟩ => by
  simp only [evSs] at p
  exact p.nx rep rs
theorem sS_cons {s : LS} {ss : LSs} {x : Stmt} {xs : List Stmt} (h : PS X x (LTS N X.K (evS F s))) (h2 : PSs X xs (LTS N X.K (evSs F ss))) : PSs X (x :: xs) (LTS N X.K (evSs F (.cons s ss))) := by
  refine PSs.of (pss_cons h h2) fun D σ H ⟨l, L, ρ, rs, rep, p⟩ => ?_
  simp only [evSs] at p
  refine ⟨l, L, ρ, rs, rep, ?_⟩
  cases e : evS F s l L with
  | err x L1 => rw [e] at p; exact p.elim
  | bad => rw [e] at p; exact p.elim
  | ok q L1 =>
    rw [e] at p
    obtain ⟨fl, l1⟩ := q
    intro H1 ρ1 s1 e1 rep1
    have p1 := p.mono s1 e1
    cases fl with
    | nx =>
      intro σ1 rs1
      exact ⟨l1, L1, ρ1, rs1, rep1, p1⟩
    | brk => exact p1 H1 ρ1 (Sty.refl _) (Ex.refl _) rep1
    | cont => exact p1 H1 ρ1 (Sty.refl _) (Ex.refl _) rep1
    | ret v => exact p1 H1 ρ1 (Sty.refl _) (Ex.refl _) rep1
theorem sw_false {e : Expr} {x : Str} {px : Pos} {l : Nat} {env : Env} (h : swF env.scope x px e = true) : swapsWith e (some (.Name x px)) l env = pure false := by
  unfold swF at h
  rw [Bool.or_eq_true] at h
  rcases h with h | h
  · exact swaps_no h
  · split at h
    · have hc := of_decide_eq_true h
      have hk : env.kindOf x = some .cell := hc
      unfold swapsWith
      simp only [hk]
      cases env.blockKind <;> rfl
    · cases h
theorem sw_other {e t : Expr} {l : Nat} {env : Env} (h : (match t with
    | .Name _ _ => false
    | _ => true) = true) : swapsWith e (some t) l env = pure false := by
  cases e <;> first | rfl | (cases t <;> first | rfl | (simp at h; done))
def isNm : Expr → Bool
  | .Name _ _ => true
  | _ => false
theorem sws_other {e t : Expr} {l : Nat} {env : Env} (h : isNm t = false) : swapsWithSole [t] e l env = pure false := by
  show swapsWith e (some t) l env = pure false
  exact sw_other (by cases t <;> first | rfl | (simp [isNm] at h; done))
theorem sS_set {i : Nat} {e : LE} {x : Str} {px pos : Pos} {v : Expr} (G : GoodS T N F lv X) (hN : X.N[i]? = some x) (hx : locB X.env.scope x = true) (hs : swF X.env.scope x px v = true) (h : PE X v (LTE N X.K (evE F e))) :
    PS X (.Assign [.Name x px] v pos) (LTS N X.K (evS F (.set i e))) := by
  refine PS.of (ps_set (hs := sw_false hs) G.g.nd hN (locB_ok hx) h (hf := .inl (G.fn x))) fun D σ H ⟨l, L, ρ, rs, rep, p⟩ => ?_
  simp only [evS] at p
  exact LT.bindS rs rep p fun a b L1 H1 ρ1 s1 e1 rs1 rep1 r1 p1 => p1.nx rep1 (rs1.set r1)
theorem sS_setf {o : LE} {f : Nat} {e : LE} {ox v : Expr} {a : Str} {pa pos : Pos} (G : GoodS T N F lv X) (ht : T.nms[f]? = some a) (ho : PE X ox (LTE N X.K (evE F o))) (h : PE X v (LTE N X.K (evE F e))) :
    PS X (.Assign [.Attribute ox a pa] v pos) (LTS N X.K (evS F (.setf o f e))) := by
  refine PS.of (ps_fld ho h (sw_other rfl)) fun D σ H ⟨l, L, ρ, rs, rep, p⟩ => ?_
  simp only [evS] at p
  refine LT.bindS rs rep p fun y b L1 H1 ρ1 s1 e1 rs1 rep1 r1 p1 => LT.bindS rs1 rep1 p1 fun x c L2 H2 ρ2 s2 e2 rs2 rep2 r2 p2 => ?_
  split at p2
  · obtain ⟨q, h1, rfl⟩ := Rl.ref.mp r2
    split at p2
    · rename_i cc fs el
      obtain ⟨q', dx, vs, q1, q2, q3, q4, q5⟩ := rep2.ins el
      rw [h1] at q1; cases q1
      split at p2
      · rename_i hz
        have hnm := G.g.fx.nms f a ht
        subst hnm
        have na := G.g.fx.fld cc f hz.2
        refine ⟨q, _, dx, vs, rfl, q2, q4, na, by rw [← q3.length]; exact hz.1, ?_⟩
        have S := rep2.styPut (u := .ins (N.ca cc) dx (putF (N.nm f) b vs)) h1 el
        refine p2 _ ρ2 S (Ex.refl _) (rep2.put h1 el (fun z => z) ⟨dx, _, upd_same, ?_, q4, ?_⟩) σ (rs2.mono S (Ex.refl _))
        · exact RFs.put G.g.fx.inj (Rl.mono S (Ex.refl _) _ _ (Rl.mono s2 e2 _ _ r1)) (q3.mono S (Ex.refl _))
        · intro pp hp
          have : ∀ {fs : List (Nat × LV)}, (∀ p ∈ fs, NoAttr X.K (N.ca cc) (N.nm p.1)) → ∀ p ∈ fput f y fs, NoAttr X.K (N.ca cc) (N.nm p.1) := by
            intro fs
            induction fs with
            | nil => intro _ p hp; simp only [fput, List.mem_singleton] at hp; subst hp; exact na
            | cons z zs ih =>
              intro hh p hp
              unfold fput at hp
              split at hp
              · rename_i ez
                rcases List.mem_cons.mp hp with rfl | hp
                · exact hh z List.mem_cons_self
                · exact hh p (List.mem_cons_of_mem _ hp)
              · rcases List.mem_cons.mp hp with rfl | hp
                · exact hh _ List.mem_cons_self
                · exact ih (fun p hp => hh p (List.mem_cons_of_mem _ hp)) p hp
          exact this q5 pp hp
      · exact p2.elim
    · exact p2.elim
  · exact p2.elim
theorem RKs.any {K : PySem.W.Frag} {H : Hp} {ρ : Rho} {k : Key} : ∀ {kvs : List (Key × LV)} {vs : List (Key × V)}, RKs K H ρ kvs vs → (vs.any fun kv => decide (kv.1 = k)) = (kvs.any fun kv => decide (kv.1 = k))
  | [], _, h => by rw [show _ = [] from h]; rfl
  | x :: xs, _, ⟨v, r, h1, h2, h3⟩ => by rw [h1]; simp only [List.any_cons, RKs.any h3]
theorem RKs.map {K : PySem.W.Frag} {H : Hp} {ρ : Rho} {k : Key} {x : LV} {v : V} (hx : Rl K H ρ x v) : ∀ {kvs : List (Key × LV)} {vs : List (Key × V)}, RKs K H ρ kvs vs →
    RKs K H ρ (kvs.map fun kv => if kv.1 = k then (kv.1, x) else kv) (vs.map fun kv => if kv.1 = k then (kv.1, v) else kv)
  | [], _, h => by rw [show _ = [] from h]; rfl
  | y :: ys, _, ⟨w, r, h1, h2, h3⟩ => by
    rw [h1]
    simp only [List.map_cons]
    by_cases e : y.1 = k
    · rw [if_pos e, if_pos e]; exact ⟨v, _, rfl, hx, RKs.map hx h3⟩
    · rw [if_neg e, if_neg e]; exact ⟨w, _, rfl, h2, RKs.map hx h3⟩
theorem RKs.append {K : PySem.W.Frag} {H : Hp} {ρ : Rho} : ∀ {kvs kvs2 : List (Key × LV)} {vs vs2 : List (Key × V)}, RKs K H ρ kvs vs → RKs K H ρ kvs2 vs2 → RKs K H ρ (kvs ++ kvs2) (vs ++ vs2)
  | [], _, _, _, h, h' => by rw [show _ = [] from h]; exact h'
  | y :: ys, _, _, _, ⟨w, r, h1, h2, h3⟩, h' => by rw [h1]; exact ⟨w, _, rfl, h2, RKs.append h3 h'⟩
theorem RKs.dput {K : PySem.W.Frag} {H : Hp} {ρ : Rho} {k : Key} {x : LV} {v : V} {kvs : List (Key × LV)} {vs : List (Key × V)} (hx : Rl K H ρ x v) (h : RKs K H ρ kvs vs) : RKs K H ρ (dput kvs k x) (putK vs k v) := by
  unfold LG.dput putK
  rw [h.any]
  split
  · exact RKs.map hx h
  · exact RKs.append h ⟨v, [], rfl, hx, rfl⟩
theorem keyOf_rl {K : PySem.W.Frag} {H : Hp} {ρ : Rho} {y : LV} {k : Key} {v : V} (h : keyOf y = some k) (r : Rl K H ρ y v) : v = kV k := by
  unfold keyOf at h
  split at h
  · cases h; exact Rl.int.mp r
  · cases h; exact Rl.str.mp r
  · cases h
theorem RKs.length {K : PySem.W.Frag} {H : Hp} {ρ : Rho} : ∀ {kvs : List (Key × LV)} {vs : List (Key × V)}, RKs K H ρ kvs vs → kvs.length = vs.length
  | [], _, h => by rw [show _ = [] from h]; rfl
  | x :: xs, _, ⟨v, r, h1, h2, h3⟩ => by rw [h1]; simp [RKs.length h3]
def rSet : TSet := fun o i v H Q => rSetL o i v H Q ∨ rSetD o i v H Q
theorem set_any (hu : X.A.units + 1 < cLine) : PSet X rSet := by
  intro pins s σ H o i v ov iv u Q I ro ri rv h
  rcases h with h | h
  · exact set_list pins s σ H o i v ov iv u Q I ro ri rv h
  · exact set_dict hu pins s σ H o i v ov iv u Q I ro ri rv h
theorem sS_seti {o i e : LE} {ox ix v : Expr} {pa pos : Pos} (G : GoodS T N F lv X) (hi : notSlice ix = true) (ho : PE X ox (LTE N X.K (evE F o))) (hix : PE X ix (LTE N X.K (evE F i))) (h : PE X v (LTE N X.K (evE F e))) :
    PS X (.Assign [.Subscript ox ix pa] v pos) (LTS N X.K (evS F (.seti o i e))) := by
  have hu := G.g.hu
  refine PS.of (ps_asg h (pg_sub ho hix (set_any (by omega)) (by intro _; cases ix <;> first | rfl | (simp [notSlice] at hi; done))) (hs := sws_other rfl) (hw := rfl)) fun D σ H ⟨l, L, ρ, rs, rep, p⟩ => ?_
  simp only [evS] at p
  refine LT.bindS rs rep p fun y b L1 H1 ρ1 s1 e1 rs1 rep1 r1 p1 => LT.bindS rs1 rep1 p1 fun x c L2 H2 ρ2 s2 e2 rs2 rep2 r2 p2 => LT.bindS rs2 rep2 p2 fun z d L3 H3 ρ3 s3 e3 rs3 rep3 r3 p3 => ?_
  have r1' := Rl.mono s3 e3 _ _ (Rl.mono s2 e2 _ _ r1)
  have r2' := Rl.mono s3 e3 _ _ r2
  split at p3
  · obtain ⟨q, h1, rfl⟩ := Rl.ref.mp r2'
    split at p3
    · rename_i xs el
      obtain ⟨q', vs, q1, q2, q3⟩ := rep3.lst el
      rw [h1] at q1; cases q1
      split at p3
      · cases Rl.int.mp r3
        split at p3
        · rename_i j ej
          rw [q3.length] at ej
          refine .inl ⟨q, vs, _, j, rfl, rfl, q2, ej, ?_⟩
          have S := rep3.styPut (u := .lst (vs.set j b)) h1 el
          exact p3 _ ρ3 S (Ex.refl _) (rep3.put h1 el (fun z => z) ⟨_, upd_same, Rls.mono S (Ex.refl _) _ _ (Rls.set j r1' q3)⟩) σ (rs3.mono S (Ex.refl _))
        · exact p3.elim
      · exact p3.elim
    · rename_i kvs el
      obtain ⟨q', vs, q1, q2, q3⟩ := rep3.dct el
      rw [h1] at q1; cases q1
      split at p3
      · rename_i k ek
        have := keyOf_rl ek r3
        subst this
        split at p3
        · rename_i hz
          refine .inr ⟨q, _, rfl, DPut.k q2 (by rw [← q3.length]; exact hz), ?_⟩
          have S := rep3.styPut (u := .dK (putK vs k b)) h1 el
          exact p3 _ ρ3 S (Ex.refl _) (rep3.put h1 el (fun z => z) ⟨_, upd_same, (RKs.dput r1' q3).mono S (Ex.refl _)⟩) σ (rs3.mono S (Ex.refl _))
        · exact p3.elim
      · exact p3.elim
    · exact p3.elim
  · exact p3.elim
theorem locS (G : GoodS T N F lv X) (x : Str) (h : locB X.env.scope x = true) : L2.Loc X.env.scope x ∧ (X.fn x = true ∨ X.env.scope.names.lookup x = some .local) := ⟨locB_ok h, .inl (G.fn x)⟩
theorem swst_no {tg e : Expr} {env : Env} (h : notTup e = true) : swappedStores [tg] e env = pure none := by
  cases e <;> first | (cases tg <;> rfl) | (simp [notTup] at h; done)
theorem sS_unp {is : List Nat} {e : LE} {tg v : Expr} {pos : Pos} (G : GoodS T N F lv X) (hv : notTup v = true) (htt : (match tg with
      | .Tuple _ _ _ => true
      | _ => false) = true) (ht : ckTg X.N (locB X.env.scope) (.tup is) tg = true) (h : PE X v (LTE N X.K (evE F e))) :
    PS X (.Assign [tg] v pos) (LTS N X.K (evS F (.unp is e))) := by
  have hg : PG X tg (gOf X.K (.tup is)) := sG G.g.nd G.g.calm (locS G) ht
  cases tg with
  | Tuple es k tp =>
    refine PS.of (ps_asg h hg (hs := sws_other rfl) (hw := swst_no hv)) fun D σ H ⟨l, L, ρ, rs, rep, p⟩ => ?_
    simp only [evS] at p
    refine LT.bindS rs rep p fun y b L1 H1 ρ1 s1 e1 rs1 rep1 r1 p1 => ?_
    cases et : tgt (.tup is) y l L1 with
    | none => rw [et] at p1; exact p1.elim
    | some l2 =>
      rw [et] at p1
      exact gOf_ok et r1 rs1 fun σ' rs' _ => p1.nx rep1 rs'
  | _ => cases htt
theorem sS_expr {e : LE} {v : Expr} {pos : Pos} (hs : notComp v = true) (h : PE X v (LTE N X.K (evE F e))) : PS X (.Expr v pos) (LTS N X.K (evS F (.expr e))) := by
  refine PS.of (ps_expr h (hs := swaps_no hs)) fun D σ H ⟨l, L, ρ, rs, rep, p⟩ => ?_
  simp only [evS] at p
  exact LT.bindS rs rep p fun a b L1 H1 ρ1 s1 e1 rs1 rep1 r1 p1 => p1.nx rep1 rs1
theorem sS_ret {e : LE} {v : Expr} {pos : Pos} (h : PE X v (LTE N X.K (evE F e))) : PS X (.Return (some v) pos) (LTS N X.K (evS F (.ret e))) := by
  refine PS.of (ps_ret h) fun D σ H ⟨l, L, ρ, rs, rep, p⟩ => ?_
  simp only [evS] at p
  exact LT.bindS rs rep p fun a b L1 H1 ρ1 s1 e1 rs1 rep1 r1 p1 => p1 H1 ρ1 (Sty.refl _) (Ex.refl _) rep1 b r1
theorem sS_retN {pos : Pos} : PS X (.Return none pos) (LTS N X.K (evS F .retN)) := by
  refine PS.of ps_retN fun D σ H ⟨l, L, ρ, rs, rep, p⟩ => ?_
  simp only [evS] at p
  exact p H ρ (Sty.refl _) (Ex.refl _) rep .non (Rl.non.mpr rfl)
theorem sS_if {c : LE} {a b : LSs} {t : Expr} {x y : List Stmt} {pos : Pos} (h : PT X t (LTB N X.K (evT F c))) (ha : PSs X x (LTS N X.K (evSs F a))) (hb : PSs X y (LTS N X.K (evSs F b))) :
    PS X (.If t x y pos) (LTS N X.K (evS F (.ifs c a b))) := by
  refine PS.of (ps_if h ha hb) fun D σ H ⟨l, L, ρ, rs, rep, p⟩ => ?_
  simp only [evS] at p
  refine LT.bindS rs rep p fun k k' L1 H1 ρ1 s1 e1 rs1 rep1 r1 p1 => ?_
  subst r1
  cases k with
  | true => rw [if_pos rfl] at p1 ⊢; exact ⟨l, L1, ρ1, rs1, rep1, p1⟩
  | false => rw [if_neg Bool.false_ne_true] at p1 ⊢; exact ⟨l, L1, ρ1, rs1, rep1, p1⟩
theorem sS_while {c : LE} {b : LSs} {t : Expr} {x : List Stmt} {pos : Pos} (G : GoodS T N F lv X) (h : PT X t (LTB N X.K (evT F c))) (hb : PSs X x (LTS N X.K (evSs F b))) :
    PS X (.While t x [] pos) (LTS N X.K (evS F (.while c b))) := by
  refine PS.of (ps_while G.pass h hb) fun D σ H ⟨l, L, ρ, rs, rep, p⟩ => ?_
  simp only [evS] at p
  refine ⟨fun m σ H => ∃ l L ρ, RS X.K H ρ l σ ∧ Rep N X.K H L ρ ∧ PostF N X.K (whileL (evT F c) (evSs F b) m l L) H ρ D, ⟨_, l, L, ρ, rs, rep, p⟩, ?_⟩
  rintro m σ1 H1 ⟨l1, L1, ρ1, rs1, rep1, p1⟩
  cases m with
  | zero => exact p1.elim
  | succ n =>
    unfold whileL at p1
    refine LT.bindS rs1 rep1 p1 fun k k' L2 H2 ρ2 s2 e2 rs2 rep2 r2 p2 => ?_
    subst r2
    cases k with
    | false =>
      rw [if_neg Bool.false_ne_true] at p2 ⊢
      exact p2.nx rep2 rs2
    | true =>
      rw [if_pos rfl] at p2 ⊢
      refine ⟨fun σ3 H3 => ∃ l L ρ, RS X.K H3 ρ l σ3 ∧ Rep N X.K H3 L ρ ∧ PostF N X.K (whileL (evT F c) (evSs F b) n l L) H3 ρ D, fun σ3 H3 q => ⟨n, Nat.lt_succ_self n, q⟩, l1, L2, ρ2, rs2, rep2, ?_⟩
      cases e : evSs F b l1 L2 with
      | err x L1 => rw [e] at p2; exact p2.elim
      | bad => rw [e] at p2; exact p2.elim
      | ok q L3 =>
        rw [e] at p2
        obtain ⟨fl, l3⟩ := q
        intro H3 ρ3 s3 e3 rep3
        have p3 := p2.mono s3 e3
        cases fl with
        | nx => exact fun σ3 rs3 => ⟨l3, L3, ρ3, rs3, rep3, p3⟩
        | cont => exact fun σ3 rs3 => ⟨l3, L3, ρ3, rs3, rep3, p3⟩
        | brk => exact fun σ3 rs3 => p3.nx rep3 rs3
        | ret v => exact p3 H3 ρ3 (Sty.refl _) (Ex.refl _) rep3
/-- the turns of a for -/
theorem for_ok {tg : LTg} {b : LSs} {S : Src} {J : It} {H1 : Hp} {ρ1 : Rho} {L1 : LH} {l1 : LSt} {σ1 : L2.St} {D : Ends} (drv : Drv N X.K J S H1 ρ1) (rs : RS X.K H1 ρ1 l1 σ1) (rep : Rep N X.K H1 L1 ρ1)
    (p : PostF N X.K (forL S (fun x σ1 L2 => match tgt tg x σ1 L2 with
      | none => .bad
      | some σ2 => evSs F b σ2 L2) S.items l1 L1) H1 ρ1 D) :
    ∃ W : Nat → Nat → L2.St → Hp → Prop, (∃ m, W 0 m σ1 H1) ∧ ∀ i m σ H, W i m σ H →
      (J.stop i H ∧ D.nx σ H) ∨ (J.go i H ∧ ∃ Nx : L2.St → Hp → Prop, (∀ σ' H', Nx σ' H' → ∃ m', m' < m ∧ W (i + 1) m' σ' H') ∧ ∀ x H', J.yld i H x H' → gOf X.K tg x σ H' fun σ2 H2 => LTS N X.K (evSs F b) { D with nx := Nx, ct := Nx, bk := D.nx } σ2 H2) := by
  generalize hbody : (fun x σ1 L2 => match tgt tg x σ1 L2 with
      | none => (.bad : Out (Fl × LSt))
      | some σ2 => evSs F b σ2 L2) = body at p
  refine ⟨fun i m σ H => ∃ l L ρ, Sty H1 H ∧ Ex ρ1 ρ ∧ RS X.K H ρ l σ ∧ Rep N X.K H L ρ ∧ i ≤ S.items.length ∧ m = S.items.length - i ∧ PostF N X.K (forL S body (S.items.drop i) l L) H ρ D,
    ⟨_, l1, L1, ρ1, Sty.refl _, Ex.refl _, rs, rep, Nat.zero_le _, rfl, by rw [List.drop_zero]; exact p⟩, ?_⟩
  rintro i m σ2 H2 ⟨l2, L2, ρ2, s2, e2, rs2, rep2, hi2, hm, p2⟩
  by_cases hlt : i < S.items.length
  · right
    have ed : S.items.drop i = S.items[i] :: S.items.drop (i + 1) := List.drop_eq_getElem_cons hlt
    rw [ed] at p2
    unfold forL at p2
    split at p2
    · rename_i hk
      obtain ⟨dgo, _⟩ := drv i H2 L2 ρ2 s2 e2 rep2 hk
      obtain ⟨go, yl⟩ := dgo S.items[i] (List.getElem?_eq_getElem hlt)
      refine ⟨go, fun σ' H' => ∃ l L ρ, Sty H1 H' ∧ Ex ρ1 ρ ∧ RS X.K H' ρ l σ' ∧ Rep N X.K H' L ρ ∧ PostF N X.K (forL S body (S.items.drop (i + 1)) l L) H' ρ D,
        fun σ' H' ⟨l', L', ρ', q1, q2, q3, q4, q5⟩ => ⟨S.items.length - (i + 1), by omega, l', L', ρ', q1, q2, q3, q4, hlt, rfl, q5⟩, fun v H3 y => ?_⟩
      obtain ⟨ρ3, s3, e3, rep3, rv⟩ := yl v H3 y
      have hb1 : body S.items[i] l2 L2 = match tgt tg S.items[i] l2 L2 with
        | none => (.bad : Out (Fl × LSt))
        | some σ2 => evSs F b σ2 L2 := by rw [← hbody]
      rw [hb1] at p2
      cases et : tgt tg S.items[i] l2 L2 with
      | none => rw [et] at p2; exact p2.elim
      | some l3 =>
        rw [et] at p2
        have p3 := p2.mono s3 e3
        refine gOf_ok et rv (rs2.mono s3 e3) fun σ4 rs4 _ => ⟨l3, L2, ρ3, rs4, rep3, ?_⟩
        dsimp only at p3
        cases e : evSs F b l3 L2 with
        | err x L1 => rw [e] at p3; exact p3.elim
        | bad => rw [e] at p3; exact p3.elim
        | ok q L5 =>
          rw [e] at p3
          obtain ⟨fl, l5⟩ := q
          intro H5 ρ5 s5 e5 rep5
          have p5 := p3.mono s5 e5
          cases fl with
          | nx => exact fun σ5 rs5 => ⟨l5, L5, ρ5, (s2.trans s3).trans s5, (e2.trans e3).trans e5, rs5, rep5, p5⟩
          | cont => exact fun σ5 rs5 => ⟨l5, L5, ρ5, (s2.trans s3).trans s5, (e2.trans e3).trans e5, rs5, rep5, p5⟩
          | brk => exact fun σ5 rs5 => p5.nx rep5 rs5
          | ret v => exact p5 H5 ρ5 (Sty.refl _) (Ex.refl _) rep5
    · exact p2.elim
  · left
    have ei : i = S.items.length := by omega
    subst ei
    rw [List.drop_length] at p2
    unfold forL at p2
    split at p2
    · rename_i hk
      obtain ⟨_, dst⟩ := drv S.items.length H2 L2 ρ2 s2 e2 rep2 hk
      exact ⟨dst (Nat.le_refl _), p2.nx rep2 rs2⟩
    · exact p2.elim
theorem sS_for {tg : LTg} {it : LI} {b : LSs} {tgx iter : Expr} {x : List Stmt} {pos : Pos} (G : GoodS T N F lv X) (ht : ckTg X.N (locB X.env.scope) tg tgx = true) (hset : notSet iter = true) (hi : PI X tgx iter (LTI N X.K (evI F it))) (hb : PSs X x (LTS N X.K (evSs F b))) :
    PS X (.For tgx iter x [] pos) (LTS N X.K (evS F (.for tg it b))) := by
  refine PS.of (ps_for G.pass G.g.calm hi (sG G.g.nd G.g.calm (locS G) ht) hb (set_no hset)) fun D σ H ⟨l, L, ρ, rs, rep, p⟩ => ?_
  simp only [evS] at p
  refine ⟨l, L, ρ, rs, rep, ?_⟩
  cases e1 : evI F it l L with
  | err x L1 => rw [e1] at p; exact p.elim
  | bad => rw [e1] at p; exact p.elim
  | ok S L1 =>
    rw [e1] at p
    intro H1 ρ1 s1 ex1 rep1 J drv
    exact for_ok drv (rs.mono s1 ex1) rep1 (p.mono s1 ex1)
theorem Drv.items {d : Addr} {od : Obj} {kvs : List (Key × LV)} {vs : List (Key × V)} {H1 : Hp} {ρ1 : Rho} (hd : H1 d = some (.frz od (.dK vs))) (r : RKs X.K H1 ρ1 kvs vs) : Drv N X.K (Iti d od vs) (.vals (dctItems kvs)) H1 ρ1 := fun i H L ρ st ex rep _ => by
  have hd' := st d _ hd trivial
  have r' := r.mono st ex
  have hl : (dctItems kvs).length = vs.length := by simp [dctItems, r.length]
  refine ⟨fun x hx => ?_, fun h => ⟨hd', by rw [← hl]; exact h⟩⟩
  have hi : i < vs.length := by
    have : i < (dctItems kvs).length := (List.getElem?_eq_some_iff.mp hx).1
    omega
  refine ⟨⟨hd', hi⟩, fun v H' y => ?_⟩
  obtain ⟨Tp, k, w, hk, rfl, hT, rfl⟩ := y
  have get : ∀ {kvs : List (Key × LV)} {vs : List (Key × V)} {i : Nat} {k : Key} {w : V}, RKs X.K H ρ kvs vs → vs[i]? = some (k, w) → ∃ u, kvs[i]? = some (k, u) ∧ Rl X.K H ρ u w := by
    intro kvs
    induction kvs with
    | nil => intro vs i k w h e; rw [show vs = [] from h] at e; simp at e
    | cons p ps ih =>
      rintro vs i k w ⟨v, r, rfl, h2, h3⟩ e
      cases i with
      | zero => simp at e; obtain ⟨e1, e2⟩ := e; subst e1 e2; exact ⟨p.2, rfl, h2⟩
      | succ i => exact ih h3 (by simpa using e)
  obtain ⟨u, hu, ru⟩ := get r' hk
  have : (dctItems kvs)[i]? = some (.tup [keyL k, u]) := by simp [dctItems, hu]
  rw [show (Src.vals (dctItems kvs)).items = dctItems kvs from rfl, this] at hx
  cases hx
  refine ⟨ρ, Sty.new hT, Ex.refl _, rep.laid hT, Rl.tup.mpr ⟨Tp, [kV k, w], rfl, .inl (.inl upd_same), Rls.mk ?_ (Rls.mk (Rl.mono (Sty.new hT) (Ex.refl _) _ _ ru) Rls.nil')⟩⟩
  cases k with
  | inl i => exact Rl.int.mpr rfl
  | inr x => exact Rl.str.mpr rfl
theorem sS_fori {is : List Nat} {a : LE} {b : LSs} {es : List Expr} {k : Nat} {tp apos cpos pos : Pos} {ox : Expr} {x : List Stmt} (G : GoodS T N F lv X) (ht : ckTg X.N (locB X.env.scope) (.tup is) (.Tuple es k tp) = true) (h0 : notCall0 ox = true) (hp : (apos.endLine == cpos.line) = true)
    (ha : PE X ox (LTE N X.K (evE F a))) (hb : PSs X x (LTS N X.K (evSs F b))) :
    PS X (.For (.Tuple es k tp) (.Call (.Attribute ox "items" apos) [] [] cpos) x [] pos) (LTS N X.K (evS F (.fori is a b))) := by
  refine PS.of (ps_lock (ps_for G.pass G.g.calm (pi_items ha (hbase := attr_no h0) (hline := hp)) (sG G.g.nd G.g.calm (locS G) ht) hb (set_no rfl))) fun D σ H ⟨l, L, ρ, rs, rep, p⟩ => ?_
  simp only [evS] at p
  split at p
  · rename_i i L1 e1
    split at p
    · rename_i kvs el
      obtain ⟨d, vs, q1, q2, q3⟩ := rep.dct el
      split at p
      · rename_i e2
        refine ⟨d, _, q2, trivial, fun od => ?_⟩
        have S : Sty H (upd H d (.frz od (.dK vs))) := Sty.mut q2 (fun z => z)
        have rep2 : Rep N X.K (upd H d (.frz od (.dK vs))) (L.hide i) ρ := rep.hide q1 q2
        refine ⟨l, L.hide i, ρ, rs.mono S (Ex.refl _), rep2, ?_⟩
        rw [e2]
        intro H1 ρ1 v s1 ex1 rep1 r1
        obtain ⟨d', h1, rfl⟩ := Rl.ref.mp r1
        have hd' : ρ1 i = some d := ex1 _ _ q1
        rw [hd'] at h1; cases h1
        have fz : H1 d = some (.frz od (.dK vs)) := s1 d _ upd_same trivial
        have r1' : RKs X.K H1 ρ1 kvs vs := (q3.mono S (Ex.refl _)).mono s1 ex1
        refine ⟨d, od, vs, rfl, fz, ?_⟩
        refine for_ok (Drv.items fz r1') ((rs.mono S (Ex.refl _)).mono s1 ex1) rep1 ?_
        generalize hf : forL (.vals (dctItems kvs)) (fun x σ1 L2 => match tgt (.tup is) x σ1 L2 with
            | none => (.bad : Out (Fl × LSt))
            | some σ2 => evSs F b σ2 L2) (dctItems kvs) l (L.hide i) = o at p
        have : forL (.vals (dctItems kvs)) (fun x σ1 L2 => match tgt (.tup is) x σ1 L2 with
            | none => (.bad : Out (Fl × LSt))
            | some σ2 => evSs F b σ2 L2) (Src.vals (dctItems kvs)).items l (L.hide i) = o := hf
        rw [this]
        cases o with
        | err x L1 => exact p.elim
        | bad => exact p.elim
        | ok q L3 =>
          obtain ⟨fl, l3⟩ := q
          intro H3 ρ3 s3 e3 rep3
          have fz3 : H3 d = some (.frz od (.dK vs)) := s3 d _ fz trivial
          have r3 := r1'.mono s3 e3
          have hd3 : ρ3 i = some d := e3 _ _ hd'
          have rep4 := rep3.back hd3 fz3 r3
          have S0 : Sty0 H3 (upd H3 d (.dK vs)) := fun b u e im => by
            have : b ≠ d := by
              rintro rfl
              rw [fz3] at e
              cases e
              exact im
            rw [upd_ne this]
            exact e
          have St : Sty H (upd H3 d (.dK vs)) := fun b u e im => by
            have ne : b ≠ d := by
              rintro rfl
              rw [q2] at e
              cases e
              exact im
            rw [upd_ne ne]
            exact s3 b u (s1 b u (S b u e im) im) im
          have fin := p _ ρ3 St (ex1.trans e3) rep4
          have rs0 : ∀ σ', RS X.K H3 ρ3 l3 σ' → RS X.K (upd H3 d (.dK vs)) ρ3 l3 σ' := fun σ' r => ⟨r.1, fun j v q => by
            obtain ⟨v', a1, a2⟩ := r.2 j v q
            exact ⟨v', a1, Rl.mono0 S0 (Ex.refl _) _ _ a2⟩⟩
          cases fl with
          | nx => exact fun σ' r => ⟨fz3, fin σ' (rs0 σ' r)⟩
          | brk => exact fun σ' r => ⟨fz3, fin σ' (rs0 σ' r)⟩
          | cont => exact fun σ' r => ⟨fz3, fin σ' (rs0 σ' r)⟩
          | ret v => exact fun x r => ⟨fz3, fin x (Rl.mono0 S0 (Ex.refl _) _ _ r)⟩
      · exact p.elim
    · exact p.elim
  · exact p.elim
end
end LG
end

section
set_option Elab.async false
set_option linter.all false
set_option maxRecDepth 100000
set_option maxHeartbeats 4000000
/-! LG10: a checked block computes what the small language says. -/
namespace LG
open PySem PySem.Spec PyProof.Rows L2

section
variable {T : Tb} {N : Na} {F : Fn} {lv : Nat} {X : Cx}
/-- name = [..] -/
theorem sS_setc {i : Nat} {x : Str} {px pos cpos : Pos} {own : List Nat} {tg : LTg} {it : LI} {t : Option Unit} {c e' : LE} {elt tgx iter : Expr} {ifs : List Expr} {scope : Scope} (G : GoodS T N F lv X) (hN : X.N[i]? = some x)
    (hb : blkC X.N X.env.scope scope (own.map fun i => (X.N.getD i "", i)) = true)
    (hto : (match tg with
        | .name i => own.contains i
        | .tup is => is.all own.contains) = true) (htg : ckTg X.N (lclB (relS scope X.env.scope)) tg tgx = true) (hset : notSet iter = true) (hi : PI X tgx iter (LTI N X.K (evI F it)))
    (hc : match t, ifs with
        | none, [] => True
        | some _, [q] => ∀ (s : Shared) (H : Hp) (C : Addr) (cl : List (Str × Addr)) (fp : List Addr), PT (X.blk s H scope (compEnvC scope cl C X.env) fp) q (LTB N X.K (evT F c))
        | _, _ => False)
    (he : ∀ (s : Shared) (H : Hp) (C : Addr) (cl : List (Str × Addr)) (fp : List Addr), PE (X.blk s H scope (compEnvC scope cl C X.env) fp) elt (LTE N X.K (evE F e')))
    (hs : swT X.env.scope x px (.ListComp elt [⟨tgx, iter, ifs, 0⟩] scope cpos) = true) :
    PS X (.Assign [.Name x px] (.ListComp elt [⟨tgx, iter, ifs, 0⟩] scope cpos) pos) (LTS N X.K (evS F (.set i (.comp own tg it t c e')))) := by
  obtain ⟨tt, ht, imp⟩ := comp_core G.g hb hto htg hset hi hc he
  simp only [swT, Bool.and_eq_true, decide_eq_true_eq, Bool.not_eq_true'] at hs
  obtain ⟨⟨h1, h2⟩, h3⟩ := hs
  refine PS.of (ps_setLc (tg := tgx) (g := gOf X.K tg) (tt := tt) G.g.calm G.g.nd hN h1 (sw_true G.kind h1 h2 h3) hi (blkOk_by hb) (fun s H C cl fp => sG (X := X.blk s H scope (compEnvC scope cl C X.env) fp) G.g.nd G.g.calm (fun x hx => lclB_ok x hx) htg) ht he (set_no hset)) fun D σ H ⟨l, L, ρ, rs, rep, p⟩ => imp σ H _ ?_
  rw [evS] at p
  exact LT.bindS rs rep p fun a b L1 H1 ρ1 s1 e1 rs1 rep1 r1 p1 => p1.nx rep1 (rs1.set r1)
theorem sS_setc2 {i : Nat} {x : Str} {px pos cpos : Pos} {own own1 : List Nat} {tg tg1 : LTg} {it it1 : LI} {e' : LE} {tgx tgx1 iter iter1 elt : Expr} {scope : Scope} (G : GoodS T N F lv X) (hN : X.N[i]? = some x)
    (hb : blkC X.N X.env.scope scope (own.map fun i => (X.N.getD i "", i)) = true) (hin : inOwn own tg) (hin1 : inOwn own1 tg1) (hv : ∀ i ∈ own1, i ∈ own)
    (htg : ckTg X.N (lclB (relS scope X.env.scope)) tg tgx = true) (htg1 : ckTg X.N (lclB (relS scope X.env.scope)) tg1 tgx1 = true) (hset : notSet iter = true) (hset1 : notSet iter1 = true) (hi : PI X tgx iter (LTI N X.K (evI F it)))
    (hi1 : ∀ (s : Shared) (H : Hp) (C : Addr) (cl : List (Str × Addr)) (fp : List Addr), PI (X.blk s H scope (compEnvC scope cl C X.env) fp) tgx1 iter1 (LTI N X.K (evI F it1)))
    (he : ∀ (s : Shared) (H : Hp) (C : Addr) (cl : List (Str × Addr)) (fp : List Addr), PE (X.blk s H scope (compEnvC scope cl C X.env) fp) elt (LTE N X.K (evE F e')))
    (hs : swT X.env.scope x px (.ListComp elt [⟨tgx, iter, [], 0⟩, ⟨tgx1, iter1, [], 0⟩] scope cpos) = true) :
    PS X (.Assign [.Name x px] (.ListComp elt [⟨tgx, iter, [], 0⟩, ⟨tgx1, iter1, [], 0⟩] scope cpos) pos) (LTS N X.K (evS F (.set i (.comp2 own own1 tg it tg1 it1 e')))) := by
  simp only [swT, Bool.and_eq_true, decide_eq_true_eq, Bool.not_eq_true'] at hs
  obtain ⟨⟨h1, h2⟩, h3⟩ := hs
  refine PS.of (ps_setLc2 (tg := tgx) (tg1 := tgx1) (g := gOf X.K tg) (g1 := gOf X.K tg1) (vs1 := own1) G.g.calm G.g.nd hN h1 (sw_true G.kind h1 h2 h3) hi (blkOk_by hb) (by rw [own_eq]; exact hv) (fun s H C cl fp => sG (X := X.blk s H scope (compEnvC scope cl C X.env) fp) G.g.nd G.g.calm (fun x hx => lclB_ok x hx) htg) (fun _ _ _ _ _ => pts_nil) hi1
    (fun s H C cl fp => sG (X := X.blk s H scope (compEnvC scope cl C X.env) fp) G.g.nd G.g.calm (fun x hx => lclB_ok x hx) htg1) (fun _ _ _ _ _ => pts_nil) he (set_no hset) (fun env => set_no hset1)) fun D σ H ⟨l, L, ρ, rs, rep, p⟩ => ?_
  have imp := comp2_core (X := X) (F := F) (e' := e') (it := it) (it1 := it1) (own1 := own1) (tg1 := tg1) (tgx := tgx) (tgx1 := tgx1) (iter := iter) (iter1 := iter1) (elt := elt) (scope := scope) G.g hin hin1
  show tLc2 _ _ _ _ _ _ _ _ _ σ H _
  rw [own_eq]
  refine imp σ H _ ?_
  rw [evS] at p
  exact LT.bindS rs rep p fun a b L1 H1 ρ1 s1 e1 rs1 rep1 r1 p1 => p1.nx rep1 (rs1.set r1)
/-- a, b = x, y -/
theorem sS_par {i j : Nat} {x y : Str} {px py tp vp pos : Pos} {k k2 : Nat} {u v : Expr} {a b : LE} (G : GoodS T N F lv X) (hi : X.N[i]? = some x) (hj : X.N[j]? = some y) (hij : i ≠ j) (hxy : x ≠ y) (lx : lclB X.env.scope x = true) (ly : lclB X.env.scope y = true) (hl : (px.line == py.line) = true)
    (su : notStar u = true) (sv : notStar v = true) (f1 : ([u, v].all (foldedForSure 8)) = false) (f2 : ([u, v].all (constantsAlone 8)) = false) (ha : PE X u (LTE N X.K (evE F a))) (hb : PE X v (LTE N X.K (evE F b))) :
    PS X (.Assign [.Tuple [.Name x px, .Name y py] k tp] (.Tuple [u, v] k2 vp) pos) (LTS N X.K (evS F (.par i j a b))) := by
  have l1 : X.env.kindOf x = some .local := of_decide_eq_true lx
  have l2 : X.env.kindOf y = some .local := of_decide_eq_true ly
  have hbk : X.env.blockKind = .function := by unfold Env.blockKind; rw [G.kind]; rfl
  have hw : swappedStores [.Tuple [.Name x px, .Name y py] k tp] (.Tuple [u, v] k2 vp) X.env = pure (some [x, y]) := by
    have hpl : (py.line == px.line) = true := by rw [beq_iff_eq] at hl ⊢; exact hl.symm
    have st : ([u, v].any fun | .Starred .. => true | _ => false) = false := by
      cases u <;> first | (simp [notStar] at su; done) | (cases v <;> first | rfl | (simp [notStar] at sv; done))
    have e1 : ([Expr.Name x px, Expr.Name y py].filterMap fun | .Name id pos => if (X.env.kindOf id == some .local && pos.line == px.line) = true then some id else none | _ => none) = [x, y] := by
      simp only [List.filterMap_cons, List.filterMap_nil, l1, l2, hpl, beq_self_eq_true, Bool.and_true, if_true]
    have e2 : [x, y].eraseDups.length = 2 := by
      have : (y == x) = false := beq_eq_false_iff_ne.mpr (Ne.symm hxy)
      simp [List.eraseDups_cons, this]
    have e3 : ∀ A : List Str, A = [x, y] → ¬ ((A.length != 2 || A.eraseDups.length != A.length) = true) := by
      rintro A rfl
      rw [e2]
      exact Bool.false_ne_true
    unfold swappedStores
    dsimp only
    rw [if_neg, if_neg, if_neg, if_neg, if_neg]
    · exact congrArg (fun z => (pure (some z) : Sem (Option (List Str)))) e1
    · rw [f2]; exact Bool.false_ne_true
    · rw [f1]; exact Bool.false_ne_true
    · exact e3 _ e1
    · exact fun h => Bool.false_ne_true (st.symm.trans h)
    · rw [hbk]; exact Bool.false_ne_true
  refine PS.of (ps_par G.g.calm G.g.nd hi hj hij l1 l2 (pa_cons ha (pa_cons hb pa_nil (star_cons sv)) (star_cons su)) hw (hs := sws_other rfl)) fun D σ H ⟨l, L, ρ, rs, rep, p⟩ => ?_
  simp only [evS] at p
  exact LT.bindS rs rep p fun y b L1 H1 ρ1 s1 e1 rs1 rep1 r1 p1 => LT.bindS rs1 rep1 p1 fun z c L2 H2 ρ2 s2 e2 rs2 rep2 r2 p2 => ⟨_, _, rfl, p2.nx rep2 ((rs2.set (Rl.mono s2 e2 _ _ r1)).set r2)⟩
end
end LG
end

section
set_option Elab.async false
set_option linter.all false
set_option maxRecDepth 100000
set_option maxHeartbeats 4000000
/-! LG11: a checked block computes what the small language says; defs. -/
namespace LG
open PySem PySem.Spec PyProof.Rows L2

section
variable {T : Tb} {N : Na} {F : Fn} {lv : Nat} {X : Cx}
theorem PS.badS {st : Stmt} {f : LSt → LH → Out (Fl × LSt)} (h : ∀ l L, f l L = .bad) : PS X st (LTS N X.K f) := ⟨fun pins s σ H D I ⟨l, L, ρ, rs, rep, p⟩ => by rw [h] at p; exact p.elim⟩
mutual
theorem sS (G : GoodS T N F lv X) : ∀ (s : LS) (st : Stmt), ckS T X.N s X.env.scope st = true → PS X st (LTS N X.K (evS F s))
  | .set i e, st, h => by
    simp only [ckS] at h
    split at h
    · simp only [Bool.and_eq_true, Bool.or_eq_true, decide_eq_true_eq] at h
      obtain ⟨⟨⟨h1, h2⟩, h3⟩, h4⟩ := h
      rename_i x px v pos
      rcases h4 with h4 | h4
      · exact sS_set G h1 h2 h4 (sE e X _ G.g h3).1
      · cases e with
        | comp own tg it t c e' =>
          simp only [ckE] at h3
          split at h3
          · rename_i elt tgx iter ifs scope cpos
            simp only [Bool.and_eq_true] at h3
            obtain ⟨⟨⟨⟨⟨⟨⟨a1, a2⟩, a3⟩, a4⟩, a5⟩, a6⟩, a7⟩, a8⟩ := h3
            refine sS_setc G h1 a2 ?_ a4 a5 (sI it X _ _ G.g a6) ?_ (fun s H C cl fp => (sE e' _ _ (G.g.blk s H scope C cl fp) a8).1) h4
            · cases tg <;> exact a3
            · cases t with
              | none =>
                cases ifs with
                | nil => trivial
                | cons q qs => cases a7
              | some u =>
                cases ifs with
                | nil => cases a7
                | cons q qs =>
                  cases qs with
                  | nil => exact fun s H C cl fp => (sE c _ _ (G.g.blk s H scope C cl fp) a7).2
                  | cons q2 qs => cases a7
          · cases h3
        | comp2 own own1 tg it tg1 it1 e' =>
          simp only [ckE] at h3
          split at h3
          · rename_i elt tgx iter tgx1 iter1 scope cpos
            simp only [Bool.and_eq_true] at h3
            obtain ⟨⟨⟨⟨⟨⟨⟨⟨⟨⟨⟨b1, b2⟩, b3⟩, b4⟩, b5⟩, b6⟩, b7⟩, b8⟩, b9⟩, b10⟩, b11⟩, b12⟩ := h3
            refine sS_setc2 G h1 b2 (ownB_ok b3) (ownB_ok b4) ?_ b6 b7 b8 b9 (sI it X _ _ G.g b10) (fun s H C cl fp => sI it1 _ _ _ (G.g.blk s H scope C cl fp) b11) (fun s H C cl fp => (sE e' _ _ (G.g.blk s H scope C cl fp) b12).1) h4
            simp only [List.all_eq_true, List.contains_iff_mem] at b5
            exact b5
          · cases h3
        | _ =>
          exfalso
          unfold swT at h4
          split at h4
          · simp only [ckE] at h3
            all_goals first | cases h3 | (simp at h3; done)
          · cases h4
    · cases h
  | .setf o f e, st, h => by
    simp only [ckS] at h
    split at h
    · simp only [Bool.and_eq_true, decide_eq_true_eq] at h
      exact sS_setf G h.1.1 (sE o X _ G.g h.1.2).1 (sE e X _ G.g h.2).1
    · cases h
  | .seti o i e, st, h => by
    simp only [ckS] at h
    split at h
    · simp only [Bool.and_eq_true] at h
      exact sS_seti G h.1.1.1 (sE o X _ G.g h.1.1.2).1 (sE i X _ G.g h.1.2).1 (sE e X _ G.g h.2).1
    · cases h
  | .unp is e, st, h => by
    simp only [ckS] at h
    split at h
    · simp only [Bool.and_eq_true] at h
      exact sS_unp G h.1.1.1 h.1.1.2 h.1.2 (sE e X _ G.g h.2).1
    · cases h
  | .par i j a b, st, h => by
    simp only [ckS] at h
    split at h
    · simp only [Bool.and_eq_true, decide_eq_true_eq, Bool.not_eq_true'] at h
      obtain ⟨⟨⟨⟨⟨⟨⟨⟨⟨⟨⟨⟨h1, h2⟩, h3⟩, h4⟩, h5⟩, h6⟩, h7⟩, h8⟩, h9⟩, h10⟩, h11⟩, h12⟩, h13⟩ := h
      exact sS_par G h1 h2 h3 h4 h5 h6 h7 h8 h9 h10 h11 (sE a X _ G.g h12).1 (sE b X _ G.g h13).1
    · cases h
  | .expr e, st, h => by
    simp only [ckS] at h
    split at h
    · simp only [Bool.and_eq_true] at h
      exact sS_expr h.1 (sE e X _ G.g h.2).1
    · cases h
  | .ret e, st, h => by
    simp only [ckS] at h
    split at h
    · exact sS_ret (sE e X _ G.g h).1
    · cases h
  | .retN, st, h => by
    simp only [ckS] at h
    split at h
    · exact sS_retN
    · cases h
  | .ifs c a b, st, h => by
    simp only [ckS] at h
    split at h
    · simp only [Bool.and_eq_true] at h
      exact sS_if (sE c X _ G.g h.1.1).2 (sSs G a _ h.1.2) (sSs G b _ h.2)
    · cases h
  | .while c b, st, h => by
    simp only [ckS] at h
    split at h
    · simp only [Bool.and_eq_true] at h
      exact sS_while G (sE c X _ G.g h.1).2 (sSs G b _ h.2)
    · cases h
  | .for tg it b, st, h => by
    simp only [ckS] at h
    split at h
    · simp only [Bool.and_eq_true] at h
      exact sS_for G h.1.1.1 h.1.1.2 (sI it X _ _ G.g h.1.2) (sSs G b _ h.2)
    · cases h
  | .fori is a b, st, h => by
    simp only [ckS] at h
    split at h
    · simp only [Bool.and_eq_true, decide_eq_true_eq] at h
      obtain ⟨⟨⟨⟨⟨h1, h2⟩, h3⟩, h4⟩, h5⟩, h6⟩ := h
      subst h2
      exact sS_fori G h1 h3 h4 (sE a X _ G.g h5).1 (sSs G b _ h6)
    · cases h
  | .pass, st, h => by
    simp only [ckS] at h
    split at h
    · refine PS.of ps_pass fun D σ H ⟨l, L, ρ, rs, rep, p⟩ => ?_
      simp only [evS] at p
      exact p.nx rep rs
    · cases h
  | .brk, st, h => by
    simp only [ckS] at h
    split at h
    · refine PS.of ps_break fun D σ H ⟨l, L, ρ, rs, rep, p⟩ => ?_
      simp only [evS] at p
      exact p H ρ (Sty.refl _) (Ex.refl _) rep σ rs
    · cases h
  | .cont, st, h => by
    simp only [ckS] at h
    split at h
    · refine PS.of ps_continue fun D σ H ⟨l, L, ρ, rs, rep, p⟩ => ?_
      simp only [evS] at p
      exact p H ρ (Sty.refl _) (Ex.refl _) rep σ rs
    · cases h
  | .raise c es, st, h => PS.badS fun _ _ => by simp only [evS]
  | .never, st, h => PS.badS fun _ _ => by simp only [evS]
theorem sSs (G : GoodS T N F lv X) : ∀ (ss : LSs) (sts : List Stmt), ckSs T X.N ss X.env.scope sts = true → PSs X sts (LTS N X.K (evSs F ss))
  | .nil, sts, h => by
    simp only [ckSs, List.isEmpty_iff] at h
    subst h
    exact sS_nil
  | .cons s ss, sts, h => by
    simp only [ckSs] at h
    split at h
    · simp only [Bool.and_eq_true] at h
      exact sS_cons (sS G s _ h.1) (sSs G ss _ h.2)
    · cases h
end
end
end LG
end

section
set_option Elab.async false
set_option linter.all false
set_option maxRecDepth 100000
set_option maxHeartbeats 4000000
/-! LG12: a module's tables, the facts of its head; every def keeps what the small language says. -/
namespace LG
open PySem PySem.Spec PyProof.Rows L2

/-! ### binding -/
theorem zip_lookup {n : Str} : ∀ {ps : List Str} {us : List Value}, us.length = ps.length → n ∈ ps → ((ps.zip us).lookup n).isNone = false
  | [], _, _, h => by simp at h
  | p :: ps, [], hl, _ => by simp at hl
  | p :: ps, u :: us, hl, h => by
    simp only [List.zip_cons_cons, List.lookup]
    cases e : n == p with
    | true => rfl
    | false =>
      have : n ∈ ps := by
        rcases List.mem_cons.mp h with rfl | h
        · simp at e
        · exact h
      exact zip_lookup (by simpa using hl) this
theorem fm_congr {α β : Type} {f g : α → Option β} : ∀ {l : List α}, (∀ x ∈ l, f x = g x) → l.filterMap f = l.filterMap g
  | [], _ => rfl
  | a :: l, h => by
    rw [List.filterMap_cons, List.filterMap_cons, h a List.mem_cons_self, fm_congr fun x hx => h x (List.mem_cons_of_mem _ hx)]
theorem zip_map : ∀ {ps : List Str} {us : List Value}, ps.Nodup → us.length = ps.length → ps.filterMap (fun n => ((ps.zip us).lookup n).map (n, ·)) = ps.zip us
  | [], us, _, _ => by simp
  | p :: ps, [], _, hl => by simp at hl
  | p :: ps, u :: us, nd, hl => by
    have nd' := List.nodup_cons.mp nd
    have ih := zip_map (us := us) nd'.2 (by simpa using hl)
    simp only [List.zip_cons_cons, List.filterMap_cons, List.lookup, beq_self_eq_true, Option.map_some]
    congr 1
    refine Eq.trans (fm_congr fun n hn => ?_) ih
    have ne : (n == p) = false := beq_eq_false_iff_ne.mpr (fun e => nd'.1 (e ▸ hn))
    rw [ne]
theorem bind_plain {x qual : Str} {args : List Arg} {body : List Stmt} {scope : Scope} {kV doc pm cdv ct : Value} {an : Option Addr} {us : List Value} (nd : (args.map (·.arg)).Nodup) (hl : us.length = args.length) :
    bindArgs (PySem.W.fnOf x qual ⟨[], args, none, [], [], none, []⟩ body scope .none kV doc pm an cdv ct) ⟨us, []⟩ = pure ((args.map (·.arg)).zip us) := by
  have hl2 : us.length = (args.map (·.arg)).length := by simpa using hl
  unfold bindArgs PySem.W.fnOf
  simp only [List.map_nil, List.nil_append, List.append_nil]
  have e0 : seqItems? Value.none = pure none := rfl
  simp only [e0, pure_bind, List.forIn_nil, Option.getD, Array.toList, List.length_nil, Nat.sub_zero, Nat.zero_sub, List.drop_nil, List.drop_zero, List.zip_nil_right]
  simp [hl, zip_map nd hl2]
  intro n hn hno
  exfalso
  have := zip_lookup hl2 (List.mem_of_mem_take hn)
  cases e : List.lookup n ((List.map (fun x => x.arg) args).zip us) with
  | none => rw [e] at this; cases this
  | some v => exact hno v (PySem.mem_of_lookup e)

/-! ### constants of the module -/
mutual
def lvB (K : PySem.W.Frag) : LV → Value → Bool
  | .non => fun u => match u with
    | .none => true
    | _ => false
  | .bl b => fun u => match u with
    | .bool c => b == c
    | _ => false
  | .int i => fun u => match u with
    | .int j _ => decide (i = j)
    | _ => false
  | .str x => fun u => match u with
    | .str y _ => decide (x = y)
    | _ => false
  | .tup xs => fun u => match u with
    | .ref a => match K.lookup a with
      | some ⟨.type c, none, .seq its _, _⟩ => decide (c = "tuple") && (decide (its.size ≤ sizeLine) && lvsB K xs its.toList)
      | _ => false
    | _ => false
  | .ref _ => fun _ => false
  | .scr _ => fun _ => false
  | .exc _ _ _ => fun _ => false
def lvsB (K : PySem.W.Frag) : List LV → List Value → Bool
  | [] => fun us => us.isEmpty
  | x :: xs => fun us => match us with
    | u :: us => lvB K x u && lvsB K xs us
    | [] => false
end
mutual
theorem lvB_ok {K : PySem.W.Frag} : ∀ (v : LV) (u : Value), lvB K v u = true → ∃ v', RelV v' u ∧ (∀ H ρ, Rl K H ρ v v') ∧ ∀ xs, v = .tup xs → ∃ a o, u = .ref a ∧ K.lookup a = some o ∧ o.cls = .type "tuple" ∧ o.dict = none
  | .non, u, h => by
    simp only [lvB] at h
    split at h
    · exact ⟨.non, rfl, fun _ _ => Rl.non.mpr rfl, fun _ e => by cases e⟩
    · cases h
  | .bl b, u, h => by
    simp only [lvB] at h
    split at h
    · have := eq_of_beq h
      subst this
      exact ⟨.bl b, rfl, fun _ _ => Rl.bl.mpr rfl, fun _ e => by cases e⟩
    · cases h
  | .int i, u, h => by
    simp only [lvB] at h
    split at h
    · rename_i j t
      have := of_decide_eq_true h
      subst this
      exact ⟨.int i, ⟨t, rfl⟩, fun _ _ => Rl.int.mpr rfl, fun _ e => by cases e⟩
    · cases h
  | .str x, u, h => by
    simp only [lvB] at h
    split at h
    · rename_i j t
      have := of_decide_eq_true h
      subst this
      exact ⟨.str x, ⟨t, rfl⟩, fun _ _ => Rl.str.mpr rfl, fun _ e => by cases e⟩
    · cases h
  | .tup xs, u, h => by
    simp only [lvB] at h
    split at h
    · rename_i a
      split at h
      · rename_i c its n sl hl
        simp only [Bool.and_eq_true, decide_eq_true_eq] at h
        obtain ⟨h1, h2, h3⟩ := h
        subst h1
        obtain ⟨vs, r1, r2⟩ := lvsB_ok xs its.toList h3
        exact ⟨.ref a, rfl, fun H ρ => Rl.tup.mpr ⟨a, vs, rfl, .inr ⟨_, its, n, hl, rfl, rfl, h2, r1⟩, r2 H ρ⟩, fun _ _ => ⟨a, _, rfl, hl, rfl, rfl⟩⟩
      · cases h
    · cases h
  | .ref i, u, h => by simp [lvB] at h
  | .scr xs, u, h => by simp [lvB] at h
  | .exc _ _ _, u, h => by simp [lvB] at h
theorem lvsB_ok {K : PySem.W.Frag} : ∀ (xs : List LV) (us : List Value), lvsB K xs us = true → ∃ vs, Vals vs us ∧ ∀ H ρ, Rls K H ρ xs vs
  | [], us, h => by
    simp only [lvsB, List.isEmpty_iff] at h
    subst h
    exact ⟨[], .nil, fun _ _ => Rls.nil'⟩
  | x :: xs, us, h => by
    simp only [lvsB] at h
    split at h
    · simp only [Bool.and_eq_true] at h
      obtain ⟨v, a1, a2, _⟩ := lvB_ok x _ h.1
      obtain ⟨vs, b1, b2⟩ := lvsB_ok xs _ h.2
      exact ⟨v :: vs, .cons a1 b1, fun H ρ => Rls.mk (a2 H ρ) (b2 H ρ)⟩
    · cases h
end
/-- a dict's entries -/
def kdE (K : PySem.W.Frag) : List (Str × LV) → List DictEntry → Bool
  | [], es => es.isEmpty
  | kv :: r, es => match es with
    | e :: es => (match e.key with
      | .str x _ => decide (x = kv.1)
      | _ => false) && lvB K kv.2 e.val && kdE K r es
    | [] => false
theorem kdE_ok {K : PySem.W.Frag} {z : Str} : ∀ {kvs : List (Str × LV)} {es : List DictEntry}, kdE K kvs es = true →
    (∀ v, kvs.lookup z = some v → ∃ e, es.find? (·.key.isStr z) = some e ∧ lvB K v e.val = true) ∧ (kvs.lookup z = none → es.find? (·.key.isStr z) = none ∧ es.any (·.refKey) = false)
  | [], es, h => by
    simp only [kdE, List.isEmpty_iff] at h
    subst h
    exact ⟨fun v e => by simp at e, fun _ => ⟨rfl, rfl⟩⟩
  | kv :: r, [], h => by simp [kdE] at h
  | (k, v) :: r, e :: es, h => by
    simp only [kdE, Bool.and_eq_true] at h
    obtain ⟨⟨h1, h2⟩, h3⟩ := h
    obtain ⟨i1, i2⟩ := kdE_ok (z := z) h3
    obtain ⟨hsh, key, val⟩ := e
    dsimp only at h1 h2
    split at h1
    · rename_i x t
      have := of_decide_eq_true h1
      subst this
      have e1 : (Value.str x t).isStr z = (x == z) := rfl
      by_cases q : z = x
      · subst q
        refine ⟨fun w hw => ?_, fun hw => ?_⟩
        · simp only [List.lookup, beq_self_eq_true] at hw
          cases hw
          refine ⟨⟨hsh, .str z t, val⟩, ?_, h2⟩
          rw [List.find?_cons]
          simp only [e1, beq_self_eq_true]
        · simp [List.lookup] at hw
      · have b1 : (z == x) = false := beq_eq_false_iff_ne.mpr q
        have b2 : (x == z) = false := beq_eq_false_iff_ne.mpr (Ne.symm q)
        refine ⟨fun w hw => ?_, fun hw => ?_⟩
        · simp only [List.lookup, b1] at hw
          obtain ⟨e, a, b⟩ := i1 w hw
          refine ⟨e, ?_, b⟩
          rw [List.find?_cons]
          simp only [e1, b2]
          exact a
        · simp only [List.lookup, b1] at hw
          obtain ⟨a, b⟩ := i2 hw
          refine ⟨?_, ?_⟩
          · rw [List.find?_cons]
            simp only [e1, b2]
            exact a
          · rw [List.any_cons, b]; rfl
    · cases h1
def kdB (K : PySem.W.Frag) (a : Addr) (kvs : List (Str × LV)) : Bool := match K.lookup a with
  | some ⟨_, _, .dict es _, _⟩ => kdE K kvs es.toList
  | _ => false
theorem kdB_ok {K : PySem.W.Frag} {a : Addr} {kvs : List (Str × LV)} (h : kdB K a kvs = true) (z : Str) :
    (∀ v, kvs.lookup z = some v → ∃ u v', PySem.W.nsIn K a z = some (some u) ∧ RelV v' u ∧ ∀ H ρ, Rl K H ρ v v') ∧ (kvs.lookup z = none → PySem.W.nsIn K a z = some none) := by
  unfold kdB at h
  cases q : K.lookup a with
  | none => rw [q] at h; cases h
  | some o =>
    obtain ⟨oc, od, dt, osl⟩ := o
    rw [q] at h
    cases dt with
    | dict es n =>
      obtain ⟨h1, h2⟩ := kdE_ok (z := z) (show kdE K kvs es.toList = true from h)
      unfold PySem.W.nsIn
      rw [q]
      dsimp only
      refine ⟨fun v hv => ?_, fun hv => ?_⟩
      · obtain ⟨e, a1, a2⟩ := h1 v hv
        obtain ⟨v', b1, b2, _⟩ := lvB_ok v e.val a2
        rw [a1]
        exact ⟨e.val, v', rfl, b1, b2⟩
      · obtain ⟨a1, a2⟩ := h2 hv
        rw [a1, a2]
        rfl
    | _ => cases h

/-! ### the module -/
/-- a def: where it stands, its qualified name, its text, its names (the parameters first), how many parameters, its body -/
structure DD where
  at_ : Str × Option Str
  name : Str
  qual : Str
  st : Stmt
  N : List Str
  np : Nat
  body : LSs
  kwd : List (Str × He.Dv)
abbrev DD.dd (d : DD) : He.DefD := ⟨d.at_, d.name, d.qual, defArgs d.st, defBody d.st, defScope d.st, [], d.kwd⟩
structure Mo where
  nms : List Str
  cls : List Str
  defs : List DD
  nf : Nat
  fks : List (Nat × Str)
  glos : List (Str × LV)
  gds : List (Str × List (Str × LV))
  inits : List (Option Nat)
  mths : List (Nat × Nat × Nat)
  flds : List (Nat × Nat)
  kws : List (Nat × Nat × List Nat × List (Nat ⊕ Nat ⊕ LV))
  w : Nat
  /-- the file's name; own exceptions: with an __init__, without; what isinstance says -/
  file : Str := ""
  xs : List HX.XI := []
  x0 : List Str := []
  xt : List (Str × Str × Bool) := []
def Mo.xnames (m : Mo) : List Str := m.xs.map (·.x) ++ m.x0
def Mo.xin (m : Mo) (x : Str) : Option (List Str) := match m.xs.find? fun d => decide (d.x = x) with
  | some d => some d.flds
  | none => if x ∈ m.x0 then some [] else none
def Mo.xis (m : Mo) (x t : Str) : Option Bool := if t = "ValueError" ∨ t ∈ m.xnames then (m.xt.find? fun p => decide (p.1 = x) && decide (p.2.1 = t)).map (·.2.2) else none
def Mo.T (m : Mo) : Tb := ⟨m.nms, (m.defs.take m.nf).map (·.at_.1), m.cls, m.glos.map (·.1), m.gds.map (·.1), m.fks⟩
def Mo.init (m : Mo) (c : Nat) : Option Nat := (m.inits[c]?).join
def Mo.mth (m : Mo) (c n : Nat) : Option Nat := (m.mths.find? fun p => p.1 == c && p.2.1 == n).map (·.2.2)
def Mo.fld (m : Mo) (c f : Nat) : Bool := m.flds.any fun p => p.1 == c && p.2 == f
def Mo.kw (m : Mo) (f n : Nat) (ks : List Nat) : Option (List (Nat ⊕ Nat ⊕ LV)) := (m.kws.find? fun p => p.1 == f && p.2.1 == n && p.2.2.1 == ks).map (·.2.2.2)
def Mo.pg (m : Mo) : Pg where
  fns := fun f => (m.defs[f]?).map fun d => ⟨d.np, d.N.length, d.body⟩
  glo := fun i => (m.glos[i]?).map (·.2)
  kd := fun i => (m.gds[i]?).map (·.2)
  init := m.init
  mth := m.mth
  fld := m.fld
  kw := m.kw
  w := m.w
  xin := m.xin
  xis := m.xis
noncomputable def Mo.F (m : Mo) (k : Nat) : Fn := ⟨m.pg.glo, m.pg.kd, run m.pg k, m.init, m.mth, m.fld, m.kw, m.w, m.pg.x k, m.xis⟩
def Mo.nm (m : Mo) (i : Nat) : Str := (m.nms[i]?).getD (Str.mk ((Array.replicate (1000 + i) 120)))
def Mo.N (m : Mo) (K : PySem.W.Frag) : Na := ⟨m.nm, fun c => He.ga K (m.cls.getD c "")⟩
/-- a def's scope -/
def fsB (N P : List Str) (sc : Scope) : Bool := decide (sc.kind = .function) && !sc.isCoroutine && !sc.isGenerator && decide N.Nodup && decide (N.take P.length = P) && P.all (fun x => locB sc x) && sc.names.all fun y => !(y.2 == .free)
theorem fsB_ok {N P : List Str} {sc : Scope} (h : fsB N P sc = true) : FnScope N P sc := by
  simp only [fsB, Bool.and_eq_true, decide_eq_true_eq, Bool.not_eq_true', List.all_eq_true] at h
  obtain ⟨⟨⟨⟨⟨⟨h1, h2⟩, h3⟩, h4⟩, h5⟩, h6⟩, h7⟩ := h
  exact ⟨h1, h2, h3, h4, h5, fun x hx => locB_ok (h6 x hx), fun y hy e => by
    have := h7 y hy
    rw [e] at this
    cases this⟩
def plB (P : List Str) (a : Arguments) : Bool := match a with
  | ⟨[], as, none, [], [], none, []⟩ => decide (as.map (·.arg) = P)
  | _ => false
/-- the static check of a def -/
def DD.ok (T : Tb) (d : DD) : Bool := decide (d.np ≤ d.N.length) && fsB d.N (d.N.take d.np) (defScope d.st) && ckSs T d.N d.body (defScope d.st) (defBody d.st)
def Mo.freeL : List Str := ["len", "tuple", "list", "int", "min", "max", "sum", "any", "all", "str", "bool", "range", "isinstance", "super", "ValueError"]
/-- the facts to be asked of the head -/
def Mo.fas (m : Mo) : List He.Fa :=
  Mo.freeL.map He.Fa.free ++ (m.defs.take m.nf).map (fun d => .glo d.at_.1) ++ m.fks.map (fun p => .glo p.2) ++ (m.cls ++ m.xnames).map He.Fa.glo ++ m.cls.map He.Fa.cls ++ m.gds.map (fun p => .glo p.1)
    ++ (m.cls.zip m.inits).filterMap (fun p => p.2.map fun _ => .mkr p.1) ++ m.mths.map (fun p => .meth (m.cls.getD p.1 "") (m.nm p.2.1)) ++ m.flds.map (fun p => .noat (m.cls.getD p.1 "") (m.nm p.2))
def x0B (K : PySem.W.Frag) (x : Str) : Bool := PySem.W.excIn K (He.ga K x) bmVE "ValueError.__new__" && PySem.W.keepIn K (.ref (He.ga K x)) && HX.xfB K (He.ga K x)
def xtV (K : PySem.W.Frag) (t : Str) : Value := if t = "ValueError" then .type "ValueError" else .ref (He.ga K t)
def xtB (K : PySem.W.Frag) (p : Str × Str × Bool) : Bool := decide (PySem.W.kitOne K (.ref (He.ga K p.1)) (xtV K p.2.1) = some p.2.2)
def Mo.PB (m : Mo) (P : Program) : Bool := m.xs.isEmpty || ((P.main.file : Str) == m.file && !(P.main.scope.names.lookup ("super" : Str)).isSome)
def Mo.ex (m : Mo) (K : PySem.W.Frag) : Bool := (m.glos.all fun p => match PySem.W.nsIn K mainGlobals p.1 with
  | some (some u) => lvB K p.2 u
  | _ => false) && (m.gds.all fun p => kdB K (He.ga K p.1) p.2) && ((m.xs.all fun d => d.okK m.file K) && ((m.x0.all fun x => x0B K x) && m.xt.all fun p => xtB K p))
def Mo.ts (m : Mo) : List He.Tab := m.gds.map fun p => (fun K => He.ga K p.1, p.2.map (·.1))
/-- the static check of the tables -/
def Mo.ok (m : Mo) : Bool :=
  decide m.nms.Nodup && m.nms.all (fun x => decide (x.cps.size < 1000)) && decide (m.nf ≤ m.defs.length) && (m.defs.take m.nf).all (fun d => d.at_.2.isNone && plB (d.N.take d.np) (defArgs d.st)) && m.fks.all (fun p => match m.defs[p.1]? with
    | some d => decide (d.at_ = (p.2, none))
    | none => false)
  && decide (m.cls.length = m.inits.length) && (m.cls.zip m.inits).all (fun p => match p.2 with
    | none => true
    | some f => match m.defs[f]? with
      | some d => decide (d.at_ = (p.1, some ("__init__" : Str))) && plB (d.N.take d.np) (defArgs d.st)
      | none => false)
  && m.mths.all (fun p => decide (p.1 < m.cls.length) && match m.defs[p.2.2]? with
      | some d => decide (d.at_ = (m.cls.getD p.1 "", some (m.nm p.2.1))) && plB (d.N.take d.np) (defArgs d.st)
      | none => false)

theorem nd_inj {α : Type} {x : α} : ∀ {l : List α} {i j : Nat}, l.Nodup → l[i]? = some x → l[j]? = some x → i = j
  | [], i, j, _, h, _ => by simp at h
  | a :: l, 0, 0, _, _, _ => rfl
  | a :: l, 0, j + 1, nd, h1, h2 => by
    simp only [List.getElem?_cons_zero, Option.some.injEq] at h1
    subst h1
    exact ((List.nodup_cons.mp nd).1 (List.mem_of_getElem? (by simpa using h2))).elim
  | a :: l, i + 1, 0, nd, h1, h2 => by
    simp only [List.getElem?_cons_zero, Option.some.injEq] at h2
    subst h2
    exact ((List.nodup_cons.mp nd).1 (List.mem_of_getElem? (by simpa using h1))).elim
  | a :: l, i + 1, j + 1, nd, h1, h2 => by
    have h1' : l[i]? = some x := by simpa using h1
    have h2' : l[j]? = some x := by simpa using h2
    rw [nd_inj (List.nodup_cons.mp nd).2 h1' h2']
/-! ### what the head says -/
section
variable {m : Mo} {K : PySem.W.Frag} {w : World} {h0 : Heap}
theorem Mo.nm_inj (hm : m.ok = true) : ∀ f g, m.nm f = m.nm g → f = g := by
  simp only [Mo.ok, Bool.and_eq_true, decide_eq_true_eq, List.all_eq_true] at hm
  obtain ⟨⟨⟨⟨⟨⟨⟨nd, ln⟩, _⟩, _⟩, _⟩, _⟩, _⟩, _⟩ := hm
  have sz : ∀ i, i < m.nms.length → (m.nm i).cps.size < 1000 := fun i hi => by
    unfold Mo.nm
    rw [List.getElem?_eq_getElem hi]
    exact ln _ (List.getElem_mem hi)
  have sz2 : ∀ i, ¬ i < m.nms.length → (m.nm i).cps.size = 1000 + i := fun i hi => by
    unfold Mo.nm
    rw [List.getElem?_eq_none (by omega)]
    simp
  intro f g e
  by_cases hf : f < m.nms.length <;> by_cases hg : g < m.nms.length
  · unfold Mo.nm at e
    rw [List.getElem?_eq_getElem hf, List.getElem?_eq_getElem hg] at e
    have e2 : m.nms[f] = m.nms[g] := e
    exact nd_inj nd (List.getElem?_eq_getElem hf) (by rw [List.getElem?_eq_getElem hg, e2])
  · have a := sz f hf
    rw [e, sz2 g hg] at a
    omega
  · have a := sz g hg
    rw [← e, sz2 f hf] at a
    omega
  · have a := sz2 f hf
    rw [e, sz2 g hg] at a
    omega
end
end LG
end

section
set_option Elab.async false
set_option linter.all false
set_option maxRecDepth 100000
set_option maxHeartbeats 4000000
/-! LG13: every def keeps what the small language says. -/
namespace LG
open PySem PySem.Spec PyProof.Rows L2

section
variable {m : Mo} {K : PySem.W.Frag} {P : Program} {w : World} {h0 base : Heap} {mg : Str → Option Value}
abbrev FD1 (K : PySem.W.Frag) (d : DD) (fd : FuncData) : Prop := FunD K d.name d.qual (defArgs d.st) (defBody d.st) (defScope d.st) [] (d.dd.kws K) (He.fAd K d.at_) fd
theorem pl_binds {P : List Str} {a : Arguments} {x qual : Str} {body : List Stmt} {scope : Scope} {kws : List (Str × V)} {f : Addr} {fd : FuncData} (h : plB P a = true) (nd : P.Nodup) (F : FunD K x qual a body scope [] kws f fd) : Binds K fd P [] := by
  unfold plB at h
  split at h
  · rename_i as
    have e := of_decide_eq_true h
    subst e
    exact F.bindsN fun kV doc pm an cdv ct us hl => bind_plain nd (by simpa using hl)
  · cases h
/-- how keywords and defaults bind -/
structure KwOk (m : Mo) (K : PySem.W.Frag) : Prop where
  d : ∀ f d n sl fd, m.defs[f]? = some d → m.kw f n [] = some sl → FD1 K d fd → ∃ ds dvs, Binds K fd (d.N.take d.np) ds ∧ Vals dvs ds ∧ ∀ (lvs ws : List LV), lvs.length = n → fill lvs [] sl = some ws → ∃ lds, ws = lvs ++ lds ∧ ∀ H ρ, Rls K H ρ lds dvs
  k : ∀ f d n ks sl fd, m.defs[f]? = some d → ks ≠ [] → m.kw f n ks = some sl → FD1 K d fd → ∃ nks g gV, (ks.map fun i => m.nms[i]?) = nks.map some ∧ KBn K fd (d.N.take d.np) n nks g gV ∧
    ∀ H ρ (lvs lzs ws : List LV) (vs zs : List V), lvs.length = n → lzs.length = ks.length → Rls K H ρ lvs vs → Rls K H ρ lzs zs → fill lvs lzs sl = some ws → Rls K H ρ ws (gV vs zs)
def FnAll (m : Mo) (K : PySem.W.Frag) (P : Program) (w : World) (mg : Str → Option Value) (base : Heap) (k : Nat) : Prop :=
  ∀ f d, m.defs[f]? = some d → ∀ fd, FD1 K d fd → FnOk P w K mg base CX0 (2 * k) (He.fAd K d.at_) fd (d.N.take d.np) (SpL (m.N K) K (run m.pg k f))
theorem nodupN {d : DD} (h : DD.ok m.T d = true) : (d.N.take d.np).Nodup := by
  simp only [DD.ok, Bool.and_eq_true] at h
  exact (fsB_ok h.1.2).nd.sublist (List.take_sublist _ _)
theorem zip_mem {α β : Type} : ∀ {l : List α} {r : List β} {i : Nat} {a : α} {b : β}, l[i]? = some a → r[i]? = some b → (a, b) ∈ l.zip r
  | [], _, i, _, _, h, _ => by simp at h
  | _ :: _, [], i, _, _, _, h => by simp at h
  | x :: l, y :: r, 0, a, b, h1, h2 => by
    simp at h1 h2
    subst h1 h2
    exact List.mem_cons_self
  | x :: l, y :: r, i + 1, a, b, h1, h2 => List.mem_cons_of_mem _ (zip_mem (i := i) (by simpa using h1) (by simpa using h2))
theorem memL {α : Type} {f : Nat} {x : α} : ∀ {l : List (Nat × α)}, l.lookup f = some x → (f, x) ∈ l
  | [], h => by simp at h
  | (g, y) :: l, h => by
    simp only [List.lookup] at h
    cases e : f == g with
    | true =>
      rw [e] at h
      cases h
      rw [beq_iff_eq] at e
      subst e
      exact List.mem_cons_self
    | false =>
      rw [e] at h
      exact List.mem_cons_of_mem _ (memL h)
theorem getD_some {l : List Str} {i : Nat} {x d : Str} (h : l[i]? = some x) : l.getD i d = x := by
  rw [List.getD_eq_getElem?_getD, h]; rfl
theorem Mo.fx (hm : m.ok = true) (hd : m.defs.all (DD.ok m.T) = true) (c : He.SaysD m.fas (m.defs.map DD.dd) K) (cx : m.ex K = true) (ct : ∀ p ∈ m.gds, ∃ es n, KDict K w (He.ga K p.1) es n) (X : K.In h0) (G : h0.Ns mainGlobals mg) (kw : KwOk m K) (k : Nat)
    (hP : m.PB P = true) (FA : FnAll m K P w mg base k) : Fx m.T (m.N K) (m.F k) (2 * k) P w K mg base := by
  have hinj := Mo.nm_inj hm
  simp only [Mo.ok, Bool.and_eq_true, decide_eq_true_eq, List.all_eq_true] at hm
  obtain ⟨⟨⟨⟨⟨⟨⟨m1, m2⟩, m3⟩, m4⟩, m5⟩, m6⟩, m7⟩, m8⟩ := hm
  simp only [List.all_eq_true] at hd
  simp only [Mo.ex, Bool.and_eq_true, List.all_eq_true] at cx
  have free : ∀ x ∈ Mo.freeL, mg x = none := fun x hx => He.free_ok X G (c.facts (f := .free x) (by simp only [Mo.fas, List.mem_append, List.mem_map]; exact .inl (.inl (.inl (.inl (.inl (.inl (.inl (.inl ⟨x, hx, rfl⟩)))))))))
  have defn : ∀ (f : Nat) (d : DD), m.defs[f]? = some d → ∃ fd, FD1 K d fd := fun f d h => by
    obtain ⟨fd, F⟩ := c.defs (d := d.dd) (List.mem_map.mpr ⟨d, List.mem_of_getElem? h, rfl⟩)
    exact ⟨fd, F⟩
  have ndup : ∀ (f : Nat) (d : DD), m.defs[f]? = some d → (d.N.take d.np).Nodup := fun f d h => nodupN (hd d (List.mem_of_getElem? h))
  refine ⟨hinj, fun i x h => ?_, fun f => free _ ?_, fun t x h => free _ ?_, free _ (by simp [Mo.freeL]), free _ (by simp [Mo.freeL]), fun i x v h1 h2 => ?_, fun i x kvs h1 h2 => ?_, fun f x h => ?_, fun f x n sl h1 h2 => ?_, fun f x n ks sl h1 h2 h3 => ?_, fun cc x f h1 h2 => ?_, fun cc n f h => ?_, fun cc f h => ?_, fun x fs h => ?_, fun x t b h => ?_⟩
  · show m.nm i = x
    unfold Mo.nm
    have h' : m.nms[i]? = some x := h
    rw [h']; rfl
  · cases f <;> decide +kernel
  · cases t <;> simp only [tyName, Option.some.injEq] at h <;> first | (subst h; decide +kernel) | cases h
  · have h1' : (m.glos.map (·.1))[i]? = some x := h1
    have h2' : (m.glos[i]?).map (·.2) = some v := h2
    rw [List.getElem?_map] at h1'
    cases e : m.glos[i]? with
    | none => rw [e] at h1'; cases h1'
    | some p =>
      rw [e] at h1' h2'
      cases h1'; cases h2'
      have q := cx.1.1 p (List.mem_of_getElem? e)
      cases e2 : PySem.W.nsIn K mainGlobals p.1 with
      | none => rw [e2] at q; cases q
      | some r =>
        rw [e2] at q
        cases r with
        | none => cases q
        | some u =>
          obtain ⟨v', a1, a2, a3⟩ := lvB_ok p.2 u q
          exact ⟨u, v', PySem.W.mg_of X G e2, a1, a2, a3⟩
  · have h1' : (m.gds.map (·.1))[i]? = some x := h1
    have h2' : (m.gds[i]?).map (·.2) = some kvs := h2
    rw [List.getElem?_map] at h1'
    cases e : m.gds[i]? with
    | none => rw [e] at h1'; cases h1'
    | some p =>
      rw [e] at h1' h2'
      cases h1'; cases h2'
      have hp := List.mem_of_getElem? e
      obtain ⟨es, n, D⟩ := ct p hp
      refine ⟨_, es, n, He.glo_ok X G (c.facts (f := .glo p.1) ?_), D, fun z => kdB_ok (cx.1.2 p hp) z⟩
      simp only [Mo.fas, List.mem_append, List.mem_map]
      exact .inl (.inl (.inl (.inr ⟨p, hp, rfl⟩)))
  · have h' : ((m.defs.take m.nf).map (·.at_.1))[f]? = some x := h
    rw [List.getElem?_map] at h'
    cases e : (m.defs.take m.nf)[f]? with
    | none => rw [e] at h'; cases h'
    | some d =>
      rw [e] at h'
      cases h'
      have hp := List.mem_of_getElem? e
      have hdf : m.defs[f]? = some d := by
        rw [List.getElem?_take] at e
        split at e
        · exact e
        · cases e
      obtain ⟨q1, q2⟩ := m4 d hp
      obtain ⟨fd, F⟩ := defn f d hdf
      have ea : He.fAd K d.at_ = He.ga K d.at_.1 := by
        unfold He.fAd
        rw [Option.isNone_iff_eq_none] at q1
        rw [q1]
      refine ⟨He.ga K d.at_.1, fd, _, He.glo_ok X G (c.facts (f := .glo d.at_.1) ?_), ?_, pl_binds q2 (ndup f d hdf) F, ?_⟩
      · simp only [Mo.fas, List.mem_append, List.mem_map]
        exact .inl (.inl (.inl (.inl (.inl (.inl (.inl (.inr ⟨d, hp, rfl⟩)))))))
      · rw [← ea]; exact F.kp
      · rw [← ea]; exact FA f d hdf fd F
  · have hx : (f, x) ∈ m.fks := memL h1
    have q := m5 _ hx
    cases hdf : m.defs[f]? with
    | none => simp only [hdf] at q; cases q
    | some d =>
      simp only [hdf] at q
      have ea0 := of_decide_eq_true q
      have ea : He.fAd K d.at_ = He.ga K x := by rw [ea0]; rfl
      obtain ⟨fd, F⟩ := defn f d hdf
      obtain ⟨ds, dvs, b1, b2, b3⟩ := kw.d f d n sl fd hdf h2 F
      refine ⟨He.ga K x, fd, _, ds, dvs, He.glo_ok X G (c.facts (f := .glo x) ?_), ?_, b1, b2, ?_, b3⟩
      · simp only [Mo.fas, List.mem_append, List.mem_map]
        exact .inl (.inl (.inl (.inl (.inl (.inl (.inr ⟨_, hx, rfl⟩))))))
      · rw [← ea]; exact F.kp
      · rw [← ea]; exact FA f d hdf fd F
  · have hx : (f, x) ∈ m.fks := memL h1
    have q := m5 _ hx
    cases hdf : m.defs[f]? with
    | none => simp only [hdf] at q; cases q
    | some d =>
      simp only [hdf] at q
      have ea0 := of_decide_eq_true q
      have ea : He.fAd K d.at_ = He.ga K x := by rw [ea0]; rfl
      obtain ⟨fd, F⟩ := defn f d hdf
      obtain ⟨nks, g, gV, b0, b1, b3⟩ := kw.k f d n ks sl fd hdf h2 h3 F
      refine ⟨He.ga K x, fd, _, nks, g, gV, b0, He.glo_ok X G (c.facts (f := .glo x) ?_), ?_, b1, ?_, b3⟩
      · simp only [Mo.fas, List.mem_append, List.mem_map]
        exact .inl (.inl (.inl (.inl (.inl (.inl (.inr ⟨_, hx, rfl⟩))))))
      · rw [← ea]; exact F.kp
      · rw [← ea]; exact FA f d hdf fd F
  · have h1' : m.cls[cc]? = some x := h1
    have h2' : (m.inits[cc]?).join = some f := h2
    have hz : m.inits[cc]? = some (some f) := by
      cases e : m.inits[cc]? with
      | none => rw [e] at h2'; cases h2'
      | some o => rw [e] at h2'; cases o with
        | none => cases h2'
        | some g => cases h2'; rfl
    have hmem : (x, some f) ∈ m.cls.zip m.inits := zip_mem h1' hz
    have q := m7 _ hmem
    have hxc : x ∈ m.cls := List.mem_of_getElem? h1'
    cases hdf : m.defs[f]? with
    | none => simp only [hdf] at q; cases q
    | some d =>
      simp only [hdf, Bool.and_eq_true] at q
      have ea0 := of_decide_eq_true q.1
      obtain ⟨fd, F⟩ := defn f d hdf
      have ca : (m.N K).ca cc = He.ga K x := by
        show He.ga K (m.cls.getD cc "") = _
        rw [getD_some h1']
      have ea : He.fAd K d.at_ = He.ma K (He.ga K x) "__init__" := by rw [ea0]; rfl
      refine ⟨He.fAd K d.at_, fd, _, ?_, ?_, ?_, pl_binds q.2 (ndup f d hdf) F, FA f d hdf fd F⟩
      · rw [ca]
        refine He.glo_ok X G (c.facts (f := .glo x) ?_)
        simp only [Mo.fas, List.mem_append, List.mem_map]
        exact .inl (.inl (.inl (.inl (.inl (.inr ⟨x, .inl hxc, rfl⟩)))))
      · rw [ca, ea]
        refine He.mkr_ok (c.facts (f := .mkr x) ?_)
        simp only [Mo.fas, List.mem_append, List.mem_map, List.mem_filterMap]
        exact .inl (.inl (.inr ⟨_, hmem, rfl⟩))
      · rw [ca]
        refine He.cls_ok (c.facts (f := .cls x) ?_)
        simp only [Mo.fas, List.mem_append, List.mem_map]
        exact .inl (.inl (.inl (.inl (.inr ⟨x, hxc, rfl⟩))))
  · have h' : (m.mths.find? fun p => p.1 == cc && p.2.1 == n).map (·.2.2) = some f := h
    cases e : m.mths.find? fun p => p.1 == cc && p.2.1 == n with
    | none => rw [e] at h'; cases h'
    | some p =>
      rw [e] at h'
      cases h'
      have hp := List.mem_of_find?_eq_some e
      have hb := List.find?_some e
      simp only [Bool.and_eq_true, beq_iff_eq] at hb
      obtain ⟨rfl, rfl⟩ := hb
      have q := m8 p hp
      cases hdf : m.defs[p.2.2]? with
      | none => simp only [hdf] at q; cases q.2
      | some d =>
        simp only [hdf, Bool.and_eq_true] at q
        have ea0 := of_decide_eq_true q.2.1
        obtain ⟨fd, F⟩ := defn _ d hdf
        have ea : He.fAd K d.at_ = He.ma K (He.ga K (m.cls.getD p.1 "")) (m.nm p.2.1) := by rw [ea0]; rfl
        refine ⟨He.fAd K d.at_, fd, _, ?_, pl_binds q.2.2 (ndup _ d hdf) F, FA _ d hdf fd F⟩
        rw [ea]
        refine He.meth_ok (c.facts (f := .meth (m.cls.getD p.1 "") (m.nm p.2.1)) ?_)
        simp only [Mo.fas, List.mem_append, List.mem_map]
        exact .inl (.inr ⟨p, hp, rfl⟩)
  · have h' : (m.flds.any fun p => p.1 == cc && p.2 == f) = true := h
    obtain ⟨p, hp, hb⟩ := List.any_eq_true.mp h'
    simp only [Bool.and_eq_true, beq_iff_eq] at hb
    obtain ⟨rfl, rfl⟩ := hb
    refine He.noat_ok (c.facts (f := .noat (m.cls.getD p.1 "") (m.nm p.2)) ?_)
    simp only [Mo.fas, List.mem_append, List.mem_map]
    exact .inr ⟨p, hp, rfl⟩
  · cases k with
    | zero => cases h
    | succ k =>
      have h' : m.xin x = some fs := h
      unfold Mo.xin at h'
      cases e : m.xs.find? fun d => decide (d.x = x) with
      | some d =>
        rw [e] at h'
        cases h'
        have hd' := List.mem_of_find?_eq_some e
        have hx : d.x = x := by simpa using List.find?_some e
        subst hx
        have hK := cx.2.1 d hd'
        have hne : m.xs.isEmpty = false := by cases hq : m.xs with
          | nil => rw [hq] at hd'; cases hd'
          | cons a b => rfl
        unfold Mo.PB at hP
        rw [hne, Bool.false_or, Bool.and_eq_true, Bool.not_eq_true'] at hP
        obtain ⟨T0, XFc⟩ := HX.XI.oex hK
        obtain ⟨fI, fd, f1, f2, f3, f4⟩ := HX.XI.fnok (P := P) (w := w) (mg := mg) (base := base) (k := 2 * k + 1) hK hP.1 hP.2 (free _ (by simp [Mo.freeL]))
        have hlen : d.flds ≠ [] ∧ d.flds.length ≤ 900 := by
          simp only [HX.XI.okK, Bool.and_eq_true, decide_eq_true_eq] at hK
          exact ⟨hK.2.1.1, hK.2.2⟩
        refine ⟨He.glo_ok X G (c.facts (f := .glo d.x) ?_), ⟨XFc, HX.XI.noat hK⟩, .inr ⟨hlen.1, hlen.2, T0, fI, fd, d.N, f1, f2, f3, f4⟩⟩
        simp only [Mo.fas, List.mem_append, List.mem_map]
        exact .inl (.inl (.inl (.inl (.inl (.inr ⟨d.x, .inr (by unfold Mo.xnames; exact List.mem_append.mpr (.inl (List.mem_map.mpr ⟨d, hd', rfl⟩))), rfl⟩)))))
      | none =>
        rw [e] at h'
        dsimp only at h'
        split at h'
        · rename_i hmem
          cases h'
          have q := cx.2.2.1 x hmem
          simp only [x0B, Bool.and_eq_true] at q
          refine ⟨He.glo_ok X G (c.facts (f := .glo x) ?_), ⟨HX.xfB_ok q.2, fun f hf => by cases hf⟩, .inl ⟨rfl, q.1.1, q.1.2⟩⟩
          simp only [Mo.fas, List.mem_append, List.mem_map]
          exact .inl (.inl (.inl (.inl (.inl (.inr ⟨x, .inr (by unfold Mo.xnames; exact List.mem_append.mpr (.inr hmem)), rfl⟩)))))
        · cases h'
  · have h' : m.xis x t = some b := h
    unfold Mo.xis at h'
    split at h'
    · rename_i ht
      cases e : m.xt.find? fun p => decide (p.1 = x) && decide (p.2.1 = t) with
      | none => rw [e] at h'; cases h'
      | some p =>
        rw [e] at h'
        cases h'
        have hp := List.mem_of_find?_eq_some e
        have hb := List.find?_some e
        simp only [Bool.and_eq_true, decide_eq_true_eq] at hb
        obtain ⟨rfl, rfl⟩ := hb
        have q := of_decide_eq_true (cx.2.2.2 p hp)
        refine ⟨_, ?_, q⟩
        unfold xtV
        by_cases hv : p.2.1 = ("ValueError" : Str)
        · rw [if_pos hv, hv]
          exact .inr ⟨"ValueError", rfl, free _ (by simp [Mo.freeL]), by decide +kernel, by decide⟩
        · rw [if_neg hv]
          refine .inl ⟨_, rfl, He.glo_ok X G (c.facts (f := .glo p.2.1) ?_)⟩
          simp only [Mo.fas, List.mem_append, List.mem_map]
          exact .inl (.inl (.inl (.inl (.inl (.inr ⟨p.2.1, .inr (ht.resolve_left hv), rfl⟩)))))
    · cases h'
theorem start_rs {N : List Str} {np : Nat} {H : Hp} {ρ : Rho} {lvs : List LV} {vs : List V} (hn : np ≤ N.length) (hl : lvs.length = np) (r : Rls K H ρ lvs vs) : RS K H ρ (lvs.map some ++ List.replicate (N.length - np) none) (L2.start N vs) := by
  have hl2 := r.length
  refine ⟨by simp [L2.start]; omega, fun i v h => ?_⟩
  by_cases hi : i < lvs.length
  · rw [List.getElem?_append_left (by simpa using hi), List.getElem?_map] at h
    cases e : lvs[i]? with
    | none => rw [e] at h; cases h
    | some u =>
      rw [e] at h
      cases h
      obtain ⟨x, h1, h2⟩ := r.get e
      refine ⟨x, ?_, h2⟩
      unfold L2.start
      rw [List.getElem?_append_left (by simp; omega), List.getElem?_map, h1]
      rfl
  · rw [List.getElem?_append_right (by simpa using hi), List.getElem?_replicate] at h
    split at h <;> cases h
theorem Mo.all (hm : m.ok = true) (hd : m.defs.all (DD.ok m.T) = true) (c : He.SaysD m.fas (m.defs.map DD.dd) K) (cx : m.ex K = true) (ct : ∀ p ∈ m.gds, ∃ es n, KDict K w (He.ga K p.1) es n) (X : K.In h0) (G : h0.Ns mainGlobals mg) (kw : KwOk m K) (hP : m.PB P = true) :
    ∀ k, FnAll m K P w mg base k
  | 0 => fun f d hdf fd F => ⟨fun vs H Q E ⟨lvs, L, ρ, rep, r, p⟩ => p.elim, fun A outer s H args us vs Q E _ _ _ _ ⟨lvs, L, ρ, rep, r, p⟩ => p.elim⟩
  | k + 1 => fun f d hdf fd F => by
    have FA := Mo.all hm hd c cx ct X G kw hP k
    have fx : Fx m.T (m.N K) (m.F k) (2 * k) P w K mg base := Mo.fx hm hd c cx ct X G kw k hP FA
    have hok := List.all_eq_true.mp hd d (List.mem_of_getElem? hdf)
    simp only [DD.ok, Bool.and_eq_true, decide_eq_true_eq] at hok
    obtain ⟨⟨hn, hs⟩, hc⟩ := hok
    have S := fsB_ok hs
    have hpl : (d.N.take d.np).length = d.np := by rw [List.length_take]; omega
    have hrun : ∀ lvs L, run m.pg (k + 1) f lvs L = if lvs.length = d.np then
        (evSs (m.F k) d.body (lvs.map some ++ List.replicate (d.N.length - d.np) none) L).bind fun p L1 => match p.1 with
          | .nx => .ok .non L1
          | .ret v => .ok v L1
          | _ => .bad
      else .bad := fun lvs L => by
      have e : m.pg.fns f = some ⟨d.np, d.N.length, d.body⟩ := by
        show (m.defs[f]?).map _ = _
        rw [hdf]; rfl
      rw [run, e]
      rfl
    have hlen : ∀ vs H Q E, SpL (m.N K) K (run m.pg (k + 1) f) vs H Q E → vs.length = (d.N.take d.np).length := fun vs H Q E ⟨lvs, L, ρ, rep, r, p⟩ => by
      rw [hrun] at p
      split at p
      · rename_i hl
        rw [← r.length, hl, hpl]
      · exact p.elim
    refine F.ok S hlen fun cdv A outer s H vs Q E hr hsp => ⟨LTS (m.N K) K (evSs (m.F k) d.body), PSs.nox (sSs (T := m.T) (lv := 2 * k) ⟨⟨rfl, S.nd, hr, fx⟩, PassesOwn.never, fun _ => rfl, S.kind⟩ d.body _ hc), ?_⟩
    obtain ⟨lvs, L, ρ, rep, r, p⟩ := hsp
    rw [hrun] at p
    split at p
    · rename_i hl
      refine ⟨_, L, ρ, start_rs hn hl r, rep, ?_⟩
      cases e : evSs (m.F k) d.body (lvs.map some ++ List.replicate (d.N.length - d.np) none) L with
      | err x L1 => rw [e] at p; exact p.elim
      | bad => rw [e] at p; exact p.elim
      | ok q L1 =>
        rw [e] at p
        obtain ⟨fl, l1⟩ := q
        simp only [Out.bind] at p
        intro H1 ρ1 s1 e1 rep1
        cases fl with
        | nx => exact fun σ rs => p H1 ρ1 _ s1 e1 rep1 (Rl.non.mpr rfl)
        | ret v => exact fun x rx => p H1 ρ1 x s1 e1 rep1 rx
        | brk => exact p.elim
        | cont => exact p.elim
    · exact p.elim
end
end LG
end

section
set_option Elab.async false
set_option linter.all false
set_option maxRecDepth 100000
set_option maxHeartbeats 4000000
/-! LG14: from what the small language says of the law's def to the row. -/
namespace LG
open PySem PySem.Spec PyProof.Rows L2

/-- what is observed: what the names reach, and the interpreter's own statics -/
def obsM (n : Nat) (fa : List He.Fa) (fn : List He.DefD) (ts : List He.Tab) (ex : PySem.W.Frag → Bool) (g : Addr → Option Obj) : He.AlX := (He.obsT fa fn ts (He.frT g (He.asD g n ++ [cStatics])), ex (He.frT g (He.asD g n ++ [cStatics])))
theorem saysM_of {n : Nat} {fa : List He.Fa} {fn : List He.DefD} {ts : List He.Tab} {ex : PySem.W.Frag → Bool} {w : World} {h : Heap} (e : obsM n fa fn ts ex h.get? = He.valX fn ts w) : He.SaysX fa fn ts [] ex w h (He.frT h.get? (He.asD h.get? n ++ [cStatics])) :=
  ⟨congrArg (fun z : He.AlX => z.1) e, congrArg (fun z : He.AlX => z.2) e, fun p hp => (by cases hp), fun p hp => (by cases hp), fun p hp => (by cases hp)⟩
def hookM (n : Nat) (fa : List He.Fa) (fn : List He.DefD) (ts : List He.Tab) (ex : PySem.W.Frag → Bool) : PySem.W.Hook where
  α := He.AlX
  obs := fun s => obsM n fa fn ts ex s.heap.get?
  val := fun w => He.valX fn ts w
  says := fun w h => ∃ K : PySem.W.Frag, K.In h ∧ He.SaysX fa fn ts [] ex w h K
  of := fun _ _ e => ⟨_, He.frT_in, saysM_of e⟩
  keeps := fun _ _ _ ⟨K, hK, c⟩ k => ⟨K, PySem.W.Frag.In.keeps hK k, ⟨c.t, c.more, c.hd, c.out, fun p hp => k _ _ (c.empty p hp)⟩⟩
theorem obsM_eq {n : Nat} {fa : List He.Fa} {fn : List He.DefD} {ts : List He.Tab} {ex : PySem.W.Frag → Bool} {g : Addr → Option Obj} {s : Shared} (h : ∀ a, g a = s.heap.get? a) : obsM n fa fn ts ex g = (hookM n fa fn ts ex).obs s := by
  have e : g = s.heap.get? := funext h
  rw [e] <;> rfl
abbrev Mo.hook (m : Mo) (n : Nat) : PySem.W.Hook := hookM n m.fas (m.defs.map DD.dd) m.ts m.ex
def Mo.ob (m : Mo) (n : Nat) (s : PySem.W.SharedT) : He.AlX := obsM n m.fas (m.defs.map DD.dd) m.ts m.ex (HandSHeadRun.getT s)
theorem Mo.ob_eq (m : Mo) (n : Nat) (s : PySem.W.SharedT) : m.ob n s = (m.hook n).obs s.abs := obsM_eq (HandSHeadRun.getT_eq s)
def L0 : LH := ⟨0, fun _ => none⟩
theorem rep0 {N : Na} {K : PySem.W.Frag} {H : Hp} : Rep N K H L0 (fun _ => none) where
  fresh := fun _ _ => rfl
  obj := fun i o h => by cases h
  inj := fun i j a h => by cases h
  dom := fun i a h => by cases h
theorem Rls.ints {K : PySem.W.Frag} {H : Hp} {ρ : Rho} : ∀ {ns : List Int}, Rls K H ρ (ns.map LV.int) (ns.map V.int)
  | [] => Rls.nil'
  | n :: ns => Rls.mk (Rl.int.mpr rfl) Rls.ints
theorem Mo.tab {m : Mo} {K : PySem.W.Frag} {w : World} (c : He.SaysT m.fas (m.defs.map DD.dd) m.ts w K) : ∀ p ∈ m.gds, ∃ es n, KDict K w (He.ga K p.1) es n := fun p hp => by
  obtain ⟨i, hi, e⟩ := List.mem_iff_getElem.mp hp
  have h : m.ts[i]? = some (fun K => He.ga K p.1, p.2.map (·.1)) := by
    unfold Mo.ts
    rw [List.getElem?_map, List.getElem?_eq_getElem hi, e]; rfl
  exact c.tab i (t := (fun K => He.ga K p.1, p.2.map (·.1))) h
/-- the goal that the head leaves, from the computation of the law's def -/
theorem Mo.walk {l : PySem.W.OpenLaw} {m : Mo} {n fi k j : Nat} {dl : DD} {q : Program} {loose : List Str} {XP : (Str → Option Value) → Heap → Prop} {d : DefRec} {x : Str}
    (hn : l.most = some n) (hn2 : n ≤ sizeLine) (hdf : d.params.defaults = []) (hr : Room (2 * k) callerA) (hm : m.ok = true) (hd : m.defs.all (DD.ok m.T) = true) (kw : ∀ K, KwOk m K) (hP : m.PB l.prog = true)
    (hfi : m.defs[fi]? = some dl) (hfn : fi < m.nf) (hname : dl.at_ = (d.name, none)) (hx : dl.N.take dl.np = [x])
    (plain : ∀ ns : List Int, ns.length ≤ n → (∀ z ∈ ns, Builtin.Int.intBits z ≤ 1048576) → ∃ L, run m.pg k fi [.scr (ns.map LV.int)] L0 = .ok (.bl true) L) :
    PySem.W.WalkO q loose XP (m.hook j).says l.row.toRowW d [] (fun f vs => PySem.call f vs) := by
  refine Att.attach_callB hn hdf fun w s₀ s₁ mg mb fa o pm cd doc a vs ns G Y ho hd2 hcd hmg hobj hints hlen hbits hg => ?_
  obtain ⟨K, KX, c⟩ := Y
  have cd := c.t.d
  have ct := Mo.tab c.t
  have hm' := hm
  obtain ⟨fd, F⟩ := cd.defs (d := dl.dd) (List.mem_map.mpr ⟨dl, List.mem_of_getElem? hfi, rfl⟩)
  have F : FD1 K dl fd := F
  have hpl : plB (dl.N.take dl.np) (defArgs dl.st) = true := by
    simp only [Mo.ok, Bool.and_eq_true, List.all_eq_true] at hm'
    refine (hm'.1.1.1.1.2 dl ?_).2
    have : (m.defs.take m.nf)[fi]? = some dl := by rw [List.getElem?_take_of_lt hfn]; exact hfi
    exact List.mem_of_getElem? this
  have hga : fa = He.fAd K dl.at_ := by
    have g : mg dl.at_.1 = some (.ref (He.ga K dl.at_.1)) := He.glo_ok KX G.T.g (cd.facts (f := .glo dl.at_.1) (by
      simp only [Mo.fas, List.mem_append, List.mem_map]
      refine .inl (.inl (.inl (.inl (.inl (.inl (.inl (.inr ⟨dl, ?_, rfl⟩)))))))
      have : (m.defs.take m.nf)[fi]? = some dl := by rw [List.getElem?_take_of_lt hfn]; exact hfi
      exact List.mem_of_getElem? this))
    rw [hname] at g
    rw [show (d.name, (none : Option Str)).1 = d.name from rfl, hmg] at g
    rw [hname]
    exact Value.ref.inj (Option.some.inj g)
  subst hga
  have hb : ∀ (s : Shared) (u : Value), BindsTo s fd ⟨[u], []⟩ [(x, u)] := fun s u => by
    unfold plB at hpl
    split at hpl
    · rename_i as ea
      have e := of_decide_eq_true hpl
      rw [hx] at e
      have F' : FunD K dl.name dl.qual ⟨[], as, none, [], [], none, []⟩ (defBody dl.st) (defScope dl.st) [] (dl.dd.kws K) (He.fAd K dl.at_) fd := by
        have F2 := F
        unfold FD1 at F2
        rw [ea] at F2
        exact F2
      have b := FunD.bindsA (ps := [x]) F' (fun kV doc pm an cdv ct us hl => by
        have hl2 : us.length = as.length := by
          have := congrArg List.length e
          simp at this
          rw [this]; exact hl
        have := bind_plain (x := dl.name) (qual := dl.qual) (args := as) (body := defBody dl.st) (scope := defScope dl.st) (kV := kV) (doc := doc) (pm := pm) (cdv := cdv) (ct := ct) (an := an) (us := us) (by rw [e]; simp) hl2
        rw [e] at this
        exact this) s [u] rfl
      exact b
    · cases hpl
  refine law_call KX G.T.g G.T.b G.T.builtins G.T.nolimit hg hobj hints (Nat.le_trans hlen hn2) hr (sp := SpL (m.N K) K (run m.pg k fi)) (CX := CX0) (fun base _ _ => ?_) hb (fun H hO hS => ?_) fun H e s' z => z
  · have := Mo.all (P := l.prog) (w := w) (mg := mg) (base := base) hm hd cd c.more ct KX G.T.g (kw K) hP k fi dl hfi fd F
    rw [hx] at this
    exact this
  · obtain ⟨L, e⟩ := plain ns hlen hbits
    refine ⟨[.scr (ns.map LV.int)], L0, fun _ => none, rep0, Rls.mk (Rl.scr.mpr ⟨a, _, rfl, FzL.of hO hS, Rls.ints⟩) Rls.nil', ?_⟩
    rw [e]
    intro H' ρ' b _ _ _ r
    exact Rl.bl.mp r
/-! ### texts by number -/
theorem cs_inj_of {l : List Str} {d : Str} {i j n : Nat} (nd : l.Nodup) (hn : l.length = n) (h : i < n) (h2 : j < n) : (l.getD i d = l.getD j d) = (i = j) := by
  subst hn
  have e1 : l[i]? = some (l.getD i d) := by rw [List.getD_eq_getElem?_getD, List.getElem?_eq_getElem h]; rfl
  have e2 : l[j]? = some (l.getD j d) := by rw [List.getD_eq_getElem?_getD, List.getElem?_eq_getElem h2]; rfl
  refine propext ⟨fun e => ?_, fun e => by rw [e]⟩
  rw [e] at e1
  exact nd_inj nd e1 e2
theorem cs_beq_of {l : List Str} {d : Str} {i j n : Nat} (nd : l.Nodup) (hn : l.length = n) (h : i < n) (h2 : j < n) : (l.getD i d == l.getD j d) = (i == j) := by
  have := cs_inj_of (d := d) nd hn h h2
  by_cases e : i = j
  · rw [e]; simp
  · have e2 : ¬ (l.getD i d = l.getD j d) := by rw [this]; exact e
    rw [beq_eq_false_iff_ne.mpr e2, beq_eq_false_iff_ne.mpr e]
end LG
end

section
set_option Elab.async false
set_option linter.all false
set_option maxRecDepth 100000
set_option maxHeartbeats 4000000
/-! LG15: computing with the small language: equations for simp. -/
namespace LG
open PySem PySem.Spec PyProof.Rows L2

/-- what a def's body gives -/
def endOf (o : Out (Fl × LSt)) : Out LV := o.bind fun p L1 => match p.1 with
  | .nx => .ok .non L1
  | .ret v => .ok v L1
  | _ => .bad
@[simp] theorem endOf_nx {σ : LSt} {L : LH} : endOf (.ok (.nx, σ) L) = .ok .non L := (rfl)
@[simp] theorem endOf_ret {σ : LSt} {L : LH} {v : LV} : endOf (.ok (.ret v, σ) L) = .ok v L := (rfl)
theorem endOf_ite {c : Prop} [Decidable c] {a b : Out (Fl × LSt)} : endOf (if c then a else b) = if c then endOf a else endOf b := by split <;> rfl
theorem Mo.run_succ {m : Mo} {k f : Nat} {d : DD} {vs : List LV} {L : LH} (h : m.defs[f]? = some d) (hl : vs.length = d.np) :
    run m.pg (k + 1) f vs L = endOf (evSs (m.F k) d.body (vs.map some ++ List.replicate (d.N.length - d.np) none) L) := by
  have e : m.pg.fns f = some ⟨d.np, d.N.length, d.body⟩ := by
    show (m.defs[f]?).map _ = _
    rw [h]; rfl
  rw [run, e]
  dsimp only
  rw [if_pos hl]
  rfl
@[simp] theorem bind_ok {α β : Type} {a : α} {L : LH} {k : α → LH → Out β} : (Out.ok a L).bind k = k a L := (rfl)
@[simp] theorem bind_bad {α β : Type} {k : α → LH → Out β} : (Out.bad : Out α).bind k = .bad := (rfl)
theorem bind_ite {α β : Type} {c : Prop} [Decidable c] {a b : Out α} {k : α → LH → Out β} : (if c then a else b).bind k = if c then a.bind k else b.bind k := by split <;> rfl
@[simp] theorem ofOpt_some {α : Type} {a : α} {L : LH} : ofOpt (some a) L = .ok a L := (rfl)
/-! ### the program's tables -/
section
variable {m : Mo} {k : Nat}
@[simp] theorem F_glo : (m.F k).glo = m.pg.glo := (rfl)
@[simp] theorem F_kd : (m.F k).kd = m.pg.kd := (rfl)
@[simp] theorem F_call : (m.F k).call = run m.pg k := (rfl)
@[simp] theorem F_init : (m.F k).init = m.init := (rfl)
@[simp] theorem F_mth : (m.F k).mth = m.mth := (rfl)
@[simp] theorem F_fld : (m.F k).fld = m.fld := (rfl)
@[simp] theorem F_kw : (m.F k).kw = m.kw := (rfl)
@[simp] theorem F_xin {x : Str} : (m.F (k + 1)).xin x = m.xin x := (rfl)
@[simp] theorem F_xis : (m.F k).xis = m.xis := (rfl)
@[simp] theorem F_w : (m.F k).w = m.w := (rfl)
end
/-! ### values -/
section
variable {L : LH} {i j : Int} {x y : Str} {a b : Bool} {u v : LV} {xs ys : List LV} {r : Nat}
@[simp] theorem cmp_eq_i : cmpV L .eq (.int i) (.int j) = some (decide (i = j)) := (rfl)
@[simp] theorem cmp_ne_i : cmpV L .ne (.int i) (.int j) = some (!decide (i = j)) := (rfl)
@[simp] theorem cmp_lt_i : cmpV L .lt (.int i) (.int j) = some (decide (i < j)) := (rfl)
@[simp] theorem cmp_le_i : cmpV L .le (.int i) (.int j) = some (decide (i ≤ j)) := (rfl)
@[simp] theorem cmp_gt_i : cmpV L .gt (.int i) (.int j) = some (decide (j < i)) := (rfl)
@[simp] theorem cmp_ge_i : cmpV L .ge (.int i) (.int j) = some (decide (j ≤ i)) := (rfl)
@[simp] theorem cmp_eq_s : cmpV L .eq (.str x) (.str y) = some (decide (x = y)) := (rfl)
@[simp] theorem cmp_ne_s : cmpV L .ne (.str x) (.str y) = some (!decide (x = y)) := (rfl)
@[simp] theorem cmp_eq_b : cmpV L .eq (.bl a) (.bl b) = some (decide (a = b)) := (rfl)
@[simp] theorem cmp_ne_b : cmpV L .ne (.bl a) (.bl b) = some (!decide (a = b)) := (rfl)
@[simp] theorem cmp_inn : cmpV L .inn u v = inF L u v := by cases u <;> cases v <;> rfl
@[simp] theorem cmp_nin : cmpV L .nin u v = (inF L u v).map (!·) := by cases u <;> cases v <;> rfl
@[simp] theorem isn_non : cmpV L .isn .non .non = some true := (rfl)
@[simp] theorem isn_int : cmpV L .isn (.int i) .non = some false := (rfl)
@[simp] theorem isn_str : cmpV L .isn (.str x) .non = some false := (rfl)
@[simp] theorem isn_tup : cmpV L .isn (.tup xs) .non = some false := (rfl)
@[simp] theorem isn_ref : cmpV L .isn (.ref r) .non = some false := (rfl)
@[simp] theorem notn_non : cmpV L .notn .non .non = some false := (rfl)
@[simp] theorem notn_int : cmpV L .notn (.int i) .non = some true := (rfl)
@[simp] theorem notn_str : cmpV L .notn (.str x) .non = some true := (rfl)
@[simp] theorem notn_tup : cmpV L .notn (.tup xs) .non = some true := (rfl)
@[simp] theorem notn_ref : cmpV L .notn (.ref r) .non = some true := (rfl)
@[simp] theorem inF_tup : inF L u (.tup xs) = if flat u = true ∧ xs.all flat = true then some (xs.any fun z => eqF z u) else none := (rfl)
theorem inF_lst (h : L.at_ r = some (.lst xs)) : inF L u (.ref r) = if flat u = true ∧ xs.all flat = true then some (xs.any fun z => eqF z u) else none := by simp only [inF, h]
theorem inF_dct {kvs : List (Key × LV)} {k : Key} (h : L.at_ r = some (.dct kvs)) (hk : keyOf u = some k) : inF L u (.ref r) = some (dget k kvs).isSome := by simp only [inF, h, hk, Option.map_some]
@[simp] theorem flat_int : flat (.int i) = true := (rfl)
@[simp] theorem flat_str : flat (.str x) = true := (rfl)
@[simp] theorem flat_bl : flat (.bl a) = true := (rfl)
@[simp] theorem flat_non : flat .non = true := (rfl)
@[simp] theorem eqF_ii : eqF (.int i) (.int j) = (i == j) := (rfl)
@[simp] theorem eqF_ss : eqF (.str x) (.str y) = (x == y) := (rfl)
@[simp] theorem tru_int : tru L (.int i) = some (i != 0) := (rfl)
@[simp] theorem tru_bl : tru L (.bl a) = some a := (rfl)
@[simp] theorem tru_non : tru L .non = some false := (rfl)
@[simp] theorem tru_tup : tru L (.tup xs) = some (!xs.isEmpty) := (rfl)
@[simp] theorem bin_add : binV .add (.int i) (.int j) L = .ok (.int (i + j)) L := (rfl)
@[simp] theorem bin_sub : binV .sub (.int i) (.int j) L = .ok (.int (i - j)) L := (rfl)
theorem bin_mul (h : (-(2 ^ 64) < i ∧ i < 2 ^ 64) ∨ (-(2 ^ 64) < j ∧ j < 2 ^ 64)) : binV .mul (.int i) (.int j) L = .ok (.int (i * j)) L := by simp only [binV, if_pos h]
theorem bin_div (h : 0 < j) (h2 : j < 1073741824) : binV .fdiv (.int i) (.int j) L = .ok (.int (i / j)) L := by simp only [binV, if_pos (And.intro h h2)]
theorem bin_mod (h : 0 < j) : binV .mod (.int i) (.int j) L = .ok (.int (i % j)) L := by simp only [binV, if_pos h]
theorem bin_pow (h : 0 ≤ j ∧ j ≤ 1000000 ∧ i.natAbs < 2 ^ 64) : binV .pow (.int i) (.int j) L = .ok (.int (i ^ j.toNat)) L := by simp only [binV, if_pos h]
theorem bin_addT (h : xs.length + ys.length ≤ sizeLine) : binV .add (.tup xs) (.tup ys) L = .ok (.tup (xs ++ ys)) L := by simp only [binV, if_pos h]
theorem bin_addL {r1 r2 : Nat} (h1 : L.at_ r1 = some (.lst xs)) (h2 : L.at_ r2 = some (.lst ys)) (h : xs.length + ys.length ≤ sizeLine) : binV .add (.ref r1) (.ref r2) L = .ok (.ref L.n) (L.new (.lst (xs ++ ys))) := by simp only [binV, h1, h2, if_pos h]
theorem bin_rep {k : Int} (h1 : L.at_ r = some (.lst xs)) (h : -(2 ^ 63) ≤ k ∧ k < 2 ^ 63 ∧ xs.length * k.toNat ≤ sizeLine) : binV .mul (.ref r) (.int k) L = .ok (.ref L.n) (L.new (.lst (List.replicate k.toNat xs).flatten)) := by simp only [binV, h1, if_pos h]
/-- an index -/
def atX (xs : List LV) (i : Int) (L : LH) : Out LV := match atI xs i with
  | some v => .ok v L
  | none => .bad
@[simp] theorem idx_tup : idxV (.tup xs) (.int i) L = atX xs i L := (rfl)
@[simp] theorem idx_scr : idxV (.scr xs) (.int i) L = atX xs i L := (rfl)
theorem idx_lst (h : L.at_ r = some (.lst xs)) : idxV (.ref r) (.int i) L = atX xs i L := by simp only [idxV, h]; rfl
theorem idx_dct {kvs : List (Key × LV)} {k : Key} (h : L.at_ r = some (.dct kvs)) (hk : keyOf u = some k) (hv : dget k kvs = some v) : idxV (.ref r) u L = .ok v L := by simp only [idxV, h, hk, hv]
theorem ixN_nat {n p : Nat} (h : p < n) : L2.ixN n (p : Int) = some p := by
  unfold L2.ixN
  rw [if_pos (by omega), if_pos (by omega)]
  simp
theorem atI_nat {i : Nat} : atI xs (i : Int) = xs[i]? := by
  unfold atI ixN
  rw [if_pos (by omega)]
  by_cases h : (i : Int) < xs.length
  · rw [if_pos h]; simp
  · rw [if_neg h, List.getElem?_eq_none (by omega)]; rfl
theorem atI_nn (h : 0 ≤ i) : atI xs i = xs[i.toNat]? := by
  obtain ⟨n, rfl⟩ : ∃ n : Nat, i = n := ⟨i.toNat, by omega⟩
  rw [atI_nat]; rfl
@[simp] theorem atI_0 : atI xs 0 = xs[0]? := atI_nn (by omega)
@[simp] theorem atI_1 : atI xs 1 = xs[1]? := atI_nn (by omega)
@[simp] theorem atI_2 : atI xs 2 = xs[2]? := atI_nn (by omega)
@[simp] theorem atI_last : atI xs (-1) = xs.getLast? := by
  unfold atI ixN
  rw [if_neg (by omega)]
  by_cases h : -(xs.length : Int) ≤ -1
  · rw [if_pos h]
    have : (-1 + (xs.length : Int)).toNat = xs.length - 1 := by omega
    simp only [Option.bind_some, this]
    rw [List.getLast?_eq_getElem?]
  · rw [if_neg h]
    have : xs = [] := List.eq_nil_of_length_eq_zero (by omega)
    subst this; rfl
theorem atX_some (h : atI xs i = some v) : atX xs i L = .ok v L := by simp only [atX, h]
@[simp] theorem atX_0 {x0 : LV} : atX (x0 :: xs) 0 L = .ok x0 L := atX_some (by simp)
@[simp] theorem atX_1 {x0 x1 : LV} : atX (x0 :: x1 :: xs) 1 L = .ok x1 L := atX_some (by simp)
@[simp] theorem atX_2 {x0 x1 x2 : LV} : atX (x0 :: x1 :: x2 :: xs) 2 L = .ok x2 L := atX_some (by simp)
theorem fld_ins {c : Nat} {fs : List (Nat × LV)} {f : Nat} (h : L.at_ r = some (.ins c fs)) (hv : fget f fs = some v) : fldV f (.ref r) L = .ok v L := by simp only [fldV, h, hv]
theorem len_lst (h : L.at_ r = some (.lst xs)) : bfV .len [.ref r] L = .ok (.int xs.length) L := by simp only [bfV, seqOf, h]
@[simp] theorem len_tup : bfV .len [.tup xs] L = .ok (.int xs.length) L := (rfl)
@[simp] theorem len_scr : bfV .len [.scr xs] L = .ok (.int xs.length) L := (rfl)
theorem tuple_lst (h : L.at_ r = some (.lst xs)) : bfV .tuple [.ref r] L = .ok (.tup xs) L := by simp only [bfV, seqOf, h]
theorem list_lst (h : L.at_ r = some (.lst xs)) : bfV .list [.ref r] L = .ok (.ref L.n) (L.new (.lst xs)) := by simp only [bfV, seqOf, h]
@[simp] theorem list_tup : bfV .list [.tup xs] L = .ok (.ref L.n) (L.new (.lst xs)) := (rfl)
@[simp] theorem int_int : bfV .int [.int i] L = .ok (.int i) L := (rfl)
@[simp] theorem min_int : bfV .min [.int i, .int j] L = .ok (.int (min i j)) L := by
  simp only [bfV]
  congr 2
  by_cases h : j < i
  · rw [if_pos h]; omega
  · rw [if_neg h]; omega
@[simp] theorem max_int : bfV .max [.int i, .int j] L = .ok (.int (max i j)) L := by
  simp only [bfV]
  congr 2
  by_cases h : j > i
  · rw [if_pos h]; omega
  · rw [if_neg h]; omega
theorem sum_lst {t : Int} (h : L.at_ r = some (.lst xs)) (hs : sumI xs = some t) : bfV .sum [.ref r] L = .ok (.int t) L := by simp only [bfV, lstOf, h, hs]
theorem any_lst {bs : List Bool} (h : L.at_ r = some (.lst xs)) (hs : bools xs = some bs) : bfV .any [.ref r] L = .ok (.bl (bs.any id)) L := by simp only [bfV, lstOf, h, hs]
/-! methods of lists -/
theorem m_append (h : L.at_ r = some (.lst xs)) (hz : xs.length < sizeLine) : bmV .lappend (.ref r) [v] L = .ok .non (L.put r (.lst (xs ++ [v]))) := by simp only [bmV, h, if_pos hz]
theorem m_extend (h : L.at_ r = some (.lst xs)) (hs : seqOf L v = some ys) (hz : xs.length + ys.length ≤ sizeLine) : bmV .lextend (.ref r) [v] L = .ok .non (L.put r (.lst (xs ++ ys))) := by simp only [bmV, h, hs, if_pos hz]
theorem m_pop (h : L.at_ r = some (.lst (xs ++ [v]))) : bmV .lpop (.ref r) [] L = .ok v (L.put r (.lst xs)) := by
  simp only [bmV, h]
  simp
@[simp] theorem seqOf_tup : seqOf L (.tup xs) = some xs := (rfl)
@[simp] theorem seqOf_scr : seqOf L (.scr xs) = some xs := (rfl)
theorem seqOf_lst (h : L.at_ r = some (.lst xs)) : seqOf L (.ref r) = some xs := by simp only [seqOf, h]
theorem bm_lst {m : BM} (h : L.at_ r = some (.lst xs)) (hm : (match m with
    | .dget1 => false
    | .dget2 => false
    | _ => true) = true) : bmTy L m (.ref r) = true := by
  simp only [bmTy, h]
  cases m <;> first | rfl | cases hm
/-! slices -/
theorem slc_lst {l h : Option Int} (e : L.at_ r = some (.lst xs)) : slcV (.ref r) l h L = .ok (.ref L.n) (L.new (.lst (cut xs l h))) := by simp only [slcV, e]
@[simp] theorem slc_tup {l h : Option Int} : slcV (.tup xs) l h L = .ok (.tup (cut xs l h)) L := (rfl)
@[simp] theorem fldV_ref {f : Nat} : fldV f (.ref r) L = match L.at_ r with
    | some (.ins _ fs) => ofOpt (fget f fs) L
    | _ => .bad := by
  unfold fldV
  dsimp only
  cases L.at_ r with
  | none => rfl
  | some o =>
    cases o with
    | ins c fs => dsimp only; cases fget f fs <;> rfl
    | _ => rfl
@[simp] theorem fget_nil {f : Nat} : fget f [] = none := (rfl)
@[simp] theorem fget_cons {f g : Nat} {fs : List (Nat × LV)} : fget f ((g, u) :: fs) = if g = f then some u else fget f fs := (rfl)
@[simp] theorem fput_nil {f : Nat} : fput f v [] = [(f, v)] := (rfl)
@[simp] theorem fput_cons {f g : Nat} {fs : List (Nat × LV)} : fput f v ((g, u) :: fs) = if g = f then (g, v) :: fs else (g, u) :: fput f v fs := (rfl)
@[simp] theorem put_ne {a b : Nat} {o : LO} (h : b ≠ a) : (L.put a o).at_ b = L.at_ b := by rw [LH.put_at, if_neg h]
@[simp] theorem new_ne {b : Nat} {o : LO} (h : b ≠ L.n) : (L.new o).at_ b = L.at_ b := by rw [LH.new_at, if_neg h]
end
/-! ### expressions -/
section
variable {F : Fn} {σ : LSt} {L : LH}
@[simp] theorem e_var {i : Nat} : evE F (.var i) σ L = ofOpt (σ[i]?).join L := by
  simp only [evE]
  cases σ[i]? with
  | none => rfl
  | some o => cases o <;> rfl
@[simp] theorem e_con {v : LV} : evE F (.con v) σ L = .ok v L := by simp only [evE]
@[simp] theorem e_glo {i : Nat} : evE F (.glo i) σ L = ofOpt (F.glo i) L := by simp only [evE]
@[simp] theorem e_bin {o : B2} {a b : LE} : evE F (.bin o a b) σ L = (evE F a σ L).bind fun x L1 => (evE F b σ L1).bind fun y L2 => binV o x y L2 := by simp only [evE]
def negV (v : LV) (L : LH) : Out LV := match v with
  | .int i => .ok (.int (-i)) L
  | _ => .bad
@[simp] theorem neg_int {i : Int} : negV (.int i) L = .ok (.int (-i)) L := (rfl)
@[simp] theorem e_neg {a : LE} : evE F (.neg a) σ L = (evE F a σ L).bind negV := by simp only [evE]; rfl
@[simp] theorem e_cmp {o : C2} {a b : LE} : evE F (.cmp o a b) σ L = (evE F a σ L).bind fun x L1 => (evE F b σ L1).bind fun y L2 => (ofOpt (cmpV L2 o x y) L2).bind fun b L => .ok (.bl b) L := by simp only [evE]
@[simp] theorem e_chn {o p : C2} {a b c : LE} : evE F (.chn o p a b c) σ L = (evE F a σ L).bind fun x L1 => (evE F b σ L1).bind fun y L2 => (ofOpt (cmpV L2 o x y) L2).bind fun k L3 =>
      if k = true then (evE F c σ L3).bind fun z L4 => (ofOpt (cmpV L4 p y z) L4).bind fun b L => .ok (.bl b) L else .ok (.bl false) L3 := by simp only [evE]
@[simp] theorem e_ands {es : LEs} : evE F (.ands es) σ L = evAnd F es σ L := by simp only [evE]
@[simp] theorem e_ors {es : LEs} : evE F (.ors es) σ L = evOr F es σ L := by simp only [evE]
def notV (v : LV) (L : LH) : Out LV := match v with
  | .bl b => .ok (.bl (!b)) L
  | _ => .bad
@[simp] theorem not_bl {b : Bool} : notV (.bl b) L = .ok (.bl (!b)) L := (rfl)
@[simp] theorem e_not {a : LE} : evE F (.not a) σ L = (evE F a σ L).bind notV := by simp only [evE]; rfl
@[simp] theorem e_ite {c a b : LE} : evE F (.ite c a b) σ L = (evT F c σ L).bind fun k L1 => if k = true then evE F a σ L1 else evE F b σ L1 := by simp only [evE]
def tupV (vs : List LV) (L : LH) : Out LV := if vs.length ≤ sizeLine then .ok (.tup vs) L else .bad
def lstV (vs : List LV) (L : LH) : Out LV := if vs.length ≤ sizeLine then .ok (.ref L.n) (L.new (.lst vs)) else .bad
theorem tupV_ok {vs : List LV} (h : vs.length ≤ sizeLine) : tupV vs L = .ok (.tup vs) L := if_pos h
theorem lstV_ok {vs : List LV} (h : vs.length ≤ sizeLine) : lstV vs L = .ok (.ref L.n) (L.new (.lst vs)) := if_pos h
@[simp] theorem tupV_1 {a : LV} : tupV [a] L = .ok (.tup [a]) L := tupV_ok (show 1 ≤ sizeLine by decide)
@[simp] theorem tupV_2 {a b : LV} : tupV [a, b] L = .ok (.tup [a, b]) L := tupV_ok (show 2 ≤ sizeLine by decide)
@[simp] theorem tupV_3 {a b c : LV} : tupV [a, b, c] L = .ok (.tup [a, b, c]) L := tupV_ok (show 3 ≤ sizeLine by decide)
@[simp] theorem tupV_4 {a b c d : LV} : tupV [a, b, c, d] L = .ok (.tup [a, b, c, d]) L := tupV_ok (show 4 ≤ sizeLine by decide)
@[simp] theorem lstV_0 : lstV [] L = .ok (.ref L.n) (L.new (.lst [])) := lstV_ok (Nat.zero_le _)
@[simp] theorem lstV_1 {a : LV} : lstV [a] L = .ok (.ref L.n) (L.new (.lst [a])) := lstV_ok (show 1 ≤ sizeLine by decide)
@[simp] theorem lstV_2 {a b : LV} : lstV [a, b] L = .ok (.ref L.n) (L.new (.lst [a, b])) := lstV_ok (show 2 ≤ sizeLine by decide)
@[simp] theorem lstV_3 {a b c : LV} : lstV [a, b, c] L = .ok (.ref L.n) (L.new (.lst [a, b, c])) := lstV_ok (show 3 ≤ sizeLine by decide)
@[simp] theorem lstV_4 {a b c d : LV} : lstV [a, b, c, d] L = .ok (.ref L.n) (L.new (.lst [a, b, c, d])) := lstV_ok (show 4 ≤ sizeLine by decide)
@[simp] theorem lstV_5 {a b c d e : LV} : lstV [a, b, c, d, e] L = .ok (.ref L.n) (L.new (.lst [a, b, c, d, e])) := lstV_ok (show 5 ≤ sizeLine by decide)
@[simp] theorem e_tup {es : LEs} : evE F (.tup es) σ L = (evA F es σ L).bind tupV := by simp only [evE]; rfl
@[simp] theorem e_lst {es : LEs} : evE F (.lst es) σ L = (evA F es σ L).bind lstV := by simp only [evE]; rfl
@[simp] theorem e_dct0 : evE F .dct0 σ L = .ok (.ref L.n) (L.new (.dct [])) := by simp only [evE]
@[simp] theorem e_idx {a i : LE} : evE F (.idx a i) σ L = (evE F a σ L).bind fun x L1 => (evE F i σ L1).bind fun y L2 => idxV x y L2 := by simp only [evE]
@[simp] theorem e_slc {a l h : LE} : evE F (.slc a l h) σ L = (evE F a σ L).bind fun x L1 => (if isNon l = true then .ok none L1 else (evE F l σ L1).bind partV).bind fun y L2 => (if isNon h = true then .ok none L2 else (evE F h σ L2).bind partV).bind fun z L3 => slcV x y z L3 := by simp only [evE]
@[simp] theorem partV_int {i : Int} : partV (.int i) L = .ok (some i) L := (rfl)
@[simp] theorem e_fld {a : LE} {f : Nat} : evE F (.fld a f) σ L = (evE F a σ L).bind fun x L1 => fldV f x L1 := by simp only [evE]
@[simp] theorem e_call {f : Nat} {es : LEs} : evE F (.call f es) σ L = (evA F es σ L).bind fun vs L1 => F.call f vs L1 := by simp only [evE]
def callkV (F : Fn) (f : Nat) (ks : List Nat) (vs zs : List LV) (L : LH) : Out LV := match F.kw f vs.length ks with
      | some sl => match fill vs zs sl with
        | some ws => F.call f ws L
        | none => .bad
      | none => .bad
@[simp] theorem e_callk {f : Nat} {es kes : LEs} {ks : List Nat} : evE F (.callk f es ks kes) σ L = (evA F es σ L).bind fun vs L1 => (evA F kes σ L1).bind fun zs L2 => callkV F f ks vs zs L2 := by simp only [evE]; rfl
@[simp] theorem e_make {c : Nat} {es : LEs} : evE F (.make c es) σ L = (evA F es σ L).bind fun vs L1 => makeV F c vs L1 := by simp only [evE]
noncomputable def methV (F : Fn) (m : Nat) (es : LEs) (σ : LSt) (x : LV) (L : LH) : Out LV := match recvF F L m x with
    | some f => (evA F es σ L).bind fun vs L2 => F.call f (x :: vs) L2
    | none => .bad
theorem meth_ok {m f c r : Nat} {es : LEs} {fs : List (Nat × LV)} (h : L.at_ r = some (.ins c fs)) (hf : fget m fs = none) (hm : F.mth c m = some f) : methV F m es σ (.ref r) L = (evA F es σ L).bind fun vs L2 => F.call f (.ref r :: vs) L2 := by
  simp only [methV, recvF, h, hf, hm, Option.isNone_none, if_true]
@[simp] theorem methV_ref {m r : Nat} {es : LEs} : methV F m es σ (.ref r) L = match recvF F L m (.ref r) with
    | some f => (evA F es σ L).bind fun vs L2 => F.call f (.ref r :: vs) L2
    | none => .bad := rfl
@[simp] theorem recvF_ref {m r : Nat} : recvF F L m (.ref r) = match L.at_ r with
    | some (.ins c fs) => if (fget m fs).isNone = true then F.mth c m else none
    | _ => none := rfl
@[simp] theorem e_meth {a : LE} {m : Nat} {es : LEs} : evE F (.meth a m es) σ L = (evE F a σ L).bind fun x L1 => methV F m es σ x L1 := by simp only [evE]; rfl
@[simp] theorem e_bf {f : BF} {es : LEs} : evE F (.bf f es) σ L = (evA F es σ L).bind fun vs L1 => bfV f vs L1 := by simp only [evE]
@[simp] theorem e_bm {m : BM} {a : LE} {es : LEs} : evE F (.bm m a es) σ L = (evE F a σ L).bind fun x L1 => if bmTy L1 m x = true then (evA F es σ L1).bind fun vs L2 => bmV m x vs L2 else .bad := by simp only [evE]
@[simp] theorem e_mkx {x : Str} {es : LEs} : evE F (.mkx x es) σ L = (evA F es σ L).bind fun vs L1 => mkxV F x vs L1 := by simp only [evE]
@[simp] theorem e_isx {a : LE} {t : Str} : evE F (.isx a t) σ L = (evE F a σ L).bind fun v L1 => (ofOpt (isxV F t v) L1).bind fun b L => .ok (.bl b) L := by simp only [evE]
@[simp] theorem e_xfl {a : LE} {f : Str} : evE F (.xfl a f) σ L = (evE F a σ L).bind fun v L1 => xflV f v L1 := by simp only [evE]
@[simp] theorem e_isin {a : LE} {ts : List Ty} : evE F (.isin a ts) σ L = (evE F a σ L).bind fun x L1 => (ofOpt (tyAny L1 x ts) L1).bind fun b L => .ok (.bl b) L := by simp only [evE]
@[simp] theorem e_gidx {g : Nat} {a : LE} : evE F (.gidx g a) σ L = (evE F a σ L).bind fun x L1 => gidxV (F.glo g) x L1 := by simp only [evE]
@[simp] theorem e_kget {g : Nat} {a d : LE} : evE F (.kget g a d) σ L = (evE F a σ L).bind fun x L1 => (evE F d σ L1).bind fun y L2 => kgetV (F.kd g) x y L2 := by simp only [evE]
theorem e_comp {own : List Nat} {tg : LTg} {it : LI} {t : Option Unit} {c e : LE} : evE F (.comp own tg it t c e) σ L = (evI F it σ L).bind fun S L1 => (compL S L1.n (compB tg (wipeL σ own) (optT t (evT F c)) (evE F e)) S.items (L1.new (.lst []))).bind fun _ L2 => .ok (.ref L1.n) L2 := by simp only [evE]
theorem e_comp2 {own own1 : List Nat} {tg tg1 : LTg} {it it1 : LI} {e : LE} : evE F (.comp2 own own1 tg it tg1 it1 e) σ L = (evI F it σ L).bind fun S L1 => (comp2L S (comp2B tg (wipeL σ own) (evI F it1) L1.n (fun σ2 => compB tg1 (wipeL σ2 own1) none (evE F e))) S.items (L1.new (.lst []))).bind fun _ L2 => .ok (.ref L1.n) L2 := by simp only [evE]
theorem make_ok {c f : Nat} {vs : List LV} {L' : LH} (hi : F.init c = some f) (h : F.call f (.ref L.n :: vs) (L.new (.ins c [])) = .ok .non L') : makeV F c vs L = .ok (.ref L.n) L' := by
  simp only [makeV, hi, h, bind_ok]
/-! arguments, and, or -/
@[simp] theorem a_nil : evA F .nil σ L = .ok [] L := by simp only [evA]
@[simp] theorem a_cons {e : LE} {es : LEs} : evA F (.cons e es) σ L = (evE F e σ L).bind fun v L1 => (evA F es σ L1).bind fun vs L2 => .ok (v :: vs) L2 := by simp only [evA]
@[simp] theorem and_1 {e : LE} : evAnd F (.cons e .nil) σ L = evE F e σ L := by simp only [evAnd]
def andV (v : LV) (k : LH → Out LV) (L : LH) : Out LV := match v with
    | .bl true => k L
    | .bl false => .ok (.bl false) L
    | _ => .bad
@[simp] theorem andV_t {k : LH → Out LV} : andV (.bl true) k L = k L := (rfl)
@[simp] theorem andV_f {k : LH → Out LV} : andV (.bl false) k L = .ok (.bl false) L := (rfl)
theorem andV_b {k : LH → Out LV} {b : Bool} : andV (.bl b) k L = if b = true then k L else .ok (.bl false) L := by cases b <;> rfl
@[simp] theorem and_2 {e e2 : LE} {es : LEs} : evAnd F (.cons e (.cons e2 es)) σ L = (evE F e σ L).bind fun x L1 => andV x (evAnd F (.cons e2 es) σ) L1 := by
  rw [evAnd]
  · rfl
  · intro h; cases h
def orV (v : LV) (k : LH → Out LV) (L : LH) : Out LV := match v with
    | .bl true => .ok (.bl true) L
    | .bl false => k L
    | _ => .bad
@[simp] theorem orV_t {k : LH → Out LV} : orV (.bl true) k L = .ok (.bl true) L := (rfl)
@[simp] theorem orV_f {k : LH → Out LV} : orV (.bl false) k L = k L := (rfl)
theorem orV_b {k : LH → Out LV} {b : Bool} : orV (.bl b) k L = if b = true then .ok (.bl true) L else k L := by cases b <;> rfl
@[simp] theorem or_1 {e : LE} : evOr F (.cons e .nil) σ L = evE F e σ L := by simp only [evOr]
@[simp] theorem or_2 {e e2 : LE} {es : LEs} : evOr F (.cons e (.cons e2 es)) σ L = (evE F e σ L).bind fun x L1 => orV x (evOr F (.cons e2 es) σ) L1 := by
  rw [evOr]
  · rfl
  · intro h; cases h
@[simp] theorem ta_1 {e : LE} : evTA F (.cons e .nil) σ L = evT F e σ L := by simp only [evTA]
@[simp] theorem ta_2 {e e2 : LE} {es : LEs} : evTA F (.cons e (.cons e2 es)) σ L = (evT F e σ L).bind fun b L1 => if b = true then evTA F (.cons e2 es) σ L1 else .ok false L1 := by
  rw [evTA]
  intro h; cases h
@[simp] theorem to_1 {e : LE} : evTO F (.cons e .nil) σ L = evT F e σ L := by simp only [evTO]
@[simp] theorem to_2 {e e2 : LE} {es : LEs} : evTO F (.cons e (.cons e2 es)) σ L = (evT F e σ L).bind fun b L1 => if b = true then .ok true L1 else evTO F (.cons e2 es) σ L1 := by
  rw [evTO]
  intro h; cases h
/-! tests -/
@[simp] theorem t_not {a : LE} : evT F (.not a) σ L = (evT F a σ L).bind fun b L1 => .ok (!b) L1 := by simp only [evT]
@[simp] theorem t_ands {es : LEs} : evT F (.ands es) σ L = evTA F es σ L := by simp only [evT]
@[simp] theorem t_ors {es : LEs} : evT F (.ors es) σ L = evTO F es σ L := by simp only [evT]
@[simp] theorem t_cmp {o : C2} {a b : LE} : evT F (.cmp o a b) σ L = (evE F a σ L).bind fun x L1 => (evE F b σ L1).bind fun y L2 => ofOpt (cmpV L2 o x y) L2 := by simp only [evT]
@[simp] theorem t_var {i : Nat} : evT F (.var i) σ L = (ofOpt (σ[i]?).join L).bind fun v L1 => ofOpt (tru L1 v) L1 := by
  simp only [evT]
  cases σ[i]? with
  | none => rfl
  | some o => cases o <;> rfl
@[simp] theorem t_con {v : LV} : evT F (.con v) σ L = ofOpt (tru L v) L := by simp only [evT]
@[simp] theorem t_chn {o p : C2} {a b c : LE} : evT F (.chn o p a b c) σ L = (evE F a σ L).bind fun x L1 => (evE F b σ L1).bind fun y L2 => (ofOpt (cmpV L2 o x y) L2).bind fun k L3 =>
      if k = true then (evE F c σ L3).bind fun z L4 => ofOpt (cmpV L4 p y z) L4 else .ok false L3 := by simp only [evT]
theorem t_of {a : LE} (h : evT F a σ L = (evE F a σ L).bind fun v L2 => ofOpt (tru L2 v) L2) : evT F a σ L = (evE F a σ L).bind fun v L2 => ofOpt (tru L2 v) L2 := h
@[simp] theorem t_fld {a : LE} {f : Nat} : evT F (.fld a f) σ L = (evE F a σ L).bind fun x L1 => (fldV f x L1).bind fun v L2 => ofOpt (tru L2 v) L2 := by simp only [evT]
@[simp] theorem t_call {f : Nat} {es : LEs} : evT F (.call f es) σ L = (evA F es σ L).bind fun vs L1 => (F.call f vs L1).bind fun v L2 => ofOpt (tru L2 v) L2 := by simp only [evT]
@[simp] theorem t_meth {a : LE} {m : Nat} {es : LEs} : evT F (.meth a m es) σ L = (evE F a σ L).bind fun x L1 => (methV F m es σ x L1).bind fun v L3 => ofOpt (tru L3 v) L3 := by
  simp only [evT]
  congr 1
  funext x L1
  unfold methV
  cases recvF F L1 m x with
  | none => rfl
  | some f => simp only [Out.bind_assoc]
@[simp] theorem t_bf {f : BF} {es : LEs} : evT F (.bf f es) σ L = (evA F es σ L).bind fun vs L1 => (bfV f vs L1).bind fun v L2 => ofOpt (tru L2 v) L2 := by simp only [evT]
@[simp] theorem t_isx {a : LE} {t : Str} : evT F (.isx a t) σ L = (evE F a σ L).bind fun v L1 => ofOpt (isxV F t v) L1 := by simp only [evT]
@[simp] theorem t_isin {a : LE} {ts : List Ty} : evT F (.isin a ts) σ L = (evE F a σ L).bind fun x L1 => ofOpt (tyAny L1 x ts) L1 := by simp only [evT]
@[simp] theorem t_idx {a i : LE} : evT F (.idx a i) σ L = (evE F a σ L).bind fun x L1 => (evE F i σ L1).bind fun y L2 => (idxV x y L2).bind fun v L3 => ofOpt (tru L3 v) L3 := by simp only [evT]
/-! what is walked -/
@[simp] theorem i_seq {a : LE} : evI F (.seq a) σ L = (evE F a σ L).bind fun v L1 => ofOpt (srcOf L1 v) L1 := by simp only [evI]
@[simp] theorem src_tup {xs : List LV} : srcOf L (.tup xs) = some (.vals xs) := (rfl)
@[simp] theorem src_scr {xs : List LV} : srcOf L (.scr xs) = some (.vals xs) := (rfl)
theorem src_lst {r : Nat} {xs : List LV} (h : L.at_ r = some (.lst xs)) : srcOf L (.ref r) = some (.lst r xs) := by simp only [srcOf, h]
def rngV (v : LV) (L : LH) : Out Src := match v with
    | .int j => if -(2 ^ 62) ≤ j ∧ j < 2 ^ 62 then .ok (.vals (rngL 0 j.toNat)) L else .bad
    | _ => .bad
theorem rngV_ok {j : Int} (h : -(2 ^ 62) ≤ j ∧ j < 2 ^ 62) : rngV (.int j) L = .ok (.vals (rngL 0 j.toNat)) L := if_pos h
theorem i_rng1 {a : LE} : evI F (.rng1 a) σ L = (evE F a σ L).bind rngV := by simp only [evI]; rfl
theorem i_rng1_ok {a : LE} {j : Int} {L1 : LH} (h : evE F a σ L = .ok (.int j) L1) (hj : -(2 ^ 62) ≤ j ∧ j < 2 ^ 62) : evI F (.rng1 a) σ L = .ok (.vals (rngL 0 j.toNat)) L1 := by
  rw [i_rng1, h, bind_ok, rngV_ok hj]
theorem i_rng1_nat {a : LE} {j : Nat} {L1 : LH} (h : evE F a σ L = .ok (.int (j : Int)) L1) (hj : j < 1000000000) : evI F (.rng1 a) σ L = .ok (.vals (rngL 0 j)) L1 := by
  rw [i_rng1_ok h (by omega)]
  rfl
/-! ### statements -/
@[simp] theorem ss_nil : evSs F .nil σ L = .ok (.nx, σ) L := by simp only [evSs]
def thenS (o : Out (Fl × LSt)) (k : LSt → LH → Out (Fl × LSt)) : Out (Fl × LSt) := o.bind fun p L1 => match p.1 with
    | .nx => k p.2 L1
    | f => .ok (f, p.2) L1
@[simp] theorem then_nx {k : LSt → LH → Out (Fl × LSt)} : thenS (.ok (.nx, σ) L) k = k σ L := (rfl)
@[simp] theorem then_ret {v : LV} {k : LSt → LH → Out (Fl × LSt)} : thenS (.ok (.ret v, σ) L) k = .ok (.ret v, σ) L := (rfl)
@[simp] theorem then_brk {k : LSt → LH → Out (Fl × LSt)} : thenS (.ok (.brk, σ) L) k = .ok (.brk, σ) L := (rfl)
@[simp] theorem then_cont {k : LSt → LH → Out (Fl × LSt)} : thenS (.ok (.cont, σ) L) k = .ok (.cont, σ) L := (rfl)
theorem then_ite {c : Prop} [Decidable c] {a b : Out (Fl × LSt)} {k : LSt → LH → Out (Fl × LSt)} : thenS (if c then a else b) k = if c then thenS a k else thenS b k := by split <;> rfl
@[simp] theorem ss_cons {s : LS} {ss : LSs} : evSs F (.cons s ss) σ L = thenS (evS F s σ L) fun σ1 L1 => evSs F ss σ1 L1 := by simp only [evSs]; rfl
@[simp] theorem s_set {i : Nat} {e : LE} : evS F (.set i e) σ L = (evE F e σ L).bind fun v L1 => .ok (.nx, σ.set i (some v)) L1 := by simp only [evS]
def setfV (F : Fn) (f : Nat) (v x : LV) (σ : LSt) (L : LH) : Out (Fl × LSt) := match x with
    | .ref a => match L.at_ a with
      | some (.ins c fs) => if fs.length < 1000 ∧ F.fld c f = true then .ok (.nx, σ) (L.put a (.ins c (fput f v fs))) else .bad
      | _ => .bad
    | _ => .bad
theorem setf_ok {f r c : Nat} {v : LV} {fs : List (Nat × LV)} (h : L.at_ r = some (.ins c fs)) (hl : fs.length < 1000) (hf : F.fld c f = true) : setfV F f v (.ref r) σ L = .ok (.nx, σ) (L.put r (.ins c (fput f v fs))) := by
  simp only [setfV, h]
  exact if_pos ⟨hl, hf⟩
@[simp] theorem setfV_ref {f r : Nat} {v : LV} : setfV F f v (.ref r) σ L = match L.at_ r with
      | some (.ins c fs) => if fs.length < 1000 ∧ F.fld c f = true then .ok (.nx, σ) (L.put r (.ins c (fput f v fs))) else .bad
      | _ => .bad := rfl
@[simp] theorem s_setf {o : LE} {f : Nat} {e : LE} : evS F (.setf o f e) σ L = (evE F e σ L).bind fun v L1 => (evE F o σ L1).bind fun x L2 => setfV F f v x σ L2 := by simp only [evS]; rfl
def setiV (v x y : LV) (σ : LSt) (L : LH) : Out (Fl × LSt) := match x with
    | .ref a => match L.at_ a with
      | some (.lst xs) => match y with
        | .int k => match ixN xs.length k with
          | some j => .ok (.nx, σ) (L.put a (.lst (xs.set j v)))
          | none => .bad
        | _ => .bad
      | some (.dct kvs) => match keyOf y with
        | some k => if kvs.length < sizeLine then .ok (.nx, σ) (L.put a (.dct (dput kvs k v))) else .bad
        | none => .bad
      | _ => .bad
    | _ => .bad
theorem seti_lst {r : Nat} {v : LV} {xs : List LV} {k : Int} {j : Nat} (h : L.at_ r = some (.lst xs)) (hj : ixN xs.length k = some j) : setiV v (.ref r) (.int k) σ L = .ok (.nx, σ) (L.put r (.lst (xs.set j v))) := by simp only [setiV, h, hj]
theorem seti_dct {r : Nat} {v y : LV} {kvs : List (Key × LV)} {k : Key} (h : L.at_ r = some (.dct kvs)) (hk : keyOf y = some k) (hz : kvs.length < sizeLine) : setiV v (.ref r) y σ L = .ok (.nx, σ) (L.put r (.dct (dput kvs k v))) := by simp only [setiV, h, hk, if_pos hz]
@[simp] theorem setiV_ref {r : Nat} {v y : LV} : setiV v (.ref r) y σ L = match L.at_ r with
      | some (.lst xs) => match y with
        | .int k => match ixN xs.length k with
          | some j => .ok (.nx, σ) (L.put r (.lst (xs.set j v)))
          | none => .bad
        | _ => .bad
      | some (.dct kvs) => match keyOf y with
        | some k => if kvs.length < sizeLine then .ok (.nx, σ) (L.put r (.dct (dput kvs k v))) else .bad
        | none => .bad
      | _ => .bad := rfl
@[simp] theorem s_seti {o i e : LE} : evS F (.seti o i e) σ L = (evE F e σ L).bind fun v L1 => (evE F o σ L1).bind fun x L2 => (evE F i σ L2).bind fun y L3 => setiV v x y σ L3 := by simp only [evS]; rfl
@[simp] theorem s_unp {is : List Nat} {e : LE} : evS F (.unp is e) σ L = (evE F e σ L).bind fun v L1 => (ofOpt (tgt (.tup is) v σ L1) L1).bind fun σ' L2 => .ok (.nx, σ') L2 := by simp only [evS]
@[simp] theorem tgt_name {i : Nat} {v : LV} : tgt (.name i) v σ L = some (σ.set i (some v)) := (rfl)
@[simp] theorem tgt_tup {is : List Nat} {xs : List LV} : tgt (.tup is) (.tup xs) σ L = if xs.length = is.length then some (setAll is xs σ) else none := (rfl)
@[simp] theorem setAll_nil : setAll [] [] σ = σ := (rfl)
@[simp] theorem setAll_cons {i : Nat} {is : List Nat} {v : LV} {vs : List LV} : setAll (i :: is) (v :: vs) σ = setAll is vs (σ.set i (some v)) := (rfl)
@[simp] theorem s_par {i j : Nat} {a b : LE} : evS F (.par i j a b) σ L = (evE F a σ L).bind fun x L1 => (evE F b σ L1).bind fun y L2 => .ok (.nx, (σ.set i (some x)).set j (some y)) L2 := by simp only [evS]
@[simp] theorem s_expr {e : LE} : evS F (.expr e) σ L = (evE F e σ L).bind fun _ L1 => .ok (.nx, σ) L1 := by simp only [evS]
@[simp] theorem s_ret {e : LE} : evS F (.ret e) σ L = (evE F e σ L).bind fun v L1 => .ok (.ret v, σ) L1 := by simp only [evS]
@[simp] theorem s_retN : evS F .retN σ L = .ok (.ret .non, σ) L := by simp only [evS]
@[simp] theorem s_if {c : LE} {a b : LSs} : evS F (.ifs c a b) σ L = (evT F c σ L).bind fun k L1 => if k = true then evSs F a σ L1 else evSs F b σ L1 := by simp only [evS]
@[simp] theorem s_pass : evS F .pass σ L = .ok (.nx, σ) L := by simp only [evS]
@[simp] theorem s_never : evS F .never σ L = .bad := by simp only [evS]
@[simp] theorem then_bad {k : LSt → LH → Out (Fl × LSt)} : thenS .bad k = .bad := (rfl)
@[simp] theorem s_brk : evS F .brk σ L = .ok (.brk, σ) L := by simp only [evS]
@[simp] theorem s_cont : evS F .cont σ L = .ok (.cont, σ) L := by simp only [evS]
theorem s_while {c : LE} {b : LSs} : evS F (.while c b) σ L = whileL (evT F c) (evSs F b) F.w σ L := by simp only [evS]
noncomputable def forB (F : Fn) (tg : LTg) (b : LSs) (x : LV) (σ : LSt) (L : LH) : Out (Fl × LSt) := match tgt tg x σ L with
      | none => .bad
      | some σ2 => evSs F b σ2 L
theorem s_for {tg : LTg} {it : LI} {b : LSs} : evS F (.for tg it b) σ L = (evI F it σ L).bind fun S L1 => forL S (forB F tg b) S.items σ L1 := by
  simp only [evS]
  rfl
theorem fori_ok {is : List Nat} {a : LE} {b : LSs} {i : Nat} {kvs : List (Key × LV)} (h1 : evE F a σ L = .ok (.ref i) L) (h2 : L.at_ i = some (.dct kvs)) (h3 : evE F a σ (L.hide i) = .ok (.ref i) (L.hide i)) :
    evS F (.fori is a b) σ L = (forL (.vals (dctItems kvs)) (forB F (.tup is) b) (dctItems kvs) σ (L.hide i)).bind fun p L' => .ok p (L'.put i (.dct kvs)) := by
  simp only [evS, h1, h2, if_pos h3]
  rfl
theorem hide_ne {i x : Nat} (h : x ≠ i) : (L.hide i).at_ x = L.at_ x := by
  show (if x = i then none else L.at_ x) = _
  rw [if_neg h]
@[simp] theorem hide_n {i : Nat} : (L.hide i).n = L.n := (rfl)
theorem forV_nil {xs : List LV} {body : LV → LSt → LH → Out (Fl × LSt)} : forL (.vals xs) body [] σ L = .ok (.nx, σ) L := by
  unfold forL
  exact if_pos trivial
/-- behind a turn -/
def turnS (o : Out (Fl × LSt)) (k : LSt → LH → Out (Fl × LSt)) : Out (Fl × LSt) := o.bind fun p L' => match p.1 with
      | .nx => k p.2 L'
      | .cont => k p.2 L'
      | .brk => .ok (.nx, p.2) L'
      | .ret v => .ok (.ret v, p.2) L'
@[simp] theorem turn_nx {k : LSt → LH → Out (Fl × LSt)} : turnS (.ok (.nx, σ) L) k = k σ L := (rfl)
@[simp] theorem turn_cont {k : LSt → LH → Out (Fl × LSt)} : turnS (.ok (.cont, σ) L) k = k σ L := (rfl)
@[simp] theorem turn_brk {k : LSt → LH → Out (Fl × LSt)} : turnS (.ok (.brk, σ) L) k = .ok (.nx, σ) L := (rfl)
@[simp] theorem turn_ret {v : LV} {k : LSt → LH → Out (Fl × LSt)} : turnS (.ok (.ret v, σ) L) k = .ok (.ret v, σ) L := (rfl)
theorem forV_cons {xs ys : List LV} {x : LV} {body : LV → LSt → LH → Out (Fl × LSt)} : forL (.vals xs) body (x :: ys) σ L = turnS (body x σ L) fun σ' L' => forL (.vals xs) body ys σ' L' := by
  rw [forL, if_pos (show Keeps L (.vals xs) from trivial)]
  rfl
theorem forR_nil {r : Nat} {xs : List LV} {body : LV → LSt → LH → Out (Fl × LSt)} (h : L.at_ r = some (.lst xs)) : forL (.lst r xs) body [] σ L = .ok (.nx, σ) L := by
  unfold forL
  exact if_pos h
theorem forR_cons {r : Nat} {xs ys : List LV} {x : LV} {body : LV → LSt → LH → Out (Fl × LSt)} (h : L.at_ r = some (.lst xs)) : forL (.lst r xs) body (x :: ys) σ L = turnS (body x σ L) fun σ' L' => forL (.lst r xs) body ys σ' L' := by
  rw [forL, if_pos (show Keeps L (.lst r xs) from h)]
  rfl
theorem while_S {c : LSt → LH → Out Bool} {body : LSt → LH → Out (Fl × LSt)} {n : Nat} : whileL c body (n + 1) σ L = (c σ L).bind fun b L1 => if b = true then turnS (body σ L1) (whileL c body n) else .ok (.nx, σ) L1 := by
  rw [whileL]
  rfl
@[simp] theorem wipe_nil : wipeL σ [] = σ := (rfl)
@[simp] theorem wipe_cons {i : Nat} {is : List Nat} : wipeL σ (i :: is) = (wipeL σ is).set i none := (rfl)
end
end LG
end

section
set_option Elab.async false
set_option linter.all false
set_option maxRecDepth 100000
set_option maxHeartbeats 0
namespace K91
open PySem PySem.Spec PyProof.Rows L2 LG
def top (i : Nat) : Stmt := PySem.Challenge.pw_rungstead_k91_errors_made.main.body.getD i (.Pass ⟨0, 0, 0, 0⟩)
/-- the texts:
0 'audit'
1 'more'
2 'form'
3 'long'
4 'sum'
5 'head'
6 'short'
7 'wide'
8 'chart'
9 'owner'
10 'parts'
11 'skip'
12 'edge'
13 'flat'
14 'use'
15 'unknown'
16 'size'
17 'range'
18 'twice'
19 'name' -/
def csl : List PySem.Str := ["audit", "more", "form", "long", "sum", "head", "short", "wide", "chart", "owner", "parts", "skip", "edge", "flat", "use", "unknown", "size", "range", "twice", "name"]
def cs (i : Nat) : PySem.Str := csl.getD i ""
theorem cs_nodup : csl.Nodup := by decide +kernel
@[simp] theorem cs_inj {i j : Nat} (h : i < 20) (h2 : j < 20) : (cs i = cs j) = (i = j) := LG.cs_inj_of cs_nodup rfl h h2
@[simp] theorem cs_beq {i j : Nat} (h : i < 20) (h2 : j < 20) : (cs i == cs j) = (i == j) := LG.cs_beq_of cs_nodup rfl h h2
/-- _law_bag -/
def d0 : DD where
  at_ := ("_law_bag", none)
  name := "_law_bag"
  qual := "_law_bag"
  st := top 9
  N := ["script", "at", "cell"]
  np := 2
  kwd := []
  body :=
  (.cons (.set 2 (.con (.int 0)))
  (.cons (.ifs (.cmp .lt (.var 1) (.bf .len (.cons (.var 0) .nil)))
   (.cons (.set 2 (.idx (.var 0) (.var 1)))
   .nil)
   .nil)
  (.cons (.ifs (.cmp .lt (.var 2) (.con (.int 0)))
   (.cons (.set 2 (.bin .sub (.con (.int 1)) (.bin .mul (.con (.int 2)) (.var 2))))
   .nil)
   .nil)
  (.cons (.ifs (.cmp .ge (.var 2) (.bin .pow (.con (.int 10)) (.con (.int 18))))
   (.cons (.ret (.lst (.cons (.bin .sub (.var 2) (.bin .pow (.con (.int 10)) (.con (.int 18)))) (.cons (.var 1) (.cons (.con (.int 1)) .nil)))))
   .nil)
   .nil)
  (.cons (.ret (.lst (.cons (.var 2) (.cons (.var 1) (.cons (.con (.int 0)) .nil)))))
  .nil)))))
/-- _law_take -/
def d1 : DD where
  at_ := ("_law_take", none)
  name := "_law_take"
  qual := "_law_take"
  st := top 10
  N := ["bag", "many", "one", "two", "three", "digit"]
  np := 2
  kwd := []
  body :=
  (.cons (.ifs (.ands (.cons (.cmp .eq (.idx (.var 0) (.con (.int 2))) (.con (.int 1))) (.cons (.cmp .gt (.idx (.var 0) (.con (.int 0))) (.con (.int 1))) .nil)))
   (.cons (.set 5 (.bin .mod (.bf .int (.cons (.idx (.var 0) (.con (.int 0))) .nil)) (.var 1)))
   (.cons (.seti (.var 0) (.con (.int 0)) (.bin .fdiv (.idx (.var 0) (.con (.int 0))) (.var 1)))
   (.cons (.ret (.var 5))
   .nil)))
   .nil)
  (.cons (.seti (.var 0) (.con (.int 1)) (.bin .add (.idx (.var 0) (.con (.int 1))) (.con (.int 1))))
  (.cons (.set 2 (.bin .mod (.bf .int (.cons (.bin .add (.bin .add (.bin .mul (.idx (.var 0) (.con (.int 0))) (.con (.int 48271))) (.bin .mul (.idx (.var 0) (.con (.int 1))) (.con (.int 69621)))) (.con (.int 12345))) .nil)) (.con (.int 2147483647))))
  (.cons (.set 3 (.bin .mod (.bf .int (.cons (.bin .add (.bin .mul (.var 2) (.var 2)) (.bin .mul (.idx (.var 0) (.con (.int 1))) (.con (.int 40692)))) .nil)) (.con (.int 2147483399))))
  (.cons (.set 4 (.bin .mod (.bf .int (.cons (.bin .add (.bin .mul (.var 3) (.var 3)) (.var 2)) .nil)) (.con (.int 1000000007))))
  (.cons (.ret (.bin .mod (.bf .int (.cons (.bin .fdiv (.var 4) (.con (.int 7))) .nil)) (.var 1)))
  .nil))))))
/-- _law_pick -/
def d2 : DD where
  at_ := ("_law_pick", none)
  name := "_law_pick"
  qual := "_law_pick"
  st := top 11
  N := ["bag", "menu"]
  np := 2
  kwd := []
  body :=
  (.cons (.ret (.idx (.var 1) (.call 1 (.cons (.var 0) (.cons (.bf .len (.cons (.var 1) .nil)) .nil)))))
  .nil)
/-- _law_same -/
def d3 : DD where
  at_ := ("_law_same", none)
  name := "_law_same"
  qual := "_law_same"
  st := top 12
  N := ["got", "due", "k"]
  np := 2
  kwd := []
  body :=
  (.cons (.ifs (.ors (.cons (.isin (.var 1) [.tuple]) (.cons (.isin (.var 1) [.list]) .nil)))
   (.cons (.ifs (.ors (.cons (.cmp .ne (.isin (.var 1) [.tuple]) (.isin (.var 0) [.tuple])) (.cons (.cmp .ne (.isin (.var 1) [.list]) (.isin (.var 0) [.list])) .nil)))
    (.cons (.ret (.con (.bl false)))
    .nil)
    .nil)
   (.cons (.ifs (.cmp .ne (.bf .len (.cons (.var 0) .nil)) (.bf .len (.cons (.var 1) .nil)))
    (.cons (.ret (.con (.bl false)))
    .nil)
    .nil)
   (.cons (.for (.name 2) (.rng1 (.bf .len (.cons (.var 1) .nil)))
    (.cons (.ifs (.not (.call 3 (.cons (.idx (.var 0) (.var 2)) (.cons (.idx (.var 1) (.var 2)) .nil))))
     (.cons (.ret (.con (.bl false)))
     .nil)
     .nil)
    .nil))
   (.cons (.ret (.con (.bl true)))
   .nil))))
   .nil)
  (.cons (.ifs (.ors (.cons (.isin (.var 1) [.bool]) (.cons (.isin (.var 0) [.bool]) .nil)))
   (.cons (.ret (.ands (.cons (.isin (.var 1) [.bool]) (.cons (.isin (.var 0) [.bool]) (.cons (.cmp .eq (.var 0) (.var 1)) .nil)))))
   .nil)
   .nil)
  (.cons (.ifs (.isin (.var 1) [.int])
   (.cons (.ret (.ands (.cons (.isin (.var 0) [.int]) (.cons (.cmp .eq (.var 0) (.var 1)) .nil))))
   .nil)
   .nil)
  (.cons (.ifs (.isin (.var 1) [.str])
   (.cons (.ret (.ands (.cons (.isin (.var 0) [.str]) (.cons (.cmp .eq (.var 0) (.var 1)) .nil))))
   .nil)
   .nil)
  (.cons (.ret (.ands (.cons (.cmp .isn (.var 0) (.con .non)) (.cons (.cmp .isn (.var 1) (.con .non)) .nil))))
  .nil)))))
/-- _law_alone -/
def d4 : DD where
  at_ := ("_law_alone", none)
  name := "_law_alone"
  qual := "_law_alone"
  st := top 13
  N := ["thing", "which", "told", "k"]
  np := 2
  kwd := []
  body :=
  (.cons (.ifs (.ors (.cons (.not (.isx (.var 0) "RungError")) (.cons (.not (.isx (.var 0) "ValueError")) .nil)))
   (.cons (.ret (.con (.bl false)))
   .nil)
   .nil)
  (.cons (.set 2 (.lst (.cons (.isx (.var 0) "InvalidProject") (.cons (.isx (.var 0) "ParseError") (.cons (.isx (.var 0) "DrawingError") .nil)))))
  (.cons (.set 2 (.bin .add (.var 2) (.lst (.cons (.isx (.var 0) "ImageError") (.cons (.isx (.var 0) "LimitExceeded") (.cons (.isx (.var 0) "InvalidEvent") .nil))))))
  (.cons (.ret (.cmp .eq (.var 2) (.comp [3] (.name 3) (.rng1 (.con (.int 6))) none .dct0 (.cmp .eq (.var 3) (.var 1)))))
  .nil))))
/-- law -/
def d5 : DD where
  at_ := ("law", none)
  name := "law"
  qual := "law"
  st := top 14
  N := ["script", "bag", "path", "word", "told", "line", "limit", "event", "k"]
  np := 1
  kwd := []
  body :=
  (.cons (.set 1 (.call 0 (.cons (.var 0) (.cons (.con (.int 0)) .nil))))
  (.cons (.set 2 (.bf .tuple (.cons (.comp [8] (.name 8) (.rng1 (.call 1 (.cons (.var 1) (.cons (.con (.int 10)) .nil)))) none .dct0 (.call 1 (.cons (.var 1) (.cons (.con (.int 13)) .nil)))) .nil)))
  (.cons (.set 3 (.call 2 (.cons (.var 1) (.cons (.lst (.cons (.con (.str (cs 19))) (.cons (.con (.str (cs 18))) (.cons (.con (.str (cs 17))) (.cons (.con (.str (cs 16))) (.cons (.con (.str (cs 15))) (.cons (.con (.str (cs 14))) (.cons (.con (.str (cs 13))) (.cons (.con (.str (cs 12))) (.cons (.con (.str (cs 11))) (.cons (.con (.str (cs 10))) (.cons (.con (.str (cs 9))) (.cons (.con (.str (cs 8))) (.cons (.con (.str (cs 7))) .nil)))))))))))))) .nil))))
  (.cons (.set 4 (.mkx "InvalidProject" (.cons (.var 2) (.cons (.var 3) .nil))))
  (.cons (.ifs (.ors (.cons (.not (.call 4 (.cons (.var 4) (.cons (.con (.int 0)) .nil)))) (.cons (.not (.call 3 (.cons (.tup (.cons (.xfl (.var 4) "path") (.cons (.xfl (.var 4) "word") .nil))) (.cons (.tup (.cons (.var 2) (.cons (.var 3) .nil))) .nil)))) .nil)))
   (.cons (.ret (.con (.bl false)))
   .nil)
   .nil)
  (.cons (.set 5 (.bin .add (.con (.int 1)) (.call 1 (.cons (.var 1) (.cons (.bin .pow (.con (.int 10)) (.con (.int 9))) .nil)))))
  (.cons (.set 4 (.mkx "ParseError" (.cons (.var 5) .nil)))
  (.cons (.ifs (.ors (.cons (.not (.call 4 (.cons (.var 4) (.cons (.con (.int 1)) .nil)))) (.cons (.not (.call 3 (.cons (.xfl (.var 4) "line") (.cons (.var 5) .nil)))) .nil)))
   (.cons (.ret (.con (.bl false)))
   .nil)
   .nil)
  (.cons (.ifs (.not (.call 4 (.cons (.mkx "DrawingError" .nil) (.cons (.con (.int 2)) .nil))))
   (.cons (.ret (.con (.bl false)))
   .nil)
   .nil)
  (.cons (.set 3 (.call 2 (.cons (.var 1) (.cons (.lst (.cons (.con (.str (cs 6))) (.cons (.con (.str (cs 5))) (.cons (.con (.str (cs 4))) (.cons (.con (.str (cs 3))) (.cons (.con (.str (cs 2))) (.cons (.con (.str (cs 1))) (.cons (.con (.str (cs 0))) .nil)))))))) .nil))))
  (.cons (.set 4 (.mkx "ImageError" (.cons (.var 3) .nil)))
  (.cons (.ifs (.ors (.cons (.not (.call 4 (.cons (.var 4) (.cons (.con (.int 3)) .nil)))) (.cons (.not (.call 3 (.cons (.xfl (.var 4) "word") (.cons (.var 3) .nil)))) .nil)))
   (.cons (.ret (.con (.bl false)))
   .nil)
   .nil)
  (.cons (.set 6 (.call 2 (.cons (.var 1) (.cons (.lst (.cons (.con (.int 0)) (.cons (.con (.int 1)) (.cons (.call 1 (.cons (.var 1) (.cons (.bin .pow (.con (.int 10)) (.con (.int 9))) .nil))) (.cons (.bin .pow (.con (.int 10)) (.con (.int 30))) .nil))))) .nil))))
  (.cons (.set 4 (.mkx "LimitExceeded" (.cons (.var 6) .nil)))
  (.cons (.ifs (.ors (.cons (.not (.call 4 (.cons (.var 4) (.cons (.con (.int 4)) .nil)))) (.cons (.not (.call 3 (.cons (.xfl (.var 4) "limit") (.cons (.var 6) .nil)))) .nil)))
   (.cons (.ret (.con (.bl false)))
   .nil)
   .nil)
  (.cons (.set 7 (.bf .tuple (.cons (.comp [8] (.name 8) (.rng1 (.call 1 (.cons (.var 1) (.cons (.con (.int 12)) .nil)))) none .dct0 (.call 2 (.cons (.var 1) (.cons (.lst (.cons (.con (.int 0)) (.cons (.con (.int 1)) (.cons (.neg (.con (.int 1))) (.cons (.bin .pow (.con (.int 10)) (.con (.int 30))) (.cons (.call 1 (.cons (.var 1) (.cons (.con (.int 1000)) .nil))) .nil)))))) .nil)))) .nil)))
  (.cons (.set 4 (.mkx "InvalidEvent" (.cons (.var 7) .nil)))
  (.cons (.ret (.ands (.cons (.call 4 (.cons (.var 4) (.cons (.con (.int 5)) .nil))) (.cons (.call 3 (.cons (.xfl (.var 4) "event") (.cons (.var 7) .nil))) .nil))))
  .nil))))))))))))))))))
def mo : Mo where
  nms := []
  cls := []
  defs := [d0, d1, d2, d3, d4, d5]
  nf := 6
  fks := []
  glos := []
  gds := []
  inits := []
  mths := []
  flds := []
  kws := []
  w := 16777216
  file := PySem.Challenge.pw_rungstead_k91_errors_made.main.file
  xs := [⟨"InvalidProject", ["self", "path", "word"], ["path", "word"]⟩, ⟨"ParseError", ["self", "line"], ["line"]⟩, ⟨"ImageError", ["self", "word"], ["word"]⟩, ⟨"LimitExceeded", ["self", "limit"], ["limit"]⟩, ⟨"InvalidEvent", ["self", "event"], ["event"]⟩]
  x0 := ["RungError", "DrawingError"]
  xt := ([("InvalidProject", "InvalidEvent", false), ("InvalidProject", "LimitExceeded", false), ("InvalidProject", "ImageError", false), ("InvalidProject", "DrawingError", false), ("InvalidProject", "ParseError", false), ("InvalidProject", "InvalidProject", true), ("InvalidProject", "ValueError", true), ("InvalidProject", "RungError", true)] : List (PySem.Str × PySem.Str × Bool)) ++
    ([("ParseError", "InvalidEvent", false), ("ParseError", "LimitExceeded", false), ("ParseError", "ImageError", false), ("ParseError", "DrawingError", false), ("ParseError", "ParseError", true), ("ParseError", "InvalidProject", false), ("ParseError", "ValueError", true), ("ParseError", "RungError", true)] : List (PySem.Str × PySem.Str × Bool)) ++
    ([("ImageError", "InvalidEvent", false), ("ImageError", "LimitExceeded", false), ("ImageError", "ImageError", true), ("ImageError", "DrawingError", false), ("ImageError", "ParseError", false), ("ImageError", "InvalidProject", false), ("ImageError", "ValueError", true), ("ImageError", "RungError", true)] : List (PySem.Str × PySem.Str × Bool)) ++
    ([("LimitExceeded", "InvalidEvent", false), ("LimitExceeded", "LimitExceeded", true), ("LimitExceeded", "ImageError", false), ("LimitExceeded", "DrawingError", false), ("LimitExceeded", "ParseError", false), ("LimitExceeded", "InvalidProject", false), ("LimitExceeded", "ValueError", true), ("LimitExceeded", "RungError", true)] : List (PySem.Str × PySem.Str × Bool)) ++
    ([("InvalidEvent", "InvalidEvent", true), ("InvalidEvent", "LimitExceeded", false), ("InvalidEvent", "ImageError", false), ("InvalidEvent", "DrawingError", false), ("InvalidEvent", "ParseError", false), ("InvalidEvent", "InvalidProject", false), ("InvalidEvent", "ValueError", true), ("InvalidEvent", "RungError", true)] : List (PySem.Str × PySem.Str × Bool)) ++
    ([("RungError", "InvalidEvent", false), ("RungError", "LimitExceeded", false), ("RungError", "ImageError", false), ("RungError", "DrawingError", false), ("RungError", "ParseError", false), ("RungError", "InvalidProject", false), ("RungError", "ValueError", true), ("RungError", "RungError", true)] : List (PySem.Str × PySem.Str × Bool)) ++
    ([("DrawingError", "InvalidEvent", false), ("DrawingError", "LimitExceeded", false), ("DrawingError", "ImageError", false), ("DrawingError", "DrawingError", true), ("DrawingError", "ParseError", false), ("DrawingError", "InvalidProject", false), ("DrawingError", "ValueError", true), ("DrawingError", "RungError", true)] : List (PySem.Str × PySem.Str × Bool))
def names0 : List PySem.Str := ["RungError", "InvalidProject", "ParseError", "DrawingError", "ImageError", "LimitExceeded", "InvalidEvent", "_law_bag", "_law_take", "_law_pick", "_law_same", "_law_alone"]
def names : List PySem.Str := names0
def lawAt : Nat := 14
end K91
namespace K91
open LG
theorem tables_ok : mo.ok = true := by decide +kernel
theorem defs_ok : mo.defs.all (DD.ok mo.T) = true := by decide +kernel
end K91
end

section

end

section
set_option Elab.async false
set_option linter.all false
set_option maxRecDepth 100000
set_option maxHeartbeats 4000000
namespace K91
open PySem LG
/-! the law's own helpers -/
def bagL (c a f : Int) : LO := .lst [.int c, .int a, .int f]
section
variable {L : LH} {k : Nat}
theorem bag_ok {xs : List LV} {ns : List Int} (h : xs = ns.map LV.int) : ∃ c a f, run mo.pg (k + 1) 0 [.scr xs, .int 0] L = .ok (.ref L.n) (L.new (bagL c a f)) := by
  rw [Mo.run_succ (d := d0) rfl rfl]
  have hp : ∀ L' : LH, binV .pow (.int 10) (.int 18) L' = .ok (.int 1000000000000000000) L' := fun L' => bin_pow (by decide)
  have hm : ∀ (c : Int) (L' : LH), binV .mul (.int 2) (.int c) L' = .ok (.int (2 * c)) L' := fun c L' => bin_mul (.inl (by omega))
  cases ns with
  | nil =>
    subst h
    exact ⟨0, 0, 0, by simp [d0, hp, bagL]⟩
  | cons n ns =>
    subst h
    have h0 : ∀ L' : LH, atX ((n :: ns).map LV.int) 0 L' = .ok (.int n) L' := fun L' => by simp
    have hl : (0 : Int) < ((ns.length + 1 : Nat) : Int) := by omega
    by_cases h1 : n < 0
    · by_cases h2 : (1000000000000000000 : Int) ≤ 1 - 2 * n
      · exact ⟨1 - 2 * n - 1000000000000000000, 0, 1, by simp [d0, hp, hm, bagL, h1, h2, hl]⟩
      · exact ⟨1 - 2 * n, 0, 0, by simp [d0, hp, hm, bagL, h1, h2, hl]⟩
    · by_cases h2 : (1000000000000000000 : Int) ≤ n
      · exact ⟨n - 1000000000000000000, 0, 1, by simp [d0, hp, hm, bagL, h1, h2, hl]⟩
      · exact ⟨n, 0, 0, by simp [d0, hp, hm, bagL, h1, h2, hl]⟩
theorem take_ok {b : Nat} {c a f many : Int} (hb : L.at_ b = some (bagL c a f)) (h0 : 0 < many) (h1 : many < 1073741824) : ∃ d c' a', run mo.pg (k + 1) 1 [.ref b, .int many] L = .ok (.int d) (L.put b (bagL c' a' f)) ∧ 0 ≤ d ∧ d < many := by
  rw [Mo.run_succ (d := d1) rfl rfl]
  have x0 : ∀ (c a : Int) (L' : LH), L'.at_ b = some (bagL c a f) → idxV (.ref b) (.int 0) L' = .ok (.int c) L' := fun c a L' h => by rw [idx_lst h]; rfl
  have x1 : ∀ (c a : Int) (L' : LH), L'.at_ b = some (bagL c a f) → idxV (.ref b) (.int 1) L' = .ok (.int a) L' := fun c a L' h => by rw [idx_lst h]; rfl
  have x2 : ∀ (c a : Int) (L' : LH), L'.at_ b = some (bagL c a f) → idxV (.ref b) (.int 2) L' = .ok (.int f) L' := fun c a L' h => by rw [idx_lst h]; rfl
  have b0 := x0 c a L hb
  have b1 := x1 c a L hb
  have b2 := x2 c a L hb
  have hmod : ∀ (i : Int) (L' : LH), binV .mod (.int i) (.int many) L' = .ok (.int (i % many)) L' := fun i L' => bin_mod h0
  have hdiv : ∀ (i : Int) (L' : LH), binV .fdiv (.int i) (.int many) L' = .ok (.int (i / many)) L' := fun i L' => bin_div h0 h1
  have s0 : ∀ (v : LV) (σ : LSt), setiV v (.ref b) (.int 0) σ L = .ok (.nx, σ) (L.put b (.lst [v, .int a, .int f])) := fun v σ => seti_lst (xs := [.int c, .int a, .int f]) (j := 0) hb (by simp [L2.ixN])
  have s1 : ∀ (v : LV) (σ : LSt), setiV v (.ref b) (.int 1) σ L = .ok (.nx, σ) (L.put b (.lst [.int c, v, .int f])) := fun v σ => seti_lst (xs := [.int c, .int a, .int f]) (j := 1) hb (by simp [L2.ixN])
  by_cases hf : f = 1 ∧ 1 < c
  · obtain ⟨rfl, hc⟩ := hf
    refine ⟨c % many, c / many, a, ?_, Int.emod_nonneg _ (by omega), Int.emod_lt_of_pos _ h0⟩
    simp [d1, b0, b2, hc, hmod, hdiv, s0, bagL, -setiV_ref]
  · have hL : (L.put b (.lst [.int c, .int (a + 1), .int f])).at_ b = some (bagL c (a + 1) f) := by simp [bagL]
    have y0 := x0 _ _ _ hL
    have y1 := x1 _ _ _ hL
    have m1 : ∀ L' : LH, binV .mul (.int c) (.int 48271) L' = .ok (.int (c * 48271)) L' := fun L' => bin_mul (.inr (by omega))
    have m2 : ∀ L' : LH, binV .mul (.int (a + 1)) (.int 69621) L' = .ok (.int ((a + 1) * 69621)) L' := fun L' => bin_mul (.inr (by omega))
    have m3 : ∀ L' : LH, binV .mul (.int (a + 1)) (.int 40692) L' = .ok (.int ((a + 1) * 40692)) L' := fun L' => bin_mul (.inr (by omega))
    have dq1 : ∀ (i : Int) (L' : LH), binV .mod (.int i) (.int 2147483647) L' = .ok (.int (i % 2147483647)) L' := fun i L' => bin_mod (by omega)
    have dq2 : ∀ (i : Int) (L' : LH), binV .mod (.int i) (.int 2147483399) L' = .ok (.int (i % 2147483399)) L' := fun i L' => bin_mod (by omega)
    have dq3 : ∀ (i : Int) (L' : LH), binV .mod (.int i) (.int 1000000007) L' = .ok (.int (i % 1000000007)) L' := fun i L' => bin_mod (by omega)
    have dq4 : ∀ (i : Int) (L' : LH), binV .fdiv (.int i) (.int 7) L' = .ok (.int (i / 7)) L' := fun i L' => bin_div (by omega) (by omega)
    have q1 : ∀ (i : Int) (L' : LH), binV .mul (.int (i % 2147483647)) (.int (i % 2147483647)) L' = .ok (.int ((i % 2147483647) * (i % 2147483647))) L' := fun i L' => bin_mul (.inl (by
      have := Int.emod_nonneg i (show (2147483647 : Int) ≠ 0 by omega)
      have := Int.emod_lt_of_pos i (show (0 : Int) < 2147483647 by omega)
      omega))
    have q2 : ∀ (i : Int) (L' : LH), binV .mul (.int (i % 2147483399)) (.int (i % 2147483399)) L' = .ok (.int ((i % 2147483399) * (i % 2147483399))) L' := fun i L' => bin_mul (.inl (by
      have := Int.emod_nonneg i (show (2147483399 : Int) ≠ 0 by omega)
      have := Int.emod_lt_of_pos i (show (0 : Int) < 2147483399 by omega)
      omega))
    have hcond : ¬ (f = 1) ∨ (f = 1 ∧ ¬ (1 < c)) := by omega
    have fin : ∃ e : Int, endOf (evSs (mo.F k) d1.body (List.map some [LV.ref b, .int many] ++ List.replicate (d1.N.length - d1.np) none) L) = .ok (.int (e % many)) (L.put b (bagL c (a + 1) f)) := by
      have one : Int := (c * 48271 + (a + 1) * 69621 + 12345) % 2147483647
      refine ⟨((((c * 48271 + (a + 1) * 69621 + 12345) % 2147483647 * ((c * 48271 + (a + 1) * 69621 + 12345) % 2147483647) + (a + 1) * 40692) % 2147483399 * (((c * 48271 + (a + 1) * 69621 + 12345) % 2147483647 * ((c * 48271 + (a + 1) * 69621 + 12345) % 2147483647) + (a + 1) * 40692) % 2147483399) + (c * 48271 + (a + 1) * 69621 + 12345) % 2147483647) % 1000000007) / 7, ?_⟩
      simp only [bagL]
      rcases hcond with hf | ⟨rfl, hc⟩
      · simp [d1, b1, b2, hf, s1, y0, y1, m1, m2, m3, dq1, dq2, dq3, dq4, q1, q2, hmod, -setiV_ref]
      · simp [d1, b0, b1, b2, hc, s1, y0, y1, m1, m2, m3, dq1, dq2, dq3, dq4, q1, q2, hmod, -setiV_ref]
    obtain ⟨e, he⟩ := fin
    exact ⟨e % many, c, a + 1, he, Int.emod_nonneg _ (by omega), Int.emod_lt_of_pos _ h0⟩
/-- a menu: one of its items -/
theorem pick_ok {b m : Nat} {c a f : Int} {xs : List LV} (hb : L.at_ b = some (bagL c a f)) (hm : L.at_ m = some (.lst xs)) (hne : b ≠ m) (h0 : xs ≠ []) (h1 : xs.length < 1000000) : ∃ v c' a', v ∈ xs ∧ run mo.pg (k + 2) 2 [.ref b, .ref m] L = .ok v (L.put b (bagL c' a' f)) := by
  rw [Mo.run_succ (d := d2) rfl rfl]
  have hl : bfV .len [.ref m] L = .ok (.int xs.length) L := len_lst hm
  have hpos : 0 < xs.length := List.length_pos_iff.mpr h0
  obtain ⟨d, c', a', e, dq0, dq1⟩ := take_ok (k := k) (many := (xs.length : Int)) hb (by omega) (by omega)
  have hd : d.toNat < xs.length := by omega
  have hx : idxV (.ref m) (.int d) (L.put b (bagL c' a' f)) = .ok xs[d.toNat] (L.put b (bagL c' a' f)) := by
    rw [idx_lst (xs := xs) (by rw [put_ne (Ne.symm hne)]; exact hm)]
    exact atX_some (by rw [atI_nn dq0, List.getElem?_eq_getElem hd])
  exact ⟨xs[d.toNat], c', a', List.getElem_mem hd, by simp [d2, hl, e, hx]⟩
/-! ### _law_same -/
def Pl : Nat → LV → Prop
  | 0, x => (∃ i, x = .int i) ∨ (∃ s, x = .str s) ∨ (∃ b, x = .bl b) ∨ x = .non
  | n + 1, x => (∃ i, x = .int i) ∨ (∃ s, x = .str s) ∨ (∃ b, x = .bl b) ∨ x = .non ∨ ∃ xs, x = .tup xs ∧ xs.length < 1000000000 ∧ ∀ y ∈ xs, Pl n y
theorem same_flat {x : LV} (h : (∃ i, x = .int i) ∨ (∃ s, x = .str s) ∨ (∃ b, x = .bl b) ∨ x = .non) : run mo.pg (k + 1) 3 [x, x] L = .ok (.bl true) L := by
  rw [Mo.run_succ (d := d3) rfl rfl]
  rcases h with ⟨i, rfl⟩ | ⟨s, rfl⟩ | ⟨b, rfl⟩ | rfl <;> simp [d3, tyAny, tyIs]
theorem same_ok (n : Nat) : ∀ (x : LV) (L : LH), Pl n x → run mo.pg (k + n + 1) 3 [x, x] L = .ok (.bl true) L := by
  induction n with
  | zero => exact fun x L h => same_flat h
  | succ n ihn =>
    intro x L h
    rcases h with h | h | h | h | ⟨xs, rfl, hl, hx⟩
    · exact same_flat (.inl h)
    · exact same_flat (.inr (.inl h))
    · exact same_flat (.inr (.inr (.inl h)))
    · exact same_flat (.inr (.inr (.inr h)))
    · rw [Mo.run_succ (d := d3) rfl rfl]
      have loop : ∀ (S : List LV) (ks : List Nat) (y : Option LV), (∀ j ∈ ks, j < xs.length) → ∃ y', forL (.vals S) (forB (mo.F (k + n + 1)) (.name 2) (.cons (.ifs (.not (.call 3 (.cons (.idx (.var 0) (.var 2)) (.cons (.idx (.var 1) (.var 2)) .nil)))) (.cons (.ret (.con (.bl false))) .nil) .nil) .nil)) (ks.map fun (j : Nat) => LV.int (j : Int)) [some (.tup xs), some (.tup xs), y] L = .ok (.nx, [some (.tup xs), some (.tup xs), y']) L := by
        intro S ks
        induction ks with
        | nil => exact fun y _ => ⟨y, forV_nil⟩
        | cons j ks ih =>
          intro y hj
          have hjl := hj j List.mem_cons_self
          obtain ⟨y', e⟩ := ih (some (.int j)) fun i hi => hj i (List.mem_cons_of_mem _ hi)
          refine ⟨y', ?_⟩
          have hat : atX xs (j : Int) L = .ok xs[j] L := atX_some (by rw [atI_nat, List.getElem?_eq_getElem hjl])
          have hs := ihn xs[j] L (hx _ (List.getElem_mem hjl))
          rw [List.map_cons, forV_cons]
          simp [forB, hat, hs, e]
      have hrl : rngL 0 xs.length = (List.range xs.length).map fun (j : Nat) => LV.int (j : Int) := by unfold rngL; simp
      obtain ⟨y', e⟩ := loop (rngL 0 xs.length) (List.range xs.length) none (fun j hj => List.mem_range.mp hj)
      rw [← hrl] at e
      simp only [Nat.add_assoc] at e
      obtain ⟨R, hR⟩ : ∃ R, d3.body = .cons (.ifs (.ors (.cons (.isin (.var 1) [.tuple]) (.cons (.isin (.var 1) [.list]) .nil)))
        (.cons (.ifs (.ors (.cons (.cmp .ne (.isin (.var 1) [.tuple]) (.isin (.var 0) [.tuple])) (.cons (.cmp .ne (.isin (.var 1) [.list]) (.isin (.var 0) [.list])) .nil))) (.cons (.ret (.con (.bl false))) .nil) .nil)
        (.cons (.ifs (.cmp .ne (.bf .len (.cons (.var 0) .nil)) (.bf .len (.cons (.var 1) .nil))) (.cons (.ret (.con (.bl false))) .nil) .nil)
        (.cons (.for (.name 2) (.rng1 (.bf .len (.cons (.var 1) .nil))) (.cons (.ifs (.not (.call 3 (.cons (.idx (.var 0) (.var 2)) (.cons (.idx (.var 1) (.var 2)) .nil)))) (.cons (.ret (.con (.bl false))) .nil) .nil) .nil))
        (.cons (.ret (.con (.bl true))) .nil)))) .nil) R := ⟨_, rfl⟩
      rw [hR]
      have ty1 : tyAny L (.tup xs) [.tuple] = some true := rfl
      have ty2 : tyAny L (.tup xs) [.list] = some false := rfl
      have es : (List.map some [LV.tup xs, LV.tup xs] ++ List.replicate (d3.N.length - d3.np) none) = [some (.tup xs), some (.tup xs), none] := rfl
      rw [es, ss_cons, s_if]
      generalize hF : mo.F (k + (n + 1)) = F at e
      have h1 : evT F (.ors (.cons (.isin (.var 1) [.tuple]) (.cons (.isin (.var 1) [.list]) .nil))) [some (.tup xs), some (.tup xs), none] L = .ok true L := by simp [ty1]
      have h2 : evT F (.ors (.cons (.cmp .ne (.isin (.var 1) [.tuple]) (.isin (.var 0) [.tuple])) (.cons (.cmp .ne (.isin (.var 1) [.list]) (.isin (.var 0) [.list])) .nil))) [some (.tup xs), some (.tup xs), none] L = .ok false L := by simp [ty1, ty2]
      have h3 : evT F (.cmp .ne (.bf .len (.cons (.var 0) .nil)) (.bf .len (.cons (.var 1) .nil))) [some (.tup xs), some (.tup xs), none] L = .ok false L := by simp
      have h4 : evI F (.rng1 (.bf .len (.cons (.var 1) .nil))) [some (.tup xs), some (.tup xs), none] L = .ok (.vals (rngL 0 xs.length)) L := i_rng1_nat (by simp) hl
      have h5 : ∀ b : LSs, evS F (.for (.name 2) (.rng1 (.bf .len (.cons (.var 1) .nil))) b) [some (.tup xs), some (.tup xs), none] L = forL (.vals (rngL 0 xs.length)) (forB F (.name 2) b) (rngL 0 xs.length) [some (.tup xs), some (.tup xs), none] L := fun b => by rw [s_for, h4]; rfl
      rw [h1, bind_ok, if_pos rfl, ss_cons, s_if, h2, bind_ok, if_neg Bool.false_ne_true, ss_nil, then_nx, ss_cons, s_if, h3, bind_ok, if_neg Bool.false_ne_true, ss_nil, then_nx, ss_cons, h5, e, then_nx, ss_cons, s_ret, e_con, bind_ok, then_ret, then_ret, endOf_ret]
end
end K91
end

section
set_option Elab.async false
set_option linter.all false
set_option maxRecDepth 100000
set_option maxHeartbeats 4000000
/-! LG16: comprehensions: what they gather; heaps that only grow. -/
namespace LG
open PySem PySem.Spec PyProof.Rows L2
/-- nothing old changes -/
def Ext (L L' : LH) : Prop := L.n ≤ L'.n ∧ ∀ z, z < L.n → L'.at_ z = L.at_ z
/-- nothing old changes but r -/
def Ext1 (r : Nat) (L L' : LH) : Prop := L.n ≤ L'.n ∧ ∀ z, z < L.n → z ≠ r → L'.at_ z = L.at_ z
theorem Ext.rfl {L : LH} : Ext L L := ⟨Nat.le_refl _, fun _ _ => Eq.refl _⟩
theorem Ext.trans {A B C : LH} (h : Ext A B) (g : Ext B C) : Ext A C := ⟨Nat.le_trans h.1 g.1, fun z hz => (g.2 z (Nat.lt_of_lt_of_le hz h.1)).trans (h.2 z hz)⟩
theorem Ext1.rfl {r : Nat} {L : LH} : Ext1 r L L := ⟨Nat.le_refl _, fun _ _ _ => Eq.refl _⟩
theorem Ext1.trans {r : Nat} {A B C : LH} (h : Ext1 r A B) (g : Ext1 r B C) : Ext1 r A C := ⟨Nat.le_trans h.1 g.1, fun z hz hr => (g.2 z (Nat.lt_of_lt_of_le hz h.1) hr).trans (h.2 z hz hr)⟩
theorem Ext.one {r : Nat} {A B : LH} (h : Ext A B) : Ext1 r A B := ⟨h.1, fun z hz _ => h.2 z hz⟩
theorem Ext.new {L : LH} {o : LO} : Ext L (L.new o) := ⟨Nat.le_succ _, fun z hz => new_ne (Nat.ne_of_lt hz)⟩
theorem Ext.put {L A : LH} {a : Nat} {o : LO} (h : Ext L A) (ha : L.n ≤ a) : Ext L (A.put a o) := ⟨h.1, fun z hz => by rw [put_ne (by omega)]; exact h.2 z hz⟩
theorem Ext1.put {r : Nat} {L A : LH} {o : LO} (h : Ext1 r L A) : Ext1 r L (A.put r o) := ⟨h.1, fun z hz hr => by rw [put_ne hr]; exact h.2 z hz hr⟩
theorem Ext1.put2 {r a : Nat} {L A : LH} {o : LO} (h : Ext1 r L A) (ha : L.n ≤ a) : Ext1 r L (A.put a o) := ⟨h.1, fun z hz hr => by rw [put_ne (by omega)]; exact h.2 z hz hr⟩
theorem compV_nil {S : List LV} {D : Nat} {body : LV → LH → Out (Option LV)} {L : LH} : compL (.vals S) D body [] L = .ok () L := by
  unfold compL
  exact if_pos trivial
theorem compV_cons {S : List LV} {D : Nat} {body : LV → LH → Out (Option LV)} {x : LV} {xs : List LV} {L : LH} : compL (.vals S) D body (x :: xs) L = (body x L).bind fun r L' => match r with
      | none => compL (.vals S) D body xs L'
      | some v => match L'.at_ D with
        | some (.lst acc) => if acc.length < sizeLine then compL (.vals S) D body xs (L'.put D (.lst (acc ++ [v]))) else .bad
        | _ => .bad := by
  rw [compL, if_pos (show Keeps L (.vals S) from trivial)]
  all_goals rfl
theorem comp2V_nil {S : List LV} {body : LV → LH → Out Unit} {L : LH} : comp2L (.vals S) body [] L = .ok () L := by
  unfold comp2L
  exact if_pos trivial
theorem comp2V_cons {S : List LV} {body : LV → LH → Out Unit} {x : LV} {xs : List LV} {L : LH} : comp2L (.vals S) body (x :: xs) L = (body x L).bind fun _ L' => comp2L (.vals S) body xs L' := by
  rw [comp2L, if_pos (show Keeps L (.vals S) from trivial)]
section
variable {S : List LV} {D : Nat} {α : Type} {f : α → LV}
/-- turns that leave the heap alone -/
theorem compV_pure {body : LV → LH → Out (Option LV)} {g : α → Option LV} {G : LH → Prop} (hG : ∀ L o, G L → G (L.put D o)) : ∀ (as : List α) (acc : List LV) (L : LH), (∀ a ∈ as, ∀ L, G L → body (f a) L = .ok (g a) L) → G L → L.at_ D = some (.lst acc) → acc.length + as.length ≤ sizeLine →
    ∃ L', compL (.vals S) D body (as.map f) L = .ok () L' ∧ G L' ∧ L'.n = L.n ∧ L'.at_ D = some (.lst (acc ++ as.filterMap g)) ∧ ∀ z, z ≠ D → L'.at_ z = L.at_ z
  | [], acc, L, _, h, hd, _ => ⟨L, compV_nil, h, rfl, by simpa using hd, fun _ _ => rfl⟩
  | a :: as, acc, L, hb, h, hd, hz => by
    have e := hb a List.mem_cons_self L h
    simp only [List.length_cons] at hz
    rw [List.map_cons, compV_cons, e]
    cases hg : g a with
    | none =>
      obtain ⟨L', e1, e2, e3, e4, e5⟩ := compV_pure hG as acc L (fun x hx => hb x (List.mem_cons_of_mem _ hx)) h hd (by omega)
      exact ⟨L', e1, e2, e3, by rw [List.filterMap_cons, hg]; exact e4, e5⟩
    | some v =>
      obtain ⟨L', e1, e2, e3, e4, e5⟩ := compV_pure hG as (acc ++ [v]) (L.put D (.lst (acc ++ [v]))) (fun x hx => hb x (List.mem_cons_of_mem _ hx)) (hG _ _ h) (by simp) (by simp; omega)
      refine ⟨L', ?_, e2, e3, by rw [List.filterMap_cons, hg]; simpa using e4, fun z hz => (e5 z hz).trans (put_ne hz)⟩
      simp only [bind_ok, hd]
      rw [if_pos (by omega)]
      exact e1
/-- two sources -/
theorem comp2V_pure {body : LV → LH → Out Unit} {h : α → List LV} {G : LH → Prop} (hG : ∀ L o, G L → G (L.put D o)) : ∀ (as : List α) (acc : List LV) (L : LH), (∀ a ∈ as, ∀ L acc, G L → L.at_ D = some (.lst acc) → acc.length + (h a).length ≤ sizeLine → ∃ L', body (f a) L = .ok () L' ∧ G L' ∧ L'.n = L.n ∧ L'.at_ D = some (.lst (acc ++ h a)) ∧ ∀ z, z ≠ D → L'.at_ z = L.at_ z) → G L → L.at_ D = some (.lst acc) → acc.length + (as.flatMap h).length ≤ sizeLine →
    ∃ L', comp2L (.vals S) body (as.map f) L = .ok () L' ∧ G L' ∧ L'.n = L.n ∧ L'.at_ D = some (.lst (acc ++ as.flatMap h)) ∧ ∀ z, z ≠ D → L'.at_ z = L.at_ z
  | [], acc, L, _, hL, hd, _ => ⟨L, comp2V_nil, hL, rfl, by simpa using hd, fun _ _ => rfl⟩
  | a :: as, acc, L, hb, hL, hd, hz => by
    rw [List.flatMap_cons, List.length_append] at hz
    obtain ⟨L1, p1, p2, p3, p4, p5⟩ := hb a List.mem_cons_self L acc hL hd (by omega)
    obtain ⟨L', e1, e2, e3, e4, e5⟩ := comp2V_pure hG as (acc ++ h a) L1 (fun x hx => hb x (List.mem_cons_of_mem _ hx)) p2 p4 (by rw [List.length_append]; omega)
    refine ⟨L', ?_, e2, e3.trans p3, by rw [e4, List.flatMap_cons, List.append_assoc], fun z hz => (e5 z hz).trans (p5 z hz)⟩
    rw [List.map_cons, comp2V_cons, p1, bind_ok]
    exact e1
/-- many times a plain reader -/
def manyF {σ α : Type} (p : σ → Option (α × σ)) : Nat → σ → Option (List α × σ)
  | 0, s => some ([], s)
  | n + 1, s => (p s).bind fun r => (manyF p n r.2).map fun q => (r.1 :: q.1, q.2)
theorem manyF_len {σ α : Type} {p : σ → Option (α × σ)} : ∀ {n : Nat} {s : σ} {r : List α × σ}, manyF p n s = some r → r.1.length = n
  | 0, s, r, h => by cases h; rfl
  | n + 1, s, r, h => by
    rw [manyF] at h
    cases e : p s with
    | none => rw [e] at h; cases h
    | some q =>
      rw [e, Option.bind_some] at h
      cases e2 : manyF p n q.2 with
      | none => rw [e2] at h; cases h
      | some t =>
        rw [e2] at h
        cases h
        simp [manyF_len e2]
theorem compV_many {σ : Type} {body : LV → LH → Out (Option LV)} {p : σ → Option (α × σ)} {I : σ → LH → Prop} {r : Nat} (hr : D ≠ r) (hI : ∀ s L o, I s L → I s (L.put D o)) (hb : ∀ x L s a s', I s L → p s = some (a, s') → ∃ L', body x L = .ok (some (f a)) L' ∧ I s' L' ∧ Ext1 r L L') :
    ∀ (xs : List LV) (L : LH) (s : σ) (acc : List LV) (q : List α × σ), I s L → D < L.n → L.at_ D = some (.lst acc) → manyF p xs.length s = some q → acc.length + xs.length ≤ sizeLine →
      ∃ L', compL (.vals S) D body xs L = .ok () L' ∧ I q.2 L' ∧ L.n ≤ L'.n ∧ L'.at_ D = some (.lst (acc ++ q.1.map f)) ∧ ∀ z, z < L.n → z ≠ r → z ≠ D → L'.at_ z = L.at_ z
  | [], L, s, acc, q, h, hn, hd, hm, _ => by
    cases hm
    exact ⟨L, compV_nil, h, Nat.le_refl _, by simpa using hd, fun _ _ _ _ => rfl⟩
  | x :: xs, L, s, acc, q, h, hn, hd, hm, hz => by
    rw [List.length_cons, manyF] at hm
    cases e : p s with
    | none => rw [e] at hm; cases hm
    | some t =>
      rw [e, Option.bind_some] at hm
      cases e2 : manyF p xs.length t.2 with
      | none => rw [e2] at hm; cases hm
      | some u =>
        rw [e2] at hm
        cases hm
        simp only [List.length_cons] at hz
        obtain ⟨L1, p1, p2, p3⟩ := hb x L s t.1 t.2 h e
        have hd1 : L1.at_ D = some (.lst acc) := by rw [p3.2 D hn hr]; exact hd
        obtain ⟨L', e1, e3, e4, e5, e6⟩ := compV_many hr hI hb xs (L1.put D (.lst (acc ++ [f t.1]))) t.2 (acc ++ [f t.1]) u (hI _ _ _ p2) (Nat.lt_of_lt_of_le hn p3.1) (by simp) e2 (by simp; omega)
        refine ⟨L', ?_, e3, Nat.le_trans p3.1 e4, by simpa using e5, fun z h1 h2 h3 => (e6 z (Nat.lt_of_lt_of_le h1 p3.1) h2 h3).trans ((put_ne h3).trans (p3.2 z h1 h2))⟩
        rw [compV_cons, p1]
        simp only [bind_ok, hd1]
        rw [if_pos (by omega)]
        exact e1
end
/-! the list that a slice, a sum is -/
theorem sIx_nn {n d : Nat} {v : Int} (h : 0 ≤ v) : HT.sIx n d (some v) = min v.toNat n := by
  show (if v < 0 then (v + (n : Int)).toNat else min v.toNat n) = _
  rw [if_neg (by omega)]
theorem cut_nn {α : Type} {xs : List α} {a : Nat} {l : Nat} : cut xs (some (a : Int)) (some ((a : Int) + (l : Int))) = (xs.drop a).take l := by
  unfold cut
  rw [sIx_nn (by omega), sIx_nn (by omega)]
  have e : ((a : Int) + (l : Int)).toNat = a + l := by omega
  rw [e, Int.toNat_natCast]
  by_cases h : a ≤ xs.length
  · rw [Nat.min_eq_left h]
    by_cases h2 : a + l ≤ xs.length
    · rw [Nat.min_eq_left h2]; congr 1; omega
    · rw [Nat.min_eq_right (by omega), List.take_of_length_le (by rw [List.length_drop]; omega), List.take_of_length_le (by rw [List.length_drop]; omega)]
  · rw [Nat.min_eq_right (show xs.length ≤ a by omega), List.drop_of_length_le (Nat.le_refl xs.length), List.drop_of_length_le (show xs.length ≤ a by omega)]
    simp
theorem cut_from {α : Type} {xs : List α} {a : Nat} : cut xs (some (a : Int)) none = xs.drop a := by
  unfold cut
  rw [sIx_nn (by omega), Int.toNat_natCast, show HT.sIx xs.length xs.length none = xs.length from rfl]
  by_cases h : a ≤ xs.length
  · rw [Nat.min_eq_left h, List.take_of_length_le (by rw [List.length_drop]; omega)]
  · rw [Nat.min_eq_right (show xs.length ≤ a by omega), List.drop_of_length_le (Nat.le_refl xs.length), List.drop_of_length_le (show xs.length ≤ a by omega)]
    simp
theorem cut_init {α : Type} {xs : List α} : cut xs none (some (-1)) = xs.dropLast := by
  unfold cut
  rw [show HT.sIx xs.length 0 none = 0 from rfl, show HT.sIx xs.length xs.length (some (-1)) = (-1 + (xs.length : Int)).toNat from rfl, List.drop_zero, Nat.sub_zero, List.dropLast_eq_take]
  congr 1
  omega
theorem sumI_ints : ∀ {l : List Int}, sumI (l.map LV.int) = some l.sum
  | [] => rfl
  | x :: xs => by rw [List.map_cons, sumI, sumI_ints, List.sum_cons]; rfl
theorem bools_bl : ∀ {l : List Bool}, bools (l.map LV.bl) = some l
  | [] => rfl
  | x :: xs => by rw [List.map_cons, bools, bools_bl]; rfl
/-! equality of data -/
theorem cmp_eq_def {L : LH} {x y : LV} : cmpV L .eq x y = eqD L x y := by cases x <;> cases y <;> rfl
theorem cmp_ne_def {L : LH} {x y : LV} : cmpV L .ne x y = (eqD L x y).map (!·) := by cases x <;> cases y <;> rfl
end LG
namespace LG
open PySem PySem.Spec PyProof.Rows L2
/-- numbers from 0 -/
def natL (l : List Nat) : List LV := l.map fun (a : Nat) => LV.int (a : Int)
theorem natL_app {a b : List Nat} : natL (a ++ b) = natL a ++ natL b := List.map_append
@[simp] theorem natL_len {a : List Nat} : (natL a).length = a.length := List.length_map _
theorem natL_cast {l : List Nat} : natL l = (l.map fun (a : Nat) => (a : Int)).map LV.int := by unfold natL; rw [List.map_map]; rfl
theorem cast_sum : ∀ {l : List Nat}, (l.map fun (a : Nat) => (a : Int)).sum = ((l.sum : Nat) : Int)
  | [] => rfl
  | x :: xs => by rw [List.map_cons, List.sum_cons, List.sum_cons, cast_sum]; omega
theorem sumI_nat {l : List Nat} : sumI (natL l) = some ((l.sum : Nat) : Int) := by rw [natL_cast, sumI_ints, cast_sum]
theorem forS_nil {S : Src} {body : LV → LSt → LH → Out (Fl × LSt)} {σ : LSt} {L : LH} (h : Keeps L S) : forL S body [] σ L = .ok (.nx, σ) L := by
  unfold forL
  exact if_pos h
theorem forS_cons {S : Src} {body : LV → LSt → LH → Out (Fl × LSt)} {x : LV} {ys : List LV} {σ : LSt} {L : LH} (h : Keeps L S) : forL S body (x :: ys) σ L = turnS (body x σ L) fun σ' L' => forL S body ys σ' L' := by
  rw [forL, if_pos h]
  rfl
/-- a loop that gathers numbers in the list at N -/
theorem for_gather {α : Type} {tv : α → LV} {w : α → List Nat} {body : LV → LSt → LH → Out (Fl × LSt)} {N : Nat} {X : Type} {σf : X → LSt} {S : Src} : ∀ (as : List α) (acc : List Nat) (L : LH) (x : X),
    (∀ L', (∀ z, z < L.n → z ≠ N → L'.at_ z = L.at_ z) → Keeps L' S) →
    (∀ a ∈ as, ∀ L acc x, L.at_ N = some (.lst (natL acc)) → N < L.n → acc.length + (w a).length ≤ sizeLine → ∃ L' x', body (tv a) (σf x) L = .ok (.nx, σf x') L' ∧ L.n ≤ L'.n ∧ L'.at_ N = some (.lst (natL (acc ++ w a))) ∧ ∀ z, z < L.n → z ≠ N → L'.at_ z = L.at_ z) →
    L.at_ N = some (.lst (natL acc)) → N < L.n → acc.length + (as.flatMap w).length ≤ sizeLine →
    ∃ L' x', forL S body (as.map tv) (σf x) L = .ok (.nx, σf x') L' ∧ L.n ≤ L'.n ∧ L'.at_ N = some (.lst (natL (acc ++ as.flatMap w))) ∧ ∀ z, z < L.n → z ≠ N → L'.at_ z = L.at_ z
  | [], acc, L, x, hk, _, hN, hn, _ => ⟨L, x, forS_nil (hk L fun _ _ _ => rfl), Nat.le_refl _, by simpa using hN, fun _ _ _ => rfl⟩
  | a :: as, acc, L, x, hk, hb, hN, hn, hz => by
    rw [List.flatMap_cons, List.length_append] at hz
    obtain ⟨L1, x1, p1, p2, p3, p4⟩ := hb a List.mem_cons_self L acc x hN hn (by omega)
    obtain ⟨L', x', e1, e2, e3, e4⟩ := for_gather (tv := tv) (w := w) (body := body) (σf := σf) (S := S) as (acc ++ w a) L1 x1 (fun L' h => hk L' fun z hz hq => (h z (by omega) hq).trans (p4 z hz hq)) (fun b hb' => hb b (List.mem_cons_of_mem _ hb')) p3 (by omega) (by rw [List.length_append]; omega)
    refine ⟨L', x', ?_, by omega, by rw [e3, List.flatMap_cons, List.append_assoc], fun z hz hq => (e4 z (by omega) hq).trans (p4 z hz hq)⟩
    rw [List.map_cons, forS_cons (hk L fun _ _ _ => rfl), p1, turn_nx]
    exact e1
end LG
end

section
set_option Elab.async false
set_option linter.all false
set_option maxRecDepth 100000
set_option maxHeartbeats 4000000
namespace K91
open PySem LG
/-! drawing numbers -/
def BagAt (b : Nat) (L : LH) : Prop := b < L.n ∧ ∃ c a f, L.at_ b = some (bagL c a f)
theorem BagAt.ext {b : Nat} {L L' : LH} (h : BagAt b L) (x : Ext L L') : BagAt b L' := ⟨Nat.lt_of_lt_of_le h.1 x.1, by obtain ⟨c, a, f, e⟩ := h.2; exact ⟨c, a, f, by rw [x.2 _ h.1]; exact e⟩⟩
def Draw (F : Fn) (σ : LSt) (b : Nat) (e : LE) (P : Int → Prop) : Prop := ∀ L, BagAt b L → ∃ L' v, evE F e σ L = .ok (.int v) L' ∧ P v ∧ BagAt b L' ∧ Ext1 b L L'
def DrawAs (F : Fn) (σ : LSt) (b : Nat) (es : LEs) (P : Int → Prop) : Prop := ∀ L, BagAt b L → ∃ (L' : LH) (vs : List Int), evA F es σ L = .ok (vs.map LV.int) L' ∧ (∀ v ∈ vs, P v) ∧ vs.length = es.len ∧ BagAt b L' ∧ Ext1 b L L'
section
variable {k : Nat} {σ : LSt} {b : Nat} {P Q : Int → Prop} {e e2 : LE} {es : LEs} {F : Fn}
theorem Draw.mono (h : Draw F σ b e P) (hq : ∀ v, P v → Q v) : Draw F σ b e Q := fun L hL => by
  obtain ⟨L', v, h1, h2, h3⟩ := h L hL
  exact ⟨L', v, h1, hq v h2, h3⟩
theorem draw_con {c : Int} (h : P c) : Draw F σ b (.con (.int c)) P := fun L hL => ⟨L, c, e_con, h, hL, Ext1.rfl⟩
theorem draw_var {i : Nat} {c : Int} (hi : σ[i]? = some (some (.int c))) (h : P c) : Draw F σ b (.var i) P := fun L hL => ⟨L, c, by simp [hi], h, hL, Ext1.rfl⟩
theorem draw_add {R : Int → Prop} (h1 : Draw F σ b e P) (h2 : Draw F σ b e2 Q) (h : ∀ x y, P x → Q y → R (x + y)) : Draw F σ b (.bin .add e e2) R := fun L hL => by
  obtain ⟨L1, v, a1, a2, a3, a4⟩ := h1 L hL
  obtain ⟨L2, w, b1, b2, b3, b4⟩ := h2 L1 a3
  exact ⟨L2, v + w, by simp [a1, b1], h v w a2 b2, b3, a4.trans b4⟩
theorem draw_mul {R : Int → Prop} (h1 : Draw F σ b e P) (h2 : Draw F σ b e2 Q) (hs : ∀ x, P x → -1000000000 < x ∧ x < 1000000000) (h : ∀ x y, P x → Q y → R (x * y)) : Draw F σ b (.bin .mul e e2) R := fun L hL => by
  obtain ⟨L1, v, a1, a2, a3, a4⟩ := h1 L hL
  obtain ⟨L2, w, b1, b2, b3, b4⟩ := h2 L1 a3
  have hv := hs v a2
  have hm : ∀ L : LH, binV .mul (.int v) (.int w) L = .ok (.int (v * w)) L := fun L => bin_mul (.inl (by omega))
  exact ⟨L2, v * w, by simp [a1, b1, hm], h v w a2 b2, b3, a4.trans b4⟩
theorem draws_nil : DrawAs F σ b .nil P := fun L hL => ⟨L, [], by simp, fun _ h => (nomatch h), rfl, hL, Ext1.rfl⟩
theorem draws_cons (h1 : Draw F σ b e P) (h2 : DrawAs F σ b es P) : DrawAs F σ b (.cons e es) P := fun L hL => by
  obtain ⟨L1, v, a1, a2, a3, a4⟩ := h1 L hL
  obtain ⟨L2, vs, b1, b2, b3, b4, b5⟩ := h2 L1 a3
  refine ⟨L2, v :: vs, by simp [a1, b1], ?_, by rw [List.length_cons, b3]; rfl, b4, a4.trans b5⟩
  intro x hx
  rcases List.mem_cons.mp hx with rfl | hx
  · exact a2
  · exact b2 x hx
/-- _law_take -/
theorem draw_take {i : Nat} (hi : σ[i]? = some (some (.ref b))) (h : Draw (mo.F (k + 1)) σ b e fun m => 0 < m ∧ m < 1073741824 ∧ P m) : Draw (mo.F (k + 1)) σ b (.call 1 (.cons (.var i) (.cons e .nil))) fun v => 0 ≤ v ∧ ∃ m, P m ∧ v < m := fun L hL => by
  obtain ⟨L1, m, a1, ⟨a2, a3, a4⟩, ⟨hb, c, a, f, hc⟩, a6⟩ := h L hL
  obtain ⟨d, c', a', t1, t2, t3⟩ := take_ok (k := k) hc a2 a3
  refine ⟨L1.put b (bagL c' a' f), d, by simp [hi, a1, t1], ⟨t2, m, a4, t3⟩, ⟨by rw [LH.put_n]; exact hb, c', a', f, LH.put_same _ _ _⟩, a6.put⟩
theorem take_con {i : Nat} {m : Int} (hi : σ[i]? = some (some (.ref b))) (h0 : 0 < m) (h1 : m < 1073741824) : Draw (mo.F (k + 1)) σ b (.call 1 (.cons (.var i) (.cons (.con (.int m)) .nil))) fun v => 0 ≤ v ∧ v < m :=
  (draw_take (P := fun x => x = m) hi (draw_con ⟨h0, h1, rfl⟩)).mono fun v ⟨h1, x, h2, h3⟩ => ⟨h1, by rw [← h2]; exact h3⟩
/-- _law_pick from a list of drawn numbers -/
theorem draw_pick {i : Nat} (hi : σ[i]? = some (some (.ref b))) (h : DrawAs (mo.F (k + 2)) σ b es P) (h0 : 0 < es.len) (h1 : es.len < 1000000) : Draw (mo.F (k + 2)) σ b (.call 2 (.cons (.var i) (.cons (.lst es) .nil))) P := fun L hL => by
  have hline : sizeLine = 16777216 := rfl
  obtain ⟨L1, vs, a1, a2, a3, ⟨hb, c, a, f, hc⟩, a5⟩ := h L hL
  have hc1 : (L1.new (.lst (vs.map LV.int))).at_ b = some (bagL c a f) := by rw [new_ne (by omega)]; exact hc
  obtain ⟨v, c', a', p1, p2⟩ := pick_ok (k := k) hc1 (LH.new_same _ _) (by omega) (fun e => by
    have := congrArg List.length e
    simp at this
    subst this
    simp at a3
    omega) (by simp; omega)
  obtain ⟨w, hw, rfl⟩ := List.mem_map.mp p1
  have hl : lstV (vs.map LV.int) L1 = .ok (.ref L1.n) (L1.new (.lst (vs.map LV.int))) := lstV_ok (by simp; omega)
  refine ⟨(L1.new (.lst (vs.map LV.int))).put b (bagL c' a' f), w, by simp [hi, a1, hl, p2], a2 w hw, ⟨by simp; omega, c', a', f, LH.put_same _ _ _⟩, (a5.trans Ext.new.one).put⟩
end
end K91
end

section
set_option Elab.async false
set_option linter.all false
set_option maxRecDepth 100000
set_option maxHeartbeats 4000000
namespace K91
open PySem LG
section
variable {k : Nat} {L : LH}
def eqL (i : Nat) : List LV := (List.range 6).map fun (j : Nat) => LV.bl (decide ((j : Int) = (i : Int)))
theorem comp6 {F : Fn} {x t : LV} {i : Nat} :
    ∃ L', evE F (.comp [3] (.name 3) (.rng1 (.con (.int 6))) none .dct0 (.cmp .eq (.var 3) (.var 1))) [some x, some (.int (i : Int)), some t, none] L = .ok (.ref L.n) L' ∧ L'.at_ L.n = some (.lst (eqL i)) ∧ Ext L L' := by
  obtain ⟨L', c1, c2, c3, c4, c5⟩ := compV_pure (S := rngL 0 6) (D := L.n) (f := fun (j : Nat) => LV.int (j : Int)) (g := fun (j : Nat) => some (LV.bl (decide ((j : Int) = (i : Int))))) (G := fun _ => True) (body := compB (.name 3) (wipeL [some x, some (.int (i : Int)), some t, none] [3]) (optT none (evT F .dct0)) (evE F (.cmp .eq (.var 3) (.var 1)))) (fun _ _ _ => trivial) (List.range 6) [] (L.new (.lst []))
    (fun j hj L2 _ => by simp [compB, tgt, optT, wipeL, eqD]) trivial (LH.new_same _ _) (by decide)
  refine ⟨L', ?_, ?_, ?_⟩
  · have h6 : evI F (.rng1 (.con (.int 6))) [some x, some (.int (i : Int)), some t, none] L = .ok (.vals (rngL 0 6)) L := i_rng1_nat (j := 6) e_con (by decide)
    rw [e_comp, h6, bind_ok]
    have hr : (Src.vals (rngL 0 6)).items = (List.range 6).map fun (j : Nat) => LV.int (j : Int) := by rfl
    rw [hr, c1, bind_ok]
  · rw [c4]
    simp [eqL, List.filterMap_map]
  · exact ⟨by rw [c3]; simp, fun z hz => by rw [c5 z (by omega)]; exact new_ne (by omega)⟩
theorem alone_ok {x : Str} {fs : List Str} {vs : List LV} {i : Nat} (hi : i < 6) (h0 : mo.xis x "RungError" = some true) (hv : mo.xis x "ValueError" = some true)
    (a0 : mo.xis x "InvalidProject" = some (decide ((0 : Int) = i))) (a1 : mo.xis x "ParseError" = some (decide ((1 : Int) = i))) (a2 : mo.xis x "DrawingError" = some (decide ((2 : Int) = i)))
    (a3 : mo.xis x "ImageError" = some (decide ((3 : Int) = i))) (a4 : mo.xis x "LimitExceeded" = some (decide ((4 : Int) = i))) (a5 : mo.xis x "InvalidEvent" = some (decide ((5 : Int) = i))) :
    ∃ L', run mo.pg (k + 1) 4 [.exc x fs vs, .int (i : Int)] L = .ok (.bl true) L' ∧ Ext L L' := by
  rw [Mo.run_succ (d := d4) rfl rfl]
  have es : (List.map some [LV.exc x fs vs, .int (i : Int)] ++ List.replicate (d4.N.length - d4.np) none) = [some (.exc x fs vs), some (.int (i : Int)), none, none] := rfl
  rw [es]
  have ix : ∀ t b, mo.xis x t = some b → isxV (mo.F k) t (.exc x fs vs) = some b := fun t b h => h
  have j0 := ix _ _ h0
  have jv := ix _ _ hv
  have b0 := ix _ _ a0
  have b1 := ix _ _ a1
  have b2 := ix _ _ a2
  have b3 := ix _ _ a3
  have b4 := ix _ _ a4
  have b5 := ix _ _ a5
  generalize mo.F k = F at *
  have hA : (((L.new (.lst [.bl (decide ((0 : Int) = i)), .bl (decide ((1 : Int) = i)), .bl (decide ((2 : Int) = i))])).new (.lst [.bl (decide ((3 : Int) = i)), .bl (decide ((4 : Int) = i)), .bl (decide ((5 : Int) = i))])).new (.lst (eqL i))).at_ (L.n + 2) = some (.lst (eqL i)) := LH.new_same _ _
  generalize hL3 : (((L.new (.lst [.bl (decide ((0 : Int) = i)), .bl (decide ((1 : Int) = i)), .bl (decide ((2 : Int) = i))])).new (.lst [.bl (decide ((3 : Int) = i)), .bl (decide ((4 : Int) = i)), .bl (decide ((5 : Int) = i))])).new (.lst (eqL i))) = L3 at hA
  obtain ⟨L', c1, c2, c3⟩ := comp6 (F := F) (L := L3) (x := .exc x fs vs) (t := .ref (L.n + 2)) (i := i)
  have x3 : Ext L L3 := by rw [← hL3]; exact (Ext.new.trans Ext.new).trans Ext.new
  have n3 : L3.n = L.n + 3 := by rw [← hL3]; rfl
  refine ⟨L', ?_, x3.trans c3⟩
  have q1 : evS F (.set 2 (.lst (.cons (.isx (.var 0) "InvalidProject") (.cons (.isx (.var 0) "ParseError") (.cons (.isx (.var 0) "DrawingError") .nil))))) [some (.exc x fs vs), some (.int (i : Int)), none, none] L = .ok (.nx, [some (.exc x fs vs), some (.int (i : Int)), some (.ref L.n), none]) (L.new (.lst [.bl (decide ((0 : Int) = i)), .bl (decide ((1 : Int) = i)), .bl (decide ((2 : Int) = i))])) := by
    have hl : ∀ vs : List LV, vs.length = 3 → lstV vs L = .ok (.ref L.n) (L.new (.lst vs)) := fun vs h => lstV_ok (by rw [h]; decide)
    simp [b0, b1, b2, hl]
  have q2 : evS F (.set 2 (.bin .add (.var 2) (.lst (.cons (.isx (.var 0) "ImageError") (.cons (.isx (.var 0) "LimitExceeded") (.cons (.isx (.var 0) "InvalidEvent") .nil)))))) [some (.exc x fs vs), some (.int (i : Int)), some (.ref L.n), none] (L.new (.lst [.bl (decide ((0 : Int) = i)), .bl (decide ((1 : Int) = i)), .bl (decide ((2 : Int) = i))])) = .ok (.nx, [some (.exc x fs vs), some (.int (i : Int)), some (.ref (L.n + 2)), none]) L3 := by
    have hl : ∀ (L : LH) (vs : List LV), vs.length = 3 → lstV vs L = .ok (.ref L.n) (L.new (.lst vs)) := fun L vs h => lstV_ok (by rw [h]; decide)
    have hadd : binV .add (.ref L.n) (.ref (L.n + 1)) ((L.new (.lst [.bl (decide ((0 : Int) = i)), .bl (decide ((1 : Int) = i)), .bl (decide ((2 : Int) = i))])).new (.lst [.bl (decide ((3 : Int) = i)), .bl (decide ((4 : Int) = i)), .bl (decide ((5 : Int) = i))])) = .ok (.ref (L.n + 2)) L3 := by
      have e1 : ((L.new (.lst [.bl (decide ((0 : Int) = i)), .bl (decide ((1 : Int) = i)), .bl (decide ((2 : Int) = i))])).new (.lst [.bl (decide ((3 : Int) = i)), .bl (decide ((4 : Int) = i)), .bl (decide ((5 : Int) = i))])).at_ L.n = some (.lst [.bl (decide ((0 : Int) = i)), .bl (decide ((1 : Int) = i)), .bl (decide ((2 : Int) = i))]) := by
        rw [new_ne (by simp)]; exact LH.new_same _ _
      have e2 : ((L.new (.lst [.bl (decide ((0 : Int) = i)), .bl (decide ((1 : Int) = i)), .bl (decide ((2 : Int) = i))])).new (.lst [.bl (decide ((3 : Int) = i)), .bl (decide ((4 : Int) = i)), .bl (decide ((5 : Int) = i))])).at_ (L.n + 1) = some (.lst [.bl (decide ((3 : Int) = i)), .bl (decide ((4 : Int) = i)), .bl (decide ((5 : Int) = i))]) := LH.new_same _ _
      unfold binV
      simp only [e1, e2]
      rw [if_pos (by show 3 + 3 ≤ sizeLine; decide), ← hL3]
      rfl
    simp [b3, b4, b5, hl, hadd]
  have q3 : evS F (.ret (.cmp .eq (.var 2) (.comp [3] (.name 3) (.rng1 (.con (.int 6))) none .dct0 (.cmp .eq (.var 3) (.var 1))))) [some (.exc x fs vs), some (.int (i : Int)), some (.ref (L.n + 2)), none] L3 = .ok (.ret (.bl true), [some (.exc x fs vs), some (.int (i : Int)), some (.ref (L.n + 2)), none]) L' := by
    have hA' : L'.at_ (L.n + 2) = some (.lst (eqL i)) := by rw [c3.2 _ (by omega)]; exact hA
    have heq : cmpV L' .eq (.ref (L.n + 2)) (.ref L3.n) = some true := by
      rw [cmp_eq_def]
      unfold eqD
      simp only [datL, hA', c2]
      clear hA hA' c1 c2 c3 q1 q2 hL3 x3 n3 a0 a1 a2 a3 a4 a5 b0 b1 b2 b3 b4 b5 j0 jv ix es
      have : i = 0 ∨ i = 1 ∨ i = 2 ∨ i = 3 ∨ i = 4 ∨ i = 5 := by omega
      rcases this with rfl | rfl | rfl | rfl | rfl | rfl <;> decide +kernel
    simp [c1, heq]
  have hb : d4.body = .cons (.ifs (.ors (.cons (.not (.isx (.var 0) "RungError")) (.cons (.not (.isx (.var 0) "ValueError")) .nil))) (.cons (.ret (.con (.bl false))) .nil) .nil)
    (.cons (.set 2 (.lst (.cons (.isx (.var 0) "InvalidProject") (.cons (.isx (.var 0) "ParseError") (.cons (.isx (.var 0) "DrawingError") .nil)))))
    (.cons (.set 2 (.bin .add (.var 2) (.lst (.cons (.isx (.var 0) "ImageError") (.cons (.isx (.var 0) "LimitExceeded") (.cons (.isx (.var 0) "InvalidEvent") .nil))))))
    (.cons (.ret (.cmp .eq (.var 2) (.comp [3] (.name 3) (.rng1 (.con (.int 6))) none .dct0 (.cmp .eq (.var 3) (.var 1))))) .nil))) := rfl
  rw [hb, ss_cons, s_if]
  have h1 : evT F (.ors (.cons (.not (.isx (.var 0) "RungError")) (.cons (.not (.isx (.var 0) "ValueError")) .nil))) [some (.exc x fs vs), some (.int (i : Int)), none, none] L = .ok false L := by simp [j0, jv]
  rw [h1, bind_ok, if_neg Bool.false_ne_true, ss_nil, then_nx, ss_cons, q1, then_nx, ss_cons, q2, then_nx, ss_cons, q3, then_ret, endOf_ret]
end
end K91
end

section
set_option Elab.async false
set_option linter.all false
set_option maxRecDepth 100000
namespace K91
open PySem LG
def ls0 : LS := (.set 1 (.call 0 (.cons (.var 0) (.cons (.con (.int 0)) .nil))))
def ls1 : LS := (.set 2 (.bf .tuple (.cons (.comp [8] (.name 8) (.rng1 (.call 1 (.cons (.var 1) (.cons (.con (.int 10)) .nil)))) none .dct0 (.call 1 (.cons (.var 1) (.cons (.con (.int 13)) .nil)))) .nil)))
def ls2 : LS := (.set 3 (.call 2 (.cons (.var 1) (.cons (.lst (.cons (.con (.str (cs 19))) (.cons (.con (.str (cs 18))) (.cons (.con (.str (cs 17))) (.cons (.con (.str (cs 16))) (.cons (.con (.str (cs 15))) (.cons (.con (.str (cs 14))) (.cons (.con (.str (cs 13))) (.cons (.con (.str (cs 12))) (.cons (.con (.str (cs 11))) (.cons (.con (.str (cs 10))) (.cons (.con (.str (cs 9))) (.cons (.con (.str (cs 8))) (.cons (.con (.str (cs 7))) .nil)))))))))))))) .nil))))
def ls3 : LS := (.set 4 (.mkx "InvalidProject" (.cons (.var 2) (.cons (.var 3) .nil))))
def ls4 : LS := (.ifs (.ors (.cons (.not (.call 4 (.cons (.var 4) (.cons (.con (.int 0)) .nil)))) (.cons (.not (.call 3 (.cons (.tup (.cons (.xfl (.var 4) "path") (.cons (.xfl (.var 4) "word") .nil))) (.cons (.tup (.cons (.var 2) (.cons (.var 3) .nil))) .nil)))) .nil))) (.cons (.ret (.con (.bl false))) .nil) .nil)
def ls5 : LS := (.set 5 (.bin .add (.con (.int 1)) (.call 1 (.cons (.var 1) (.cons (.bin .pow (.con (.int 10)) (.con (.int 9))) .nil)))))
def ls6 : LS := (.set 4 (.mkx "ParseError" (.cons (.var 5) .nil)))
def ls7 : LS := (.ifs (.ors (.cons (.not (.call 4 (.cons (.var 4) (.cons (.con (.int 1)) .nil)))) (.cons (.not (.call 3 (.cons (.xfl (.var 4) "line") (.cons (.var 5) .nil)))) .nil))) (.cons (.ret (.con (.bl false))) .nil) .nil)
def ls8 : LS := (.ifs (.not (.call 4 (.cons (.mkx "DrawingError" .nil) (.cons (.con (.int 2)) .nil)))) (.cons (.ret (.con (.bl false))) .nil) .nil)
def ls9 : LS := (.set 3 (.call 2 (.cons (.var 1) (.cons (.lst (.cons (.con (.str (cs 6))) (.cons (.con (.str (cs 5))) (.cons (.con (.str (cs 4))) (.cons (.con (.str (cs 3))) (.cons (.con (.str (cs 2))) (.cons (.con (.str (cs 1))) (.cons (.con (.str (cs 0))) .nil)))))))) .nil))))
def ls10 : LS := (.set 4 (.mkx "ImageError" (.cons (.var 3) .nil)))
def ls11 : LS := (.ifs (.ors (.cons (.not (.call 4 (.cons (.var 4) (.cons (.con (.int 3)) .nil)))) (.cons (.not (.call 3 (.cons (.xfl (.var 4) "word") (.cons (.var 3) .nil)))) .nil))) (.cons (.ret (.con (.bl false))) .nil) .nil)
def ls12 : LS := (.set 6 (.call 2 (.cons (.var 1) (.cons (.lst (.cons (.con (.int 0)) (.cons (.con (.int 1)) (.cons (.call 1 (.cons (.var 1) (.cons (.bin .pow (.con (.int 10)) (.con (.int 9))) .nil))) (.cons (.bin .pow (.con (.int 10)) (.con (.int 30))) .nil))))) .nil))))
def ls13 : LS := (.set 4 (.mkx "LimitExceeded" (.cons (.var 6) .nil)))
def ls14 : LS := (.ifs (.ors (.cons (.not (.call 4 (.cons (.var 4) (.cons (.con (.int 4)) .nil)))) (.cons (.not (.call 3 (.cons (.xfl (.var 4) "limit") (.cons (.var 6) .nil)))) .nil))) (.cons (.ret (.con (.bl false))) .nil) .nil)
def ls15 : LS := (.set 7 (.bf .tuple (.cons (.comp [8] (.name 8) (.rng1 (.call 1 (.cons (.var 1) (.cons (.con (.int 12)) .nil)))) none .dct0 (.call 2 (.cons (.var 1) (.cons (.lst (.cons (.con (.int 0)) (.cons (.con (.int 1)) (.cons (.neg (.con (.int 1))) (.cons (.bin .pow (.con (.int 10)) (.con (.int 30))) (.cons (.call 1 (.cons (.var 1) (.cons (.con (.int 1000)) .nil))) .nil)))))) .nil)))) .nil)))
def ls16 : LS := (.set 4 (.mkx "InvalidEvent" (.cons (.var 7) .nil)))
def ls17 : LS := (.ret (.ands (.cons (.call 4 (.cons (.var 4) (.cons (.con (.int 5)) .nil))) (.cons (.call 3 (.cons (.xfl (.var 4) "event") (.cons (.var 7) .nil))) .nil))))
theorem ls_body : d5.body = .cons ls0 (.cons ls1 (.cons ls2 (.cons ls3 (.cons ls4 (.cons ls5 (.cons ls6 (.cons ls7 (.cons ls8 (.cons ls9 (.cons ls10 (.cons ls11 (.cons ls12 (.cons ls13 (.cons ls14 (.cons ls15 (.cons ls16 (.cons ls17 (.nil)))))))))))))))))) := rfl
end K91
end

section
set_option Elab.async false
set_option linter.all false
set_option maxRecDepth 100000
set_option maxHeartbeats 4000000
namespace K91
open PySem LG
/-! drawing values -/
def DrawV (F : Fn) (σ : LSt) (b : Nat) (e : LE) (P : LV → Prop) : Prop := ∀ L, BagAt b L → ∃ L' v, evE F e σ L = .ok v L' ∧ P v ∧ BagAt b L' ∧ Ext1 b L L'
def DrawVs (F : Fn) (σ : LSt) (b : Nat) (es : LEs) (P : LV → Prop) : Prop := ∀ L, BagAt b L → ∃ L' vs, evA F es σ L = .ok vs L' ∧ (∀ v ∈ vs, P v) ∧ vs.length = es.len ∧ BagAt b L' ∧ Ext1 b L L'
section
variable {k : Nat} {σ : LSt} {b : Nat} {P Q : LV → Prop} {e e2 : LE} {es : LEs} {F : Fn} {L : LH}
theorem DrawV.mono (h : DrawV F σ b e P) (hq : ∀ v, P v → Q v) : DrawV F σ b e Q := fun L hL => by
  obtain ⟨L', v, h1, h2, h3⟩ := h L hL
  exact ⟨L', v, h1, hq v h2, h3⟩
theorem Draw.v {R : Int → Prop} (h : Draw F σ b e R) : DrawV F σ b e fun v => ∃ i, v = .int i ∧ R i := fun L hL => by
  obtain ⟨L', v, h1, h2, h3⟩ := h L hL
  exact ⟨L', .int v, h1, ⟨v, rfl, h2⟩, h3⟩
theorem drawv_pure {v : LV} (h : ∀ L, evE F e σ L = .ok v L) (hp : P v) : DrawV F σ b e P := fun L hL => ⟨L, v, h L, hp, hL, Ext1.rfl⟩
theorem draw_pure {R : Int → Prop} {v : Int} (h : ∀ L, evE F e σ L = .ok (.int v) L) (hp : R v) : Draw F σ b e R := fun L hL => ⟨L, v, h L, hp, hL, Ext1.rfl⟩
theorem drawvs_nil : DrawVs F σ b .nil P := fun L hL => ⟨L, [], by simp, fun _ h => (nomatch h), rfl, hL, Ext1.rfl⟩
theorem drawvs_cons (h1 : DrawV F σ b e P) (h2 : DrawVs F σ b es P) : DrawVs F σ b (.cons e es) P := fun L hL => by
  obtain ⟨L1, v, a1, a2, a3, a4⟩ := h1 L hL
  obtain ⟨L2, vs, b1, b2, b3, b4, b5⟩ := h2 L1 a3
  refine ⟨L2, v :: vs, by simp [a1, b1], ?_, by rw [List.length_cons, b3]; rfl, b4, a4.trans b5⟩
  intro x hx
  rcases List.mem_cons.mp hx with rfl | hx
  · exact a2
  · exact b2 x hx
/-- _law_pick from a list of drawn values -/
theorem drawv_pick {i : Nat} (hi : σ[i]? = some (some (.ref b))) (h : DrawVs (mo.F (k + 2)) σ b es P) (h0 : 0 < es.len) (h1 : es.len < 1000000) : DrawV (mo.F (k + 2)) σ b (.call 2 (.cons (.var i) (.cons (.lst es) .nil))) P := fun L hL => by
  have hline : sizeLine = 16777216 := rfl
  obtain ⟨L1, vs, a1, a2, a3, ⟨hb, c, a, f, hc⟩, a5⟩ := h L hL
  have hc1 : (L1.new (.lst vs)).at_ b = some (bagL c a f) := by rw [new_ne (by omega)]; exact hc
  obtain ⟨v, c', a', p1, p2⟩ := pick_ok (k := k) hc1 (LH.new_same _ _) (by omega) (fun e => by subst e; simp at a3; omega) (by omega)
  have hl : lstV vs L1 = .ok (.ref L1.n) (L1.new (.lst vs)) := lstV_ok (by omega)
  exact ⟨(L1.new (.lst vs)).put b (bagL c' a' f), v, by simp [hi, a1, hl, p2], a2 v p1, ⟨by simp; omega, c', a', f, LH.put_same _ _ _⟩, (a5.trans Ext.new.one).put⟩
/-- turns that draw -/
theorem compV_draw {S : List LV} {D : Nat} {body : LV → LH → Out (Option LV)} (hr : D ≠ b) : ∀ (xs : List LV) (L : LH) (acc : List LV), (∀ x ∈ xs, ∀ L, BagAt b L → ∃ L' v, body x L = .ok (some v) L' ∧ P v ∧ BagAt b L' ∧ Ext1 b L L') →
    BagAt b L → D < L.n → L.at_ D = some (.lst acc) → acc.length + xs.length ≤ sizeLine →
    ∃ L' vs, compL (.vals S) D body xs L = .ok () L' ∧ vs.length = xs.length ∧ (∀ v ∈ vs, P v) ∧ BagAt b L' ∧ L.n ≤ L'.n ∧ L'.at_ D = some (.lst (acc ++ vs)) ∧ ∀ z, z < L.n → z ≠ b → z ≠ D → L'.at_ z = L.at_ z
  | [], L, acc, _, h, hn, hd, _ => ⟨L, [], compV_nil, rfl, fun _ h => (nomatch h), h, Nat.le_refl _, by simpa using hd, fun _ _ _ _ => rfl⟩
  | x :: xs, L, acc, hb, h, hn, hd, hz => by
    simp only [List.length_cons] at hz
    obtain ⟨L1, v, p1, p2, p3, p4⟩ := hb x List.mem_cons_self L h
    have hd1 : L1.at_ D = some (.lst acc) := by rw [p4.2 D hn hr]; exact hd
    have hB1 : BagAt b (L1.put D (.lst (acc ++ [v]))) := by
      obtain ⟨q1, c, a, f, q2⟩ := p3
      exact ⟨q1, c, a, f, by rw [put_ne (Ne.symm hr)]; exact q2⟩
    obtain ⟨L', vs, e1, e2, e3, e4, e5, e6, e7⟩ := compV_draw hr xs (L1.put D (.lst (acc ++ [v]))) (acc ++ [v]) (fun y hy => hb y (List.mem_cons_of_mem _ hy)) hB1 (Nat.lt_of_lt_of_le hn p4.1) (by simp) (by simp; omega)
    refine ⟨L', v :: vs, ?_, by simp [e2], fun y hy => ?_, e4, Nat.le_trans p4.1 e5, by simpa using e6, fun z h1 h2 h3 => (e7 z (Nat.lt_of_lt_of_le h1 p4.1) h2 h3).trans ((put_ne h3).trans (p4.2 z h1 h2))⟩
    · rw [compV_cons, p1]
      simp only [bind_ok, hd1]
      rw [if_pos (by omega)]
      exact e1
    · rcases List.mem_cons.mp hy with rfl | hy
      · exact p2
      · exact e3 y hy
/-- tuple([e for i in range(n)]) -/
theorem drawv_many {i : Nat} {M : Int} {en : LE} (hM : M < 1000000) (hn : Draw F σ b en fun v => 0 ≤ v ∧ v < M) (he : ∀ x, DrawV F ((wipeL σ [i]).set i (some x)) b e P) :
    DrawV F σ b (.bf .tuple (.cons (.comp [i] (.name i) (.rng1 en) none .dct0 e) .nil)) fun v => ∃ vs, v = .tup vs ∧ (∀ v ∈ vs, P v) ∧ (vs.length : Int) < M := fun L hL => by
  have hline : sizeLine = 16777216 := rfl
  obtain ⟨L1, n, a1, ⟨a2, a3⟩, a4, a5⟩ := hn L hL
  obtain ⟨n, rfl⟩ : ∃ m : Nat, n = m := ⟨n.toNat, by omega⟩
  have hI : evI F (.rng1 en) σ L = .ok (.vals (rngL 0 n)) L1 := i_rng1_nat a1 (by omega)
  have hl : (rngL 0 n).length = n := by unfold rngL; simp
  obtain ⟨L', vs, e1, e2, e3, e4, e5, e6, e7⟩ := compV_draw (S := rngL 0 n) (P := P) (D := L1.n) (b := b) (body := compB (.name i) (wipeL σ [i]) (optT none (evT F .dct0)) (evE F e)) (fun e => by have := a4.1; omega) (rngL 0 n) (L1.new (.lst [])) []
    (fun x hx L2 hB => by
      obtain ⟨L3, v, c1, c2, c3, c4⟩ := he x L2 hB
      exact ⟨L3, v, by simp only [compB, tgt, optT, c1, bind_ok], c2, c3, c4⟩) (a4.ext Ext.new) (by simp) (LH.new_same _ _) (by rw [hl]; simp; omega)
  have hc : evE F (.comp [i] (.name i) (.rng1 en) none .dct0 e) σ L = .ok (.ref L1.n) L' := by
    rw [e_comp, hI, bind_ok]
    show (compL (.vals (rngL 0 n)) L1.n _ (rngL 0 n) _).bind _ = _
    rw [e1, bind_ok]
  refine ⟨L', .tup vs, ?_, ⟨vs, rfl, e3, by rw [e2, hl]; exact a3⟩, e4, a5.trans ⟨Nat.le_trans (Nat.le_succ _) e5, fun z hz hzb => (e7 z (Nat.lt_succ_of_lt hz) hzb (by omega)).trans (new_ne (by omega))⟩⟩
  have ht : bfV .tuple [.ref L1.n] L' = .ok (.tup vs) L' := by
    have e6' : L'.at_ L1.n = some (.lst vs) := by simpa using e6
    unfold bfV seqOf
    simp only [e6']
  simp [hc, ht]
/-- one statement, then the rest -/
theorem ss_step {F : Fn} {s : LS} {R : LSs} {σ σ' : LSt} {L L' : LH} (h : evS F s σ L = .ok (.nx, σ') L') : evSs F (.cons s R) σ L = evSs F R σ' L' := by rw [ss_cons, h, then_nx]
theorem set_drawv {F : Fn} {σ : LSt} {b i : Nat} {e : LE} {P : LV → Prop} (h : DrawV F σ b e P) (hb : BagAt b L) : ∃ L' v, evS F (.set i e) σ L = .ok (.nx, σ.set i (some v)) L' ∧ P v ∧ BagAt b L' := by
  obtain ⟨L', v, h1, h2, h3, _⟩ := h L hb
  exact ⟨L', v, by rw [s_set, h1, bind_ok], h2, h3⟩
end
end K91
end

section
set_option Elab.async false
set_option linter.all false
set_option maxRecDepth 100000
set_option maxHeartbeats 4000000
namespace K91
open PySem LG
section
variable {L : LH}
structure AloneAt (x : Str) (i : Nat) : Prop where
  h0 : mo.xis x "RungError" = some true
  hv : mo.xis x "ValueError" = some true
  a0 : mo.xis x "InvalidProject" = some (decide ((0 : Int) = i))
  a1 : mo.xis x "ParseError" = some (decide ((1 : Int) = i))
  a2 : mo.xis x "DrawingError" = some (decide ((2 : Int) = i))
  a3 : mo.xis x "ImageError" = some (decide ((3 : Int) = i))
  a4 : mo.xis x "LimitExceeded" = some (decide ((4 : Int) = i))
  a5 : mo.xis x "InvalidEvent" = some (decide ((5 : Int) = i))
theorem alone {x : Str} {fs : List Str} {vs : List LV} {i : Nat} {b : Nat} (A : AloneAt x i) (hi : i < 6) (hB : BagAt b L) : ∃ L', run mo.pg 39 4 [.exc x fs vs, .int (i : Int)] L = .ok (.bl true) L' ∧ BagAt b L' := by
  obtain ⟨L', e1, e2⟩ := alone_ok (k := 38) (L := L) (fs := fs) (vs := vs) hi A.h0 A.hv A.a0 A.a1 A.a2 A.a3 A.a4 A.a5
  exact ⟨L', e1, hB.ext e2⟩
theorem same {v : LV} {n : Nat} (hn : n ≤ 5) (h : Pl n v) : run mo.pg 39 3 [v, v] L = .ok (.bl true) L := by
  have := same_ok (k := 38 - n) n v L h
  rw [show 38 - n + n + 1 = 39 by omega] at this
  exact this
theorem step_if {σ : LSt} {b i n : Nat} {x : Str} {fs : List Str} {vs : List LV} {e1 e2 : LE} {v : LV} (A : AloneAt x i) (hi : i < 6) (h4 : σ[4]? = some (some (.exc x fs vs))) (h1 : ∀ L, evE (mo.F 39) e1 σ L = .ok v L) (h2 : ∀ L, evE (mo.F 39) e2 σ L = .ok v L) (hv : Pl n v) (hn : n ≤ 5) (hB : BagAt b L) :
    ∃ L', evS (mo.F 39) (.ifs (.ors (.cons (.not (.call 4 (.cons (.var 4) (.cons (.con (.int (i : Int))) .nil)))) (.cons (.not (.call 3 (.cons e1 (.cons e2 .nil)))) .nil))) (.cons (.ret (.con (.bl false))) .nil) .nil) σ L = .ok (.nx, σ) L' ∧ BagAt b L' := by
  obtain ⟨L', q1, q2⟩ := alone (L := L) (fs := fs) (vs := vs) A hi hB
  refine ⟨L', ?_, q2⟩
  have q3 := same (L := L') hn hv
  have hcall : (mo.F 39).call = run mo.pg 39 := rfl
  have t : evT (mo.F 39) (.ors (.cons (.not (.call 4 (.cons (.var 4) (.cons (.con (.int (i : Int))) .nil)))) (.cons (.not (.call 3 (.cons e1 (.cons e2 .nil)))) .nil))) σ L = .ok false L' := by
    simp [h4, h1, h2, q1, q3]
  rw [s_if, t, bind_ok, if_neg Bool.false_ne_true, ss_nil]
theorem step_mk {σ : LSt} {x : Str} {fs : List Str} {es : LEs} {vs : List LV} (hx : mo.xin x = some fs) (hl : fs.length = vs.length) (he : ∀ L, evA (mo.F 39) es σ L = .ok vs L) : evS (mo.F 39) (.set 4 (.mkx x es)) σ L = .ok (.nx, σ.set 4 (some (.exc x fs vs))) L := by
  have h : ∀ L, mkxV (mo.F 39) x vs L = .ok (.exc x fs vs) L := fun L => by
    simp [mkxV, hx, hl]
  rw [s_set, e_mkx, he, bind_ok, h, bind_ok]
def sete : LS → LE
  | .set _ e => e
  | _ => .dct0
def isI (v : LV) : Prop := ∃ i, v = .int i
def isS (v : LV) : Prop := ∃ s, v = .str s
theorem pl_tup {vs : List LV} {n : Nat} (h : ∀ v ∈ vs, Pl n v) (hz : vs.length < 1000000000) : Pl (n + 1) (.tup vs) := .inr (.inr (.inr (.inr ⟨vs, rfl, hz, h⟩)))
theorem plain {ns : List Int} : ∃ L, run mo.pg 40 5 [.scr (ns.map LV.int)] L0 = .ok (.bl true) L := by
  obtain ⟨c, a, f, hbag⟩ := bag_ok (k := 38) (L := L0) (ns := ns) rfl
  rw [Mo.run_succ (d := d5) rfl rfl, ls_body]
  have es : (List.map some [LV.scr (ns.map LV.int)] ++ List.replicate (d5.N.length - d5.np) none) = [some (.scr (ns.map LV.int)), none, none, none, none, none, none, none, none] := rfl
  rw [es]
  generalize LV.scr (ns.map LV.int) = X at hbag ⊢
  have e0 : evS (mo.F 39) ls0 [some X, none, none, none, none, none, none, none, none] L0 = .ok (.nx, [some X, some (.ref L0.n), none, none, none, none, none, none, none]) (L0.new (bagL c a f)) := by
    simp [ls0, hbag]
  have B0 : BagAt L0.n (L0.new (bagL c a f)) := ⟨by rw [LH.new_n]; omega, c, a, f, LH.new_same _ _⟩
  generalize L0.n = b at e0 B0
  rw [ss_step e0]
  clear e0 hbag
  generalize L0.new (bagL c a f) = L1 at B0
  -- path
  have D1 : DrawV (mo.F 39) [some X, some (.ref b), none, none, none, none, none, none, none] b (sete ls1) fun v => ∃ vs, v = .tup vs ∧ (∀ v ∈ vs, isI v) ∧ (vs.length : Int) < 10 :=
    drawv_many (i := 8) (M := 10) (P := isI) (by omega) (take_con (k := 38) (i := 1) rfl (by omega) (by omega)) fun x => (take_con (k := 38) (i := 1) (m := 13) (σ := (wipeL [some X, some (.ref b), none, none, none, none, none, none, none] [8]).set 8 (some x)) rfl (by omega) (by omega)).v.mono fun v ⟨i, h, _⟩ => ⟨i, h⟩
  obtain ⟨L2, vp, e1, ⟨ps, rfl, p1, p2⟩, B1⟩ := set_drawv (i := 2) D1 B0
  rw [ss_step (s := ls1) e1]
  clear e1 B0 D1
  show ∃ L, endOf (evSs (mo.F 39) _ [some X, some (.ref b), some (.tup ps), none, none, none, none, none, none] L2) = _
  -- word
  have D2 : DrawV (mo.F 39) [some X, some (.ref b), some (.tup ps), none, none, none, none, none, none] b (sete ls2) isS :=
    drawv_pick (k := 37) (i := 1) rfl (by repeat' (first | exact drawvs_nil | refine drawvs_cons (drawv_pure (fun _ => e_con) ⟨_, rfl⟩) ?_)) (by decide) (by decide)
  obtain ⟨L3, vw, e2, ⟨w, rfl⟩, B2⟩ := set_drawv (i := 3) D2 B1
  rw [ss_step (s := ls2) e2]
  clear e2 B1 D2
  show ∃ L, endOf (evSs (mo.F 39) _ [some X, some (.ref b), some (.tup ps), some (.str w), none, none, none, none, none] L3) = _
  have e3 := step_mk (L := L3) (σ := [some X, some (.ref b), some (.tup ps), some (.str w), none, none, none, none, none]) (x := "InvalidProject") (fs := ["path", "word"]) (es := .cons (.var 2) (.cons (.var 3) .nil)) (vs := [.tup ps, .str w]) (by rfl) rfl (fun L => by simp)
  rw [ss_step (s := ls3) e3]
  clear e3
  show ∃ L, endOf (evSs (mo.F 39) _ [some X, some (.ref b), some (.tup ps), some (.str w), some (.exc "InvalidProject" ["path", "word"] [.tup ps, .str w]), none, none, none, none] L3) = _
  have hps : Pl 1 (.tup ps) := pl_tup (fun v hv => .inl (p1 v hv)) (by omega)
  obtain ⟨L4, e4, B3⟩ := step_if (i := 0) (n := 2) (b := b) (L := L3) (σ := [some X, some (.ref b), some (.tup ps), some (.str w), some (.exc "InvalidProject" ["path", "word"] [.tup ps, .str w]), none, none, none, none])
    (e1 := .tup (.cons (.xfl (.var 4) "path") (.cons (.xfl (.var 4) "word") .nil))) (e2 := .tup (.cons (.var 2) (.cons (.var 3) .nil))) (v := .tup [.tup ps, .str w]) ⟨by rfl, by rfl, by rfl, by rfl, by rfl, by rfl, by rfl, by rfl⟩ (by omega) rfl
    (fun L => by simp [xflV, List.lookup] <;> rfl) (fun L => by simp <;> rfl) (pl_tup (fun v hv => by
      simp only [List.mem_cons, List.not_mem_nil, or_false] at hv
      rcases hv with rfl | rfl
      · exact hps
      · exact .inr (.inl ⟨w, rfl⟩)) (by show 2 < 1000000000; omega)) (by omega) B2
  rw [ss_step (s := ls4) e4]
  clear e4 B2
  show ∃ L, endOf (evSs (mo.F 39) _ [(some (X)), (some (.ref b)), (some (.tup ps)), (some (.str w)), (some (.exc "InvalidProject" ["path", "word"] [.tup ps, .str w])), none, none, none, none] L4) = _
  have D5 : Draw (mo.F 39) [(some (X)), (some (.ref b)), (some (.tup ps)), (some (.str w)), (some (.exc "InvalidProject" ["path", "word"] [.tup ps, .str w])), none, none, none, none] b (sete ls5) fun v => True :=
    draw_add (P := fun _ => True) (Q := fun _ => True) (draw_con trivial) ((draw_take (k := 38) (i := 1) (P := fun _ => True) rfl (draw_pure (v := 1000000000) (fun L => by simp [bin_pow (i := 10) (j := 9) (by decide)]) ⟨by omega, by omega, trivial⟩)).mono fun _ _ => trivial) fun _ _ _ _ => trivial
  obtain ⟨L5, vl, e5, ⟨ln, rfl, _⟩, B4⟩ := set_drawv (i := 5) D5.v B3
  rw [ss_step (s := ls5) e5]
  clear e5 B3 D5
  show ∃ L, endOf (evSs (mo.F 39) _ [(some (X)), (some (.ref b)), (some (.tup ps)), (some (.str w)), (some (.exc "InvalidProject" ["path", "word"] [.tup ps, .str w])), (some (.int ln)), none, none, none] L5) = _
  have m6 := step_mk (L := L5) (σ := [(some (X)), (some (.ref b)), (some (.tup ps)), (some (.str w)), (some (.exc "InvalidProject" ["path", "word"] [.tup ps, .str w])), (some (.int ln)), none, none, none]) (x := "ParseError") (fs := ["line"]) (es := .cons (.var 5) .nil) (vs := [.int ln]) (by rfl) rfl (fun L => by simp)
  rw [ss_step (s := ls6) m6]
  clear m6
  show ∃ L, endOf (evSs (mo.F 39) _ [(some (X)), (some (.ref b)), (some (.tup ps)), (some (.str w)), (some (.exc "ParseError" ["line"] [.int ln])), (some (.int ln)), none, none, none] L5) = _
  obtain ⟨L6, c7, B5⟩ := step_if (i := 1) (n := 0) (b := b) (L := L5) (σ := [(some (X)), (some (.ref b)), (some (.tup ps)), (some (.str w)), (some (.exc "ParseError" ["line"] [.int ln])), (some (.int ln)), none, none, none]) (e1 := .xfl (.var 4) "line") (e2 := .var 5) (v := .int ln) ⟨by rfl, by rfl, by rfl, by rfl, by rfl, by rfl, by rfl, by rfl⟩ (by omega) rfl
    (fun L => by simp [xflV, List.lookup] <;> rfl) (fun L => by simp <;> rfl) (.inl ⟨_, rfl⟩) (by omega) B4
  rw [ss_step (s := ls7) c7]
  clear c7 B4
  show ∃ L, endOf (evSs (mo.F 39) _ [(some (X)), (some (.ref b)), (some (.tup ps)), (some (.str w)), (some (.exc "ParseError" ["line"] [.int ln])), (some (.int ln)), none, none, none] L6) = _
  have c8 : ∃ L', evS (mo.F 39) ls8 [(some (X)), (some (.ref b)), (some (.tup ps)), (some (.str w)), (some (.exc "ParseError" ["line"] [.int ln])), (some (.int ln)), none, none, none] L6 = .ok (.nx, [(some (X)), (some (.ref b)), (some (.tup ps)), (some (.str w)), (some (.exc "ParseError" ["line"] [.int ln])), (some (.int ln)), none, none, none]) L' ∧ BagAt b L' := by
    obtain ⟨L', q1, q2⟩ := alone (x := "DrawingError") (fs := []) (vs := []) (i := 2) (L := L6) ⟨by rfl, by rfl, by rfl, by rfl, by rfl, by rfl, by rfl, by rfl⟩ (by omega) B5
    refine ⟨L', ?_, q2⟩
    have hx : mo.xin "DrawingError" = some [] := by rfl
    have q1' : run mo.pg 39 4 [.exc "DrawingError" [] [], .int 2] L6 = .ok (.bl true) L' := q1
    have hm : mkxV (mo.F 39) "DrawingError" [] L6 = .ok (.exc "DrawingError" [] []) L6 := by simp [mkxV, hx]
    unfold ls8
    simp [hm, q1']
  obtain ⟨L7, c8, B6⟩ := c8
  rw [ss_step (s := ls8) c8]
  clear c8 B5
  show ∃ L, endOf (evSs (mo.F 39) _ [(some (X)), (some (.ref b)), (some (.tup ps)), (some (.str w)), (some (.exc "ParseError" ["line"] [.int ln])), (some (.int ln)), none, none, none] L7) = _
  have D9 : DrawV (mo.F 39) [(some (X)), (some (.ref b)), (some (.tup ps)), (some (.str w)), (some (.exc "ParseError" ["line"] [.int ln])), (some (.int ln)), none, none, none] b (sete ls9) isS :=
    drawv_pick (k := 37) (i := 1) rfl (by repeat' (first | exact drawvs_nil | refine drawvs_cons (drawv_pure (fun _ => e_con) ⟨_, rfl⟩) ?_)) (by decide) (by decide)
  obtain ⟨L8, vw, e9, ⟨w, rfl⟩, B7⟩ := set_drawv (i := 3) D9 B6
  rw [ss_step (s := ls9) e9]
  clear e9 B6 D9
  show ∃ L, endOf (evSs (mo.F 39) _ [(some (X)), (some (.ref b)), (some (.tup ps)), (some (.str w)), (some (.exc "ParseError" ["line"] [.int ln])), (some (.int ln)), none, none, none] L8) = _
  have m10 := step_mk (L := L8) (σ := [(some (X)), (some (.ref b)), (some (.tup ps)), (some (.str w)), (some (.exc "ParseError" ["line"] [.int ln])), (some (.int ln)), none, none, none]) (x := "ImageError") (fs := ["word"]) (es := .cons (.var 3) .nil) (vs := [.str w]) (by rfl) rfl (fun L => by simp)
  rw [ss_step (s := ls10) m10]
  clear m10
  show ∃ L, endOf (evSs (mo.F 39) _ [(some (X)), (some (.ref b)), (some (.tup ps)), (some (.str w)), (some (.exc "ImageError" ["word"] [.str w])), (some (.int ln)), none, none, none] L8) = _
  obtain ⟨L9, c11, B8⟩ := step_if (i := 3) (n := 0) (b := b) (L := L8) (σ := [(some (X)), (some (.ref b)), (some (.tup ps)), (some (.str w)), (some (.exc "ImageError" ["word"] [.str w])), (some (.int ln)), none, none, none]) (e1 := .xfl (.var 4) "word") (e2 := .var 3) (v := .str w) ⟨by rfl, by rfl, by rfl, by rfl, by rfl, by rfl, by rfl, by rfl⟩ (by omega) rfl
    (fun L => by simp [xflV, List.lookup] <;> rfl) (fun L => by simp <;> rfl) (.inr (.inl ⟨_, rfl⟩)) (by omega) B7
  rw [ss_step (s := ls11) c11]
  clear c11 B7
  show ∃ L, endOf (evSs (mo.F 39) _ [(some (X)), (some (.ref b)), (some (.tup ps)), (some (.str w)), (some (.exc "ImageError" ["word"] [.str w])), (some (.int ln)), none, none, none] L9) = _
  have D12 : DrawV (mo.F 39) [(some (X)), (some (.ref b)), (some (.tup ps)), (some (.str w)), (some (.exc "ImageError" ["word"] [.str w])), (some (.int ln)), none, none, none] b (sete ls12) isI :=
    drawv_pick (k := 37) (i := 1) rfl (drawvs_cons (drawv_pure (fun _ => e_con) ⟨_, rfl⟩) (drawvs_cons (drawv_pure (fun _ => e_con) ⟨_, rfl⟩)
      (drawvs_cons ((draw_take (k := 38) (i := 1) (P := fun _ => True) rfl (draw_pure (v := 1000000000) (fun L => by simp [bin_pow (i := 10) (j := 9) (by decide)]) ⟨by omega, by omega, trivial⟩)).v.mono fun v ⟨i, h, _⟩ => ⟨i, h⟩)
      (drawvs_cons (drawv_pure (v := .int (10 ^ 30)) (fun L => by simp [bin_pow (i := 10) (j := 30) (by decide)]) ⟨_, rfl⟩) drawvs_nil)))) (by decide) (by decide)
  obtain ⟨L10, vm, e12, ⟨lm, rfl⟩, B9⟩ := set_drawv (i := 6) D12 B8
  rw [ss_step (s := ls12) e12]
  clear e12 B8 D12
  show ∃ L, endOf (evSs (mo.F 39) _ [(some (X)), (some (.ref b)), (some (.tup ps)), (some (.str w)), (some (.exc "ImageError" ["word"] [.str w])), (some (.int ln)), (some (.int lm)), none, none] L10) = _
  have m13 := step_mk (L := L10) (σ := [(some (X)), (some (.ref b)), (some (.tup ps)), (some (.str w)), (some (.exc "ImageError" ["word"] [.str w])), (some (.int ln)), (some (.int lm)), none, none]) (x := "LimitExceeded") (fs := ["limit"]) (es := .cons (.var 6) .nil) (vs := [.int lm]) (by rfl) rfl (fun L => by simp)
  rw [ss_step (s := ls13) m13]
  clear m13
  show ∃ L, endOf (evSs (mo.F 39) _ [(some (X)), (some (.ref b)), (some (.tup ps)), (some (.str w)), (some (.exc "LimitExceeded" ["limit"] [.int lm])), (some (.int ln)), (some (.int lm)), none, none] L10) = _
  obtain ⟨L11, c14, B10⟩ := step_if (i := 4) (n := 0) (b := b) (L := L10) (σ := [(some (X)), (some (.ref b)), (some (.tup ps)), (some (.str w)), (some (.exc "LimitExceeded" ["limit"] [.int lm])), (some (.int ln)), (some (.int lm)), none, none]) (e1 := .xfl (.var 4) "limit") (e2 := .var 6) (v := .int lm) ⟨by rfl, by rfl, by rfl, by rfl, by rfl, by rfl, by rfl, by rfl⟩ (by omega) rfl
    (fun L => by simp [xflV, List.lookup] <;> rfl) (fun L => by simp <;> rfl) (.inl ⟨_, rfl⟩) (by omega) B9
  rw [ss_step (s := ls14) c14]
  clear c14 B9
  show ∃ L, endOf (evSs (mo.F 39) _ [(some (X)), (some (.ref b)), (some (.tup ps)), (some (.str w)), (some (.exc "LimitExceeded" ["limit"] [.int lm])), (some (.int ln)), (some (.int lm)), none, none] L11) = _
  have D15 : DrawV (mo.F 39) [(some (X)), (some (.ref b)), (some (.tup ps)), (some (.str w)), (some (.exc "LimitExceeded" ["limit"] [.int lm])), (some (.int ln)), (some (.int lm)), none, none] b (sete ls15) fun v => ∃ vs, v = .tup vs ∧ (∀ v ∈ vs, isI v) ∧ (vs.length : Int) < 12 :=
    drawv_many (i := 8) (M := 12) (P := isI) (by omega) (take_con (k := 38) (i := 1) rfl (by omega) (by omega)) fun x => drawv_pick (k := 37) (i := 1) (σ := (wipeL [(some (X)), (some (.ref b)), (some (.tup ps)), (some (.str w)), (some (.exc "LimitExceeded" ["limit"] [.int lm])), (some (.int ln)), (some (.int lm)), none, none] [8]).set 8 (some x)) rfl (drawvs_cons (drawv_pure (fun _ => e_con) ⟨_, rfl⟩) (drawvs_cons (drawv_pure (fun _ => e_con) ⟨_, rfl⟩)
      (drawvs_cons (drawv_pure (v := .int (-1)) (fun L => by simp) ⟨_, rfl⟩) (drawvs_cons (drawv_pure (v := .int (10 ^ 30)) (fun L => by simp [bin_pow (i := 10) (j := 30) (by decide)]) ⟨_, rfl⟩)
      (drawvs_cons ((take_con (k := 38) (i := 1) (m := 1000) rfl (by omega) (by omega)).v.mono fun v ⟨i, h, _⟩ => ⟨i, h⟩) drawvs_nil))))) (by decide) (by decide)
  obtain ⟨L12, ve, e15, ⟨ev, rfl, h1, h2⟩, B11⟩ := set_drawv (i := 7) D15 B10
  rw [ss_step (s := ls15) e15]
  clear e15 B10 D15
  show ∃ L, endOf (evSs (mo.F 39) _ [(some (X)), (some (.ref b)), (some (.tup ps)), (some (.str w)), (some (.exc "LimitExceeded" ["limit"] [.int lm])), (some (.int ln)), (some (.int lm)), (some (.tup ev)), none] L12) = _
  have m16 := step_mk (L := L12) (σ := [(some (X)), (some (.ref b)), (some (.tup ps)), (some (.str w)), (some (.exc "LimitExceeded" ["limit"] [.int lm])), (some (.int ln)), (some (.int lm)), (some (.tup ev)), none]) (x := "InvalidEvent") (fs := ["event"]) (es := .cons (.var 7) .nil) (vs := [.tup ev]) (by rfl) rfl (fun L => by simp)
  rw [ss_step (s := ls16) m16]
  clear m16
  show ∃ L, endOf (evSs (mo.F 39) _ [(some (X)), (some (.ref b)), (some (.tup ps)), (some (.str w)), (some (.exc "InvalidEvent" ["event"] [.tup ev])), (some (.int ln)), (some (.int lm)), (some (.tup ev)), none] L12) = _
  have hev : Pl 1 (.tup ev) := pl_tup (fun v hv => .inl (h1 v hv)) (by omega)
  obtain ⟨L13, q1, q2⟩ := alone (x := "InvalidEvent") (fs := ["event"]) (vs := [.tup ev]) (i := 5) (L := L12) ⟨by rfl, by rfl, by rfl, by rfl, by rfl, by rfl, by rfl, by rfl⟩ (by omega) B11
  have q3 := same (L := L13) (n := 1) (by omega) hev
  have q1' : run mo.pg 39 4 [.exc "InvalidEvent" ["event"] [.tup ev], .int 5] L12 = .ok (.bl true) L13 := q1
  have hx : xflV "event" (.exc "InvalidEvent" ["event"] [.tup ev]) L13 = .ok (.tup ev) L13 := rfl
  refine ⟨L13, ?_⟩
  unfold ls17
  simp [q1', q3, hx]
end
end K91
end

section
set_option Elab.async false
set_option linter.all false
set_option maxRecDepth 100000
set_option maxHeartbeats 0
namespace K91
open PySem PySem.Spec PyProof.Rows L2 LG
abbrev R : PySem.W.OpenRow := PySem.W.OpenLaw.row PySem.Challenge.rw_rungstead_k91_errors_made
theorem run_f (w : World) : HandSHeadRun.RunEq R (PySem.W.view R.prog [lawAt]) (mo.hook 5) (mo.ob 5) 20000 names (w.withFollow "special-get-raises" false) := by
  intro os
  kernel_rfl
theorem run_t (w : World) : HandSHeadRun.RunEq R (PySem.W.view R.prog [lawAt]) (mo.hook 5) (mo.ob 5) 20000 names (w.withFollow "special-get-raises" true) := by
  intro os
  kernel_rfl
theorem run_eq (w : World) : HandSHeadRun.RunEq R (PySem.W.view R.prog [lawAt]) (mo.hook 5) (mo.ob 5) 20000 names w := PySem.W.byRow2 "special-get-raises" (P := fun w => HandSHeadRun.RunEq R (PySem.W.view R.prog [lawAt]) (mo.hook 5) (mo.ob 5) 20000 names w) run_f run_t w
end K91
end

section
set_option Elab.async false
set_option linter.all false
set_option maxRecDepth 100000
set_option maxHeartbeats 4000000
namespace K91
open PySem PySem.Spec PyProof.Rows L2 LG
theorem kw_ok (K : PySem.W.Frag) : KwOk mo K where
  d := fun f d n sl fd hf hk F => by cases hk
  k := fun f d n ks sl fd hf hne hk F => by cases hk
end K91
end

section
set_option Elab.async false
set_option linter.all false
set_option maxRecDepth 100000
set_option maxHeartbeats 0
namespace K91
open PySem PySem.W PySem.Calls PyProof.Rows
theorem holds_of (plain : ∀ ns : List Int, ns.length ≤ 63 → (∀ z ∈ ns, Builtin.Int.intBits z ≤ 1048576) → ∃ L, LG.run mo.pg 40 5 [.scr (ns.map LG.LV.int)] LG.L0 = .ok (.bl true) L) : PySem.Challenge.rw_rungstead_k91_errors_made.Holds := by
  w_on; o_law
  refine HandSHeadRun.head_any (r := OpenLaw.row PySem.Challenge.rw_rungstead_k91_errors_made) (q := view (OpenLaw.row PySem.Challenge.rw_rungstead_k91_errors_made).prog [lawAt]) (H := mo.hook 5) (ob := mo.ob 5) (M := 20000) (loose := names) (d := HandSHeadRun.topDef (OpenLaw.row PySem.Challenge.rw_rungstead_k91_errors_made).prog lawAt) (kwd := []) (mo.ob_eq 5)
    (by kernel_rfl) (fun s => by kernel_rfl) run_eq (by kernel_rfl) (by kernel_rfl) (by kernel_rfl) (by rfl) (by first | assumption | decide +kernel) (by decide +kernel) ⟨rfl, rfl, rfl, rfl, rfl, by decide +kernel⟩ ?hw ?hc
  case hw => w_witness2
  case hc =>
    exact LG.Mo.walk (l := PySem.Challenge.rw_rungstead_k91_errors_made) (m := mo) (n := 63) (fi := 5) (k := 40) (dl := d5) (x := "script") rfl (by decide) (by kernel_rfl) ⟨rfl, by decide, by decide⟩ tables_ok defs_ok kw_ok (by kernel_rfl) rfl (by decide) (by kernel_rfl) (by rfl) plain
end K91
end

section
set_option Elab.async false
set_option linter.all false
set_option maxRecDepth 100000
set_option maxHeartbeats 4000000
namespace K91
theorem holds : PySem.Challenge.rw_rungstead_k91_errors_made.Holds := holds_of fun ns _ _ => plain (ns := ns)
end K91
end

theorem PySem.Challenge.cw_rungstead_k91_errors_made_holds : PySem.Challenge.rw_rungstead_k91_errors_made.Holds :=
  K91.holds
