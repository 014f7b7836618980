import PyProof.Rows.All
import Wide.All
import OpenK.AllK
import Wide.FinOn
import HandS.ForMost
import HandS.ForExc
import HandS.ExcInit
import HandS.ExcCtx
import KE.KExcSuper
import KE.KExcIs
import HandS.ExcIs
import HandS.ExcField
import HandS.HotCalls
import HandS.Comp
import PySem.Challenge.RW_growingrecords_k18_errors_made
set_option Elab.async false
set_option linter.all false
set_option maxRecDepth 100000
set_option maxHeartbeats 4000000

namespace PySem.W
open PySem PySem.Calls PyProof.Rows
section
variable {prog : Program} {w : World} {A : Around} {E : Value → Shared → Prop} {h : Heap} {g : Array GenState} {d : Drawn} {t : Nat} {os : OsState}
variable {nm q : Str} {C N : Addr} {bs bm : List Value} {hdct : Bool} {sn : List Str} {sub : List Value} {ab : Bool} {col : Option Bool} {dd : Option Addr} {k0 k1 k2 k3 k5 : Option Value}
/-- the bound __init__ of ValueError is called: the object's args alone are new -/
theorem call_mw {u e t0 : Addr} {rest : List Value} {Q : Value → Shared → Prop}
    (hC : h.get? C = some (excClassObj nm q C N bs bm hdct sn sub ab col dd k0 k1 k2 k3 k5 "ValueError.__new__"))
    (he : h.get? e = some (HandSPX.excO C t0)) (hu : h.get? u = some (kxs_mw "ValueError.__init__" e)) (hrest : rest.length ≤ sizeLine)
    (hq : ∀ h' t1, (∀ b o, b ≠ e → h.get? b = some o → h'.get? b = some o) → h'.get? e = some (HandSPX.excO C t1) → Q .none ⟨h', g, d, t, os⟩) :
    wpAny (model prog w) A (call (.ref u) rest) Q E ⟨h, g, d, t, os⟩ := by
  refine wpAny_call (codeAny_of_tree ?_)
  show wpAny _ A.in1 (callAny (.ref u) ⟨rest, []⟩) _ _ _
  simp only [callAny]
  refine wpAny_bind (wpAny_load hu ?_)
  have e1 : (Value.type "method-wrapper" == Value.type "method" || Value.type "method-wrapper" == Value.type "builtin_function_or_method" || Value.type "method-wrapper" == Value.type "method-wrapper") = true := by decide
  simp only [kxs_mw, e1, if_true]
  refine KFB.if_so (by decide) ?_
  refine wpAny_bind (check_bound_init F.excBase_ValueError.toExcCallFacts hC he rfl ?_)
  refine wpAny_bind (wpAny_pure (wpAny_pure ?_))
  refine ⟨plainId_quiet F.excBase_ValueError.init.plain _, codeAny_builtin F.excBase_ValueError.initEntry ?_⟩
  exact exc_init_tree (cls := .ref C) (t0 := t0) (dv := none) (c2 := .none) (c3 := .none) (b4 := .bool false) he hrest fun h' k1 k2 _ => hq h' _ k1 k2
end
end PySem.W

namespace L2
open PySem PySem.Spec PyProof.Rows
/-- the names of a method that says super() -/
structure SupScope (N ps : List Str) (sc : Scope) : Prop where
  kind : sc.kind = .function
  co : sc.isCoroutine = false
  gen : sc.isGenerator = false
  nd : N.Nodup
  pre : N.take ps.length = ps
  par : ∀ x ∈ ps, sc.names.lookup x = some .local
  nocell : ∀ y ∈ sc.names, y.2 ≠ .cell
  free : ∀ y ∈ sc.names, y.2 = .free → y.1 = "__class__"
  kc : sc.names.lookup ("__class__" : Str) = some .free
  ks : sc.names.lookup ("super" : Str) = some .globalImplicit
/-- the context of its body -/
def cxS (CX : CXT) (P : Program) (w : World) (K : PySem.W.Frag) (mg : Str → Option Value) (base : Heap) (N : List Str) (qual : Str) (scope : Scope) (f : Addr) (cd : Value) (cc : Addr) (A : Around) (outer : List Env) (s : Shared) (H : Hp) (E : XK) : Cx where
  prog := P
  w := w
  K := K
  mg := mg
  base := base
  A := A.deeper (PySem.W.ksEnv qual scope s.heap.objs.size f cd cc)
  N := N
  s_0 := s
  H_0 := H
  env := PySem.W.ksEnv qual scope s.heap.objs.size f cd cc
  outer := outer
  stack := PySem.W.ksEnv qual scope s.heap.objs.size f cd cc :: outer
  ex := []
  calm := true
  fn := fun x => !decide (x = "__class__")
  pn := []
  xe := fun e s' => wpAny (model P w) (A.deeper (PySem.W.ksEnv qual scope s.heap.objs.size f cd cc)) (leaving (PySem.W.ksEnv qual scope s.heap.objs.size f cd cc) e) (fun _ s'' => CX outer H s E e s'') (fun e' s'' => CX outer H s E e' s'') s'

theorem rev_look {x : Str} {u : Value} : ∀ {ps : List Str} {us : List Value} {i : Nat}, ps.Nodup → ps[i]? = some x → us[i]? = some u → (ps.zip us).reverse.lookup x = some u
  | [], _, _, _, h, _ => by simp at h
  | _ :: _, [], _, _, _, h => by simp at h
  | p :: ps, v :: us, 0, nd, h1, h2 => by
    simp at h1 h2
    subst h1; subst h2
    have n1 : (ps.zip us).reverse.lookup p = none := by
      cases e : (ps.zip us).reverse.lookup p with
      | none => rfl
      | some z =>
        have m := PySem.mem_of_lookup e
        rw [List.mem_reverse] at m
        exact absurd (List.of_mem_zip m).1 (List.nodup_cons.mp nd).1
    simp [List.lookup_append, n1]
  | p :: ps, v :: us, i + 1, nd, h1, h2 => by
    have ih := rev_look (i := i) (List.nodup_cons.mp nd).2 (by simpa using h1) (by simpa using h2)
    simp [List.lookup_append, ih]

theorem inv_startS {CX : CXT} {P : Program} {w : World} {K : PySem.W.Frag} {mg : Str → Option Value} {base : Heap} {N ps : List Str} {qual : Str} {scope : Scope} {f cc : Addr} {cd : Value} {A : Around} {outer : List Env} {s : Shared} {h1 : Heap} {t1 : Nat} {H : Hp} {E : XK} {us : List Value} {vs : List V} {oc : Obj} {cv : Value}
    (S : SupScope N ps scope) (hd : A.handled = none) (e0 : Env0 P w K mg base A outer s H) (hl : vs.length = ps.length) (r : Vals vs us) (lc : K.lookup cc = some oc) (lcv : oc.data = .cell (some cv))
    (hn : h1.Ns s.heap.objs.size (fun x => (ps.zip us).reverse.lookup x)) (hk : ∀ b o, s.heap.get? b = some o → h1.get? b = some o) :
    Inv (cxS CX P w K mg base N qual scope f cd cc A outer s H E) [] (start N vs) H { s with heap := h1, toks := t1 } := by
  have hpl : ps.length ≤ N.length := by have := congrArg List.length S.pre; rw [List.length_take] at this; omega
  have noA : ∀ b : Addr, b ∉ (cxS CX P w K mg base N qual scope f cd cc A outer s H E).ex := fun b z => absurd (show b ∈ ([] : List Addr) from z) (by simp)
  have bc : base.get? cc = some oc := e0.mod.kin _ _ lc
  have hc1 : h1.IsCell cc (some cv) := ⟨oc, hk _ _ (e0.bs _ _ bc).1, lcv⟩
  have only : ∀ (x : Str) (c : Addr), (cxS CX P w K mg base N qual scope f cd cc A outer s H E).env.cells.lookup x = some c → x = "__class__" ∧ c = cc := fun x c e => by
    have e' : ([(("__class__" : Str), cc)] : List (Str × Addr)).lookup x = some c := e
    by_cases q : x = "__class__"
    · subst q
      simp [List.lookup] at e'
      exact ⟨rfl, e'.symm⟩
    · have q' : (x == ("__class__" : Str)) = false := by simpa using q
      simp [List.lookup, q'] at e'
  refine ⟨⟨e0.mod, S.kind, rfl, rfl, Nat.le_refl _, fun y z c h1 h2 => ?_, fun y hy => ?_, fun y c hf h => ?_, fun _ => hd, Around.frames_deeper e0.frames, .inr ⟨rfl, rfl⟩, fun b z => absurd z (noA b), e0.bs, e0.bsz, fun b _ _ => noA b, fun b z => absurd z (noA b), e0.funs, e0.frf⟩,
    rfl, e0.bare, Un.kept hk, ⟨_, hn, fun i y v h1 h2 h3 => ?_⟩, fun y c h => ?_, e0.hok.fresh (Nat.le_refl _), fun y c h => ?_, fun p hp => absurd (show p ∈ ([] : List (Addr × Obj)) from hp) (by simp), e0.hok.kept hk, ?_⟩
  · exact (only y c h1).1.trans (only z c h2).1.symm
  · have hy : scope.names.lookup y = some .cell ∨ scope.names.lookup y = some .free := hy
    rcases hy with hy | hy
    · exact absurd rfl (S.nocell _ (PySem.mem_of_lookup hy))
    · have e := S.free _ (PySem.mem_of_lookup hy) rfl
      dsimp only at e
      subst e
      exact ⟨cc, by show ([(("__class__" : Str), cc)] : List (Str × Addr)).lookup _ = _; simp [List.lookup]⟩
  · have e := (only y c h).1
    subst e
    have z : (!decide (("__class__" : Str) = "__class__")) = true := hf
    simp at z
  · have hi : i < vs.length := by
      unfold start at h2
      by_cases hi : i < vs.length
      · exact hi
      · rw [List.getElem?_append_right (by simpa using hi)] at h2
        rw [List.getElem?_replicate] at h2
        split at h2 <;> cases h2
    have ha : vs[i]? = some v := by
      unfold start at h2
      rw [List.getElem?_append_left (by simpa using hi), List.getElem?_map] at h2
      cases e : vs[i]? with
      | none => rw [e] at h2; cases h2
      | some a => rw [e] at h2; cases h2; rfl
    obtain ⟨u, hu, rv⟩ := r.get ha
    have hp : ps[i]? = some y := by
      rw [← S.pre, List.getElem?_take_of_lt (by omega)]; exact h1
    have ndP : ps.Nodup := by rw [← S.pre]; exact S.nd.sublist (List.take_sublist _ _)
    exact ⟨u, rv, .inl ⟨S.par y (List.mem_of_getElem? hp), rev_look ndP hp hu⟩⟩
  · rw [(only y c h).2]
    exact ⟨_, hc1⟩
  · rw [(only y c h).2]
    exact (e0.bs _ _ bc).2
  · unfold start
    show _ = N.length
    rw [List.length_append, List.length_map, List.length_replicate]
    omega

/-- what the written part says of such a class and of super there -/
structure SupC (P : Program) (K : PySem.W.Frag) (mg : Str → Option Value) (C : Addr) : Prop where
  up : PySem.W.ks_superIn K C C "__init__" = some (some (.builtin "ValueError.__init__"))
  mro : PySem.W.mroIn K C (.ref C) = some true
  ve : PySem.W.subIn K (.ref C) (.type "ValueError") = some true
  op : PySem.W.nsIn K cStatics "thirdparty.any" = some none
  mg : mg "super" = none
  top : (P.main.scope.names.lookup ("super" : Str)).isSome = false
/-- THE RULE: such an __init__ keeps its promise, if the rest of its body does -/
theorem fn_sup {CX : CXT} {P : Program} {w : World} {K : PySem.W.Frag} {mg : Str → Option Value} {base : Heap} {k : Nat} {f C cc cda : Addr} {name qual : Str} {params : Arguments} {body : List Stmt} {scope : Scope} {dV kV doc pm ct oc : Value} {an od : Option Addr} {osl : Array (Option Value)}
    {N ps : List Str} {sp : Sp} {p0 p1 p2 p3 p4 p5 : Pos} {msg : Str} {j : Nat} {ar : Arg} {file : Str} {tf : Tok} {vc : Array Value} {ccl : Value} {cdd : Option Addr} {ccs : Array (Option Value)} {ocl : Obj} {pl : Sem Bool}
    (lk : K.lookup f = some ⟨oc, od, .func (PySem.W.ksFn name qual params (.Expr (.Call (.Attribute (.Call (.Name "super" p0) [] [] p1) "__init__" p2) [.Constant (.str msg) j p3] [] p4) p5 :: body) scope dV kV doc pm an (.ref cda) ct cc), osl⟩)
    (hcd : PySem.W.codeIn K (.ref cda) qual = true) (lcd : K.lookup cda = some ⟨ccl, cdd, .fields vc, ccs⟩) (hvc : vc[2]? = some (.str file tf)) (hfile : ((P.main.file : Str) == file) = true)
    (lcc : K.lookup cc = some ocl) (lcv : ocl.data = .cell (some (.ref C))) (S : SupScope N ps scope) (har : (params.posonlyargs ++ params.args).head? = some ar) (hps : ps.head? = some ar.arg) (T : OexC K C) (U : SupC P K mg C)
    (he : ∀ L : Addr, eval (.Call (.Attribute (.Call (.Name "super" p0) [] [] p1) "__init__" p2) [.Constant (.str msg) j p3] [] p4) (PySem.W.ksEnv qual scope L f (.ref cda) cc) = (do
      let ov ← attributeBase (.Call (.Name "super" p0) [] [] p1) "__init__" (PySem.W.ksEnv qual scope L f (.ref cda) cc) (eval (.Call (.Name "super" p0) [] [] p1) (PySem.W.ksEnv qual scope L f (.ref cda) cc))
      standAt p2.atName
      let (g, first) ← holding [ov] (getMethod ov "__init__" pl)
      callWith p4 g first (backTo p4 (starEach [.Constant (.str msg) j p3] (PySem.W.ksEnv qual scope L f (.ref cda) cc))) []))
    (hself : ∀ vs H Q E, sp vs H Q E → vs.length = ps.length ∧ ∃ a ws, vs = .ref a :: ws ∧ H a = some (exo a C none))
    (hbody : ∀ (A : Around) (outer : List Env) (s : Shared) (H : Hp) (vs : List V) (Q : VK) (E : XK), Room k (A.deeper (PySem.W.ksEnv qual scope s.heap.objs.size f (.ref cda) cc)) → sp vs H Q E →
      ∃ t, PSs (cxS CX P w K mg base N qual scope f (.ref cda) cc A outer s H E) body t ∧ t { nx := fun _ H' => Q .non H', rt := Q } (start N vs) H) :
    FnOk P w K mg base CX (k + 1) f (PySem.W.ksFn name qual params (.Expr (.Call (.Attribute (.Call (.Name "super" p0) [] [] p1) "__init__" p2) [.Constant (.str msg) j p3] [] p4) p5 :: body) scope dV kV doc pm an (.ref cda) ct cc) ps sp := by
  refine ⟨fun vs H Q E h => (hself vs H Q E h).1, fun A outer s H args us vs Q E hr e0 hb r hsp => ?_⟩
  obtain ⟨hl, a, ws, rfl, ha⟩ := hself _ _ _ _ hsp
  have KX : K.In s.heap := e0.mod.kin.keeps fun b o e => (e0.bs b o e).1
  have lim : s.heap.NoLimit := e0.mod.nolimit.keeps fun b o e => (e0.bs b o e).1
  have hloc : ∀ y ∈ ps.zip us, scope.names.lookup y.1 = some .local := fun ⟨n, v⟩ hy => S.par n (List.of_mem_zip hy).1
  refine PySem.ks_codeAny_call_defAt (fd := PySem.W.ksFn name qual params (.Expr (.Call (.Attribute (.Call (.Name "super" p0) [] [] p1) "__init__" p2) [.Constant (.str msg) j p3] [] p4) p5 :: body) scope dV kV doc pm an (.ref cda) ct cc) hr.depth (KX _ _ lk) rfl lim (PySem.W.codeRec_of KX hcd) rfl hb S.nocell hloc (fun h0 hn0 hk0 => ?_) S.co S.gen S.kind
  have I : Inv (cxS CX P w K mg base N qual scope f (.ref cda) cc A outer s H E) [] (start N (.ref a :: ws)) H { s with heap := h0, toks := s.toks + (ps.zip us).length } := inv_startS S hr.hd e0 hl r lcc lcv hn0 hk0
  obtain ⟨t, ht, hq⟩ := hbody A outer s H (.ref a :: ws) Q E (hr.deeper _) hsp
  show _root_.PySem.wpAt (model P w) (A.deeper (PySem.W.ksEnv qual scope s.heap.objs.size f (.ref cda) cc)) (.func _ (PySem.W.ksEnv qual scope s.heap.objs.size f (.ref cda) cc)) (execs (_ :: body) (PySem.W.ksEnv qual scope s.heap.objs.size f (.ref cda) cc)) _ _ _
  have X0 : K.In h0 := KX.keeps hk0
  obtain ⟨t1, hea⟩ := exo_at I.hok ha
  obtain ⟨nm, q, NN, bs, bm, sn, sub, ab, col, dd, k0, k1, k2, k3, k5, hC, hbm⟩ := T.cls
  have hcl : PySem.W.clsIn K C = some { name := nm, bases := bs, mro := .ref C :: bm, ns := NN, qualname := q, hasDict := true, slotNames := sn, subclasses := sub, abstract := ab, collection := col, hasDel := false } := by unfold PySem.W.clsIn; rw [hC] <;> rfl
  have v0 : ∃ ur, us = .ref a :: ur := by
    cases r with
    | @cons _ u0 _ ur ra rw' => exact ⟨ur, by rw [show u0 = Value.ref a from ra]⟩
  obtain ⟨ur, rfl⟩ := v0
  have vself : (ps.zip (Value.ref a :: ur)).reverse.lookup ar.arg = some (.ref a) := by
    have ndP : ps.Nodup := by rw [← S.pre]; exact S.nd.sublist (List.take_sublist _ _)
    refine rev_look (i := 0) ndP ?_ rfl
    rw [← hps]
    cases ps <;> rfl
  have parS : scope.names.lookup ar.arg = some .local := S.par _ (by
    cases hps' : ps with
    | nil => rw [hps'] at hps; cases hps
    | cons p r => rw [hps'] at hps; cases hps; exact List.mem_cons_self)
  refine PySem.ks_wpAt_execs_cons (PySem.ks_wpAt_Expr_any (PySem.ks_wpAt_MethodCall (PySem.ks_wpAt_super_base (f := f) (cc := cda) (ar := ar) (vs := vc) (file := file) (tf := tf) S.ks S.kc (by decide) rfl (X0 _ _ lk) rfl har rfl (X0 _ _ lcd) rfl hvc hfile U.top ?_) (he _)) (by unfold interactive; rw [show (PySem.W.ksEnv qual scope s.heap.objs.size f (.ref cda) cc).scope.kind = .function from S.kind]; rfl))
  have hD1 : h0.get? C = some (excClassObj nm q C NN bs bm true sn sub ab col dd k0 k1 k2 k3 k5 "ValueError.__new__") := X0 _ _ hC
  obtain ⟨mb, hb1, hb2⟩ := I.mod.blt
  refine PySem.W.ks_loadName_global S.kind S.ks (Calls.loadGlobal_builtin (I.mod.glob.keeps I.bk) U.mg (hb1.keeps I.bk) ((hb2 _ (by decide)).trans (by first | boot_by_name | rfl | kernel_rfl)) ⟨rfl, ?_⟩)
  refine wpAny_loadName_free S.kind S.kc rfl ⟨_, X0 _ _ lcc, lcv⟩ ?_
  refine wpAny_loadName_local S.kind parS hn0 vself ?_
  refine PySem.ks_wpAny_isType_cls hD1 rfl ⟨rfl, ?_⟩
  refine PySem.ks_wpAny_call_super hD1 rfl hea rfl (fun c z => by cases z) (PySem.W.looks_mroIn X0 U.mro) (fun h1 hso hk1 => ?_)
  have X1 : K.In h1 := X0.keeps hk1
  have ne : a ≠ C := fun z => by
    have e1 := hea
    rw [z, hD1] at e1
    cases e1
  have I1 := I.kept (h' := h1) (t' := s.toks + (ps.zip (Value.ref a :: ur)).length) hk1
  have he1 := hk1 _ _ hea
  have In1 : PySem.W.InstAt h1 a (PySem.HandSPX.excO C t1) C none := ⟨he1, rfl, rfl, trivial⟩
  have hm := U.up
  unfold PySem.W.ks_superIn at hm
  rw [hcl] at hm
  refine PySem.W.kxs_getMethod PySem.W.kxs_ValueError hso (PySem.W.looks_opaque X1 U.op) (l₀ := .ref C :: bm) ((PySem.W.looks_clsIn X1 hcl).andThen .now) rfl X1 hm (In1.type.andThen (PySem.W.looks_subIn X1 U.ve)) ne (by decide) ?_
  have k2 : ∀ b o, h1.get? b = some o → (h1.push (PySem.W.kxs_mw "ValueError.__init__" a)).get? b = some o := fun b o e => Heap.get?_push_of_some _ e
  have I2 := I1.kept (h' := h1.push (PySem.W.kxs_mw "ValueError.__init__" a)) (t' := s.toks + (ps.zip (Value.ref a :: ur)).length + 1) k2
  have hu : (h1.push (PySem.W.kxs_mw "ValueError.__init__" a)).get? h1.objs.size = some (PySem.W.kxs_mw "ValueError.__init__" a) := Heap.get?_push_at rfl rfl
  have I3 := I2.pins_of (pins' := [(h1.objs.size, PySem.W.kxs_mw "ValueError.__init__" a)]) (fun p hp => by
    have e : p = (h1.objs.size, PySem.W.kxs_mw "ValueError.__init__" a) := by simpa using hp
    subst e
    exact ⟨hu, I1.hok.fresh (Nat.le_refl _), Nat.ne_of_gt I1.lt, I1.nofs (Nat.le_refl _), fun v z => by cases z⟩)
  refine PySem.W.kxs_callWith (i := "ValueError.__init__") (x := a) rfl (Calls.evalArgs_plain ?_)
  have pa : PA (cxS CX P w K mg base N qual scope f (.ref cda) cc A outer s H E) [.Constant (.str msg) j p3] (tCons (tC (.str msg)) tNil) := pa_cons pe_str pa_nil
  refine thn (pa.run p4 _ _ _ H (fun vs H' => vs = [.str msg] ∧ H' = H) I3 ⟨rfl, rfl⟩) fun us s2 ⟨vs2, H2, J, r2, e2, e3⟩ => ?_
  subst e2; subst e3
  have hu2 := (J.pin (h1.objs.size, PySem.W.kxs_mw "ValueError.__init__" a) (by simp)).1
  refine ⟨hu2, ?_⟩
  obtain ⟨t2, hea2⟩ := exo_at J.hok ha
  have hus : us.length ≤ sizeLine := by
    rw [← r2.length, sizeLine_eq]
    exact (by decide : 1 ≤ 16777216)
  have JK := J.kIn
  obtain ⟨hp, gg, dr, tk, os⟩ := s2
  refine PySem.W.call_mw (JK _ _ hC) hea2 hu2 hus (fun h' t3 k3' hx => ?_)
  have J1 := J.write (t' := tk) (x := a) (e := a) (o := exo a C none) (by rw [ha]; exact True.intro) (.inl rfl) k3' ⟨_, hx⟩ (exo_ok hx)
  have eu : upd H2 a (exo a C none) = H2 := by
    funext b
    by_cases hb : b = a
    · rw [hb, upd_same, ha]
    · rw [upd_ne hb]
  rw [eu] at J1
  have J2 := J1.pins_of (pins' := []) (fun p hp => absurd hp (by simp))
  refine wpAt_of_wpAny (wpAny_mono (ht.run [] _ _ _ _ J2 hq) (fun fl s' hs => ?_) fun e s' hs => hs)
  have fin : ∀ {σ' : St} {H' : Hp} {v : V} {u : Value}, Inv (cxS CX P w K mg base N qual scope f (.ref cda) cc A outer s H2 E) [] σ' H' s' → RelV v u → Q v H' → CE outer P w H2 s Q u s' :=
    fun {σ' H' v u} L rv q => ⟨v, H', L.os, L.bare, L.base, L.hok, rv, q⟩
  cases fl with
  | ret u =>
    obtain ⟨v, σ', H', L, rv, q⟩ := hs
    exact fin L rv q
  | next =>
    obtain ⟨σ', H', L, q⟩ := hs
    exact fin (v := V.non) (u := Value.none) L rfl q
  | brk =>
    obtain ⟨_, _, _, q⟩ := hs
    exact False.elim q
  | cont =>
    obtain ⟨_, _, _, q⟩ := hs
    exact False.elim q
end L2

/-! ### own errors: made and raised, held in an except suite, handed on to defs there -/
namespace L2
open PySem PySem.Spec PyProof.Rows
/-- a reading of arguments made monotone -/
def tMon (ta : TA) : TA := fun σ H Q => ∃ Q0 : List V → Hp → Prop, ta σ H Q0 ∧ ∀ vs H1, Q0 vs H1 → Q vs H1
theorem PA.mon {X : Cx} {es : List Expr} {ta : TA} (h : PA X es ta) : PA X es (tMon ta) :=
  ⟨fun pos pins s σ H Q I ⟨Q0, h0, hi⟩ => thn (h.run pos pins s σ H Q0 I h0) fun us s' ⟨vs, H', I', r, q⟩ => ⟨vs, H', I', r, hi _ _ q⟩⟩
theorem exc_heap {H : Hp} {a d : Addr} {o1 o2 o3 o4 : HO} (ha : H a = none) (hda : d ≠ a) : upd (del (upd (upd (upd H a o1) d o2) a o3) a) d o4 = upd H d o4 := by
  funext b
  by_cases hb : b = d
  · subst hb
    rw [upd_same, upd_same]
  · rw [upd_ne hb, upd_ne hb]
    by_cases hba : b = a
    · subst hba
      rw [del_same, ha]
    · rw [del_ne hba, upd_ne hba, upd_ne hb, upd_ne hba]
theorem del_new {H : Hp} {a : Addr} {o : HO} (ha : H a = none) : del (upd H a o) a = H := by
  funext b
  by_cases hba : b = a
  · subst hba
    rw [del_same, ha]
  · rw [del_ne hba, upd_ne hba]
/-- __init__(self, f, ..): the fields are stored, the last one stands first -/
def spEx (C : Addr) (fl : List Str) : Sp := fun vs H Q _ => ∃ (a : Addr) (ws : List V), vs = .ref a :: ws ∧ ws.length = fl.length ∧ H a = some (exo a C none) ∧
  ∀ d, H d = none → d ≠ a → Q .non (upd (upd H d (exd d (fl.zip ws).reverse)) a (exo a C (some d)))
/-- the same without a field -/
def spEx0 (C : Addr) : Sp := fun vs H Q _ => ∃ a : Addr, vs = [.ref a] ∧ H a = some (exo a C none) ∧ Q .non H
/-- an own error's class by its name: what a raise, isinstance and a field's reading want -/
structure ExT (P : Program) (w : World) (K : PySem.W.Frag) (mg : Str → Option Value) (base : Heap) (x : Str) (C : Addr) (ps : List Str) (sp : Sp) (fI : Addr) (fd : FuncData) : Prop where
  T : OexC K C
  iC : PySem.W.findIn K (.ref C) "__init__" = some (some (.ref fI))
  tI : PySem.W.typeIn K (.ref fI) = some (.type "function")
  ok : FnOk P w K mg base CX0 1 fI fd ps sp
  bd : Binds K fd ps []
  mg : mg x = some (.ref C)
/-- x(e, ..) -/
def tMkE (C : Addr) (fl : List Str) (ta : TA) : St → Hp → XK → Prop := fun σ H Q => ta σ H fun vs H1 => vs.length = fl.length ∧ vs.length ≤ 1000 ∧ ∀ d, H1 d = none → Q (.ref C) (some d) (upd H1 d (.xd (fl.zip vs).reverse))
section
variable {X : Cx} {e : Expr} {es : List Expr} {ta : TA} {p pos : Pos} {x : Str} {C fI : Addr} {fd : FuncData} {ps fl : List Str}
theorem pmk_ex (E : ExT X.prog X.w X.K X.mg X.base x C ps (spEx C fl) fI fd) (hr : Room 2 X.A) (ha : PA X (e :: es) ta) (hg : Gl X x := by rfl) (hdb : (x == ("__debug__" : Str)) = false := by decide)
    (he : starEach (e :: es) X.env = (false, eval e X.env) :: starEach es X.env := by rfl) (hpl : (backTo pos (starEach es X.env)).any (·.1) = false := by rfl) : L2N.PMk X (.Call (.Name x p) (e :: es) [] pos) (tMkE C fl ta) := by
  intro pins s σ H Q I h
  obtain ⟨nm, q, N, bs, bm, sn, sub, ab, col, dd, k0, k1, k2, k3, k5, hC, hbm⟩ := E.T.cls
  refine wpAny_Call_Name_kw (ld_glob I hg E.mg ?_ hdb)
  refine PySem.W.callWith_K (h₀ := X.base) I.ok.mod.kin E.T.kC (thn (ha.run pos pins s σ H _ I h) fun us s1 ⟨vs, H1, I1, r1, hlf, hz, q1⟩ => ⟨I1.kIn, ?_⟩) he hpl
  show wpAny _ _ (call (.ref C) us) _ _ _
  have IK := I1.kIn
  obtain ⟨hp, g, dr, tk, os⟩ := s1
  have hsz : hp.objs.size ≤ hp.objs.size + 1 := Nat.le_succ _
  have hn : H1 (hp.objs.size + 1) = none := I1.hok.fresh hsz
  have kk : ∀ b o, hp.get? b = some o → ((hp.push (PySem.W.kdv_tup us)).push (PySem.HandSPX.excO C hp.objs.size)).get? b = some o := fun b o e => Heap.get?_push_of_some _ (Heap.get?_push_of_some _ e)
  have hget : ((hp.push (PySem.W.kdv_tup us)).push (PySem.HandSPX.excO C hp.objs.size)).get? (hp.objs.size + 1) = some (PySem.HandSPX.excO C hp.objs.size) := by heap_get
  have I2 : Inv X pins σ (upd H1 (hp.objs.size + 1) (exo (hp.objs.size + 1) C none)) ⟨(hp.push (PySem.W.kdv_tup us)).push (PySem.HandSPX.excO C hp.objs.size), g, dr, tk, os⟩ :=
    I1.laid (t' := tk) (a := hp.objs.size + 1) (h' := (hp.push (PySem.W.kdv_tup us)).push (PySem.HandSPX.excO C hp.objs.size)) kk hsz (exo_ok hget)
  have hsp : spEx C fl (.ref (hp.objs.size + 1) :: vs) (upd H1 (hp.objs.size + 1) (exo (hp.objs.size + 1) C none))
      (fun v H2 => v = .non ∧ ∃ d, H1 d = none ∧ d ≠ hp.objs.size + 1 ∧ H2 = upd (upd (upd H1 (hp.objs.size + 1) (exo (hp.objs.size + 1) C none)) d (exd d (fl.zip vs).reverse)) (hp.objs.size + 1) (exo (hp.objs.size + 1) C (some d))) (fun _ _ _ => False) :=
    ⟨_, vs, rfl, hlf, upd_same, fun d nd hda => ⟨rfl, d, by rw [upd_ne hda] at nd; exact nd, hda, rfl⟩⟩
  have r2 : Vals (V.ref (hp.objs.size + 1) :: vs) (Value.ref (hp.objs.size + 1) :: us) := .cons rfl r1
  have hl : (Value.ref (hp.objs.size + 1) :: us).length = ps.length := by
    rw [← r2.length]
    exact E.ok.len _ _ _ _ hsp
  have b := E.bd ⟨(hp.push (PySem.W.kdv_tup us)).push (PySem.HandSPX.excO C hp.objs.size), g, dr, tk, os⟩ (Value.ref (hp.objs.size + 1) :: us) I2.kIn (by rw [List.append_nil]; exact hl)
  rw [List.append_nil] at b
  have hus : us.length ≤ sizeLine := by
    rw [← Paired.length r1, sizeLine_eq]
    omega
  refine wpAny_call (PySem.HandSPX.call_own F.excBase_ValueError (fun Y => PySem.HandSPX.refsVE_contains Y bm hbm) (IK _ _ hC) (PySem.W.looks_findIn IK E.iC) (fun self => PySem.W.bind_fn IK self E.tI) hus
    (codeAny_mono (E.ok.run _ X.stack _ _ ⟨Value.ref (hp.objs.size + 1) :: us, []⟩ _ (V.ref (hp.objs.size + 1) :: vs) _ (fun _ _ _ => False) (hr.make C us []) (I2.env0.make C us []) b r2 hsp) fun r s' hq' => ?_))
  cases r with
  | error er => exact False.elim hq'
  | ok fl' =>
    cases fl' with
    | ret u =>
      obtain ⟨v, H2, os2, bare2, un2, hok2, rv, ev, d, nd, hda, eH⟩ := hq'
      subst ev
      subst eH
      obtain ⟨h2, g2, d2, t2, os'⟩ := s'
      obtain ⟨t0, G, J, kG, ge, hoe, na⟩ := mk_end0 (d2 := d2) (t2 := t2) I1 hsz kk un2 hok2 os2 bare2 upd_same (by rw [upd_ne hda, upd_same]) nd
      rw [exc_heap hn hda] at J na
      exact ⟨rv, hp.objs.size + 1, _, _, ⟨G, g2, d2, t2, os'⟩, _, .ref C, some d, rfl, J, kG, ge, hoe, ⟨rfl, rfl, fun z ez => by cases ez; rfl⟩, rfl, rfl, na, rfl, bare2, raises_own E.T.exC E.T.tyC, q1 d nd⟩
    | next => exact False.elim hq'
    | brk => exact False.elim hq'
    | cont => exact False.elim hq'
/-- the end of an error without a field -/
theorem mk_end1 {pins : List (Addr × Obj)} {σ : St} {H1 : Hp} {hp hp2 h2 : Heap} {g1 g2 : Array GenState} {d1 d2 : Drawn} {t1 t2 : Nat} {os1 os2 : OsState} {a : Addr} (I1 : Inv X pins σ H1 ⟨hp, g1, d1, t1, os1⟩)
    (ha : hp.objs.size ≤ a) (k : ∀ b o, hp.get? b = some o → hp2.get? b = some o) (un : Un (frs X.stack) [] (upd H1 a (exo a C none)) (upd H1 a (exo a C none)) hp2 h2) (hok : HOk X.prog X.w (upd H1 a (exo a C none)) h2) (ho : os2 = os1) (hb : AllBare g2) :
    ∃ (t0 : Addr) (G : Heap), Inv X pins σ H1 ⟨G, g2, d2, t2, os2⟩ ∧ (∀ b o, G.get? b = some o → h2.get? b = some o) ∧ G.get? a = none ∧
      h2.get? a = some ({ cls := .ref C, dict := none, data := .fields #[.ref t0, .none, .none, .none, .bool false, .none] } : Obj) := by
  have hn : H1 a = none := I1.hok.fresh ha
  obtain ⟨t0, hoe⟩ := exo_at hok (upd_same (H := H1) (a := a) (o := exo a C none))
  obtain ⟨G, g1', g2'⟩ := restrict h2 fun b => decide (b ≠ a)
  have gk : ∀ b, b ≠ a → G.get? b = h2.get? b := fun b hb => g1' b (decide_eq_true hb)
  have ge : G.get? a = none := g2' a (by simp)
  have nha : ∀ {b : Addr} {o : Obj}, hp.get? b = some o → b ≠ a := fun {b o} z => Nat.ne_of_lt (Nat.lt_of_lt_of_le (Heap.lt_size z) ha)
  have up : ∀ {b : Addr}, b ≠ a → H1 b = none → upd H1 a (exo a C none) b = none := fun {b} hb n => by rw [upd_ne hb]; exact n
  have U : Un (frs X.stack) [] H1 H1 hp G := {
    keep := fun b o z n hf hx => (gk b (nha z)).trans (un.keep b o (k b o z) (up (nha z) n) hf hx)
    slot := fun b o z n hf hx => by
      obtain ⟨sl, q⟩ := un.slot b o (k b o z) (up (nha z) n) hf hx
      exact ⟨sl, (gk b (nha z)).trans q⟩
    free := fun b o z n hx => n
    there := fun b o z hx => by
      obtain ⟨o', q⟩ := un.there b o (k b o z) hx
      exact ⟨o', (gk b (nha z)).trans q⟩
    tups := fun b xs z => z
    frzs := fun b o v z => z
    tbls := fun b ps z => ⟨#[], by rw [z]; simp⟩ }
  have hok3 : HOk X.prog X.w H1 G := fun b o z => by
    have hba : b ≠ a := ne_of_none z hn
    have z' : upd H1 a (exo a C none) b = some o := (upd_ne hba).trans z
    have noa : ∀ {c : Addr} {u : HO}, upd H1 a (exo a C none) c = some u → u ≠ exo a C none → c ≠ a := fun {c u} hc hu e => by
      rw [e, upd_same] at hc
      exact hu (Option.some.inj hc).symm
    refine (hok b o z').stay (fun c v hc y => ?_) (fun c hc => ?_) fun c xs hc => ?_
    · have hca : c ≠ a := by
        rcases hc with hc | hc
        · rw [hc]
          exact hba
        · exact noa hc fun q => exo_own q.symm
      rw [gk c hca]
      exact y
    · rw [upd_ne (noa hc fun q => exo_own q.symm)] at hc
      exact hc
    · rw [upd_ne (noa hc fun q => exo_tup q.symm)] at hc
      exact hc
  refine ⟨t0, G, I1.call' (ch := []) ho U hok3 hb (fun b z => absurd z (by simp)), fun b o z => ?_, ge, hoe⟩
  by_cases hba : b = a
  · rw [hba, ge] at z
    cases z
  · exact (gk b hba).symm.trans z
/-- x() -/
theorem pmk_ex0 (E : ExT X.prog X.w X.K X.mg X.base x C ps (spEx0 C) fI fd) (hr : Room 2 X.A) (hg : Gl X x := by rfl) (hdb : (x == ("__debug__" : Str)) = false := by decide) :
    L2N.PMk X (.Call (.Name x p) [] [] pos) (fun _ H Q => Q (.ref C) none H) := by
  intro pins s σ H Q I h
  obtain ⟨nm, q, N, bs, bm, sn, sub, ab, col, dd, k0, k1, k2, k3, k5, hC, hbm⟩ := E.T.cls
  refine wpAny_Call_Name_kw (ld_glob I hg E.mg ?_ hdb)
  refine PySem.W.callWith_K0 I.kIn E.T.kC ?_
  show wpAny _ _ (call (.ref C) []) _ _ _
  have IK := I.kIn
  obtain ⟨hp, g, dr, tk, os⟩ := s
  have hsz : hp.objs.size ≤ hp.objs.size + 1 := Nat.le_succ _
  have hn : H (hp.objs.size + 1) = none := I.hok.fresh hsz
  have kk : ∀ b o, hp.get? b = some o → ((hp.push (PySem.W.kdv_tup [])).push (PySem.HandSPX.excO C hp.objs.size)).get? b = some o := fun b o e => Heap.get?_push_of_some _ (Heap.get?_push_of_some _ e)
  have hget : ((hp.push (PySem.W.kdv_tup [])).push (PySem.HandSPX.excO C hp.objs.size)).get? (hp.objs.size + 1) = some (PySem.HandSPX.excO C hp.objs.size) := by heap_get
  have I2 : Inv X pins σ (upd H (hp.objs.size + 1) (exo (hp.objs.size + 1) C none)) ⟨(hp.push (PySem.W.kdv_tup [])).push (PySem.HandSPX.excO C hp.objs.size), g, dr, tk, os⟩ :=
    I.laid (t' := tk) (a := hp.objs.size + 1) (h' := (hp.push (PySem.W.kdv_tup [])).push (PySem.HandSPX.excO C hp.objs.size)) kk hsz (exo_ok hget)
  have hsp : spEx0 C [.ref (hp.objs.size + 1)] (upd H (hp.objs.size + 1) (exo (hp.objs.size + 1) C none)) (fun v H2 => v = .non ∧ H2 = upd H (hp.objs.size + 1) (exo (hp.objs.size + 1) C none)) (fun _ _ _ => False) := ⟨_, rfl, upd_same, rfl, rfl⟩
  have hl := E.ok.len _ _ _ _ hsp
  have b := E.bd ⟨(hp.push (PySem.W.kdv_tup [])).push (PySem.HandSPX.excO C hp.objs.size), g, dr, tk, os⟩ [.ref (hp.objs.size + 1)] I2.kIn (by rw [List.append_nil]; exact hl)
  rw [List.append_nil] at b
  refine wpAny_call (PySem.HandSPX.call_own F.excBase_ValueError (fun Y => PySem.HandSPX.refsVE_contains Y bm hbm) (IK _ _ hC) (PySem.W.looks_findIn IK E.iC) (fun self => PySem.W.bind_fn IK self E.tI) (Nat.zero_le _)
    (codeAny_mono (E.ok.run _ X.stack _ _ ⟨[.ref (hp.objs.size + 1)], []⟩ [.ref (hp.objs.size + 1)] [V.ref (hp.objs.size + 1)] _ (fun _ _ _ => False) (hr.make C [] []) (I2.env0.make C [] []) b (.cons rfl .nil) hsp) fun r s' hq' => ?_))
  cases r with
  | error er => exact False.elim hq'
  | ok fl =>
    cases fl with
    | ret u =>
      obtain ⟨v, H2, os2, bare2, un2, hok2, rv, ev, eH⟩ := hq'
      subst ev
      subst eH
      obtain ⟨h2, g2, d2, t2, os'⟩ := s'
      obtain ⟨t0, G, J, kG, ge, hoe⟩ := mk_end1 (C := C) (d2 := d2) (t2 := t2) I hsz kk un2 hok2 os2 bare2
      exact ⟨rv, hp.objs.size + 1, _, _, ⟨G, g2, d2, t2, os'⟩, _, .ref C, none, rfl, J, kG, ge, hoe, ⟨rfl, rfl, fun z ez => by cases ez; rfl⟩, rfl, rfl, hn, rfl, bare2, raises_own E.T.exC E.T.tyC, h⟩
    | next => exact False.elim hq'
    | brk => exact False.elim hq'
    | cont => exact False.elim hq'
end
/-- a def that may raise: Fun.okX with the errors' context told -/
theorem Fun.okN {P : Program} {w : World} {K : PySem.W.Frag} {mg : Str → Option Value} {base : Heap} {x qual : Str} {st : Stmt} {f : Addr} {fd : FuncData} {N ps : List Str} {k : Nat} {sp : Sp} (F : Fun K x qual st f fd) (S : FnScope N ps (defScope st)) (len : ∀ vs H Q E, sp vs H Q E → vs.length = ps.length)
    (hbody : ∀ (cdv : Value) (A : Around) (outer : List Env) (s : Shared) (H : Hp) (vs : List V) (Q : VK) (E : XK), Room k (A.deeper (envOfC qual (defScope st) s.heap.objs.size f cdv)) → sp vs H Q E →
      ∃ t, PSs (cxOf (L2N.CX P w) P w K mg base N qual (defScope st) f cdv A outer s H E) (defBody st) t ∧ t { nx := fun _ H' => Q .non H', rt := Q } (start N vs) H) : FnOk P w K mg base (L2N.CX P w) (k + 1) f fd ps sp := by
  obtain ⟨oc, od, kV, doc, pm, an, cdv, ct, osl, rfl, lk, hcd⟩ := F.ex
  exact fn_of lk hcd S len fun A outer s H vs Q E hr hsp => hbody cdv A outer s H vs Q E hr hsp
theorem takesN {X : Cx} : L2N.Takes X (fun _ _ _ _ => False) := fun _ _ ⟨_, _, _, _, _, _, _, _, _, _, _, _, _, _, _, _, w⟩ => w.elim
end L2

namespace L2
open PySem PySem.Spec PyProof.Rows
/-- the context holds a caught error at a, of class cls, with its dict at d -/
def Held (X : Cx) (a : Addr) (cls : Value) (d : Option Addr) : Prop := ∃ oe : Obj, (a, oe) ∈ X.pn ∧ Zc cls d oe ∧ ∃ vs, oe.data = .fields vs
theorem held_suite {X : Cx} {a : Addr} {oe : Obj} {cls : Value} {d : Option Addr} {pn : List (Addr × Obj)} (hz : L2N.Zn cls d oe) (hf : ∃ vs, oe.data = .fields vs) : Held (X.suite a ((a, oe) :: pn)) a cls d := ⟨oe, List.mem_cons_self, hz.zc, hf⟩
theorem Held.get {X : Cx} {a : Addr} {cls : Value} {d : Option Addr} (h : Held X a cls d) {pins : List (Addr × Obj)} {σ : St} {H : Hp} {s : Shared} (I : Inv X pins σ H s) : ∃ oe : Obj, s.heap.get? a = some oe ∧ oe.cls = cls ∧ oe.dict = d ∧ ∃ vs, oe.data = .fields vs := by
  obtain ⟨oe, hm, hz, hf⟩ := h
  exact ⟨oe, (I.pin (a, oe) (List.mem_append_left _ hm)).1, hz.1, hz.2, hf⟩
/-- e.n, e the held error -/
def tXa (K : PySem.W.Frag) (a : Addr) (cls : Value) (d : Option Addr) (n : Str) (te : TE) : TE := fun σ H Q => te σ H fun x H1 => x = .ref a ∧ ∃ (C dd : Addr) (fs : List (Str × V)) (v : V), cls = .ref C ∧ XfC K C ∧ PySem.W.findIn K (.ref C) n = some none ∧ d = some dd ∧ H1 dd = some (.xd fs) ∧ fs.lookup n = some v ∧ Q v H1
theorem pe_xa {X : Cx} {a : Addr} {cls : Value} {d : Option Addr} {e : Expr} {te : TE} {pos : Pos} {n : Str} (hh : Held X a cls d) (he : PE X e te) (hb : attributeBase e n X.env (eval e X.env) = eval e X.env := by rfl) : PE X (.Attribute e n pos) (tXa X.K a cls d n te) := by
  refine ⟨fun pins s σ H Q I h => ?_⟩
  refine attr_of hb (thn (he.run pins s σ H _ I h) fun u s1 ⟨x, H1, I1, rx, ex, C, dd, fs, v, ec, T, hno, ed, ea, l, q⟩ => ?_)
  subst ex
  obtain rfl : u = Value.ref a := rx
  obtain ⟨oe, ha, hc, hd, vs, hv⟩ := hh.get I1
  subst ec
  subst ed
  have hx : ObjOk X.prog X.w H1 s1.heap dd (.xd fs) := I1.hok dd _ ea
  obtain ⟨mA, hns, hr⟩ := hx
  obtain ⟨od, ho, hl⟩ := lookIn_ns hns
  obtain ⟨u, hu, ru⟩ := RelO.some_of (v := v) (o := mA n) (by rw [← l]; exact hr n)
  have J : PySem.W.InstAt s1.heap a oe C (some od) := ⟨ha, hc, by unfold PySem.W.notCls; rw [hv] <;> rfl, by rw [hd]; exact ho⟩
  exact HandSPX.exc_get I1.kIn J T.ga T.gg T.exC (PySem.W.findObj_own T.hdC hno rfl (by rw [hl, hu])) (handed_of ru) ⟨v, H1, I1.tok _, ru, q⟩
/-- isinstance(e, c), e the held error -/
def rIsX (K : PySem.W.Frag) (a : Addr) (cls : Value) (d : Option Addr) : List V → Hp → VK → Prop := fun xs H Q => ∃ (c : V) (C : Addr) (cv : Value) (b : Bool), xs = [.ref a, c] ∧ cls = .ref C ∧ ExcC K C ∧ (∀ dd, d = some dd → ∃ fs, H dd = some (.xd fs)) ∧ (∀ u, RelV c u → u = cv) ∧ PySem.W.kitOne K (.ref C) cv = some b ∧ Q (.bl b) H
theorem call_isX {X : Cx} {a : Addr} {cls : Value} {d : Option Addr} (hh : Held X a cls d) : CallR X (.builtin "isinstance") (rIsX X.K a cls d) := by
  intro pins s σ H xs us Q I r h
  obtain ⟨c, C, cv, b, rfl, ec, T, hdd, hcv, e, q⟩ := h
  subst ec
  cases r with
  | cons rx rr =>
    cases rr with
    | cons rt rr =>
      cases rr
      cases rx
      have ec := hcv _ rt
      subst ec
      obtain ⟨oe, hget, hc, hd, vs, hv⟩ := hh.get I
      have J : ∃ od, PySem.W.InstAt s.heap a oe C od := by
        cases d with
        | none => exact ⟨none, hget, hc, by unfold PySem.W.notCls; rw [hv] <;> rfl, by rw [hd]; trivial⟩
        | some dd =>
          obtain ⟨u, hu⟩ := hdd dd rfl
          have hx : ObjOk X.prog X.w H s.heap dd (.xd u) := I.hok dd _ hu
          obtain ⟨mA, ⟨od, _, _, ho, _⟩, _⟩ := hx
          exact ⟨some od, hget, hc, by unfold PySem.W.notCls; rw [hv] <;> rfl, by rw [hd]; exact ho⟩
      obtain ⟨od, J⟩ := J
      obtain ⟨cd, hcl, _⟩ := PySem.W.any_some T.hd
      exact PySem.W.kia_one (PySem.W.kitx_exc (by rw [hcl]; rfl) T.hg T.hk T.hs T.ha T.hn T.ht T.hm) I.kIn J e (fun z => nomatch z) fun tk => ⟨.bl b, H, I.kept (t' := tk) fun _ _ z => z, rfl, q⟩
/-- a def that is called where the error p is handled -/
structure FnP (P : Program) (w : World) (K : PySem.W.Frag) (mg : Str → Option Value) (base : Heap) (CX : CXT) (k : Nat) (f : Addr) (fd : FuncData) (ps : List Str) (p : Addr × Obj) (sp : Sp) : Prop where
  len : ∀ vs H Q E, sp vs H Q E → vs.length = ps.length
  run : ∀ (A : Around) (outer : List Env) (s : Shared) (H : Hp) (args : Args) (us : List Value) (vs : List V) (Q : VK) (E : XK), L2H.RoomH k A → L2H.PinOk outer H s p → Env0 P w K mg base A outer s H → BindsTo s fd args (ps.zip us) → Vals vs us → sp vs H Q E →
    codeAny (model P w) A (.call (.ref f) args) (CR CX outer P w H s Q E) s
theorem Fun.okP {P : Program} {w : World} {K : PySem.W.Frag} {mg : Str → Option Value} {base : Heap} {CX : CXT} {x qual : Str} {st : Stmt} {f : Addr} {fd : FuncData} {N ps : List Str} {k : Nat} {sp : Sp} {p : Addr × Obj} (F : Fun K x qual st f fd) (S : FnScope N ps (defScope st))
    (len : ∀ vs H Q E, sp vs H Q E → vs.length = ps.length)
    (hbody : ∀ (cdv : Value) (A : Around) (outer : List Env) (s : Shared) (H : Hp) (vs : List V) (Q : VK) (E : XK), L2H.RoomH k (A.deeper (envOfC qual (defScope st) s.heap.objs.size f cdv)) → sp vs H Q E →
      ∃ t, PSs (L2H.cxH CX P w K mg base N qual (defScope st) f cdv A outer s H E p) (defBody st) t ∧ t { nx := fun _ H' => Q .non H', rt := Q } (start N vs) H) : FnP P w K mg base CX (k + 1) f fd ps p sp := by
  obtain ⟨oc, od, kV, doc, pm, an, cdv, ct, osl, rfl, lk, hcd⟩ := F.ex
  refine ⟨len, fun A outer s H args us vs Q E hr hpin e0 hb r hsp => ?_⟩
  have hl := len _ _ _ _ hsp
  have KX : K.In s.heap := e0.mod.kin.keeps fun b o e => (e0.bs b o e).1
  have lim : s.heap.NoLimit := e0.mod.nolimit.keeps fun b o e => (e0.bs b o e).1
  have hkind : ∀ y ∈ ps.zip us, (defScope st).names.lookup y.1 = some .local ∨ ((defScope st).names.lookup y.1 = some .cell ∧ ((cellsFrom (s.heap.objs.size + 1) (defScope st).names []).lookup y.1).isSome = true) := fun y hy => by
    rcases S.par y.1 (List.of_mem_zip (show (y.1, y.2) ∈ ps.zip us from hy)).1 with q | q
    · exact .inl q
    · exact .inr ⟨q, PySem.W.cellsFrom_some _ _ _ (.inl q)⟩
  refine codeAny_call_function hr.depth (KX _ _ lk) rfl S.co S.gen rfl (PySem.W.codeRec_of KX hcd) (hb _ _ _ _ ?_)
  refine wpAny_newFunctionEnv_cells S.kind hkind fun env he s1 x => ?_
  subst he
  refine ⟨lim.keeps x.toInCall.keep, codeAny_func ?_⟩
  obtain ⟨t, ht, hq⟩ := hbody cdv A outer s H vs Q E (hr.deeper _) hsp
  refine wpAny_mono (ht.run [] s1 (start N vs) H _ (L2H.inv_startH S hpin e0 hl r x) hq) (fun fl s' hs => ?_) fun e s' hs => hs
  cases fl with
  | ret u =>
    obtain ⟨v, σ', H', J, rv, q⟩ := hs
    exact ⟨v, H', J.os, J.bare, J.base, J.hok, rv, q⟩
  | next =>
    obtain ⟨σ', H', J, q⟩ := hs
    exact ⟨.non, H', J.os, J.bare, J.base, J.hok, rfl, q⟩
  | brk =>
    obtain ⟨_, _, _, q⟩ := hs
    exact False.elim q
  | cont =>
    obtain ⟨_, _, _, q⟩ := hs
    exact False.elim q
section
variable {X : Cx} {k : Nat} {f : Addr} {fd : FuncData} {ps : List Str} {sp : Sp} {x : Str} {q pos : Pos} {e : Expr} {es : List Expr} {t : TA} {p : Addr × Obj}
/-- f(e, ..) there; nothing is raised -/
theorem pe_callP (F : FnP X.prog X.w X.K X.mg X.base CX0 k f fd ps p sp) (hr : L2H.RoomH k X.A) (hp : p ∈ X.pn) (hm : X.mg x = some (.ref f)) (hk : PySem.W.keepIn X.K (.ref f) = true) (hb : Binds X.K fd ps []) (ha : PA X (e :: es) t) (hg : Gl X x := by rfl)
    (hdb : (x == ("__debug__" : Str)) = false := by decide) (he : starEach (e :: es) X.env = (false, eval e X.env) :: starEach es X.env := by rfl) (hpl : (backTo pos (starEach es X.env)).any (·.1) = false := by rfl) :
    PE X (.Call (.Name x q) (e :: es) [] pos) (tCall sp [] E0 t) := by
  refine ⟨fun pins s σ H Q I h => ?_⟩
  refine wpAny_Call_Name_kw (ld_glob I hg hm ?_ hdb)
  refine PySem.W.callWith_K (h₀ := X.base) I.ok.mod.kin hk (thn (ha.run pos pins s σ H _ I h) fun us s1 ⟨vs, H1, I1, r, q⟩ => ⟨I1.kIn, ?_⟩) he hpl
  have q : sp vs H1 Q E0 := by
    have q' : sp (vs ++ []) H1 Q E0 := q
    rw [List.append_nil] at q'
    exact q'
  have hl : us.length = ps.length := by rw [← r.length]; exact F.len _ _ _ _ q
  have b := hb s1 us I1.kIn (by rw [List.append_nil]; exact hl)
  rw [List.append_nil] at b
  have P1 := I1.pin p (List.mem_append_left _ hp)
  have hpin : L2H.PinOk X.stack H1 s1 p := ⟨P1.1, P1.2.1, fun hm => (List.mem_cons.mp (I1.stkSub p.1 hm)).elim P1.2.2.1 P1.2.2.2.1, P1.2.2.2.2⟩
  refine wpAny_call (codeAny_mono (F.run X.A X.stack s1 H1 ⟨us, []⟩ us vs Q E0 hr hpin I1.env0 b r q) fun r s' hq => ?_)
  cases r with
  | error e => exact False.elim hq
  | ok fl =>
    cases fl with
    | ret u => exact I1.after hq
    | next => exact False.elim hq
    | brk => exact False.elim hq
    | cont => exact False.elim hq
end
end L2

namespace L2H
open PySem PySem.Spec PyProof.Rows L2
/-- a context with one more object held still -/
abbrev pnX (X : Cx) (p : Addr × Obj) : Cx := { X with pn := [p] }
theorem pn_put {X : Cx} {p : Addr × Obj} {pins : List (Addr × Obj)} {σ : L2.St} {H : Hp} {s : Shared} (h0 : X.pn = []) (I : Inv X pins σ H s) (g : X.s_0.heap.get? p.1 = some p.2) (n : X.H_0 p.1 = none) (nf : p.1 ∉ X.fs) (nx : p.1 ∉ X.ex) (nc : ∀ v, p.2.data ≠ .cell v) : Inv (pnX X p) pins σ H s where
  ok := ⟨I.ok.mod, I.ok.kind, I.ok.glob, I.ok.blt, I.ok.above, I.ok.inj, I.ok.has, I.ok.cab, I.ok.hd, I.ok.frames, I.ok.stk, I.ok.exf, I.ok.bs, I.ok.bsz, I.ok.noex, I.ok.exfs, I.ok.funs, I.ok.frf⟩
  os := I.os
  bare := I.bare
  base := I.base
  loc := I.loc
  cell := I.cell
  free := I.free
  freeC := I.freeC
  pin := fun q hq => by
    have hq : q ∈ [p] ++ pins := hq
    rcases List.mem_append.mp hq with z | z
    · rw [List.mem_singleton.mp z]
      exact ⟨I.base.keep _ _ g n nf nx, I.base.free _ _ g n nx, Nat.ne_of_lt (Nat.lt_of_lt_of_le (Heap.lt_size g) I.ok.above), nf, nc⟩
    · exact I.pin q (by rw [h0]; exact z)
  hok := I.hok
  len := I.len
theorem pn_off {X : Cx} {p : Addr × Obj} {pins : List (Addr × Obj)} {σ : L2.St} {H : Hp} {s : Shared} (h0 : X.pn = []) (I : Inv (pnX X p) pins σ H s) : Inv X pins σ H s where
  ok := ⟨I.ok.mod, I.ok.kind, I.ok.glob, I.ok.blt, I.ok.above, I.ok.inj, I.ok.has, I.ok.cab, I.ok.hd, I.ok.frames, I.ok.stk, I.ok.exf, I.ok.bs, I.ok.bsz, I.ok.noex, I.ok.exfs, I.ok.funs, I.ok.frf⟩
  os := I.os
  bare := I.bare
  base := I.base
  loc := I.loc
  cell := I.cell
  free := I.free
  freeC := I.freeC
  pin := fun q hq => I.pin q (by rw [h0] at hq; exact List.mem_append_right _ hq)
  hok := I.hok
  len := I.len
/-- [elt for target in iter] where the error p is handled; the turns by the hot walk -/
theorem pe_lcH {X : Cx} {p : Addr × Obj} {elt tg iter : Expr} {scope : Scope} {own : List (Str × Nat)} {pos : Pos} {wi : TI} {g : TG} {te : TE} (hot : Hot1 X.A p) (hp : p ∈ X.pn) (hN : X.N.Nodup) (hi : PIH X tg iter wi) (ok : BlkOk X.N X.env.scope scope own)
    (hg : ∀ (s : Shared) (H : Hp) (C : Addr) (cl : List (Str × Addr)) (fp : List Addr), PG (X.blk s H scope (compEnvC scope cl C X.env) fp) tg g)
    (he : ∀ (s : Shared) (H : Hp) (C : Addr) (cl : List (Str × Addr)) (fp : List Addr), PE (X.blk s H scope (compEnvC scope cl C X.env) fp) elt te) (hs : ∀ x, foldedSetIterable iter X.env x = pure x := by intro _; rfl) :
    PE X (.ListComp elt [⟨tg, iter, [], 0⟩] scope pos) (tLc wi g tYes te (own.map (·.2))) := by
  refine ⟨fun pins s σ H Q I h => ?_⟩
  rw [eval_ListComp]
  have hfree : ∀ y ∈ scope.names, y.2 = .free → ∃ c, X.env.cells.lookup y.1 = some c := fun y hy e => (ok.free y hy e).elim (fun k => I.ok.has _ (.inl k)) fun k => I.ok.has _ (.inr k)
  refine wpAny_comprehension_free (use := none) rfl hs (closure_ok hfree) ok.kind (fun y hy e => by rw [ok.uniq y hy, e]) (thn (hi.run pins s σ H _ I h) fun xv s1 hx => thn hx fun itv s2 h2 => ?_)
  obtain ⟨it, fp, tn, J, H2, e, I2, T, st2, f2, q⟩ := h2
  subst e
  refine wpAny_newObj_type (newEnv_comp ?_) (by show 0 ≤ sizeLine; decide)
  obtain ⟨D, hD⟩ : ∃ D, D = s2.heap.objs.size := ⟨_, rfl⟩
  obtain ⟨W, ⟨m0, w0⟩, turn⟩ := q D (I2.hok.fresh (Nat.le_of_eq hD.symm))
  obtain ⟨s3, hs3⟩ : ∃ s3 : Shared, s3 = { s2 with heap := s2.heap.push { cls := .type "list", data := .seq ([] : List Value).toArray } } := ⟨_, rfl⟩
  have up3 : ∀ b o, s2.heap.get? b = some o → s3.heap.get? b = some o := fun b o e => by rw [hs3]; exact Heap.get?_push_of_some _ e
  have I3 : Inv X pins σ (upd H2 D (.lst [])) s3 := by
    rw [hs3]
    refine I2.laid (t' := s2.toks) (fun b o e => Heap.get?_push_of_some _ e) (Nat.le_of_eq hD.symm) ⟨Nat.zero_le _, [], 0, .nil, ?_⟩
    rw [hD]
    exact Heap.get?_push_size _ rfl
  have f3 : ∀ b ∈ fp, FpOk X pins (upd H2 D (.lst [])) b ∧ b < s3.heap.objs.size := fun b hb => by
    obtain ⟨o, e, _⟩ := T.obj _ _ st2 b hb
    exact ⟨⟨(upd_ne (by rw [hD]; exact Nat.ne_of_lt (Heap.lt_size e))).trans (f2 b hb).1, (f2 b hb).2⟩, Heap.lt_size (up3 b o e)⟩
  obtain ⟨ce, hce⟩ : ∃ ce, ce = compEnvC scope (cellsFrom (s3.heap.objs.size + 1) scope.names (cloFrom X.env.cells scope.names [])) s3.heap.objs.size X.env := ⟨_, rfl⟩
  obtain ⟨H3, hH3⟩ : ∃ H3, H3 = upd H2 D (.lst []) := ⟨_, rfl⟩
  rw [← hH3] at I3 f3 w0
  obtain ⟨s4, hs4⟩ : ∃ s4 : Shared, s4 = { s3 with heap := pushCells (s3.heap.push { cls := .type "dict", data := .dict #[] }) scope.names } := ⟨_, rfl⟩
  have I4 : Inv (X.blk s3 H3 scope ce fp) [] (wipe σ (own.map (·.2))) H3 s4 := by
    rw [hce, hs4]
    exact block_start I3 ok hN f3
  have pg : PG (X.blk s3 H3 scope ce fp) tg g := by rw [hce]; exact hg _ _ _ _ _
  have pe : PE (X.blk s3 H3 scope ce fp) elt te := by rw [hce]; exact he _ _ _ _ _
  have cL : ce.locals = s3.heap.objs.size := by rw [hce]; rfl
  have P3 := I3.pin p (List.mem_append_left _ hp)
  have nst : p.1 ∉ frs X.stack := fun hm => (List.mem_cons.mp (I3.stkSub p.1 hm)).elim P3.2.2.1 P3.2.2.2.1
  have nfp : p.1 ∉ fp := fun hm => (f3 p.1 hm).1.2.2.2.2.2 p (List.mem_append_left _ hp) rfl
  have stat : ∀ {σ' : L2.St} {H' : Hp} {s' : Shared}, Inv (X.blk s3 H3 scope ce fp) [] σ' H' s' → (∀ b ∈ fp, H' b = none) → ∀ b ∈ fp, FpOk (pnX (X.blk s3 H3 scope ce fp) p) [] H' b := fun {σ' H' s'} I' hn b hb =>
    ⟨hn b hb, (I'.ok.exf b hb).1, I'.ok.exfs b hb, .inl hb, fun x c e => (I'.ok.exf b hb).2 x c e, fun z hz => by
      have hz : z ∈ [p] ++ ([] : List (Addr × Obj)) := hz
      have ez : z = p := by simpa using hz
      rw [ez]
      exact fun y => nfp (by rw [y]; exact hb)⟩
  have put : ∀ {σ' : L2.St} {H' : Hp} {s' : Shared}, Inv (X.blk s3 H3 scope ce fp) [] σ' H' s' → Inv (pnX (X.blk s3 H3 scope ce fp) p) [] σ' H' s' := fun I' => pn_put rfl I' P3.1 P3.2.1 nst nfp P3.2.2.2.2
  have hc : HotC (pnX (X.blk s3 H3 scope ce fp) p) := ⟨p, hot, List.mem_singleton.mpr rfl⟩
  have st4 : tn 0 s4.heap := T.keep _ _ _ st2 fun b _ o e => by rw [hs4]; exact pushCells_keeps _ _ _ _ (Heap.get?_push_of_some _ (up3 b o e))
  have loop : codeAny (model X.prog X.w) X.A (.compLoop (.ListComp elt [⟨tg, iter, [], 0⟩] scope pos) 0 (.ref it) (.ref D) ce) (compPost (model X.prog X.w) X.A X.xe none (EP X pins σ Q) (.ref D) s3.heap.objs.size) s4 := by
    refine compLoop_any (fun n s' => ∃ i H', Inv (X.blk s3 H3 scope ce fp) [] (wipe σ (own.map (·.2))) H' s' ∧ tn i s'.heap ∧ (∀ b ∈ fp, H' b = none) ∧ W i n H') ?_ m0 ⟨0, H3, I4, st4, fun b hb => (f3 b hb).1.1, w0⟩
    rintro n s5 ⟨i, H5, I5, st5, n5, w5⟩
    rcases turn i n H5 w5 with ⟨stop, qq⟩ | ⟨go, Nx, hNx, step⟩
    · refine thnF (T.done (pnX (X.blk s3 H3 scope ce fp) p) rfl rfl rfl hc i [] s5 _ H5 (fun _ _ => False) (put I5) (stat I5 n5) st5 stop) fun r s6 ⟨hr, I6⟩ => ?_
      subst hr
      have I7 : Inv X pins σ H5 s6 := I3.call' (ch := fp) I6.os I6.base I6.hok I6.bare fun b hb => ⟨(f3 b hb).1.2.2.2.1, (f3 b hb).1.2.1, (f3 b hb).1.2.2.2.2.1, (f3 b hb).1.2.2.2.2.2⟩
      have nC : H5 s3.heap.objs.size = none := by
        have z : H5 ce.locals = none := I6.free
        rw [cL] at z
        exact z
      obtain ⟨m, hn, _⟩ := I6.loc
      have hn : s6.heap.Ns ce.locals m := hn
      rw [cL] at hn
      refine ⟨m, hn, fun h'' sb => ?_⟩
      obtain ⟨a0, a1, a2, a3, a4, a5⟩ := I3.fpOk (Nat.le_refl _) nC
      exact ⟨.ref D, H5, I7.turned (t' := s6.toks) (fun b o hb e => (sb.2 b hb).trans e) a0 a1 a3 a4 a5, rfl, qq⟩
    · refine thnF (T.item (pnX (X.blk s3 H3 scope ce fp) p) rfl rfl rfl hc i [] s5 _ H5 (fun _ _ => False) (put I5) (stat I5 n5) st5 go) fun r s6 ⟨u, hr, h6⟩ => ?_
      subst hr
      refine thnF h6 fun _ s7 ⟨x, H7, I7p, r7, y7, st7, n7⟩ => ?_
      have I7 := pn_off rfl I7p
      have FP : ∀ b ∈ fp, FpOk (X.blk s3 H3 scope ce fp) [] H7 b := fun b hb => let z := stat I7 n7 b hb; ⟨z.1, z.2.1, z.2.2.1, z.2.2.2.1, z.2.2.2.2.1, fun q hq => absurd (show q ∈ ([] : List (Addr × Obj)) ++ [] from hq) (by simp)⟩
      refine thnF (pg.run _ s7 _ H7 x u _ (I7.pinned FP (T.obj _ _ st7)) r7 (step x H7 y7)) fun _ s8 ⟨σ8, H8, I8, hw8, q8⟩ => ?_
      refine thnF ((pts_nil (X := X.blk s3 H3 scope ce fp)).run _ s8 σ8 H8 _ I8 q8) fun b s9 ⟨H9, I9, q9⟩ => ?_
      have fin : ∀ {s' : Shared} {H' : Hp}, Inv (X.blk s3 H3 scope ce fp) ([] ++ pinsAt fp s7.heap) σ8 H' s' → Nx H' → ∃ m, m < n ∧ ∃ i H', Inv (X.blk s3 H3 scope ce fp) [] (wipe σ (own.map (·.2))) H' s' ∧ tn i s'.heap ∧ (∀ b ∈ fp, H' b = none) ∧ W i m H' := fun {s' H'} I' nx => by
        obtain ⟨m', hm, w'⟩ := hNx H' nx
        have pin' : ∀ b ∈ fp, ∀ o, s7.heap.get? b = some o → s'.heap.get? b = some o ∧ H' b = none := fun b hb o e =>
          let z := I'.pin (b, o) (List.mem_append_right _ (List.mem_append_right _ (mem_pinsAt hb e)))
          ⟨z.1, z.2.1⟩
        have hl : (wipe σ (own.map (·.2))).length = σ8.length := by rw [← hw8, wipe_length]
        refine ⟨m', hm, i + 1, H', (I'.unpinned (pins := [])).weak hl (fun j v e => (wipe_some (by rw [← hw8] at e; exact e)).1), T.keep _ _ _ st7 fun b hb o e => (pin' b hb o e).1, fun b hb => ?_, w'⟩
        obtain ⟨o, e, _⟩ := T.obj _ _ st7 b hb
        exact (pin' b hb o e).2
      cases b with
      | false =>
        simp only [Bool.false_eq_true, if_false] at q9 ⊢
        exact fin I9 q9
      | true =>
        simp only [if_true] at q9 ⊢
        refine thnF (pe.run _ s9 σ8 H9 _ I9 q9) fun z s10 ⟨yv, H10, I10, r10, acc, hD10, hz10, nx⟩ => ?_
        exact app_ok (X := X.blk s3 H3 scope ce fp) I10 hD10 hz10 r10 fun s11 I11 => fin I11 nx
  have fin := codeAny_compStart_list loop (T.self X.A 0 _ _ _ st4 loop)
  rw [hD, hs4, hce, hs3] at fin
  exact fin
end L2H

namespace GR
open PySem L2
def top (i : Nat) : Stmt := PySem.Challenge.pw_growingrecords_k18_errors_made.main.body.getD i (.Pass ⟨0, 0, 0, 0⟩)
abbrev s__law_cell : Stmt := top 19
abbrev s__law_mixed : Stmt := top 20
abbrev s__law_take : Stmt := top 22
abbrev s__law_tape : Stmt := top 21
abbrev s__law_number : Stmt := top 23
abbrev s__law_word : Stmt := top 24
abbrev s__law_raise_named : Stmt := top 27
abbrev s__law_raise_other : Stmt := top 28
abbrev s__law_classes : Stmt := top 29
abbrev s__law_attributes : Stmt := top 30
abbrev s__law_due : Stmt := top 31
abbrev s__law_caught : Stmt := top 32
abbrev s_law : Stmt := top 33
abbrev s_BadName__ddinitdd : Stmt := inClass (top 2) 0
abbrev s_NoField__ddinitdd : Stmt := inClass (top 3) 0
abbrev s_FieldThere__ddinitdd : Stmt := inClass (top 4) 0
abbrev s_Shared__ddinitdd : Stmt := inClass (top 5) 0
abbrev s_TooLarge__ddinitdd : Stmt := inClass (top 11) 0
abbrev s_UnknownFunction__ddinitdd : Stmt := inClass (top 12) 0
abbrev s_WrongArguments__ddinitdd : Stmt := inClass (top 13) 0
abbrev s_DoubleName__ddinitdd : Stmt := inClass (top 8) 0
abbrev s_UnknownName__ddinitdd : Stmt := inClass (top 9) 0
abbrev s_WrongCount__ddinitdd : Stmt := inClass (top 10) 0
abbrev s_BadText__ddinitdd : Stmt := inClass (top 6) 0
abbrev s_TooDeep__ddinitdd : Stmt := inClass (top 7) 0
abbrev s_NoBranch__ddinitdd : Stmt := inClass (top 15) 0
abbrev s_Mismatch__ddinitdd : Stmt := inClass (top 16) 0
abbrev s_NotRefined__ddinitdd : Stmt := inClass (top 17) 0
abbrev s_Failure__ddinitdd : Stmt := inClass (top 14) 0
/-- a def by its name, with all that a call of it wants -/
structure Fd (P : Program) (w : World) (K : PySem.W.Frag) (mg : Str → Option Value) (base : Heap) (CX : CXT) (k : Nat) (x : Str) (ps : List Str) (sp : Sp) (f : Addr) (fd : FuncData) : Prop where
  ok : FnOk P w K mg base CX k f fd ps sp
  mg : mg x = some (.ref f)
  kp : PySem.W.keepIn K (.ref f) = true
  bd : Binds K fd ps []
section
variable {X : Cx} {CX : CXT} {k : Nat} {x : Str} {ps : List Str} {sp : Sp} {f : Addr} {fd : FuncData} {E : XK} {e : Expr} {es : List Expr} {t : TA} {p pos : Pos}
theorem pe_cd (G : Fd X.prog X.w X.K X.mg X.base CX k x ps sp f fd) (hr : Room k X.A) (hx : Passes CX X E) (ha : PA X (e :: es) t) (hg : Gl X x := by rfl) (hdb : (x == ("__debug__" : Str)) = false := by decide)
    (he : starEach (e :: es) X.env = (false, eval e X.env) :: starEach es X.env := by rfl) (hpl : (backTo pos (starEach es X.env)).any (·.1) = false := by rfl) :
    PE X (.Call (.Name x p) (e :: es) [] pos) (tCall sp [] E t) := pe_call G.ok hr hg G.mg G.kp G.bd .nil hx ha hdb he hpl
end
/-- its name and its binding alone -/
structure Fx (K : PySem.W.Frag) (mg : Str → Option Value) (x : Str) (ps : List Str) (f : Addr) (fd : FuncData) : Prop where
  mg : mg x = some (.ref f)
  kp : PySem.W.keepIn K (.ref f) = true
  bd : Binds K fd ps []
theorem roomS {k : Nat} {A : Around} {h : Option Value} (r : Room k A) : L2H.RoomH k (A.mark h) := ⟨r.dp, r.un⟩
theorem op_eqK {X : Cx} {K : PySem.W.Frag} (hK : X.K = K) (hu : X.A.units + 64 < cLine) : OpR X (compareOp .Eq) (rEqD K) := hK ▸ op_eqD hu
theorem op_neK {X : Cx} {K : PySem.W.Frag} (hK : X.K = K) (hu : X.A.units + 64 < cLine) : OpR X (compareOp .NotEq) (rNeD K) := hK ▸ op_neD hu
theorem call_isK {X : Cx} {K : PySem.W.Frag} {a : Addr} {cls : Value} {d : Option Addr} (hK : X.K = K) (hh : Held X a cls d) : CallR X (.builtin "isinstance") (rIsX K a cls d) := hK ▸ call_isX hh
theorem pe_xk {X : Cx} {K : PySem.W.Frag} {a : Addr} {cls : Value} {d : Option Addr} {e : Expr} {te : TE} {pos : Pos} {n : Str} (hK : X.K = K) (hh : Held X a cls d) (he : PE X e te) (hb : attributeBase e n X.env (eval e X.env) = eval e X.env := by rfl) : PE X (.Attribute e n pos) (tXa K a cls d n te) := hK ▸ pe_xa hh he hb
theorem pe_gref {X : Cx} {x : Str} {a : Addr} {pos : Pos} (hm : X.mg x = some (.ref a)) (hg : Gl X x := by rfl) (hd : (x == ("__debug__" : Str)) = false := by decide) : PE X (.Name x pos) (tC (.ref a)) := pe_glob hg hm rfl hd
/-- names of built-ins that stand as they are -/
structure Bl (mg : Str → Option Value) : Prop where
  len : mg "len" = none
  int : mg "int" = none
  range : mg "range" = none
  tuple : mg "tuple" = none
  isinstance : mg "isinstance" = none
  ValueError : mg "ValueError" = none
theorem b_len : bootBuiltins "len" = some (.builtin "len") := by decide +kernel
theorem b_isinstance : bootBuiltins "isinstance" = some (.builtin "isinstance") := by decide +kernel
theorem b_int : bootBuiltins "int" = some (.type "int") := by decide +kernel
theorem b_tuple : bootBuiltins "tuple" = some (.type "tuple") := by decide +kernel
theorem b_ValueError : bootBuiltins "ValueError" = some (.type "ValueError") := by decide +kernel
/-! ### heaps -/
/-- all that was tracked, but p, is as it was -/
def SameX (p : Addr) (H H' : Hp) : Prop := ∀ b o, H b = some o → b ≠ p → H' b = some o
theorem SameX.refl (p : Addr) (H : Hp) : SameX p H H := fun _ _ h _ => h
theorem SameX.trans {p : Addr} {H H1 H2 : Hp} (a : SameX p H H1) (b : SameX p H1 H2) : SameX p H H2 := fun c o h n => b c o (a c o h n) n
theorem SameX.upd {p : Addr} {H H1 : Hp} {o : HO} (a : SameX p H H1) : SameX p H (upd H1 p o) := fun c o' h n => by rw [upd_ne n]; exact a c o' h n
theorem SameX.new {p q : Addr} {H H1 : Hp} {o : HO} (a : SameX p H H1) (h1 : H1 q = none) : SameX p H (L2.upd H1 q o) := fun c o' h n => by
  rw [upd_ne (ne_of_none (a c o' h n) h1)]
  exact a c o' h n
theorem _root_.L2.Same.x {H H' : Hp} (a : Same H H') (p : Addr) : SameX p H H' := fun b o h _ => a b o h
theorem _root_.L2.Same.new {H H1 : Hp} {q : Addr} {o : HO} (a : Same H H1) (h1 : H1 q = none) : Same H (L2.upd H1 q o) := fun c o' h => by
  rw [upd_ne (ne_of_none (a c o' h) h1)]
  exact a c o' h
theorem SameX.under {p : Addr} {H H1 H2 : Hp} (s : Same H H1) (np : H p = none) (x : SameX p H1 H2) : Same H H2 := fun c o h => x c o (s c o h) (ne_of_none h np)
/-- a tape: a list of ints -/
def Tape (H : Hp) (p : Addr) : Prop := ∃ ns : List Int, ns.length ≤ 1000 ∧ H p = some (.lst (ns.map V.int))

/-! ### texts by their codes -/
def T (l : List Nat) : Str := ⟨l.toArray⟩
theorem T_app (a b : List Nat) : T a ++ T b = T (a ++ b) := by
  show (⟨a.toArray ++ b.toArray⟩ : Str) = ⟨(a ++ b).toArray⟩
  simp
theorem T_len (a : List Nat) : (T a).length = a.length := by
  show a.toArray.size = a.length
  simp
theorem T_codes (a : List Nat) : (T a).cps.toList = a := by
  show a.toArray.toList = a
  simp
theorem T_of (x : Str) : T x.cps.toList = x := by
  show (⟨x.cps.toList.toArray⟩ : Str) = x
  simp
theorem T_inj {a b : List Nat} (h : T a = T b) : a = b := by
  have := congrArg (fun x : Str => x.cps.toList) h
  simpa [T] using this
theorem T_take (a : List Nat) (k : Nat) : cutS (T a) none (some (k : Int)) = T (a.take k) := by
  unfold cutS
  rw [HT.sIx_none, HT.sIx_nat, T_len, T_codes]
  show T _ = T _
  congr 1
  simp only [List.drop_zero, Nat.sub_zero]
  by_cases h : k ≤ a.length
  · rw [Nat.min_eq_left h]
  · rw [Nat.min_eq_right (by omega), List.take_of_length_le (Nat.le_refl _), List.take_of_length_le (by omega)]
theorem size16 {n : Nat} (h : n ≤ 10000) : n ≤ sizeLine := by
  rw [sizeLine_eq]
  omega
/-- a letter a to z -/
def Ltr (c : Nat) : Prop := 97 ≤ c ∧ c ≤ 122
def abc : List Nat := (List.range 26).map (97 + ·)
theorem abc_eq : (PySem.Str.ofString "abcdefghijklmnopqrstuvwxyz") = T abc := by decide +kernel
theorem abc_at {k : Nat} (h : k < 26) : abc[k]? = some (97 + k) := by
  unfold abc
  rw [List.getElem?_map, List.getElem?_range h]
  rfl

section
variable {P : Program} {w : World} {K : PySem.W.Frag} {mg : Str → Option Value} {base : Heap}
/-! ### the script's cells and the tape -/
def spCell (K : PySem.W.Frag) : Sp := fun vs H Q _ => ∃ (a : Addr) (ns : List Int) (k : Nat), vs = [.ref a, .int k] ∧ SqL K H a (ns.map V.int) ∧ ns.length ≤ 63 ∧ ∀ v : Int, Q (.int v) H
abbrev N__law_cell : List Str := ["_law_script", "_law_k"]
theorem sc__law_cell : FnScope N__law_cell ["_law_script", "_law_k"] (defScope s__law_cell) := ⟨rfl, rfl, rfl, by decide +kernel, rfl, by decide +kernel, by decide +kernel⟩
theorem ok_cell {f : Addr} {fd : FuncData} (F : Fun K "_law_cell" "_law_cell" s__law_cell f fd) (B : Bl mg) : FnOk P w K mg base CX0 1 f fd ["_law_script", "_law_k"] (spCell K) := by
  refine F.ok sc__law_cell (fun vs H Q E h => ?_) (fun cdv A outer s H vs Q E hr h => ?_)
  · obtain ⟨a, ns, k, rfl, _⟩ := h
    rfl
  · obtain ⟨a, ns, k, rfl, hS, hl, kk⟩ := h
    refine ⟨_, (pss_cons (ps_if (pt_cmpR op_lt (pv 1) (pe_callB call_len_seq (by rfl) B.len b_len (pa_cons (pv 0) pa_nil)) (nomark _))
      (pss_one (ps_ret (pe_ix ix_list (pv 0) (pv 1) (fun _ _ => rfl))))
      pss_nil)
      (pss_one (ps_ret pe_int))), ?_⟩
    refine ⟨_, rfl, _, rfl, a, _, rfl, .inl hS, _, _, rfl, rfl, _, rfl, ?_⟩
    refine ite2 (fun c => ?_) (fun c => kk 0)
    have c' := of_decide_eq_true c
    rw [List.length_map] at c'
    have hk : k < ns.length := by omega
    refine ⟨_, rfl, _, rfl, a, _, _, _, rfl, rfl, hS, atI_nat (by rw [List.getElem?_map, List.getElem?_eq_getElem hk]; rfl), kk _⟩
theorem cmod {j : Int} (h : 0 < j) : 0 < j := h
theorem small64 {i : Int} (h1 : 0 ≤ i) (h2 : i < 2147483648) : -(2 ^ 64) < i ∧ i < 2 ^ 64 := ⟨by omega, by omega⟩
def spMixed : Sp := fun vs H Q _ => ∃ c k : Int, vs = [.int c, .int k] ∧ ∀ v : Int, 0 ≤ v → v < 720720 → Q (.int v) H
abbrev N__law_mixed : List Str := ["_law_cell_here", "_law_k", "_law_first", "_law_second"]
theorem sc__law_mixed : FnScope N__law_mixed ["_law_cell_here", "_law_k"] (defScope s__law_mixed) := ⟨rfl, rfl, rfl, by decide +kernel, rfl, by decide +kernel, by decide +kernel⟩
theorem ok_mixed {f : Addr} {fd : FuncData} (F : Fun K "_law_mixed" "_law_mixed" s__law_mixed f fd) (B : Bl mg) : FnOk P w K mg base CX0 1 f fd ["_law_cell_here", "_law_k"] spMixed := by
  refine F.ok sc__law_mixed (fun vs H Q E h => ?_) (fun cdv A outer s H vs Q E hr h => ?_)
  · obtain ⟨c, k, rfl, _⟩ := h
    rfl
  · obtain ⟨c, k, rfl, kk⟩ := h
    refine ⟨_, (pss_cons (ps_set (i := 2) sc__law_mixed.nd rfl (Or.inl rfl) (pe_op op_mod (pe_callTy call_int1 (by rfl) B.int b_int (pa_cons (pe_op op_add (pe_op op_add (pe_op op_mul (pv 0) pe_int) (pe_op op_mul (pv 1) pe_int)) pe_int) pa_nil)) pe_int))
      (pss_cons (ps_set (i := 3) sc__law_mixed.nd rfl (Or.inl rfl) (pe_op op_mod (pe_callTy call_int1 (by rfl) B.int b_int (pa_cons (pe_op op_add (pe_op op_add (pe_op op_mul (pv 2) (pv 2)) (pe_op op_mul pe_int (pv 2))) (pe_op op_mul (pv 1) pe_int)) pa_nil)) pe_int))
      (pss_one (ps_ret (pe_op op_mod (pe_callTy call_int1 (by rfl) B.int b_int (pa_cons (pv 3) pa_nil)) pe_int))))), ?_⟩
    refine ⟨_, rfl, _, _, rfl, rfl, .inr ⟨by decide, by decide⟩, _, rfl, _, _, rfl, rfl, .inr ⟨by decide, by decide⟩, _, _, rfl, rfl, _, _, rfl, rfl, .inl ⟨_, rfl, _, _, rfl, rfl, cmod (by decide), ?_⟩⟩
    have hm : 0 ≤ (c * 48271 + k * 69621 + 7) % 2147483647 ∧ (c * 48271 + k * 69621 + 7) % 2147483647 < 2147483647 := ⟨by omega, by omega⟩
    refine ⟨_, rfl, _, rfl, _, _, rfl, rfl, .inl (small64 hm.1 (by omega)), _, rfl, _, _, rfl, rfl, .inl ⟨by decide, by decide⟩, _, _, rfl, rfl, _, rfl, _, _, rfl, rfl, .inr ⟨by decide, by decide⟩, _, _, rfl, rfl, .inl ⟨_, rfl, _, _, rfl, rfl, cmod (by decide), ?_⟩⟩
    refine ⟨_, rfl, .inl ⟨_, rfl, _, _, rfl, rfl, cmod (by decide), ?_⟩⟩
    exact kk _ (by omega) (by omega)
def spTake : Sp := fun vs H Q _ => ∃ (p : Addr) (m : Int), vs = [.ref p, .int m] ∧ Tape H p ∧ 0 < m ∧ ∀ (v : Int) (H' : Hp), 0 ≤ v → v < m → Tape H' p → SameX p H H' → Q (.int v) H'
abbrev N__law_take : List Str := ["_law_tape_here", "_law_many"]
theorem sc__law_take : FnScope N__law_take ["_law_tape_here", "_law_many"] (defScope s__law_take) := ⟨rfl, rfl, rfl, by decide +kernel, rfl, by decide +kernel, by decide +kernel⟩
theorem ok_take {f : Addr} {fd : FuncData} (F : Fun K "_law_take" "_law_take" s__law_take f fd) (B : Bl mg) : FnOk P w K mg base CX0 1 f fd ["_law_tape_here", "_law_many"] spTake := by
  refine F.ok sc__law_take (fun vs H Q E h => ?_) (fun cdv A outer s H vs Q E hr h => ?_)
  · obtain ⟨p, m, rfl, _⟩ := h
    rfl
  · obtain ⟨p, m, rfl, ⟨ns, hl, hp⟩, hm, kk⟩ := h
    refine ⟨_, (pss_cons (ps_if (pt_not (pt_truth (pv 0) (by intro _; rfl)))
      (pss_one (ps_ret pe_int))
      pss_nil)
      (pss_one (ps_ret (pe_op op_mod (pe_callTy call_int1 (by rfl) B.int b_int (pa_cons (pe_bm PySem.F.plainAttrs_list PySem.F.slot_list_pop PySem.F.type_list_pop mt_popAt (pv 0) (pa_cons pe_int pa_nil)) pa_nil)) (pv 1))))), ?_⟩
    refine ⟨_, rfl, _, .inl ⟨_, SqL.of hp, rfl⟩, ?_⟩
    cases ns with
    | nil => exact iteT (kk 0 H (Int.le_refl _) hm ⟨[], hl, hp⟩ (SameX.refl _ _))
    | cons n r =>
      refine iteF ?_
      refine ⟨_, rfl, .inl ⟨rfl, _, SqL.of hp⟩, p, _, 0, 0, V.int n, rfl, rfl, hp, (by decide), (by decide), ?_, rfl, ?_⟩
      · show seqIndex? 0 ((n :: r).map V.int).length = some 0
        rw [List.length_map]
        simp [seqIndex?]
      refine .inl ⟨_, rfl, _, rfl, _, _, rfl, rfl, hm, ?_⟩
      refine kk _ _ (Int.emod_nonneg _ (by omega)) (Int.emod_lt_of_pos _ hm) ⟨r, by simp at hl; omega, ?_⟩ (SameX.refl _ _).upd
      rw [upd_same]
      rfl
def spTape : Sp := fun vs H Q _ => ∃ (g l : Int) (n : Nat), vs = [.int g, .int l, .int n] ∧ n ≤ 1000 ∧ ∀ (p : Addr) (H' : Hp), H p = none → Tape H' p → Same H H' → Q (.ref p) H'
abbrev N__law_tape : List Str := ["_law_great", "_law_lesser", "_law_count", "_law_tape_here", "_law_rest", "_law_k", "_law_drawn"]
theorem sc__law_tape : FnScope N__law_tape ["_law_great", "_law_lesser", "_law_count"] (defScope s__law_tape) := ⟨rfl, rfl, rfl, by decide +kernel, rfl, by decide +kernel, by decide +kernel⟩
theorem ok_tape {f : Addr} {fd : FuncData} {f1 : Addr} {fd1 : FuncData} (F : Fun K "_law_tape" "_law_tape" s__law_tape f fd) (B : Bl mg) (G__law_mixed : Fd P w K mg base CX0 1 "_law_mixed" ["_law_cell_here", "_law_k"] spMixed f1 fd1) : FnOk P w K mg base CX0 2 f fd (N__law_tape.take 3) spTape := by
  refine F.ok sc__law_tape (fun vs H Q E h => ?_) (fun cdv A outer s H vs Q E hr h => ?_)
  · obtain ⟨g, l, n, rfl, _⟩ := h
    rfl
  · obtain ⟨g, l, n, rfl, hn, kk⟩ := h
    refine ⟨_, (pss_cons (ps_set (i := 3) sc__law_tape.nd rfl (Or.inl rfl) (pe_lst pa_nil))
      (pss_cons (ps_set (i := 4) sc__law_tape.nd rfl (Or.inl rfl) (pv 0))
      (pss_cons (ps_for PassesOwn.never rfl (pi_range1 (by rfl) B.range (pa_cons (pv 2) pa_nil)) (pg_name (i := 5) sc__law_tape.nd rfl (Or.inl rfl))
      (pss_cons (ps_set (i := 6) sc__law_tape.nd rfl (Or.inl rfl) (pe_cd G__law_mixed (hr.mono (by decide)) pass0 (pa_cons (pv 1) (pa_cons (pv 5) pa_nil))))
      (pss_cons (ps_if (pt_cmpR op_ge (pv 0) (pe_op op_pow pe_int pe_int) (nomark _))
      (pss_cons (ps_set (i := 6) sc__law_tape.nd rfl (Or.inl rfl) (pe_op op_add (pv 6) (pe_op op_mod (pe_callTy call_int1 (by rfl) B.int b_int (pa_cons (pv 4) pa_nil)) pe_int)))
      (pss_one (ps_set (i := 4) sc__law_tape.nd rfl (Or.inl rfl) (pe_op op_fdiv (pv 4) pe_int))))
      (pss_one (ps_set (i := 6) sc__law_tape.nd rfl (Or.inl rfl) (pe_op op_add (pv 6) (pe_cd G__law_mixed (hr.mono (by decide)) pass0 (pa_cons (pv 0) (pa_cons (pe_op op_add (pv 5) pe_int) pa_nil)))))))
      (pss_one (ps_expr (pe_bm PySem.F.plainAttrs_list PySem.F.slot_list_append PySem.F.type_list_append mt_append (pv 3) (pa_cons (pe_op op_mod (pe_callTy call_int1 (by rfl) B.int b_int (pa_cons (pv 6) pa_nil)) pe_int) pa_nil)))))))
      (pss_one (ps_ret (pv 3)))))), ?_⟩
    refine ⟨by decide, fun p hp => ?_⟩
    refine ⟨_, rfl, _, rfl, _, rfl, by omega, by omega, for_range (lo := 0) (n := n) (fun i σ H' => ∃ (r : Int) (k d : Option V) (ns : List Int), σ = [some (.int g), some (.int l), some (.int n), some (.ref p), some (.int r), k, d] ∧ ns.length = i ∧ H' p = some (.lst (ns.map V.int)) ∧ Same H H') ⟨g, none, none, [], rfl, rfl, upd_same, (Same.refl H).new hp⟩ ?_ ?_⟩
    · rintro i σ H' hi ⟨r, k, d, ns, rfl, hl, hp', hs⟩
      refine ⟨_, rfl, _, rfl, _, _, rfl, fun v hv0 hv1 => ?_⟩
      refine ⟨_, rfl, _, _, rfl, rfl, ⟨by decide, by decide, by decide⟩, _, _, rfl, rfl, _, rfl, ?_⟩
      have step : ∀ (z r' : Int) (k' d' : V), ∃ (r : Int) (k d : Option V) (ns' : List Int), [some (.int g), some (.int l), some (.int n), some (.ref p), some (.int r'), some k', some d'] = [some (.int g), some (.int l), some (.int n), some (.ref p), some (.int r), k, d] ∧ ns'.length = i + 1 ∧ (upd H' p (.lst (ns.map V.int ++ [V.int z]))) p = some (.lst (ns'.map V.int)) ∧ Same H (upd H' p (.lst (ns.map V.int ++ [V.int z]))) := fun z r' k' d' =>
        ⟨r', some k', some d', ns ++ [z], rfl, by simp [hl], by rw [upd_same, List.map_append]; rfl, fun b o e => by rw [upd_ne (ne_of_none e hp)]; exact hs b o e⟩
      refine ite2 (fun c => ?_) (fun c => ?_)
      · refine ⟨_, rfl, _, rfl, .inl ⟨_, rfl, _, _, rfl, rfl, cmod (by decide), _, _, rfl, rfl, _, rfl, _, _, rfl, rfl, ⟨by decide, by decide⟩, ?_⟩⟩
        refine ⟨_, rfl, .inl ⟨rfl, _, SqL.of hp'⟩, _, rfl, .inl ⟨_, rfl, _, _, rfl, rfl, cmod (by decide), p, _, _, rfl, rfl, hp', ?_, step _ _ _ _⟩⟩
        rw [List.length_map]
        exact small1000 (by omega)
      · refine ⟨_, rfl, _, rfl, _, rfl, _, _, rfl, rfl, _, _, rfl, fun v' h0' h1' => ⟨_, _, rfl, rfl, ?_⟩⟩
        refine ⟨_, rfl, .inl ⟨rfl, _, SqL.of hp'⟩, _, rfl, .inl ⟨_, rfl, _, _, rfl, rfl, cmod (by decide), p, _, _, rfl, rfl, hp', ?_, step _ _ _ _⟩⟩
        rw [List.length_map]
        exact small1000 (by omega)
    · rintro σ H' ⟨r, k, d, ns, rfl, hl, hp', hs⟩
      exact ⟨_, rfl, kk p H' hp ⟨ns, by omega, hp'⟩ hs⟩
/-! ### numbers and words -/
def spNumber : Sp := fun vs H Q _ => ∃ (p : Addr), vs = [.ref p] ∧ Tape H p ∧ ∀ (v : Int) (H' : Hp), 0 ≤ v → v < 10 ^ 30 → Tape H' p → SameX p H H' → Q (.int v) H'
abbrev N__law_number : List Str := ["_law_tape_here", "_law_number_here", "_law_k"]
theorem sc__law_number : FnScope N__law_number ["_law_tape_here"] (defScope s__law_number) := ⟨rfl, rfl, rfl, by decide +kernel, rfl, by decide +kernel, by decide +kernel⟩
theorem ok_number {f : Addr} {fd : FuncData} {f1 : Addr} {fd1 : FuncData} (F : Fun K "_law_number" "_law_number" s__law_number f fd) (B : Bl mg) (G__law_take : Fd P w K mg base CX0 1 "_law_take" ["_law_tape_here", "_law_many"] spTake f1 fd1) : FnOk P w K mg base CX0 2 f fd ["_law_tape_here"] spNumber := by
  refine F.ok sc__law_number (fun vs H Q E h => ?_) (fun cdv A outer s H vs Q E hr h => ?_)
  · obtain ⟨p, rfl, _⟩ := h
    rfl
  · obtain ⟨p, rfl, ht, kk⟩ := h
    refine ⟨_, (pss_cons (ps_if (pt_cmpR op_lt (pe_cd G__law_take (hr.mono (by decide)) pass0 (pa_cons (pv 0) (pa_cons pe_int pa_nil))) pe_int (nomark _))
      (pss_one (ps_ret (pe_cd G__law_take (hr.mono (by decide)) pass0 (pa_cons (pv 0) (pa_cons pe_int pa_nil)))))
      pss_nil)
      (pss_cons (ps_set (i := 1) sc__law_number.nd rfl (Or.inl rfl) pe_int)
      (pss_cons (ps_for PassesOwn.never rfl (pi_range1 (by rfl) B.range (pa_cons pe_int pa_nil)) (pg_name (i := 2) sc__law_number.nd rfl (Or.inl rfl))
      (pss_one (ps_set (i := 1) sc__law_number.nd rfl (Or.inl rfl) (pe_op op_add (pe_op op_mul (pv 1) pe_int) (pe_cd G__law_take (hr.mono (by decide)) pass0 (pa_cons (pv 0) (pa_cons pe_int pa_nil)))))))
      (pss_one (ps_ret (pv 1)))))), ?_⟩
    refine ⟨_, rfl, p, 4, rfl, ht, by decide, fun v H1 h0 h1 t1 s1 => ⟨_, _, rfl, rfl, _, rfl, ?_⟩⟩
    refine ite2 (fun c => ?_) (fun c => ?_)
    · exact ⟨_, rfl, p, 10, rfl, t1, by decide, fun v H2 h0 h1 t2 s2 => kk v H2 h0 (by omega) t2 (s1.trans s2)⟩
    · refine ⟨_, rfl, by decide, by decide, for_range (lo := 0) (n := 5) (fun i σ H' => ∃ (z : Int) (k : Option V), σ = [some (.ref p), some (.int z), k] ∧ 0 ≤ z ∧ z < 720720 ^ i ∧ Tape H' p ∧ SameX p H H') ⟨0, none, rfl, by decide, by decide, t1, s1⟩ ?_ ?_⟩
      · rintro i σ H' hi ⟨z, k, rfl, z0, z1, t', s'⟩
        refine ⟨_, rfl, _, _, rfl, rfl, .inr ⟨by decide, by decide⟩, _, rfl, p, 720720, rfl, t', by decide, fun v H2 h0 h1 t2 s2 => ⟨_, _, rfl, rfl, _, _, rfl, by omega, ?_, t2, s'.trans s2⟩⟩
        rw [Int.pow_succ]
        omega
      · rintro σ H' ⟨z, k, rfl, z0, z1, t', s'⟩
        exact ⟨_, rfl, kk z H' z0 (by omega) t' s'⟩
def Word (l : List Nat) : Prop := ∀ c ∈ l, Ltr c
def spWord : Sp := fun vs H Q _ => ∃ (p : Addr) (m : Nat), vs = [.ref p, .int m] ∧ Tape H p ∧ 0 < m ∧ m ≤ 1000 ∧ ∀ (l : List Nat) (H' : Hp), 0 < l.length → l.length ≤ m → Word l → Tape H' p → SameX p H H' → Q (.str (T l)) H'
abbrev N__law_word : List Str := ["_law_tape_here", "_law_longest", "_law_letters", "_law_size", "_law_word_here", "_law_drawn", "_law_k"]
theorem sc__law_word : FnScope N__law_word ["_law_tape_here", "_law_longest"] (defScope s__law_word) := ⟨rfl, rfl, rfl, by decide +kernel, rfl, by decide +kernel, by decide +kernel⟩
theorem ok_word {f : Addr} {fd : FuncData} {f1 : Addr} {fd1 : FuncData} (F : Fun K "_law_word" "_law_word" s__law_word f fd) (B : Bl mg) (G__law_take : Fd P w K mg base CX0 1 "_law_take" ["_law_tape_here", "_law_many"] spTake f1 fd1) : FnOk P w K mg base CX0 2 f fd ["_law_tape_here", "_law_longest"] spWord := by
  refine F.ok sc__law_word (fun vs H Q E h => ?_) (fun cdv A outer s H vs Q E hr h => ?_)
  · obtain ⟨p, m, rfl, _⟩ := h
    rfl
  · obtain ⟨p, m, rfl, ht, m0, m1, kk⟩ := h
    refine ⟨_, (pss_cons (ps_set (i := 2) sc__law_word.nd rfl (Or.inl rfl) pe_str)
      (pss_cons (ps_set (i := 3) sc__law_word.nd rfl (Or.inl rfl) (pe_op op_add pe_int (pe_cd G__law_take (hr.mono (by decide)) pass0 (pa_cons (pv 0) (pa_cons (pv 1) pa_nil)))))
      (pss_cons (ps_set (i := 4) sc__law_word.nd rfl (Or.inl rfl) pe_str)
      (pss_cons (ps_while PassesOwn.never (pt_cmpR op_lt (pe_callB call_len_str (by rfl) B.len b_len (pa_cons (pv 4) pa_nil)) (pv 3) (nomark _))
      (pss_cons (ps_set (i := 5) sc__law_word.nd rfl (Or.inl rfl) (pe_cd G__law_take (hr.mono (by decide)) pass0 (pa_cons (pv 0) (pa_cons pe_int pa_nil))))
      (pss_one (ps_for PassesOwn.never rfl (pi_range1 (by rfl) B.range (pa_cons pe_int pa_nil)) (pg_name (i := 6) sc__law_word.nd rfl (Or.inl rfl))
      (pss_cons (ps_set (i := 4) sc__law_word.nd rfl (Or.inl rfl) (pe_op op_add_str (pv 4) (pe_ix ix_str (pv 2) (pe_op op_mod (pe_callTy call_int1 (by rfl) B.int b_int (pa_cons (pv 5) pa_nil)) pe_int) (fun _ _ => rfl))))
      (pss_one (ps_set (i := 5) sc__law_word.nd rfl (Or.inl rfl) (pe_op op_fdiv (pv 5) pe_int))))))))
      (pss_one (ps_ret (pe_slice sl_str (pv 4) po_none (po_some (pv 3))))))))), ?_⟩
    refine ⟨_, rfl, _, rfl, p, m, rfl, ht, by omega, fun v H1 h0 h1 t1 s1 => ⟨_, _, rfl, rfl, ?_⟩⟩
    obtain ⟨n, rfl⟩ : ∃ n : Nat, v = n := ⟨v.toNat, by omega⟩
    rw [abc_eq]
    refine ⟨fun μ σ H' => ∃ (l : List Nat) (d k : Option V), σ = [some (.ref p), some (.int m), some (.str (T abc)), some (.int (1 + n)), some (.str (T l)), d, k] ∧ μ = n + 5 - l.length ∧ l.length < n + 5 ∧ Word l ∧ Tape H' p ∧ SameX p H H', ⟨_, [], none, none, rfl, rfl, by simp, (fun _ h => nomatch h), t1, s1⟩, ?_⟩
    rintro μ σ H2 ⟨l, d, k, rfl, rfl, l1, wl, t2, s2⟩
    refine ⟨_, rfl, _, rfl, size16 (by rw [T_len]; omega), _, rfl, _, _, rfl, rfl, _, rfl, ?_⟩
    rw [T_len]
    refine ite2 (fun c => ?_) (fun c => ?_)
    · have c' := of_decide_eq_true c
      refine ⟨fun σ' H' => ∃ m' < n + 5 - l.length, ∃ (l : List Nat) (d k : Option V), σ' = [some (.ref p), some (.int m), some (.str (T abc)), some (.int (1 + n)), some (.str (T l)), d, k] ∧ m' = n + 5 - l.length ∧ l.length < n + 5 ∧ Word l ∧ Tape H' p ∧ SameX p H H', fun _ _ h => h, ?_⟩
      refine ⟨_, rfl, p, 720720, rfl, t2, by decide, fun v H3 h0 h1 t3 s3 => ?_⟩
      refine ⟨_, rfl, by decide, by decide, for_range (lo := 0) (n := 4) (fun i σ H' => ∃ (l' : List Nat) (d : Int) (k : Option V), σ = [some (.ref p), some (.int m), some (.str (T abc)), some (.int (1 + n)), some (.str (T l')), some (.int d), k] ∧ 0 ≤ d ∧ l'.length = l.length + i ∧ Word l' ∧ H' = H3) ⟨l, v, k, rfl, h0, rfl, wl, rfl⟩ ?_ ?_⟩
      · rintro i σ H' hi ⟨l', d, k, rfl, d0, e, wl', rfl⟩
        have hx : d % 26 = ((d % 26).toNat : Int) := by omega
        have hy : (d % 26).toNat < 26 := by omega
        refine ⟨_, rfl, _, rfl, _, rfl, .inl ⟨_, rfl, _, _, rfl, rfl, cmod (by decide), _, _, 97 + (d % 26).toNat, rfl, rfl, size16 (by rw [T_len]; decide), ?_, ?_⟩⟩
        · rw [T_codes, hx]
          exact atI_nat (abc_at hy)
        · refine ⟨_, _, rfl, rfl, size16 (by rw [T_len]; show l'.length + 1 ≤ 10000; omega), ?_⟩
          refine ⟨_, rfl, _, _, rfl, rfl, ⟨by decide, by decide⟩, l' ++ [97 + (d % 26).toNat], d / 26, some (.int (0 + (i : Int))), ?_, Int.ediv_nonneg d0 (by decide), by simp; omega, fun c hc => ?_, rfl⟩
          · rw [← T_app]
            rfl
          · rcases List.mem_append.mp hc with hc | hc
            · exact wl' c hc
            · rw [List.mem_singleton.mp hc]
              exact ⟨by omega, by omega⟩
      · rintro σ H' ⟨l', d, k, rfl, d0, e, wl', rfl⟩
        exact ⟨n + 5 - l'.length, by omega, l', _, _, rfl, rfl, by omega, wl', t3, s2.trans s3⟩
    · have c' : ¬ (l.length : Int) < 1 + n := fun z => c (decide_eq_true z)
      refine ⟨_, rfl, _, rfl, _, rfl, _, rfl, size16 (by rw [T_len]; omega), ?_⟩
      rw [show (1 + (n : Int)) = ((1 + n : Nat) : Int) by omega, T_take]
      refine kk _ _ ?_ ?_ (fun c hc => wl c (List.mem_of_mem_take hc)) t2 s2
      · rw [List.length_take]; omega
      · rw [List.length_take]; omega
end

/-! ### the law of the errors -/
section
variable {P : Program} {w : World} {K : PySem.W.Frag} {mg : Str → Option Value} {base : Heap} {C : Nat → Addr} {R : Addr}
def flds : Nat → List Str
  | 0 => ["name"] | 1 => ["name"] | 2 => ["name"] | 3 => ["name"] | 4 => ["name"] | 5 => ["name"] | 6 => ["name"]
  | 7 => ["name", "at"] | 8 => ["name", "at"] | 9 => ["name", "at"]
  | 10 => ["at"] | 11 => ["at"] | 12 => ["at"] | 13 => [] | 14 => ["arguments"] | _ => ["kind", "at", "calls", "name"]
def vals (kind at_ calls name : V) : Nat → List V
  | 0 => [name] | 1 => [name] | 2 => [name] | 3 => [name] | 4 => [name] | 5 => [name] | 6 => [name]
  | 7 => [name, at_] | 8 => [name, at_] | 9 => [name, at_]
  | 10 => [at_] | 11 => [at_] | 12 => [at_] | 13 => [] | 14 => [calls] | _ => [kind, at_, calls, name]
structure Ers (P : Program) (w : World) (K : PySem.W.Frag) (mg : Str → Option Value) (base : Heap) (C : Nat → Addr) (R : Addr) : Prop where
  e0 : ∃ f fd, ExT P w K mg base "BadName" (C 0) ["self", "name"] (spEx (C 0) ["name"]) f fd
  e1 : ∃ f fd, ExT P w K mg base "NoField" (C 1) ["self", "name"] (spEx (C 1) ["name"]) f fd
  e2 : ∃ f fd, ExT P w K mg base "FieldThere" (C 2) ["self", "name"] (spEx (C 2) ["name"]) f fd
  e3 : ∃ f fd, ExT P w K mg base "Shared" (C 3) ["self", "name"] (spEx (C 3) ["name"]) f fd
  e4 : ∃ f fd, ExT P w K mg base "TooLarge" (C 4) ["self", "name"] (spEx (C 4) ["name"]) f fd
  e5 : ∃ f fd, ExT P w K mg base "UnknownFunction" (C 5) ["self", "name"] (spEx (C 5) ["name"]) f fd
  e6 : ∃ f fd, ExT P w K mg base "WrongArguments" (C 6) ["self", "name"] (spEx (C 6) ["name"]) f fd
  e7 : ∃ f fd, ExT P w K mg base "DoubleName" (C 7) ["self", "name", "at"] (spEx (C 7) ["name", "at"]) f fd
  e8 : ∃ f fd, ExT P w K mg base "UnknownName" (C 8) ["self", "name", "at"] (spEx (C 8) ["name", "at"]) f fd
  e9 : ∃ f fd, ExT P w K mg base "WrongCount" (C 9) ["self", "name", "at"] (spEx (C 9) ["name", "at"]) f fd
  e10 : ∃ f fd, ExT P w K mg base "BadText" (C 10) ["self", "at"] (spEx (C 10) ["at"]) f fd
  e11 : ∃ f fd, ExT P w K mg base "TooDeep" (C 11) ["self", "at"] (spEx (C 11) ["at"]) f fd
  e12 : ∃ f fd, ExT P w K mg base "NoBranch" (C 12) ["self", "at"] (spEx (C 12) ["at"]) f fd
  e13 : ∃ f fd, ExT P w K mg base "Mismatch" (C 13) ["self"] (spEx0 (C 13)) f fd
  e14 : ∃ f fd, ExT P w K mg base "NotRefined" (C 14) ["self", "arguments"] (spEx (C 14) ["arguments"]) f fd
  e15 : ∃ f fd, ExT P w K mg base "Failure" (C 15) ["self", "kind", "at", "calls", "name"] (spEx (C 15) ["kind", "at", "calls", "name"]) f fd
  mgR : mg "RecordsError" = some (.ref R)
  xf : ∀ j, j < 16 → XfC K (C j)
  ec : ∀ j, j < 16 → ExcC K (C j)
  kit : ∀ i j, i < 16 → j < 16 → PySem.W.kitOne K (.ref (C j)) (.ref (C i)) = some (decide (i = j))
  kve : ∀ j, j < 16 → PySem.W.kitOne K (.ref (C j)) (.type "ValueError") = some true
  no : ∀ j, j < 16 → ∀ f ∈ flds j, PySem.W.findIn K (.ref (C j)) f = some none
  exm : ∀ j, j < 16 → PySem.W.exmOne K (.ref (C j)) (.ref R) = some true
theorem iteY {c : Bool} {A B : Prop} (h : c = true) (ha : A) : if c = true then A else B := by rw [if_pos h]; exact ha
theorem iteN {c : Bool} {A B : Prop} (h : c = false) (hb : B) : if c = true then A else B := by rw [h]; exact iteF hb
def spNamed (C : Nat → Addr) : Sp := fun vs H _ E => ∃ (j : Nat) (nm at_ : V), vs = [.int j, nm, at_] ∧ j < 10 ∧ ∀ d, H d = none → E (.ref (C j)) (some d) (upd H d (.xd ((flds j).zip (vals .non at_ .non nm j)).reverse))
abbrev N__law_raise_named : List Str := ["_law_k", "_law_name", "_law_at"]
theorem sc__law_raise_named : FnScope N__law_raise_named ["_law_k", "_law_name", "_law_at"] (defScope s__law_raise_named) := ⟨rfl, rfl, rfl, by decide +kernel, rfl, by decide +kernel, by decide +kernel⟩
theorem ok_named {f : Addr} {fd : FuncData} (F : Fun K "_law_raise_named" "_law_raise_named" s__law_raise_named f fd) (B : Bl mg) (T : Ers P w K mg base C R) : FnOk P w K mg base (L2N.CX P w) 4 f fd ["_law_k", "_law_name", "_law_at"] (spNamed C) := by
  obtain ⟨_, _, E_BadName⟩ := T.e0
  obtain ⟨_, _, E_NoField⟩ := T.e1
  obtain ⟨_, _, E_FieldThere⟩ := T.e2
  obtain ⟨_, _, E_Shared⟩ := T.e3
  obtain ⟨_, _, E_TooLarge⟩ := T.e4
  obtain ⟨_, _, E_UnknownFunction⟩ := T.e5
  obtain ⟨_, _, E_WrongArguments⟩ := T.e6
  obtain ⟨_, _, E_DoubleName⟩ := T.e7
  obtain ⟨_, _, E_UnknownName⟩ := T.e8
  obtain ⟨_, _, E_WrongCount⟩ := T.e9
  refine F.okN sc__law_raise_named (fun vs H Q E h => ?_) (fun cdv A outer s H vs Q E hr h => ?_)
  · obtain ⟨j, nm, at_, rfl, _⟩ := h
    rfl
  · obtain ⟨j, nm, at_, rfl, hj, kk⟩ := h
    refine ⟨_, (pss_cons (ps_if (pt_cmpR op_eq (pv 0) pe_int (nomark _))
      (pss_one (L2N.ps_raise rfl (L2N.takes_of rfl rfl rfl rfl) (pmk_ex E_BadName (hr.mono (by decide)) (pa_cons (pv 1) pa_nil))))
      pss_nil)
      (pss_cons (ps_if (pt_cmpR op_eq (pv 0) pe_int (nomark _))
      (pss_one (L2N.ps_raise rfl (L2N.takes_of rfl rfl rfl rfl) (pmk_ex E_NoField (hr.mono (by decide)) (pa_cons (pv 1) pa_nil))))
      pss_nil)
      (pss_cons (ps_if (pt_cmpR op_eq (pv 0) pe_int (nomark _))
      (pss_one (L2N.ps_raise rfl (L2N.takes_of rfl rfl rfl rfl) (pmk_ex E_FieldThere (hr.mono (by decide)) (pa_cons (pv 1) pa_nil))))
      pss_nil)
      (pss_cons (ps_if (pt_cmpR op_eq (pv 0) pe_int (nomark _))
      (pss_one (L2N.ps_raise rfl (L2N.takes_of rfl rfl rfl rfl) (pmk_ex E_Shared (hr.mono (by decide)) (pa_cons (pv 1) pa_nil))))
      pss_nil)
      (pss_cons (ps_if (pt_cmpR op_eq (pv 0) pe_int (nomark _))
      (pss_one (L2N.ps_raise rfl (L2N.takes_of rfl rfl rfl rfl) (pmk_ex E_TooLarge (hr.mono (by decide)) (pa_cons (pv 1) pa_nil))))
      pss_nil)
      (pss_cons (ps_if (pt_cmpR op_eq (pv 0) pe_int (nomark _))
      (pss_one (L2N.ps_raise rfl (L2N.takes_of rfl rfl rfl rfl) (pmk_ex E_UnknownFunction (hr.mono (by decide)) (pa_cons (pv 1) pa_nil))))
      pss_nil)
      (pss_cons (ps_if (pt_cmpR op_eq (pv 0) pe_int (nomark _))
      (pss_one (L2N.ps_raise rfl (L2N.takes_of rfl rfl rfl rfl) (pmk_ex E_WrongArguments (hr.mono (by decide)) (pa_cons (pv 1) pa_nil))))
      pss_nil)
      (pss_cons (ps_if (pt_cmpR op_eq (pv 0) pe_int (nomark _))
      (pss_one (L2N.ps_raise rfl (L2N.takes_of rfl rfl rfl rfl) (pmk_ex E_DoubleName (hr.mono (by decide)) (pa_cons (pv 1) (pa_cons (pv 2) pa_nil)))))
      pss_nil)
      (pss_cons (ps_if (pt_cmpR op_eq (pv 0) pe_int (nomark _))
      (pss_one (L2N.ps_raise rfl (L2N.takes_of rfl rfl rfl rfl) (pmk_ex E_UnknownName (hr.mono (by decide)) (pa_cons (pv 1) (pa_cons (pv 2) pa_nil)))))
      pss_nil)
      (pss_one (L2N.ps_raise rfl (L2N.takes_of rfl rfl rfl rfl) (pmk_ex E_WrongCount (hr.mono (by decide)) (pa_cons (pv 1) (pa_cons (pv 2) pa_nil)))))))))))))), ?_⟩
    have hj' : j = 0 ∨ j = 1 ∨ j = 2 ∨ j = 3 ∨ j = 4 ∨ j = 5 ∨ j = 6 ∨ j = 7 ∨ j = 8 ∨ j = 9 := by omega
    rcases hj' with rfl | rfl | rfl | rfl | rfl | rfl | rfl | rfl | rfl | rfl
    all_goals repeat (refine ⟨_, rfl, rfl, _, rfl, iteN (by decide) ?_⟩)
    all_goals first
      | exact ⟨_, rfl, rfl, _, rfl, iteY (by decide) ⟨_, rfl, rfl, by show 1 ≤ 1000; decide, kk⟩⟩
      | exact ⟨_, rfl, rfl, _, rfl, iteY (by decide) ⟨_, rfl, _, rfl, rfl, by show 2 ≤ 1000; decide, kk⟩⟩
      | exact ⟨_, rfl, _, rfl, rfl, by show 2 ≤ 1000; decide, kk⟩
def spOther (C : Nat → Addr) : Sp := fun vs H _ E => ∃ (j : Nat) (kd at_ cs nm : V), vs = [.int j, kd, at_, cs, nm] ∧ 10 ≤ j ∧ j < 16 ∧ (j ≠ 13 → ∀ d, H d = none → E (.ref (C j)) (some d) (upd H d (.xd ((flds j).zip (vals kd at_ cs nm j)).reverse))) ∧ (j = 13 → E (.ref (C j)) none H)
abbrev N__law_raise_other : List Str := ["_law_k", "_law_kind", "_law_at", "_law_calls", "_law_name"]
theorem sc__law_raise_other : FnScope N__law_raise_other ["_law_k", "_law_kind", "_law_at", "_law_calls", "_law_name"] (defScope s__law_raise_other) := ⟨rfl, rfl, rfl, by decide +kernel, rfl, by decide +kernel, by decide +kernel⟩
theorem ok_other {f : Addr} {fd : FuncData} (F : Fun K "_law_raise_other" "_law_raise_other" s__law_raise_other f fd) (B : Bl mg) (T : Ers P w K mg base C R) : FnOk P w K mg base (L2N.CX P w) 4 f fd ["_law_k", "_law_kind", "_law_at", "_law_calls", "_law_name"] (spOther C) := by
  obtain ⟨_, _, E_BadText⟩ := T.e10
  obtain ⟨_, _, E_TooDeep⟩ := T.e11
  obtain ⟨_, _, E_NoBranch⟩ := T.e12
  obtain ⟨_, _, E_Mismatch⟩ := T.e13
  obtain ⟨_, _, E_NotRefined⟩ := T.e14
  obtain ⟨_, _, E_Failure⟩ := T.e15
  refine F.okN sc__law_raise_other (fun vs H Q E h => ?_) (fun cdv A outer s H vs Q E hr h => ?_)
  · obtain ⟨j, kd, at_, cs, nm, rfl, _⟩ := h
    rfl
  · obtain ⟨j, kd, at_, cs, nm, rfl, hj0, hj, kk, k13⟩ := h
    refine ⟨_, (pss_cons (ps_if (pt_cmpR op_eq (pv 0) pe_int (nomark _))
      (pss_one (L2N.ps_raise rfl (L2N.takes_of rfl rfl rfl rfl) (pmk_ex E_BadText (hr.mono (by decide)) (pa_cons (pv 2) pa_nil))))
      pss_nil)
      (pss_cons (ps_if (pt_cmpR op_eq (pv 0) pe_int (nomark _))
      (pss_one (L2N.ps_raise rfl (L2N.takes_of rfl rfl rfl rfl) (pmk_ex E_TooDeep (hr.mono (by decide)) (pa_cons (pv 2) pa_nil))))
      pss_nil)
      (pss_cons (ps_if (pt_cmpR op_eq (pv 0) pe_int (nomark _))
      (pss_one (L2N.ps_raise rfl (L2N.takes_of rfl rfl rfl rfl) (pmk_ex E_NoBranch (hr.mono (by decide)) (pa_cons (pv 2) pa_nil))))
      pss_nil)
      (pss_cons (ps_if (pt_cmpR op_eq (pv 0) pe_int (nomark _))
      (pss_one (L2N.ps_raise rfl (L2N.takes_of rfl rfl rfl rfl) (pmk_ex0 E_Mismatch (hr.mono (by decide)))))
      pss_nil)
      (pss_cons (ps_if (pt_cmpR op_eq (pv 0) pe_int (nomark _))
      (pss_one (L2N.ps_raise rfl (L2N.takes_of rfl rfl rfl rfl) (pmk_ex E_NotRefined (hr.mono (by decide)) (pa_cons (pv 3) pa_nil))))
      pss_nil)
      (pss_one (L2N.ps_raise rfl (L2N.takes_of rfl rfl rfl rfl) (pmk_ex E_Failure (hr.mono (by decide)) (pa_cons (pv 1) (pa_cons (pv 2) (pa_cons (pv 3) (pa_cons (pv 4) pa_nil)))))))))))), ?_⟩
    have hj' : j = 10 ∨ j = 11 ∨ j = 12 ∨ j = 13 ∨ j = 14 ∨ j = 15 := by omega
    rcases hj' with rfl | rfl | rfl | rfl | rfl | rfl
    all_goals repeat (refine ⟨_, rfl, rfl, _, rfl, iteN (by decide) ?_⟩)
    all_goals first
      | exact ⟨_, rfl, rfl, _, rfl, iteY (by decide) ⟨_, rfl, rfl, by show 1 ≤ 1000; decide, kk (by decide)⟩⟩
      | exact ⟨_, rfl, rfl, _, rfl, iteY (by decide) (k13 rfl)⟩
      | exact ⟨_, rfl, _, rfl, _, rfl, _, rfl, rfl, by show 4 ≤ 1000; decide, kk (by decide)⟩
/-! ### what is told of a held error -/
def HD (d : Option Addr) (H : Hp) : Prop := ∀ dd, d = some dd → ∃ fs, H dd = some (.xd fs)
theorem HD.same {d : Option Addr} {H H' : Hp} (h : HD d H) (s : Same H H') : HD d H' := fun dd e => let ⟨fs, q⟩ := h dd e; ⟨fs, s _ _ q⟩
theorem isx_ {a : Addr} {d : Option Addr} {H : Hp} {Q : VK} {j : Nat} (T : Ers P w K mg base C R) (hj : j < 16) (hd : HD d H) (i : Nat) (hi : i < 16) (q : Q (.bl (decide (i = j))) H) : rIsX K a (.ref (C j)) d [.ref a, .ref (C i)] H Q :=
  ⟨_, C j, _, _, rfl, rfl, T.ec j hj, hd, fun u r => r, T.kit i j hi hj, q⟩
def spClasses (C : Nat → Addr) (a : Addr) (cls : Value) (d : Option Addr) : Sp := fun vs H Q _ => ∃ j : Nat, j < 16 ∧ cls = .ref (C j) ∧ vs = [.ref a] ∧ HD d H ∧ ∀ (q : Addr) (H' : Hp), Same H H' → H q = none → H' q = some (.lst ((List.range 16).map fun i => V.bl (decide (i = j)))) → Q (.ref q) H'
abbrev N__law_classes : List Str := ["_law_e", "_law_found"]
theorem sc__law_classes : FnScope N__law_classes ["_law_e"] (defScope s__law_classes) := ⟨rfl, rfl, rfl, by decide +kernel, rfl, by decide +kernel, by decide +kernel⟩
theorem ok_classes {f : Addr} {fd : FuncData} (F : Fun K "_law_classes" "_law_classes" s__law_classes f fd) (B : Bl mg) (T : Ers P w K mg base C R) {a : Addr} {oe : Obj} {cls : Value} {d : Option Addr} (hz : L2N.Zn cls d oe) (hf : ∃ vs, oe.data = .fields vs) :
    FnP P w K mg base CX0 1 f fd ["_law_e"] (a, oe) (spClasses C a cls d) := by
  obtain ⟨_, _, E_BadName⟩ := T.e0
  obtain ⟨_, _, E_NoField⟩ := T.e1
  obtain ⟨_, _, E_FieldThere⟩ := T.e2
  obtain ⟨_, _, E_Shared⟩ := T.e3
  obtain ⟨_, _, E_TooLarge⟩ := T.e4
  obtain ⟨_, _, E_UnknownFunction⟩ := T.e5
  obtain ⟨_, _, E_WrongArguments⟩ := T.e6
  obtain ⟨_, _, E_DoubleName⟩ := T.e7
  obtain ⟨_, _, E_UnknownName⟩ := T.e8
  obtain ⟨_, _, E_WrongCount⟩ := T.e9
  obtain ⟨_, _, E_BadText⟩ := T.e10
  obtain ⟨_, _, E_TooDeep⟩ := T.e11
  obtain ⟨_, _, E_NoBranch⟩ := T.e12
  obtain ⟨_, _, E_Mismatch⟩ := T.e13
  obtain ⟨_, _, E_NotRefined⟩ := T.e14
  obtain ⟨_, _, E_Failure⟩ := T.e15
  refine F.okP sc__law_classes (fun vs H Q E h => ?_) (fun cdv A outer s H vs Q E hr h => ?_)
  · obtain ⟨j, _, _, rfl, _⟩ := h
    rfl
  · obtain ⟨j, hj, rfl, rfl, hd, kk⟩ := h
    have hh : Held (L2H.cxH CX0 P w K mg base N__law_classes "_law_classes" (defScope s__law_classes) f cdv A outer s H E (a, oe)) a (.ref (C j)) d := ⟨oe, List.mem_singleton.mpr rfl, hz.zc, hf⟩
    refine ⟨_, (pss_cons (ps_set (i := 1) sc__law_classes.nd rfl (Or.inl rfl) (pe_lst (pa_cons (pe_callB (call_isK (K := K) rfl hh) (by rfl) B.isinstance b_isinstance (pa_cons (pv 0) (pa_cons (pe_gref E_BadName.mg) pa_nil))) (pa_cons (pe_callB (call_isK (K := K) rfl hh) (by rfl) B.isinstance b_isinstance (pa_cons (pv 0) (pa_cons (pe_gref E_NoField.mg) pa_nil))) (pa_cons (pe_callB (call_isK (K := K) rfl hh) (by rfl) B.isinstance b_isinstance (pa_cons (pv 0) (pa_cons (pe_gref E_FieldThere.mg) pa_nil))) (pa_cons (pe_callB (call_isK (K := K) rfl hh) (by rfl) B.isinstance b_isinstance (pa_cons (pv 0) (pa_cons (pe_gref E_Shared.mg) pa_nil))) pa_nil))))))
      (pss_cons (ps_set (i := 1) sc__law_classes.nd rfl (Or.inl rfl) (pe_op op_cat (pv 1) (pe_lst (pa_cons (pe_callB (call_isK (K := K) rfl hh) (by rfl) B.isinstance b_isinstance (pa_cons (pv 0) (pa_cons (pe_gref E_TooLarge.mg) pa_nil))) (pa_cons (pe_callB (call_isK (K := K) rfl hh) (by rfl) B.isinstance b_isinstance (pa_cons (pv 0) (pa_cons (pe_gref E_UnknownFunction.mg) pa_nil))) (pa_cons (pe_callB (call_isK (K := K) rfl hh) (by rfl) B.isinstance b_isinstance (pa_cons (pv 0) (pa_cons (pe_gref E_WrongArguments.mg) pa_nil))) pa_nil))))))
      (pss_cons (ps_set (i := 1) sc__law_classes.nd rfl (Or.inl rfl) (pe_op op_cat (pv 1) (pe_lst (pa_cons (pe_callB (call_isK (K := K) rfl hh) (by rfl) B.isinstance b_isinstance (pa_cons (pv 0) (pa_cons (pe_gref E_DoubleName.mg) pa_nil))) (pa_cons (pe_callB (call_isK (K := K) rfl hh) (by rfl) B.isinstance b_isinstance (pa_cons (pv 0) (pa_cons (pe_gref E_UnknownName.mg) pa_nil))) (pa_cons (pe_callB (call_isK (K := K) rfl hh) (by rfl) B.isinstance b_isinstance (pa_cons (pv 0) (pa_cons (pe_gref E_WrongCount.mg) pa_nil))) pa_nil))))))
      (pss_cons (ps_set (i := 1) sc__law_classes.nd rfl (Or.inl rfl) (pe_op op_cat (pv 1) (pe_lst (pa_cons (pe_callB (call_isK (K := K) rfl hh) (by rfl) B.isinstance b_isinstance (pa_cons (pv 0) (pa_cons (pe_gref E_BadText.mg) pa_nil))) (pa_cons (pe_callB (call_isK (K := K) rfl hh) (by rfl) B.isinstance b_isinstance (pa_cons (pv 0) (pa_cons (pe_gref E_TooDeep.mg) pa_nil))) (pa_cons (pe_callB (call_isK (K := K) rfl hh) (by rfl) B.isinstance b_isinstance (pa_cons (pv 0) (pa_cons (pe_gref E_NoBranch.mg) pa_nil))) pa_nil))))))
      (pss_one (ps_ret (pe_op op_cat (pv 1) (pe_lst (pa_cons (pe_callB (call_isK (K := K) rfl hh) (by rfl) B.isinstance b_isinstance (pa_cons (pv 0) (pa_cons (pe_gref E_Mismatch.mg) pa_nil))) (pa_cons (pe_callB (call_isK (K := K) rfl hh) (by rfl) B.isinstance b_isinstance (pa_cons (pv 0) (pa_cons (pe_gref E_NotRefined.mg) pa_nil))) (pa_cons (pe_callB (call_isK (K := K) rfl hh) (by rfl) B.isinstance b_isinstance (pa_cons (pv 0) (pa_cons (pe_gref E_Failure.mg) pa_nil))) pa_nil))))))))))), ?_⟩
    have sz : ∀ {n : Nat}, n ≤ 1000 → n ≤ sizeLine := fun h => size16 (by omega)
    refine ⟨_, rfl, _, C j, _, _, rfl, rfl, T.ec j hj, hd, fun u r => r, T.kit 0 j (by decide) hj, ⟨_, rfl, _, C j, _, _, rfl, rfl, T.ec j hj, hd, fun u r => r, T.kit 1 j (by decide) hj, ⟨_, rfl, _, C j, _, _, rfl, rfl, T.ec j hj, hd, fun u r => r, T.kit 2 j (by decide) hj, ⟨_, rfl, _, C j, _, _, rfl, rfl, T.ec j hj, hd, fun u r => r, T.kit 3 j (by decide) hj, ⟨sz (by show 4 ≤ 1000; decide), fun q0 n0 => ?_⟩⟩⟩⟩⟩
    refine ⟨_, rfl, ⟨_, rfl, _, C j, _, _, rfl, rfl, T.ec j hj, (hd.same (Same.refl H |>.new n0)), fun u r => r, T.kit 4 j (by decide) hj, ⟨_, rfl, _, C j, _, _, rfl, rfl, T.ec j hj, (hd.same (Same.refl H |>.new n0)), fun u r => r, T.kit 5 j (by decide) hj, ⟨_, rfl, _, C j, _, _, rfl, rfl, T.ec j hj, (hd.same (Same.refl H |>.new n0)), fun u r => r, T.kit 6 j (by decide) hj, ⟨sz (by show 3 ≤ 1000; decide), fun q1 n1 => ⟨_, _, _, _, rfl, rfl, (upd_ne (ne_of_none upd_same n1)).trans upd_same, upd_same, sz (by show 7 ≤ 1000; decide), fun q2 n2 => ?_⟩⟩⟩⟩⟩⟩
    refine ⟨_, rfl, ⟨_, rfl, _, C j, _, _, rfl, rfl, T.ec j hj, (hd.same (Same.refl H |>.new n0 |>.new n1 |>.new n2)), fun u r => r, T.kit 7 j (by decide) hj, ⟨_, rfl, _, C j, _, _, rfl, rfl, T.ec j hj, (hd.same (Same.refl H |>.new n0 |>.new n1 |>.new n2)), fun u r => r, T.kit 8 j (by decide) hj, ⟨_, rfl, _, C j, _, _, rfl, rfl, T.ec j hj, (hd.same (Same.refl H |>.new n0 |>.new n1 |>.new n2)), fun u r => r, T.kit 9 j (by decide) hj, ⟨sz (by show 3 ≤ 1000; decide), fun q3 n3 => ⟨_, _, _, _, rfl, rfl, (upd_ne (ne_of_none upd_same n3)).trans upd_same, upd_same, sz (by show 10 ≤ 1000; decide), fun q4 n4 => ?_⟩⟩⟩⟩⟩⟩
    refine ⟨_, rfl, ⟨_, rfl, _, C j, _, _, rfl, rfl, T.ec j hj, (hd.same (Same.refl H |>.new n0 |>.new n1 |>.new n2 |>.new n3 |>.new n4)), fun u r => r, T.kit 10 j (by decide) hj, ⟨_, rfl, _, C j, _, _, rfl, rfl, T.ec j hj, (hd.same (Same.refl H |>.new n0 |>.new n1 |>.new n2 |>.new n3 |>.new n4)), fun u r => r, T.kit 11 j (by decide) hj, ⟨_, rfl, _, C j, _, _, rfl, rfl, T.ec j hj, (hd.same (Same.refl H |>.new n0 |>.new n1 |>.new n2 |>.new n3 |>.new n4)), fun u r => r, T.kit 12 j (by decide) hj, ⟨sz (by show 3 ≤ 1000; decide), fun q5 n5 => ⟨_, _, _, _, rfl, rfl, (upd_ne (ne_of_none upd_same n5)).trans upd_same, upd_same, sz (by show 13 ≤ 1000; decide), fun q6 n6 => ?_⟩⟩⟩⟩⟩⟩
    refine ⟨_, rfl, ⟨_, rfl, _, C j, _, _, rfl, rfl, T.ec j hj, (hd.same (Same.refl H |>.new n0 |>.new n1 |>.new n2 |>.new n3 |>.new n4 |>.new n5 |>.new n6)), fun u r => r, T.kit 13 j (by decide) hj, ⟨_, rfl, _, C j, _, _, rfl, rfl, T.ec j hj, (hd.same (Same.refl H |>.new n0 |>.new n1 |>.new n2 |>.new n3 |>.new n4 |>.new n5 |>.new n6)), fun u r => r, T.kit 14 j (by decide) hj, ⟨_, rfl, _, C j, _, _, rfl, rfl, T.ec j hj, (hd.same (Same.refl H |>.new n0 |>.new n1 |>.new n2 |>.new n3 |>.new n4 |>.new n5 |>.new n6)), fun u r => r, T.kit 15 j (by decide) hj, ⟨sz (by show 3 ≤ 1000; decide), fun q7 n7 => ⟨_, _, _, _, rfl, rfl, (upd_ne (ne_of_none upd_same n7)).trans upd_same, upd_same, sz (by show 16 ≤ 1000; decide), fun q8 n8 => ?_⟩⟩⟩⟩⟩⟩
    exact kk q8 _ (Same.refl H |>.new n0 |>.new n1 |>.new n2 |>.new n3 |>.new n4 |>.new n5 |>.new n6 |>.new n7 |>.new n8) ((Same.refl H |>.new n0 |>.new n1 |>.new n2 |>.new n3 |>.new n4 |>.new n5 |>.new n6 |>.new n7).free n8) (upd_same.trans rfl)
def spAttr (C : Nat → Addr) (a : Addr) (cls : Value) (d : Option Addr) : Sp := fun vs H Q _ => ∃ (j : Nat) (kd at_ cs nm : V), j < 16 ∧ cls = .ref (C j) ∧ vs = [.ref a, .int j] ∧ (j ≠ 13 → ∃ dd, d = some dd ∧ H dd = some (.xd ((flds j).zip (vals kd at_ cs nm j)).reverse)) ∧
  ∀ (q : Addr) (H' : Hp), Same H H' → H q = none → H' q = some (.lst (vals kd at_ cs nm j)) → Q (.ref q) H'
abbrev N__law_attributes : List Str := ["_law_e", "_law_k"]
theorem sc__law_attributes : FnScope N__law_attributes ["_law_e", "_law_k"] (defScope s__law_attributes) := ⟨rfl, rfl, rfl, by decide +kernel, rfl, by decide +kernel, by decide +kernel⟩
theorem ok_attributes {f : Addr} {fd : FuncData} (F : Fun K "_law_attributes" "_law_attributes" s__law_attributes f fd) (B : Bl mg) (T : Ers P w K mg base C R) {a : Addr} {oe : Obj} {cls : Value} {d : Option Addr} (hz : L2N.Zn cls d oe) (hf : ∃ vs, oe.data = .fields vs) :
    FnP P w K mg base CX0 1 f fd ["_law_e", "_law_k"] (a, oe) (spAttr C a cls d) := by
  refine F.okP sc__law_attributes (fun vs H Q E h => ?_) (fun cdv A outer s H vs Q E hr h => ?_)
  · obtain ⟨j, _, _, _, _, _, _, rfl, _⟩ := h
    rfl
  · obtain ⟨j, kd, at_, cs, nm, hj, rfl, rfl, hx, kk⟩ := h
    have hh : Held (L2H.cxH CX0 P w K mg base N__law_attributes "_law_attributes" (defScope s__law_attributes) f cdv A outer s H E (a, oe)) a (.ref (C j)) d := ⟨oe, List.mem_singleton.mpr rfl, hz.zc, hf⟩
    refine ⟨_, (pss_cons (ps_if (pt_cmpR op_lt (pv 1) pe_int (nomark _))
      (pss_one (ps_ret (pe_lst (pa_cons (pe_xk (K := K) rfl hh (pv 0)) pa_nil))))
      pss_nil)
      (pss_cons (ps_if (pt_cmpR op_lt (pv 1) pe_int (nomark _))
      (pss_one (ps_ret (pe_lst (pa_cons (pe_xk (K := K) rfl hh (pv 0)) (pa_cons (pe_xk (K := K) rfl hh (pv 0)) pa_nil)))))
      pss_nil)
      (pss_cons (ps_if (pt_cmpR op_lt (pv 1) pe_int (nomark _))
      (pss_one (ps_ret (pe_lst (pa_cons (pe_xk (K := K) rfl hh (pv 0)) pa_nil))))
      pss_nil)
      (pss_cons (ps_if (pt_cmpR op_eq (pv 1) pe_int (nomark _))
      (pss_one (ps_ret (pe_lst pa_nil)))
      pss_nil)
      (pss_cons (ps_if (pt_cmpR op_eq (pv 1) pe_int (nomark _))
      (pss_one (ps_ret (pe_lst (pa_cons (pe_xk (K := K) rfl hh (pv 0)) pa_nil))))
      pss_nil)
      (pss_one (ps_ret (pe_lst (pa_cons (pe_xk (K := K) rfl hh (pv 0)) (pa_cons (pe_xk (K := K) rfl hh (pv 0)) (pa_cons (pe_xk (K := K) rfl hh (pv 0)) (pa_cons (pe_xk (K := K) rfl hh (pv 0)) pa_nil)))))))))))), ?_⟩
    clear hh hz
    have h16 : j = 0 ∨ j = 1 ∨ j = 2 ∨ j = 3 ∨ j = 4 ∨ j = 5 ∨ j = 6 ∨ j = 7 ∨ j = 8 ∨ j = 9 ∨ j = 10 ∨ j = 11 ∨ j = 12 ∨ j = 13 ∨ j = 14 ∨ j = 15 := by omega
    rcases h16 with rfl | rfl | rfl | rfl | rfl | rfl | rfl | rfl | rfl | rfl | rfl | rfl | rfl | rfl | rfl | rfl
    · skip
      obtain ⟨dd, hdd, hfs⟩ := hx (by decide)
      refine ⟨_, rfl, _, _, rfl, rfl, _, rfl, iteY (by decide) ?_⟩
      exact ⟨_, rfl, rfl, C 0, dd, _, nm, rfl, T.xf 0 (by decide), T.no 0 (by decide) "name" (by decide +kernel), hdd, hfs, by first | rfl | kernel_rfl, ⟨size16 (by show 1 ≤ 10000; decide), fun q nq => kk q _ ((Same.refl H).new nq) nq upd_same⟩⟩
    · skip
      obtain ⟨dd, hdd, hfs⟩ := hx (by decide)
      refine ⟨_, rfl, _, _, rfl, rfl, _, rfl, iteY (by decide) ?_⟩
      exact ⟨_, rfl, rfl, C 1, dd, _, nm, rfl, T.xf 1 (by decide), T.no 1 (by decide) "name" (by decide +kernel), hdd, hfs, by first | rfl | kernel_rfl, ⟨size16 (by show 1 ≤ 10000; decide), fun q nq => kk q _ ((Same.refl H).new nq) nq upd_same⟩⟩
    · skip
      obtain ⟨dd, hdd, hfs⟩ := hx (by decide)
      refine ⟨_, rfl, _, _, rfl, rfl, _, rfl, iteY (by decide) ?_⟩
      exact ⟨_, rfl, rfl, C 2, dd, _, nm, rfl, T.xf 2 (by decide), T.no 2 (by decide) "name" (by decide +kernel), hdd, hfs, by first | rfl | kernel_rfl, ⟨size16 (by show 1 ≤ 10000; decide), fun q nq => kk q _ ((Same.refl H).new nq) nq upd_same⟩⟩
    · skip
      obtain ⟨dd, hdd, hfs⟩ := hx (by decide)
      refine ⟨_, rfl, _, _, rfl, rfl, _, rfl, iteY (by decide) ?_⟩
      exact ⟨_, rfl, rfl, C 3, dd, _, nm, rfl, T.xf 3 (by decide), T.no 3 (by decide) "name" (by decide +kernel), hdd, hfs, by first | rfl | kernel_rfl, ⟨size16 (by show 1 ≤ 10000; decide), fun q nq => kk q _ ((Same.refl H).new nq) nq upd_same⟩⟩
    · skip
      obtain ⟨dd, hdd, hfs⟩ := hx (by decide)
      refine ⟨_, rfl, _, _, rfl, rfl, _, rfl, iteY (by decide) ?_⟩
      exact ⟨_, rfl, rfl, C 4, dd, _, nm, rfl, T.xf 4 (by decide), T.no 4 (by decide) "name" (by decide +kernel), hdd, hfs, by first | rfl | kernel_rfl, ⟨size16 (by show 1 ≤ 10000; decide), fun q nq => kk q _ ((Same.refl H).new nq) nq upd_same⟩⟩
    · skip
      obtain ⟨dd, hdd, hfs⟩ := hx (by decide)
      refine ⟨_, rfl, _, _, rfl, rfl, _, rfl, iteY (by decide) ?_⟩
      exact ⟨_, rfl, rfl, C 5, dd, _, nm, rfl, T.xf 5 (by decide), T.no 5 (by decide) "name" (by decide +kernel), hdd, hfs, by first | rfl | kernel_rfl, ⟨size16 (by show 1 ≤ 10000; decide), fun q nq => kk q _ ((Same.refl H).new nq) nq upd_same⟩⟩
    · skip
      obtain ⟨dd, hdd, hfs⟩ := hx (by decide)
      refine ⟨_, rfl, _, _, rfl, rfl, _, rfl, iteY (by decide) ?_⟩
      exact ⟨_, rfl, rfl, C 6, dd, _, nm, rfl, T.xf 6 (by decide), T.no 6 (by decide) "name" (by decide +kernel), hdd, hfs, by first | rfl | kernel_rfl, ⟨size16 (by show 1 ≤ 10000; decide), fun q nq => kk q _ ((Same.refl H).new nq) nq upd_same⟩⟩
    · skip
      obtain ⟨dd, hdd, hfs⟩ := hx (by decide)
      refine ⟨_, rfl, _, _, rfl, rfl, _, rfl, iteN (by decide) ?_⟩
      refine ⟨_, rfl, _, _, rfl, rfl, _, rfl, iteY (by decide) ?_⟩
      exact ⟨_, rfl, rfl, C 7, dd, _, nm, rfl, T.xf 7 (by decide), T.no 7 (by decide) "name" (by decide +kernel), hdd, hfs, by first | rfl | kernel_rfl, ⟨_, rfl, rfl, C 7, dd, _, at_, rfl, T.xf 7 (by decide), T.no 7 (by decide) "at" (by decide +kernel), hdd, hfs, by first | rfl | kernel_rfl, ⟨size16 (by show 2 ≤ 10000; decide), fun q nq => kk q _ ((Same.refl H).new nq) nq upd_same⟩⟩⟩
    · skip
      obtain ⟨dd, hdd, hfs⟩ := hx (by decide)
      refine ⟨_, rfl, _, _, rfl, rfl, _, rfl, iteN (by decide) ?_⟩
      refine ⟨_, rfl, _, _, rfl, rfl, _, rfl, iteY (by decide) ?_⟩
      exact ⟨_, rfl, rfl, C 8, dd, _, nm, rfl, T.xf 8 (by decide), T.no 8 (by decide) "name" (by decide +kernel), hdd, hfs, by first | rfl | kernel_rfl, ⟨_, rfl, rfl, C 8, dd, _, at_, rfl, T.xf 8 (by decide), T.no 8 (by decide) "at" (by decide +kernel), hdd, hfs, by first | rfl | kernel_rfl, ⟨size16 (by show 2 ≤ 10000; decide), fun q nq => kk q _ ((Same.refl H).new nq) nq upd_same⟩⟩⟩
    · skip
      obtain ⟨dd, hdd, hfs⟩ := hx (by decide)
      refine ⟨_, rfl, _, _, rfl, rfl, _, rfl, iteN (by decide) ?_⟩
      refine ⟨_, rfl, _, _, rfl, rfl, _, rfl, iteY (by decide) ?_⟩
      exact ⟨_, rfl, rfl, C 9, dd, _, nm, rfl, T.xf 9 (by decide), T.no 9 (by decide) "name" (by decide +kernel), hdd, hfs, by first | rfl | kernel_rfl, ⟨_, rfl, rfl, C 9, dd, _, at_, rfl, T.xf 9 (by decide), T.no 9 (by decide) "at" (by decide +kernel), hdd, hfs, by first | rfl | kernel_rfl, ⟨size16 (by show 2 ≤ 10000; decide), fun q nq => kk q _ ((Same.refl H).new nq) nq upd_same⟩⟩⟩
    · skip
      obtain ⟨dd, hdd, hfs⟩ := hx (by decide)
      refine ⟨_, rfl, _, _, rfl, rfl, _, rfl, iteN (by decide) ?_⟩
      refine ⟨_, rfl, _, _, rfl, rfl, _, rfl, iteN (by decide) ?_⟩
      refine ⟨_, rfl, _, _, rfl, rfl, _, rfl, iteY (by decide) ?_⟩
      exact ⟨_, rfl, rfl, C 10, dd, _, at_, rfl, T.xf 10 (by decide), T.no 10 (by decide) "at" (by decide +kernel), hdd, hfs, by first | rfl | kernel_rfl, ⟨size16 (by show 1 ≤ 10000; decide), fun q nq => kk q _ ((Same.refl H).new nq) nq upd_same⟩⟩
    · skip
      obtain ⟨dd, hdd, hfs⟩ := hx (by decide)
      refine ⟨_, rfl, _, _, rfl, rfl, _, rfl, iteN (by decide) ?_⟩
      refine ⟨_, rfl, _, _, rfl, rfl, _, rfl, iteN (by decide) ?_⟩
      refine ⟨_, rfl, _, _, rfl, rfl, _, rfl, iteY (by decide) ?_⟩
      exact ⟨_, rfl, rfl, C 11, dd, _, at_, rfl, T.xf 11 (by decide), T.no 11 (by decide) "at" (by decide +kernel), hdd, hfs, by first | rfl | kernel_rfl, ⟨size16 (by show 1 ≤ 10000; decide), fun q nq => kk q _ ((Same.refl H).new nq) nq upd_same⟩⟩
    · skip
      obtain ⟨dd, hdd, hfs⟩ := hx (by decide)
      refine ⟨_, rfl, _, _, rfl, rfl, _, rfl, iteN (by decide) ?_⟩
      refine ⟨_, rfl, _, _, rfl, rfl, _, rfl, iteN (by decide) ?_⟩
      refine ⟨_, rfl, _, _, rfl, rfl, _, rfl, iteY (by decide) ?_⟩
      exact ⟨_, rfl, rfl, C 12, dd, _, at_, rfl, T.xf 12 (by decide), T.no 12 (by decide) "at" (by decide +kernel), hdd, hfs, by first | rfl | kernel_rfl, ⟨size16 (by show 1 ≤ 10000; decide), fun q nq => kk q _ ((Same.refl H).new nq) nq upd_same⟩⟩
    · skip
      refine ⟨_, rfl, _, _, rfl, rfl, _, rfl, iteN (by decide) ?_⟩
      refine ⟨_, rfl, _, _, rfl, rfl, _, rfl, iteN (by decide) ?_⟩
      refine ⟨_, rfl, _, _, rfl, rfl, _, rfl, iteN (by decide) ?_⟩
      refine ⟨_, rfl, rfl, _, rfl, iteY (by decide) ?_⟩
      exact ⟨size16 (by show 0 ≤ 10000; decide), fun q nq => kk q _ ((Same.refl H).new nq) nq upd_same⟩
    · skip
      obtain ⟨dd, hdd, hfs⟩ := hx (by decide)
      refine ⟨_, rfl, _, _, rfl, rfl, _, rfl, iteN (by decide) ?_⟩
      refine ⟨_, rfl, _, _, rfl, rfl, _, rfl, iteN (by decide) ?_⟩
      refine ⟨_, rfl, _, _, rfl, rfl, _, rfl, iteN (by decide) ?_⟩
      refine ⟨_, rfl, rfl, _, rfl, iteN (by decide) ?_⟩
      refine ⟨_, rfl, rfl, _, rfl, iteY (by decide) ?_⟩
      exact ⟨_, rfl, rfl, C 14, dd, _, cs, rfl, T.xf 14 (by decide), T.no 14 (by decide) "arguments" (by decide +kernel), hdd, hfs, by first | rfl | kernel_rfl, ⟨size16 (by show 1 ≤ 10000; decide), fun q nq => kk q _ ((Same.refl H).new nq) nq upd_same⟩⟩
    · skip
      obtain ⟨dd, hdd, hfs⟩ := hx (by decide)
      refine ⟨_, rfl, _, _, rfl, rfl, _, rfl, iteN (by decide) ?_⟩
      refine ⟨_, rfl, _, _, rfl, rfl, _, rfl, iteN (by decide) ?_⟩
      refine ⟨_, rfl, _, _, rfl, rfl, _, rfl, iteN (by decide) ?_⟩
      refine ⟨_, rfl, rfl, _, rfl, iteN (by decide) ?_⟩
      refine ⟨_, rfl, rfl, _, rfl, iteN (by decide) ?_⟩
      exact ⟨_, rfl, rfl, C 15, dd, _, kd, rfl, T.xf 15 (by decide), T.no 15 (by decide) "kind" (by decide +kernel), hdd, hfs, by first | rfl | kernel_rfl, ⟨_, rfl, rfl, C 15, dd, _, at_, rfl, T.xf 15 (by decide), T.no 15 (by decide) "at" (by decide +kernel), hdd, hfs, by first | rfl | kernel_rfl, ⟨_, rfl, rfl, C 15, dd, _, cs, rfl, T.xf 15 (by decide), T.no 15 (by decide) "calls" (by decide +kernel), hdd, hfs, by first | rfl | kernel_rfl, ⟨_, rfl, rfl, C 15, dd, _, nm, rfl, T.xf 15 (by decide), T.no 15 (by decide) "name" (by decide +kernel), hdd, hfs, by first | rfl | kernel_rfl, ⟨size16 (by show 4 ≤ 10000; decide), fun q nq => kk q _ ((Same.refl H).new nq) nq upd_same⟩⟩⟩⟩⟩
def spDue : Sp := fun vs H Q _ => ∃ (j : Nat) (kd at_ cs nm : V), j < 16 ∧ vs = [.int j, kd, at_, cs, nm] ∧ ∀ (q : Addr) (H' : Hp), Same H H' → H q = none → H' q = some (.lst (vals kd at_ cs nm j)) → Q (.ref q) H'
abbrev N__law_due : List Str := ["_law_k", "_law_kind", "_law_at", "_law_calls", "_law_name"]
theorem sc__law_due : FnScope N__law_due ["_law_k", "_law_kind", "_law_at", "_law_calls", "_law_name"] (defScope s__law_due) := ⟨rfl, rfl, rfl, by decide +kernel, rfl, by decide +kernel, by decide +kernel⟩
theorem ok_due {f : Addr} {fd : FuncData} {p : Addr × Obj} (F : Fun K "_law_due" "_law_due" s__law_due f fd) (B : Bl mg) : FnP P w K mg base CX0 1 f fd ["_law_k", "_law_kind", "_law_at", "_law_calls", "_law_name"] p spDue := by
  refine F.okP sc__law_due (fun vs H Q E h => ?_) (fun cdv A outer s H vs Q E hr h => ?_)
  · obtain ⟨j, _, _, _, _, _, rfl, _⟩ := h
    rfl
  · obtain ⟨j, kd, at_, cs, nm, hj, rfl, kk⟩ := h
    refine ⟨_, (pss_cons (ps_if (pt_cmpR op_lt (pv 0) pe_int (nomark _))
      (pss_one (ps_ret (pe_lst (pa_cons (pv 4) pa_nil))))
      pss_nil)
      (pss_cons (ps_if (pt_cmpR op_lt (pv 0) pe_int (nomark _))
      (pss_one (ps_ret (pe_lst (pa_cons (pv 4) (pa_cons (pv 2) pa_nil)))))
      pss_nil)
      (pss_cons (ps_if (pt_cmpR op_lt (pv 0) pe_int (nomark _))
      (pss_one (ps_ret (pe_lst (pa_cons (pv 2) pa_nil))))
      pss_nil)
      (pss_cons (ps_if (pt_cmpR op_eq (pv 0) pe_int (nomark _))
      (pss_one (ps_ret (pe_lst pa_nil)))
      pss_nil)
      (pss_one (ps_ret (pe_ifExp (pt_cmpR op_eq (pv 0) pe_int (nomark _)) (pe_lst (pa_cons (pv 3) pa_nil)) (pe_lst (pa_cons (pv 1) (pa_cons (pv 2) (pa_cons (pv 3) (pa_cons (pv 4) pa_nil)))))))))))), ?_⟩
    have h16 : j = 0 ∨ j = 1 ∨ j = 2 ∨ j = 3 ∨ j = 4 ∨ j = 5 ∨ j = 6 ∨ j = 7 ∨ j = 8 ∨ j = 9 ∨ j = 10 ∨ j = 11 ∨ j = 12 ∨ j = 13 ∨ j = 14 ∨ j = 15 := by omega
    rcases h16 with rfl | rfl | rfl | rfl | rfl | rfl | rfl | rfl | rfl | rfl | rfl | rfl | rfl | rfl | rfl | rfl
    · skip
      refine ⟨_, rfl, _, _, rfl, rfl, _, rfl, iteY (by decide) ?_⟩
      exact ⟨_, rfl, ⟨size16 (by show 1 ≤ 10000; decide), fun q nq => kk q _ ((Same.refl H).new nq) nq upd_same⟩⟩
    · skip
      refine ⟨_, rfl, _, _, rfl, rfl, _, rfl, iteY (by decide) ?_⟩
      exact ⟨_, rfl, ⟨size16 (by show 1 ≤ 10000; decide), fun q nq => kk q _ ((Same.refl H).new nq) nq upd_same⟩⟩
    · skip
      refine ⟨_, rfl, _, _, rfl, rfl, _, rfl, iteY (by decide) ?_⟩
      exact ⟨_, rfl, ⟨size16 (by show 1 ≤ 10000; decide), fun q nq => kk q _ ((Same.refl H).new nq) nq upd_same⟩⟩
    · skip
      refine ⟨_, rfl, _, _, rfl, rfl, _, rfl, iteY (by decide) ?_⟩
      exact ⟨_, rfl, ⟨size16 (by show 1 ≤ 10000; decide), fun q nq => kk q _ ((Same.refl H).new nq) nq upd_same⟩⟩
    · skip
      refine ⟨_, rfl, _, _, rfl, rfl, _, rfl, iteY (by decide) ?_⟩
      exact ⟨_, rfl, ⟨size16 (by show 1 ≤ 10000; decide), fun q nq => kk q _ ((Same.refl H).new nq) nq upd_same⟩⟩
    · skip
      refine ⟨_, rfl, _, _, rfl, rfl, _, rfl, iteY (by decide) ?_⟩
      exact ⟨_, rfl, ⟨size16 (by show 1 ≤ 10000; decide), fun q nq => kk q _ ((Same.refl H).new nq) nq upd_same⟩⟩
    · skip
      refine ⟨_, rfl, _, _, rfl, rfl, _, rfl, iteY (by decide) ?_⟩
      exact ⟨_, rfl, ⟨size16 (by show 1 ≤ 10000; decide), fun q nq => kk q _ ((Same.refl H).new nq) nq upd_same⟩⟩
    · skip
      refine ⟨_, rfl, _, _, rfl, rfl, _, rfl, iteN (by decide) ?_⟩
      refine ⟨_, rfl, _, _, rfl, rfl, _, rfl, iteY (by decide) ?_⟩
      exact ⟨_, rfl, ⟨_, rfl, ⟨size16 (by show 2 ≤ 10000; decide), fun q nq => kk q _ ((Same.refl H).new nq) nq upd_same⟩⟩⟩
    · skip
      refine ⟨_, rfl, _, _, rfl, rfl, _, rfl, iteN (by decide) ?_⟩
      refine ⟨_, rfl, _, _, rfl, rfl, _, rfl, iteY (by decide) ?_⟩
      exact ⟨_, rfl, ⟨_, rfl, ⟨size16 (by show 2 ≤ 10000; decide), fun q nq => kk q _ ((Same.refl H).new nq) nq upd_same⟩⟩⟩
    · skip
      refine ⟨_, rfl, _, _, rfl, rfl, _, rfl, iteN (by decide) ?_⟩
      refine ⟨_, rfl, _, _, rfl, rfl, _, rfl, iteY (by decide) ?_⟩
      exact ⟨_, rfl, ⟨_, rfl, ⟨size16 (by show 2 ≤ 10000; decide), fun q nq => kk q _ ((Same.refl H).new nq) nq upd_same⟩⟩⟩
    · skip
      refine ⟨_, rfl, _, _, rfl, rfl, _, rfl, iteN (by decide) ?_⟩
      refine ⟨_, rfl, _, _, rfl, rfl, _, rfl, iteN (by decide) ?_⟩
      refine ⟨_, rfl, _, _, rfl, rfl, _, rfl, iteY (by decide) ?_⟩
      exact ⟨_, rfl, ⟨size16 (by show 1 ≤ 10000; decide), fun q nq => kk q _ ((Same.refl H).new nq) nq upd_same⟩⟩
    · skip
      refine ⟨_, rfl, _, _, rfl, rfl, _, rfl, iteN (by decide) ?_⟩
      refine ⟨_, rfl, _, _, rfl, rfl, _, rfl, iteN (by decide) ?_⟩
      refine ⟨_, rfl, _, _, rfl, rfl, _, rfl, iteY (by decide) ?_⟩
      exact ⟨_, rfl, ⟨size16 (by show 1 ≤ 10000; decide), fun q nq => kk q _ ((Same.refl H).new nq) nq upd_same⟩⟩
    · skip
      refine ⟨_, rfl, _, _, rfl, rfl, _, rfl, iteN (by decide) ?_⟩
      refine ⟨_, rfl, _, _, rfl, rfl, _, rfl, iteN (by decide) ?_⟩
      refine ⟨_, rfl, _, _, rfl, rfl, _, rfl, iteY (by decide) ?_⟩
      exact ⟨_, rfl, ⟨size16 (by show 1 ≤ 10000; decide), fun q nq => kk q _ ((Same.refl H).new nq) nq upd_same⟩⟩
    · skip
      refine ⟨_, rfl, _, _, rfl, rfl, _, rfl, iteN (by decide) ?_⟩
      refine ⟨_, rfl, _, _, rfl, rfl, _, rfl, iteN (by decide) ?_⟩
      refine ⟨_, rfl, _, _, rfl, rfl, _, rfl, iteN (by decide) ?_⟩
      refine ⟨_, rfl, rfl, _, rfl, iteY (by decide) ?_⟩
      exact ⟨size16 (by show 0 ≤ 10000; decide), fun q nq => kk q _ ((Same.refl H).new nq) nq upd_same⟩
    · skip
      refine ⟨_, rfl, _, _, rfl, rfl, _, rfl, iteN (by decide) ?_⟩
      refine ⟨_, rfl, _, _, rfl, rfl, _, rfl, iteN (by decide) ?_⟩
      refine ⟨_, rfl, _, _, rfl, rfl, _, rfl, iteN (by decide) ?_⟩
      refine ⟨_, rfl, rfl, _, rfl, iteN (by decide) ?_⟩
      exact ⟨_, rfl, rfl, _, rfl, iteY (by decide) ⟨_, rfl, ⟨size16 (by show 1 ≤ 10000; decide), fun q nq => kk q _ ((Same.refl H).new nq) nq upd_same⟩⟩⟩
    · skip
      refine ⟨_, rfl, _, _, rfl, rfl, _, rfl, iteN (by decide) ?_⟩
      refine ⟨_, rfl, _, _, rfl, rfl, _, rfl, iteN (by decide) ?_⟩
      refine ⟨_, rfl, _, _, rfl, rfl, _, rfl, iteN (by decide) ?_⟩
      refine ⟨_, rfl, rfl, _, rfl, iteN (by decide) ?_⟩
      exact ⟨_, rfl, rfl, _, rfl, iteN (by decide) ⟨_, rfl, ⟨_, rfl, ⟨_, rfl, ⟨_, rfl, ⟨size16 (by show 4 ≤ 10000; decide), fun q nq => kk q _ ((Same.refl H).new nq) nq upd_same⟩⟩⟩⟩⟩⟩
/-! ### caught -/
def Dt (K : PySem.W.Frag) (H : Hp) (v : V) : Prop := ∃ d, Dp K H v d ∧ d.canLay0 = true ∧ d.depth ≤ 1
theorem dt_all {H : Hp} : ∀ {vs : List V}, (∀ v ∈ vs, Dt K H v) → ∃ ds, DpAll K H vs ds ∧ PyData.canLayAll0 ds = true ∧ PyData.depthAll ds ≤ 1
  | [], _ => ⟨[], .nil, rfl, Nat.zero_le _⟩
  | v :: vs, h => by
    obtain ⟨d, h1, h2, h3⟩ := h v List.mem_cons_self
    obtain ⟨ds, g1, g2, g3⟩ := dt_all fun u hu => h u (List.mem_cons_of_mem _ hu)
    exact ⟨d :: ds, .cons h1 g1, by show (d.canLay0 && PyData.canLayAll0 ds) = true; rw [h2, g2]; rfl, by show max d.depth (PyData.depthAll ds) ≤ 1; exact Nat.max_le.mpr ⟨h3, g3⟩⟩
/-- two lists of the same items are equal -/
theorem same_lists {H : Hp} {p q : Addr} {vs : List V} (hp : H p = some (.lst vs)) (hq : H q = some (.lst vs)) (h : ∀ v ∈ vs, Dt K H v) : ∃ d e, Dp K H (.ref p) d ∧ Dp K H (.ref q) e ∧ SeqAt.shaped d = true ∧ SeqAt.shaped e = true ∧ PyData.eqv d e = true := by
  obtain ⟨ds, g1, g2, g3⟩ := dt_all h
  have c : (PyData.list ds).canLay0 = true := g2
  have sh : SeqAt.shaped (.list ds) = true := by
    unfold SeqAt.shaped
    rw [c]
    have : (PyData.list ds).depth ≤ 64 := by show PyData.depthAll ds + 1 ≤ 64; omega
    simp [this]
  exact ⟨_, _, .lst (SqL.of hp) g1, .lst (SqL.of hq) g1, sh, sh, SeqAt.eqv_refl _ c⟩
theorem vals_in {kd at_ cs nm v : V} {j : Nat} (h : v ∈ vals kd at_ cs nm j) : v ∈ [kd, at_, cs, nm] := by
  unfold vals at h
  split at h
  all_goals first
    | (simp at h; done)
    | (simp at h; subst h; simp; done)
    | (simp at h; rcases h with h | h <;> subst h <;> simp; done)
    | (simp at h; rcases h with h | h | h | h <;> subst h <;> simp; done)
theorem int_dec {i j : Nat} : decide (V.int (0 + (i : Int)) = V.int (j : Int)) = decide (i = j) := by
  by_cases h : i = j
  · subst h
    simp
  · have : ¬ V.int (0 + (i : Int)) = V.int (j : Int) := fun z => by
      injection z with z
      omega
    rw [decide_eq_false this, decide_eq_false h]
def spCaught (K : PySem.W.Frag) : Sp := fun vs H Q _ => ∃ (j : Nat) (kd at_ cs nm : V), vs = [.int j, kd, at_, cs, nm] ∧ j < 16 ∧ (∀ v ∈ [kd, at_, cs, nm], ∀ H', Same H H' → Dt K H' v) ∧ ∀ H', Same H H' → Q (.bl true) H'
abbrev N__law_caught : List Str := ["_law_k", "_law_kind", "_law_at", "_law_calls", "_law_name", "_law_e", "_law_j"]
theorem sc__law_caught : FnScope N__law_caught ["_law_k", "_law_kind", "_law_at", "_law_calls", "_law_name"] (defScope s__law_caught) := ⟨rfl, rfl, rfl, by decide +kernel, rfl, by decide +kernel, by decide +kernel⟩
theorem ok_caught {f f1 f2 f3 f4 f5 : Addr} {fd fd1 fd2 fd3 fd4 fd5 : FuncData} (F : Fun K "_law_caught" "_law_caught" s__law_caught f fd) (B : Bl mg) (T : Ers P w K mg base C R)
    (G__law_raise_named : Fd P w K mg base (L2N.CX P w) 4 "_law_raise_named" ["_law_k", "_law_name", "_law_at"] (spNamed C) f1 fd1)
    (G__law_raise_other : Fd P w K mg base (L2N.CX P w) 4 "_law_raise_other" ["_law_k", "_law_kind", "_law_at", "_law_calls", "_law_name"] (spOther C) f2 fd2)
    (G__law_classes : Fx K mg "_law_classes" ["_law_e"] f3 fd3) (O3 : ∀ {a : Addr} {oe : Obj} {cls : Value} {d : Option Addr}, L2N.Zn cls d oe → (∃ vs, oe.data = .fields vs) → FnP P w K mg base CX0 1 f3 fd3 ["_law_e"] (a, oe) (spClasses C a cls d))
    (G__law_attributes : Fx K mg "_law_attributes" ["_law_e", "_law_k"] f4 fd4) (O4 : ∀ {a : Addr} {oe : Obj} {cls : Value} {d : Option Addr}, L2N.Zn cls d oe → (∃ vs, oe.data = .fields vs) → FnP P w K mg base CX0 1 f4 fd4 ["_law_e", "_law_k"] (a, oe) (spAttr C a cls d))
    (G__law_due : Fx K mg "_law_due" ["_law_k", "_law_kind", "_law_at", "_law_calls", "_law_name"] f5 fd5) (O5 : ∀ {p : Addr × Obj}, FnP P w K mg base CX0 1 f5 fd5 ["_law_k", "_law_kind", "_law_at", "_law_calls", "_law_name"] p spDue) :
    FnOk P w K mg base CX0 6 f fd ["_law_k", "_law_kind", "_law_at", "_law_calls", "_law_name"] (spCaught K) := by
  refine F.ok sc__law_caught (fun vs H Q E h => ?_) (fun cdv A outer s H vs Q E hr h => ?_)
  · obtain ⟨j, kd, at_, cs, nm, rfl, _⟩ := h
    rfl
  · obtain ⟨j, kd, at_, cs, nm, rfl, hj, hdt, kk⟩ := h
    refine ⟨_, (pss_cons (L2N.ps_try_as (i := 5) rfl rfl sc__law_caught.nd rfl rfl ⟨rfl, by decide, Or.inl T.mgR⟩ takesN (fun W pn xe tk _ => (pss_one (ps_if (pt_cmpR op_lt (pv 0) pe_int (nomark _))
      (pss_one (ps_expr (pe_callS G__law_raise_named.ok (hr.mono (by decide)) (by rfl) G__law_raise_named.mg G__law_raise_named.kp G__law_raise_named.bd (fun σ => L2N.passAt tk σ) (pa_cons (pv 0) (pa_cons (pv 4) (pa_cons (pv 2) pa_nil))))))
      (pss_one (ps_expr (pe_callS G__law_raise_other.ok (hr.mono (by decide)) (by rfl) G__law_raise_other.mg G__law_raise_other.kp G__law_raise_other.bd (fun σ => L2N.passAt tk σ) (pa_cons (pv 0) (pa_cons (pv 1) (pa_cons (pv 2) (pa_cons (pv 3) (pa_cons (pv 4) pa_nil)))))))))))
      (fun a oe cls d pn hz hf => (pss_cons (ps_if (PW.pt (pw_or (pt_not (pt_val (pe_callB (call_isK (K := K) rfl (held_suite hz hf)) (by rfl) B.isinstance b_isinstance (pa_cons (pv 5) (pa_cons (pe_bltn (v := .ty "ValueError") (by rfl) B.ValueError b_ValueError rfl) pa_nil))))) (pw_or1 (pt_cmpR (op_neK (K := K) rfl hr.units) (pe_callP (O3 hz hf) (roomS (hr.mono (by decide))) List.mem_cons_self G__law_classes.mg G__law_classes.kp G__law_classes.bd (pa_cons (pv 5) pa_nil)) (L2H.pe_lcH (p := (a, oe)) (own := [("_law_j", 6)]) (g := gName 6) ⟨rfl, _, hf.choose_spec, hz.2.2 _ hf.choose_spec⟩ List.mem_cons_self sc__law_caught.nd (L2H.pi_range1H (by rfl) B.range (pa_cons pe_int pa_nil)) (blkOk_by (own := [("_law_j", 6)]) (N := N__law_caught) (sc := defScope s__law_caught) (by decide +kernel)) (fun _ _ _ _ _ => pg_name (i := 6) sc__law_caught.nd rfl (Or.inl rfl)) (fun _ _ _ _ _ => (pe_cmpR op_eq (pv 6) (pv 0) (nomark _)))) (nomark _)))))
      (pss_one (ps_ret pe_bl))
      pss_nil)
      (pss_one (ps_ret (pe_cmpR (op_eqK (K := K) rfl hr.units) (pe_callP (O4 hz hf) (roomS (hr.mono (by decide))) List.mem_cons_self G__law_attributes.mg G__law_attributes.kp G__law_attributes.bd (pa_cons (pv 5) (pa_cons (pv 0) pa_nil))) (pe_callP (O5) (roomS (hr.mono (by decide))) List.mem_cons_self G__law_due.mg G__law_due.kp G__law_due.bd (pa_cons (pv 0) (pa_cons (pv 1) (pa_cons (pv 2) (pa_cons (pv 3) (pa_cons (pv 4) pa_nil)))))) (nomark _)))))))
      (pss_one (ps_ret pe_bl))), ?_⟩
    have suite : ∀ (d : Option Addr) (H1 : Hp), Same H H1 → HD d H1 → (j ≠ 13 → ∃ dd, d = some dd ∧ H1 dd = some (.xd ((flds j).zip (vals kd at_ cs nm j)).reverse)) → True := fun _ _ _ _ _ => trivial
    clear suite
    refine ⟨_, rfl, _, _, rfl, rfl, _, rfl, ite2 (fun c => ?_) (fun c => ?_)⟩
    · have c' : (j : Int) < 10 := of_decide_eq_true c
      refine ⟨_, rfl, _, rfl, _, rfl, j, nm, at_, rfl, by omega, fun d0 n0 => ⟨true, T.exm j hj, fun _ a ha => ?_, fun z => nomatch z⟩⟩
      have s1 : Same H (upd H d0 (.xd ((flds j).zip (vals .non at_ .non nm j)).reverse)) := (Same.refl H).new n0
      have hx : j ≠ 13 → ∃ dd, some d0 = some dd ∧ (upd H d0 (.xd ((flds j).zip (vals .non at_ .non nm j)).reverse)) dd = some (.xd ((flds j).zip (vals kd at_ cs nm j)).reverse) := fun _ => ⟨d0, rfl, by
        rw [upd_same]
        have : j = 0 ∨ j = 1 ∨ j = 2 ∨ j = 3 ∨ j = 4 ∨ j = 5 ∨ j = 6 ∨ j = 7 ∨ j = 8 ∨ j = 9 := by omega
        rcases this with rfl | rfl | rfl | rfl | rfl | rfl | rfl | rfl | rfl | rfl <;> rfl⟩
      have hd : HD (some d0) (upd H d0 (.xd ((flds j).zip (vals .non at_ .non nm j)).reverse)) := fun dd e => by cases e; exact ⟨_, upd_same⟩
      generalize upd H d0 (.xd ((flds j).zip (vals .non at_ .non nm j)).reverse) = H1 at *
      refine ⟨_, rfl, _, C j, _, _, rfl, rfl, T.ec j hj, hd, fun u r => r, T.kve j hj, _, rfl, iteN rfl ?_⟩
      refine ⟨_, rfl, j, hj, rfl, rfl, hd, fun q1 H2 s2 n2 l2 => ?_⟩
      refine ⟨16, rfl, by decide, by decide, fun D nD => lc_range (lo := 0) (n := 16) (fun i H' => H' = upd H2 D (.lst ((List.range i).map fun i => V.bl (decide (i = j))))) rfl ?_ ?_⟩
      · rintro i H' hi rfl
        refine ⟨rfl, _, rfl, _, rfl, rfl, _, upd_same, ?_, ?_⟩
        · rw [List.length_map, List.length_range]
          exact small1000 (by omega)
        · show upd (upd H2 D _) D (.lst (_ ++ [V.bl (decide (V.int (0 + (i : Int)) = V.int (j : Int)))])) = _
          rw [upd_upd, List.range_succ, List.map_append, int_dec]
          rfl
      · rintro H' rfl
        obtain ⟨d1, e1, a1, a2, a3, a4, a5⟩ := same_lists (K := K) (H := upd H2 D (.lst ((List.range 16).map fun i => V.bl (decide (i = j))))) (p := q1) (q := D) ((upd_ne (ne_of_none l2 nD)).trans l2) upd_same (fun v hv => by
          obtain ⟨i, _, rfl⟩ := List.mem_map.mp hv
          exact ⟨_, .bl _, rfl, Nat.zero_le _⟩)
        refine ⟨d1, e1, a1, a2, a3, a4, _, rfl, ?_⟩
        refine iteN (by rw [a5]; rfl) ?_
        have s3 : Same H1 (upd H2 D (.lst ((List.range 16).map fun i => V.bl (decide (i = j))))) := s2.new nD
        refine ⟨_, rfl, _, rfl, j, kd, at_, cs, nm, hj, rfl, rfl, fun z => (hx z).imp fun dd w => ⟨w.1, s3 _ _ w.2⟩, fun q3 H3 s4 n3 l3 => ⟨_, rfl, _, rfl, _, rfl, _, rfl, _, rfl, j, kd, at_, cs, nm, hj, rfl, fun q4 H4 s5 n4 l4 => ?_⟩⟩
        have sA : Same H H4 := s1.trans (s3.trans (s4.trans s5))
        obtain ⟨d2, e2, b1, b2, b3, b4, b5⟩ := same_lists (K := K) (s5 _ _ l3) l4 (fun v hv => hdt v (vals_in hv) H4 sA)
        refine ⟨d2, e2, b1, b2, b3, b4, ?_⟩
        rw [b5]
        exact kk H4 sA
    · have c' : ¬ (j : Int) < 10 := fun z => c (decide_eq_true z)
      refine ⟨_, rfl, _, rfl, _, rfl, _, rfl, _, rfl, j, kd, at_, cs, nm, rfl, by omega, hj, fun j13 d0 n0 => ⟨true, T.exm j hj, fun _ a ha => ?_, fun z => nomatch z⟩, fun j13 => ⟨true, T.exm j hj, fun _ a ha => ?_, fun z => nomatch z⟩⟩
      · have s1 : Same H (upd H d0 (.xd ((flds j).zip (vals kd at_ cs nm j)).reverse)) := (Same.refl H).new n0
        have hx : j ≠ 13 → ∃ dd, some d0 = some dd ∧ (upd H d0 (.xd ((flds j).zip (vals kd at_ cs nm j)).reverse)) dd = some (.xd ((flds j).zip (vals kd at_ cs nm j)).reverse) := fun _ => ⟨d0, rfl, upd_same⟩
        have hd : HD (some d0) (upd H d0 (.xd ((flds j).zip (vals kd at_ cs nm j)).reverse)) := fun dd e => by cases e; exact ⟨_, upd_same⟩
        generalize upd H d0 (.xd ((flds j).zip (vals kd at_ cs nm j)).reverse) = H1 at *
        refine ⟨_, rfl, _, C j, _, _, rfl, rfl, T.ec j hj, hd, fun u r => r, T.kve j hj, _, rfl, iteN rfl ?_⟩
        refine ⟨_, rfl, j, hj, rfl, rfl, hd, fun q1 H2 s2 n2 l2 => ?_⟩
        refine ⟨16, rfl, by decide, by decide, fun D nD => lc_range (lo := 0) (n := 16) (fun i H' => H' = upd H2 D (.lst ((List.range i).map fun i => V.bl (decide (i = j))))) rfl ?_ ?_⟩
        · rintro i H' hi rfl
          refine ⟨rfl, _, rfl, _, rfl, rfl, _, upd_same, ?_, ?_⟩
          · rw [List.length_map, List.length_range]
            exact small1000 (by omega)
          · show upd (upd H2 D _) D (.lst (_ ++ [V.bl (decide (V.int (0 + (i : Int)) = V.int (j : Int)))])) = _
            rw [upd_upd, List.range_succ, List.map_append, int_dec]
            rfl
        · rintro H' rfl
          obtain ⟨d1, e1, a1, a2, a3, a4, a5⟩ := same_lists (K := K) (H := upd H2 D (.lst ((List.range 16).map fun i => V.bl (decide (i = j))))) (p := q1) (q := D) ((upd_ne (ne_of_none l2 nD)).trans l2) upd_same (fun v hv => by
            obtain ⟨i, _, rfl⟩ := List.mem_map.mp hv
            exact ⟨_, .bl _, rfl, Nat.zero_le _⟩)
          refine ⟨d1, e1, a1, a2, a3, a4, _, rfl, ?_⟩
          refine iteN (by rw [a5]; rfl) ?_
          have s3 : Same H1 (upd H2 D (.lst ((List.range 16).map fun i => V.bl (decide (i = j))))) := s2.new nD
          refine ⟨_, rfl, _, rfl, j, kd, at_, cs, nm, hj, rfl, rfl, fun z => (hx z).imp fun dd w => ⟨w.1, s3 _ _ w.2⟩, fun q3 H3 s4 n3 l3 => ⟨_, rfl, _, rfl, _, rfl, _, rfl, _, rfl, j, kd, at_, cs, nm, hj, rfl, fun q4 H4 s5 n4 l4 => ?_⟩⟩
          have sA : Same H H4 := s1.trans (s3.trans (s4.trans s5))
          obtain ⟨d2, e2, b1, b2, b3, b4, b5⟩ := same_lists (K := K) (s5 _ _ l3) l4 (fun v hv => hdt v (vals_in hv) H4 sA)
          refine ⟨d2, e2, b1, b2, b3, b4, ?_⟩
          rw [b5]
          exact kk H4 sA
      · have s1 : Same H H := Same.refl H
        have hx : j ≠ 13 → ∃ dd, (none : Option Addr) = some dd ∧ H dd = some (.xd ((flds j).zip (vals kd at_ cs nm j)).reverse) := fun z => absurd j13 z
        have hd : HD none H := fun dd e => nomatch e
        obtain ⟨H1, e1⟩ : ∃ H1, H1 = H := ⟨_, rfl⟩
        rw [← e1] at ha hd hx
        rw [← e1]
        have s1 : Same H H1 := e1 ▸ Same.refl H
        refine ⟨_, rfl, _, C j, _, _, rfl, rfl, T.ec j hj, hd, fun u r => r, T.kve j hj, _, rfl, iteN rfl ?_⟩
        refine ⟨_, rfl, j, hj, rfl, rfl, hd, fun q1 H2 s2 n2 l2 => ?_⟩
        refine ⟨16, rfl, by decide, by decide, fun D nD => lc_range (lo := 0) (n := 16) (fun i H' => H' = upd H2 D (.lst ((List.range i).map fun i => V.bl (decide (i = j))))) rfl ?_ ?_⟩
        · rintro i H' hi rfl
          refine ⟨rfl, _, rfl, _, rfl, rfl, _, upd_same, ?_, ?_⟩
          · rw [List.length_map, List.length_range]
            exact small1000 (by omega)
          · show upd (upd H2 D _) D (.lst (_ ++ [V.bl (decide (V.int (0 + (i : Int)) = V.int (j : Int)))])) = _
            rw [upd_upd, List.range_succ, List.map_append, int_dec]
            rfl
        · rintro H' rfl
          obtain ⟨d1, e1, a1, a2, a3, a4, a5⟩ := same_lists (K := K) (H := upd H2 D (.lst ((List.range 16).map fun i => V.bl (decide (i = j))))) (p := q1) (q := D) ((upd_ne (ne_of_none l2 nD)).trans l2) upd_same (fun v hv => by
            obtain ⟨i, _, rfl⟩ := List.mem_map.mp hv
            exact ⟨_, .bl _, rfl, Nat.zero_le _⟩)
          refine ⟨d1, e1, a1, a2, a3, a4, _, rfl, ?_⟩
          refine iteN (by rw [a5]; rfl) ?_
          have s3 : Same H1 (upd H2 D (.lst ((List.range 16).map fun i => V.bl (decide (i = j))))) := s2.new nD
          refine ⟨_, rfl, _, rfl, j, kd, at_, cs, nm, hj, rfl, rfl, fun z => (hx z).imp fun dd w => ⟨w.1, s3 _ _ w.2⟩, fun q3 H3 s4 n3 l3 => ⟨_, rfl, _, rfl, _, rfl, _, rfl, _, rfl, j, kd, at_, cs, nm, hj, rfl, fun q4 H4 s5 n4 l4 => ?_⟩⟩
          have sA : Same H H4 := s1.trans (s3.trans (s4.trans s5))
          obtain ⟨d2, e2, b1, b2, b3, b4, b5⟩ := same_lists (K := K) (s5 _ _ l3) l4 (fun v hv => hdt v (vals_in hv) H4 sA)
          refine ⟨d2, e2, b1, b2, b3, b4, ?_⟩
          rw [b5]
          exact kk H4 sA
/-! ### the law -/
def spLaw (K : PySem.W.Frag) : Sp := fun vs H Q _ => ∃ (a : Addr) (ns : List Int), vs = [.ref a] ∧ SqL K H a (ns.map V.int) ∧ ns.length ≤ 63 ∧ ∀ H', Q (.bl true) H'
theorem dt_int {H : Hp} (n : Int) : Dt K H (.int n) := ⟨_, .int n, rfl, Nat.zero_le _⟩
theorem dt_non {H : Hp} : Dt K H .non := ⟨_, .non, rfl, Nat.zero_le _⟩
theorem dt_word {H : Hp} {l : List Nat} (h : Word l) : Dt K H (.str (T l)) := by
  refine ⟨_, .str (T l), ?_, Nat.zero_le _⟩
  show PyData.strOk (T l) = true
  unfold PyData.strOk
  rw [Array.all_eq_true']
  intro c hc
  have : c ∈ l := by
    have := Array.mem_toList_iff.mpr hc
    rw [T_codes] at this
    exact this
  have := (h c this).2
  exact decide_eq_true (by omega)
theorem dt_ints {H : Hp} {t : Addr} {ns : List Int} (h : H t = some (.tup (ns.map V.int))) : Dt K H (.ref t) := by
  have all : ∀ ns : List Int, DpAll K H (ns.map V.int) (ns.map PyData.int) ∧ PyData.canLayAll0 (ns.map PyData.int) = true ∧ PyData.depthAll (ns.map PyData.int) ≤ 0 := by
    intro ns
    induction ns with
    | nil => exact ⟨.nil, rfl, Nat.le_refl _⟩
    | cons n r ih => exact ⟨.cons (.int n) ih.1, by show (true && _) = true; rw [ih.2.1]; rfl, by show max 0 _ ≤ 0; exact Nat.max_le.mpr ⟨Nat.le_refl _, ih.2.2⟩⟩
  exact ⟨_, .tup (SqT.of h) (all ns).1, (all ns).2.1, by show PyData.depthAll _ + 1 ≤ 1; have := (all ns).2.2; omega⟩
abbrev N_law : List Str := ["_law_script", "_law_k", "_law_tape_here", "_law_at", "_law_calls", "_law_j", "_law_name"]
theorem sc_law : FnScope N_law ["_law_script"] (defScope s_law) := ⟨rfl, rfl, rfl, by decide +kernel, rfl, by decide +kernel, by decide +kernel⟩
theorem ok_law {f f1 f2 f3 f4 f5 f6 : Addr} {fd fd1 fd2 fd3 fd4 fd5 fd6 : FuncData} (F : Fun K "law" "law" s_law f fd) (B : Bl mg)
    (G__law_cell : Fd P w K mg base CX0 1 "_law_cell" ["_law_script", "_law_k"] (spCell K) f1 fd1)
    (G__law_tape : Fd P w K mg base CX0 2 "_law_tape" (N__law_tape.take 3) spTape f2 fd2)
    (G__law_take : Fd P w K mg base CX0 1 "_law_take" ["_law_tape_here", "_law_many"] spTake f3 fd3)
    (G__law_number : Fd P w K mg base CX0 2 "_law_number" ["_law_tape_here"] spNumber f4 fd4)
    (G__law_word : Fd P w K mg base CX0 2 "_law_word" ["_law_tape_here", "_law_longest"] spWord f5 fd5)
    (G__law_caught : Fd P w K mg base CX0 6 "_law_caught" ["_law_k", "_law_kind", "_law_at", "_law_calls", "_law_name"] (spCaught K) f6 fd6) :
    FnOk P w K mg base CX0 7 f fd ["_law_script"] (spLaw K) := by
  refine F.ok sc_law (fun vs H Q E h => ?_) (fun cdv A outer s H vs Q E hr h => ?_)
  · obtain ⟨a, ns, rfl, _⟩ := h
    rfl
  · obtain ⟨a, ns, rfl, hS, hl, kk⟩ := h
    refine ⟨_, (pss_cons (ps_for PassesOwn.never rfl (pi_range1 (by rfl) B.range (pa_cons pe_int pa_nil)) (pg_name (i := 1) sc_law.nd rfl (Or.inl rfl))
      (pss_cons (ps_set (i := 2) sc_law.nd rfl (Or.inr rfl) (pe_cd G__law_tape (hr.mono (by decide)) pass0 (pa_cons (pe_cd G__law_cell (hr.mono (by decide)) pass0 (pa_cons (pv 0) (pa_cons (pv 1) pa_nil))) (pa_cons (pe_cd G__law_cell (hr.mono (by decide)) pass0 (pa_cons (pv 0) (pa_cons (pe_op op_add (pv 1) pe_int) pa_nil))) (pa_cons pe_int pa_nil)))))
      (pss_cons (ps_set (i := 3) sc_law.nd rfl (Or.inl rfl) (pe_cd G__law_number (hr.mono (by decide)) pass0 (pa_cons (pv 2) pa_nil)))
      (pss_cons (ps_set (i := 4) sc_law.nd rfl (Or.inl rfl) (pe_callTy call_tuple_of (by rfl) B.tuple b_tuple (pa_cons (pe_lc (own := [("_law_j", 5)]) (g := gName 5) (by rfl) sc_law.nd (pi_range1 (by rfl) B.range (pa_cons (pe_cd G__law_take (hr.mono (by decide)) pass0 (pa_cons (pv 2) (pa_cons pe_int pa_nil))) pa_nil)) (blkOk_by (own := [("_law_j", 5)]) (N := N_law) (sc := defScope s_law) (by decide +kernel)) (fun _ _ _ _ _ => pg_name (i := 5) sc_law.nd rfl (Or.inl rfl)) (fun _ _ _ _ _ => pts_nil) (fun _ _ _ _ _ => (pe_cd G__law_number (hr.mono (by decide)) pass0 (pa_cons (pv 2) pa_nil)))) pa_nil)))
      (pss_cons (ps_set (i := 6) sc_law.nd rfl (Or.inl rfl) (pe_cd G__law_word (hr.mono (by decide)) pass0 (pa_cons (pv 2) (pa_cons pe_int pa_nil))))
      (pss_cons (ps_if (PW.pt (pw_and (pt_cmpR op_eq (pv 1) pe_int (nomark _)) (pw_and1 (pt_cmpR op_eq (pe_cd G__law_take (hr.mono (by decide)) pass0 (pa_cons (pv 2) (pa_cons pe_int pa_nil))) pe_int (nomark _)))))
      (pss_one (ps_set (i := 6) sc_law.nd rfl (Or.inl rfl) pe_non))
      pss_nil)
      (pss_one (ps_if (pt_not (pt_val (pe_cd G__law_caught (hr.mono (by decide)) pass0 (pa_cons (pv 1) (pa_cons (pe_cd G__law_word (hr.mono (by decide)) pass0 (pa_cons (pv 2) (pa_cons pe_int pa_nil))) (pa_cons (pv 3) (pa_cons (pv 4) (pa_cons (pv 6) pa_nil))))))))
      (pss_one (ps_ret pe_bl))
      pss_nil))))))))
      (pss_one (ps_ret pe_bl))), ?_⟩
    refine ⟨_, rfl, by decide, by decide, for_range (lo := 0) (n := 16) (fun i σ H' => ∃ v1 v2 v3 v4 v5 v6 : Option V, σ = [some (.ref a), v1, v2, v3, v4, v5, v6] ∧ Same H H') ⟨none, none, none, none, none, none, rfl, Same.refl H⟩ ?_ ?_⟩
    · rintro i σ H0 hi ⟨v1, v2, v3, v4, v5, v6, rfl, s0⟩
      refine ⟨_, rfl, _, rfl, a, ns, i, (by rw [Int.zero_add]; rfl), s0.seq hS, hl, fun c1 => ?_⟩
      refine ⟨_, rfl, _, rfl, _, _, rfl, rfl, a, ns, i + 16, (by rw [Int.zero_add]; rfl), s0.seq hS, hl, fun c2 => ?_⟩
      refine ⟨c1, c2, 30, rfl, by decide, fun p H1 np t1 s1 => ?_⟩
      refine ⟨_, rfl, p, rfl, t1, fun at_ H2 _ _ t2 s2 => ?_⟩
      refine ⟨_, rfl, p, 3, rfl, t2, by decide, fun m H3 m0 m1 t3 s3 => ⟨m, rfl, by omega, by omega, fun D nD => ?_⟩⟩
      have x3 : SameX p H1 H3 := s2.trans s3
      have pD : D ≠ p := fun z => by
        obtain ⟨_, _, e⟩ := t3
        rw [z, e] at nD
        cases nD
      refine lc_range (lo := 0) (n := m.toNat) (fun i H' => ∃ zs : List Int, zs.length = i ∧ H' D = some (.lst (zs.map V.int)) ∧ Tape H' p ∧ SameX p H1 H') ⟨[], rfl, upd_same, ?_, x3.new nD⟩ ?_ ?_
      · obtain ⟨ns', h1, h2⟩ := t3
        exact ⟨ns', h1, (upd_ne (Ne.symm pD)).trans h2⟩
      · rintro i' H4 hi' ⟨zs, hz, hD, t4, x4⟩
        refine ⟨rfl, _, rfl, p, rfl, t4, fun v H5 _ _ t5 s5 => ⟨_, s5 D _ hD pD, ?_, zs ++ [v], by simp [hz], ?_, ?_, ?_⟩⟩
        · rw [List.length_map]
          exact small1000 (by omega)
        · rw [upd_same, List.map_append]
          rfl
        · obtain ⟨ns', h1, h2⟩ := t5
          exact ⟨ns', h1, (upd_ne (Ne.symm pD)).trans h2⟩
        · intro b o e hb
          by_cases hbD : b = D
          · subst hbD
            have := x3 b o e hb
            rw [nD] at this
            cases this
          · rw [upd_ne hbD]
            exact (x4.trans s5) b o e hb
      · rintro H4 ⟨zs, hz, hD, t4, x4⟩
        refine ⟨D, _, rfl, .inl ⟨SqL.of hD, fun t nt => ?_⟩⟩
        have pt : p ≠ t := fun z => by
          obtain ⟨_, _, e⟩ := t4
          rw [z, nt] at e
          cases e
        have t5 : Tape (upd H4 t (.tup (zs.map V.int))) p := by
          obtain ⟨ns', h1, h2⟩ := t4
          exact ⟨ns', h1, (upd_ne pt).trans h2⟩
        have l5 : (upd H4 t (.tup (zs.map V.int))) t = some (.tup (zs.map V.int)) := upd_same
        have x5 : SameX p H1 (upd H4 t (.tup (zs.map V.int))) := x4.new nt
        generalize upd H4 t (.tup (zs.map V.int)) = H5 at *
        refine ⟨_, rfl, p, 8, rfl, t5, by decide, by decide, fun l H6 l0 l8 wl t6 s6 => ?_⟩
        have l6 := s6 t _ l5 (Ne.symm pt)
        have x6 : SameX p H1 H6 := x5.trans s6
        refine ⟨_, rfl, rfl, _, rfl, ite2 (fun c => ?_) (fun c => ?_)⟩
        · refine ⟨_, rfl, p, 3, rfl, t6, by decide, fun v H7 _ _ t7 s7 => ⟨rfl, _, rfl, ite2 (fun c => ?_) (fun c => ?_)⟩⟩
          · have l7 := s7 t _ l6 (Ne.symm pt)
            have x7 := x6.trans s7
            refine ⟨_, rfl, _, rfl, p, 8, rfl, t7, by decide, by decide, fun l2 H8 _ _ wl2 t8 s8 => ?_⟩
            have l8 := s8 t _ l7 (Ne.symm pt)
            refine ⟨_, rfl, _, rfl, _, rfl, i, .str (T l2), .int at_, .ref t, .non, (by rw [Int.zero_add]; rfl), hi, ?_, fun H9 s9 => ⟨_, rfl, ?_⟩⟩
            · intro v hv H' sm
              simp only [List.mem_cons, List.not_mem_nil, or_false] at hv
              rcases hv with rfl | rfl | rfl | rfl
              · exact dt_word wl2
              · exact dt_int _
              · exact dt_ints (sm _ _ l8)
              · exact dt_non
            · exact ⟨_, _, _, _, _, _, rfl, s0.trans ((SameX.under s1 np (x7.trans s8)).trans s9)⟩
          · have l7 := s7 t _ l6 (Ne.symm pt)
            have x7 := x6.trans s7
            refine ⟨_, rfl, _, rfl, p, 8, rfl, t7, by decide, by decide, fun l2 H8 _ _ wl2 t8 s8 => ?_⟩
            have l8 := s8 t _ l7 (Ne.symm pt)
            refine ⟨_, rfl, _, rfl, _, rfl, i, .str (T l2), .int at_, .ref t, (.str (T l)), (by rw [Int.zero_add]; rfl), hi, ?_, fun H9 s9 => ⟨_, rfl, ?_⟩⟩
            · intro v hv H' sm
              simp only [List.mem_cons, List.not_mem_nil, or_false] at hv
              rcases hv with rfl | rfl | rfl | rfl
              · exact dt_word wl2
              · exact dt_int _
              · exact dt_ints (sm _ _ l8)
              · exact dt_word wl
            · exact ⟨_, _, _, _, _, _, rfl, s0.trans ((SameX.under s1 np (x7.trans s8)).trans s9)⟩
        · have l7 := l6
          have x7 := x6
          have t7 := t6
          refine ⟨_, rfl, _, rfl, p, 8, rfl, t7, by decide, by decide, fun l2 H8 _ _ wl2 t8 s8 => ?_⟩
          have l8 := s8 t _ l7 (Ne.symm pt)
          refine ⟨_, rfl, _, rfl, _, rfl, i, .str (T l2), .int at_, .ref t, (.str (T l)), (by rw [Int.zero_add]; rfl), hi, ?_, fun H9 s9 => ⟨_, rfl, ?_⟩⟩
          · intro v hv H' sm
            simp only [List.mem_cons, List.not_mem_nil, or_false] at hv
            rcases hv with rfl | rfl | rfl | rfl
            · exact dt_word wl2
            · exact dt_int _
            · exact dt_ints (sm _ _ l8)
            · exact dt_word wl
          · exact ⟨_, _, _, _, _, _, rfl, s0.trans ((SameX.under s1 np (x7.trans s8)).trans s9)⟩
    · rintro σ H' ⟨v1, v2, v3, v4, v5, v6, rfl, s0⟩
      exact kk H'
end

end GR

/-! ### own errors as the top has left them -/
namespace GR
open PySem L2
theorem upd3 {H : Hp} {a d : Addr} {e1 e2 x : HO} (h : d ≠ a) : upd (upd (upd H d e1) a x) d e2 = upd (upd H d e2) a x := by
  funext b
  by_cases h1 : b = d
  · subst h1
    rw [upd_same, upd_ne h, upd_same]
  · rw [upd_ne h1]
    by_cases h2 : b = a
    · subst h2
      rw [upd_same, upd_same]
    · rw [upd_ne h2, upd_ne h1, upd_ne h2, upd_ne h1]
/-- what k_is finds of an own error's class at C, its base at R, its __init__ at fI -/
structure ExcK (P : Program) (K : PySem.W.Frag) (mg : Str → Option Value) (x : Str) (C R fI : Addr) (fl : List Str) : Prop where
  mgC : mg x = some (.ref C)
  lk : ∃ nm q N bs sn sub ab col dd k0 k1 k2 k3 k5, K.lookup C = some (excClassObj nm q C N bs (.ref R :: PySem.HandSPX.veTail) true sn sub ab col dd k0 k1 k2 k3 k5 "ValueError.__new__")
  sa : PySem.W.findIn K (.ref C) "__setattr__" = some (some (.builtin "object.__setattr__"))
  ga : PySem.W.findIn K (.ref C) "__getattribute__" = some (some (.builtin "BaseException.__getattribute__"))
  gg : PySem.W.findIn K (.ref C) "__getattr__" = some none
  cl : PySem.W.findIn K (.ref C) "__class__" = some (some (.builtin "object.__class__"))
  iC : PySem.W.findIn K (.ref C) "__init__" = some (some (.ref fI))
  tI : PySem.W.typeIn K (.ref fI) = some (.type "function")
  kC : PySem.W.keepIn K (.ref C) = true
  up : PySem.W.ks_superIn K C C "__init__" = some (some (.builtin "ValueError.__init__"))
  no : ∀ f ∈ fl, PySem.W.findIn K (.ref C) f = some none
/-- facts that hang on no class -/
structure ExcG (P : Program) (K : PySem.W.Frag) (mg : Str → Option Value) : Prop where
  op : PySem.W.nsIn K cStatics "thirdparty.any" = some none
  su : mg "super" = none
  top : (P.main.scope.names.lookup ("super" : Str)).isSome = false
  hn : PySem.W.specialIn K (.builtin "object.__class__") "__get__" = some (some (.builtin "getset_descriptor.__get__"))
  ht : PySem.W.takesIn K (.builtin "object.__class__") = some true
section
variable {P : Program} {K : PySem.W.Frag} {mg : Str → Option Value} {x : Str} {C R fI : Addr} {fl : List Str}
theorem ExcK.cls (E : ExcK P K mg x C R fI fl) : ∃ cd, PySem.W.clsIn K C = some cd ∧ cd.mro = .ref C :: .ref R :: PySem.HandSPX.veTail ∧ cd.hasDict = true := by
  obtain ⟨nm, q, N, bs, sn, sub, ab, col, dd, k0, k1, k2, k3, k5, h⟩ := E.lk
  refine ⟨_, by unfold PySem.W.clsIn; rw [h], rfl, rfl⟩
theorem ExcK.mro (E : ExcK P K mg x C R fI fl) (v : Value) : PySem.W.mroIn K C v = some ((Value.ref C :: .ref R :: PySem.HandSPX.veTail).contains v) := by
  obtain ⟨cd, h, hm, _⟩ := E.cls
  unfold PySem.W.mroIn
  rw [h, Option.bind_some, hm]
  rfl
theorem ExcK.sub (E : ExcK P K mg x C R fI fl) (v : Value) : PySem.W.subIn K (.ref C) v = some ((Value.ref C :: .ref R :: PySem.HandSPX.veTail).contains v) := E.mro v
theorem ExcK.subT (E : ExcK P K mg x C R fI fl) {n : String} (h : PySem.HandSPX.veTail.contains (.type n) = true) : PySem.W.subIn K (.ref C) (.type n) = some true := by
  rw [E.sub, List.contains_cons, List.contains_cons, h, Bool.or_true, Bool.or_true]
theorem ExcK.ty (E : ExcK P K mg x C R fI fl) : PySem.W.typeIn K (.ref C) = some (.type "type") := by
  obtain ⟨nm, q, N, bs, sn, sub, ab, col, dd, k0, k1, k2, k3, k5, h⟩ := E.lk
  show (K.lookup C).map (·.cls) = _
  rw [h]
  rfl
theorem ExcK.dict (E : ExcK P K mg x C R fI fl) : PySem.W.hasDictIn K C = true := by
  obtain ⟨cd, h, _, hd⟩ := E.cls
  unfold PySem.W.hasDictIn
  rw [h]
  exact hd
theorem ExcK.oex (E : ExcK P K mg x C R fI fl) : OexC K C where
  cls := by
    obtain ⟨nm, q, N, bs, sn, sub, ab, col, dd, k0, k1, k2, k3, k5, h⟩ := E.lk
    exact ⟨nm, q, N, bs, _, sn, sub, ab, col, dd, k0, k1, k2, k3, k5, h, by show PySem.HandSPX.refsVE PySem.HandSPX.veTail = true; decide +kernel⟩
  sa := E.sa
  exC := E.subT (by decide +kernel)
  tyC := E.ty
  kC := E.kC
theorem ExcK.supc (E : ExcK P K mg x C R fI fl) (G : ExcG P K mg) : SupC P K mg C where
  up := E.up
  mro := by rw [E.mro]; simp
  ve := E.subT (by decide +kernel)
  op := G.op
  mg := G.su
  top := G.top
theorem ExcK.xf (E : ExcK P K mg x C R fI fl) : XfC K C := ⟨E.ga, E.gg, E.subT (by decide +kernel), E.dict⟩
theorem ExcK.ec (E : ExcK P K mg x C R fI fl) (G : ExcG P K mg) : ExcC K C := ⟨E.ga, E.gg, E.subT (by decide +kernel), E.dict, E.cl, G.hn, G.ht, E.subT (by decide +kernel)⟩
/-- isinstance(e, D), e of the class C -/
theorem ExcK.kit {y : Str} {D gI : Addr} {gl : List Str} (E : ExcK P K mg x C R fI fl) (F : ExcK P K mg y D R gI gl) (nR : D ≠ R) : PySem.W.kitOne K (.ref C) (.ref D) = some (decide (D = C)) := by
  unfold PySem.W.kitOne
  by_cases h : C = D
  · subst h
    simp
  · have h1 : (Value.ref C == Value.ref D) = false := by simp [h]
    rw [h1, if_neg Bool.false_ne_true]
    unfold PySem.W.kitCls
    obtain ⟨cd, hc, _⟩ := F.cls
    have e2 : ((PySem.W.clsIn K D).isSome && PySem.W.typeIn K (.ref D) == some (.type "type")) = true := by rw [hc, F.ty]; rfl
    dsimp only
    rw [if_pos e2, E.sub]
    have n1 : (Value.ref D == Value.ref C) = false := by simp [Ne.symm h]
    have n2 : (Value.ref D == Value.ref R) = false := by simp [nR]
    rw [List.contains_cons, List.contains_cons, n1, n2, decide_eq_false (Ne.symm h)]
    simp
theorem ExcK.kitV (E : ExcK P K mg x C R fI fl) : PySem.W.kitOne K (.ref C) (.type "ValueError") = some true := by
  unfold PySem.W.kitOne
  rw [if_neg (by simp)]
  unfold PySem.W.kitCls
  dsimp only
  rw [if_pos (by decide +kernel)]
  exact E.subT (by decide +kernel)
/-- except R: takes it -/
theorem ExcK.exmR (E : ExcK P K mg x C R fI fl) (h1 : PySem.W.subIn K (.ref R) (.type "BaseException") = some true) (h2 : PySem.W.isClsIn K R = true) (h3 : PySem.W.typeIn K (.ref R) = some (.type "type")) : PySem.W.exmOne K (.ref C) (.ref R) = some true := by
  unfold PySem.W.exmOne
  have e1 : (PySem.W.subIn K (.ref R) (.type "BaseException") == some true) = true := by rw [h1]; rfl
  rw [if_pos e1]
  unfold PySem.W.kitCls
  have e2 : ((PySem.W.clsIn K R).isSome && PySem.W.typeIn K (.ref R) == some (.type "type")) = true := by
    have h2' : (PySem.W.clsIn K R).isSome = true := h2
    rw [h2', h3]
    rfl
  dsimp only
  rw [if_pos e2, E.sub]
  simp
/-- isinstance(e, R) -/
theorem ExcK.kitR (E : ExcK P K mg x C R fI fl) (h2 : PySem.W.isClsIn K R = true) (h3 : PySem.W.typeIn K (.ref R) = some (.type "type")) : PySem.W.kitOne K (.ref C) (.ref R) = some true := by
  unfold PySem.W.kitOne
  by_cases h : C = R
  · subst h
    simp
  · have h1 : (Value.ref C == Value.ref R) = false := by simp [h]
    rw [h1, if_neg Bool.false_ne_true]
    unfold PySem.W.kitCls
    have e2 : ((PySem.W.clsIn K R).isSome && PySem.W.typeIn K (.ref R) == some (.type "type")) = true := by
      have h2' : (PySem.W.clsIn K R).isSome = true := h2
      rw [h2', h3]
      rfl
    dsimp only
    rw [if_pos e2, E.sub]
    simp
end
theorem with_eg {α : Prop} (P : Program) {K : PySem.W.Frag} {h : Heap} {mg : Str → Option Value} (X : K.In h) (G : h.Ns mainGlobals mg) (g1 : PySem.W.nsIn K cStatics "thirdparty.any" = some none) (g2 : PySem.W.nsIn K mainGlobals "super" = some none)
    (g3 : (P.main.scope.names.lookup ("super" : Str)).isSome = false) (g4 : PySem.W.specialIn K (.builtin "object.__class__") "__get__" = some (some (.builtin "getset_descriptor.__get__"))) (g5 : PySem.W.takesIn K (.builtin "object.__class__") = some true) (f : ExcG P K mg → α) : α :=
  f ⟨g1, PySem.W.mg_none_of X G g2, g3, g4, g5⟩
/-- an own error's class, all told -/
structure ClsOk (P : Program) (w : World) (K : PySem.W.Frag) (mg : Str → Option Value) (x : Str) (C R : Addr) (ps : List Str) (sp : Sp) (fl : List Str) : Prop where
  k : ∃ fI, ExcK P K mg x C R fI fl
  e : ∀ base, ∃ f fd, ExT P w K mg base x C ps sp f fd

/-! ### the classes' own __init__ -/
theorem sc_BadName__ddinitdd : SupScope ["self", "name"] ["self", "name"] (defScope s_BadName__ddinitdd) := ⟨rfl, rfl, rfl, by decide +kernel, rfl, by decide +kernel, by decide +kernel, by decide +kernel, by decide +kernel, by decide +kernel⟩
theorem ex_BadName__ddinitdd {P : Program} {w : World} {K : PySem.W.Frag} {mg : Str → Option Value} {base : Heap} {C R fI cc cda : Addr} {oc kV doc pm ct ccl : Value} {an od cdd : Option Addr} {osl ccs : Array (Option Value)} {vc : Array Value} {ocl : Obj} {file : Str} {tf : Tok}
    (E : ExcK P K mg "BadName" C R fI ["name"]) (G : ExcG P K mg)
    (lk : K.lookup fI = some ⟨oc, od, .func (PySem.W.ksFn "__init__" "BadName.__init__" (defArgs s_BadName__ddinitdd) (defBody s_BadName__ddinitdd) (defScope s_BadName__ddinitdd) .none kV doc pm an (.ref cda) ct cc), osl⟩)
    (hcd : PySem.W.codeIn K (.ref cda) "BadName.__init__" = true) (lcd : K.lookup cda = some ⟨ccl, cdd, .fields vc, ccs⟩) (hvc : vc[2]? = some (.str file tf)) (hfile : ((P.main.file : Str) == file) = true) (lcc : K.lookup cc = some ocl) (lcv : ocl.data = .cell (some (.ref C))) :
    ∃ f fd, ExT P w K mg base "BadName" C ["self", "name"] (spEx C ["name"]) f fd := by
  refine ⟨fI, PySem.W.ksFn "__init__" "BadName.__init__" (defArgs s_BadName__ddinitdd) (defBody s_BadName__ddinitdd) (defScope s_BadName__ddinitdd) .none kV doc pm an (.ref cda) ct cc, E.oex, E.iC, E.tI, ?_, .all (fun us hl => match us, hl with | [_, _], _ => rfl), E.mgC⟩
  refine fn_sup lk hcd lcd hvc hfile lcc lcv sc_BadName__ddinitdd rfl rfl E.oex (E.supc G) (fun _ => rfl) (fun vs H Q E' h => ?_) (fun A outer s H vs Q E' hr h => ?_)
  · obtain ⟨a, ws, rfl, hl, ha, _⟩ := h
    exact ⟨by show ws.length + 1 = _; rw [hl]; rfl, a, ws, rfl, ha⟩
  · obtain ⟨a, ws, rfl, hl, ha, q⟩ := h
    obtain ⟨v1, rfl⟩ : ∃ v1 : V, ws = [v1] := by
      match ws, hl with
      | [v1], _ => exact ⟨v1, rfl⟩
    refine ⟨_, pss_one (ps_ost (pv 0) (pv 1)), ?_⟩
    refine ⟨_, rfl, _, rfl, a, C, rfl, E.oex, E.no "name" (by decide +kernel), .inl ⟨ha, fun d nd hda => ?_⟩⟩
    exact q d nd hda
theorem ck_BadName__ddinitdd {P : Program} {w : World} {K : PySem.W.Frag} {h : Heap} {mg : Str → Option Value} {C R fI cc cda N : Addr} {nm q : Str} {bs sub : List Value} {sn : List Str} {ab : Bool} {col : Option Bool} {dd : Option Addr} {k0 k1 k2 k3 k5 : Option Value}
    {oc kV doc pm ct ccl : Value} {an od cdd : Option Addr} {osl ccs : Array (Option Value)} {vc : Array Value} {ocl : Obj} {file : Str} {tf : Tok} (X : K.In h) (G : h.Ns mainGlobals mg) (EG : ExcG P K mg)
    (aC : PySem.W.nsIn K mainGlobals "BadName" = some (some (.ref C))) (lC : K.lookup C = some (excClassObj nm q C N bs (.ref R :: PySem.HandSPX.veTail) true sn sub ab col dd k0 k1 k2 k3 k5 "ValueError.__new__"))
    (sa : PySem.W.findIn K (.ref C) "__setattr__" = some (some (.builtin "object.__setattr__"))) (ga : PySem.W.findIn K (.ref C) "__getattribute__" = some (some (.builtin "BaseException.__getattribute__")))
    (gg : PySem.W.findIn K (.ref C) "__getattr__" = some none) (cl : PySem.W.findIn K (.ref C) "__class__" = some (some (.builtin "object.__class__"))) (iC : PySem.W.findIn K (.ref C) "__init__" = some (some (.ref fI))) (tI : PySem.W.typeIn K (.ref fI) = some (.type "function"))
    (kC : PySem.W.keepIn K (.ref C) = true) (up : PySem.W.ks_superIn K C C "__init__" = some (some (.builtin "ValueError.__init__"))) (n0 : PySem.W.findIn K (.ref C) "name" = some none)
    (lk : K.lookup fI = some ⟨oc, od, .func (PySem.W.ksFn "__init__" "BadName.__init__" (defArgs s_BadName__ddinitdd) (defBody s_BadName__ddinitdd) (defScope s_BadName__ddinitdd) .none kV doc pm an (.ref cda) ct cc), osl⟩)
    (hcd : PySem.W.codeIn K (.ref cda) "BadName.__init__" = true) (lcd : K.lookup cda = some ⟨ccl, cdd, .fields vc, ccs⟩) (hvc : vc[2]? = some (.str file tf)) (hfile : ((P.main.file : Str) == file) = true) (lcc : K.lookup cc = some ocl) (lcv : ocl.data = .cell (some (.ref C))) :
    ClsOk P w K mg "BadName" C R ["self", "name"] (spEx C ["name"]) ["name"] := by
  have E : ExcK P K mg "BadName" C R fI ["name"] := ⟨PySem.W.mg_of X G aC, ⟨_, _, _, _, _, _, _, _, _, _, _, _, _, _, lC⟩, sa, ga, gg, cl, iC, tI, kC, up, by
    intro f hf
    simp only [List.mem_cons, List.not_mem_nil, or_false] at hf
    rcases hf with rfl <;> assumption⟩
  exact ⟨⟨_, E⟩, fun base => ex_BadName__ddinitdd E EG lk hcd lcd hvc hfile lcc lcv⟩

theorem sc_NoField__ddinitdd : SupScope ["self", "name"] ["self", "name"] (defScope s_NoField__ddinitdd) := ⟨rfl, rfl, rfl, by decide +kernel, rfl, by decide +kernel, by decide +kernel, by decide +kernel, by decide +kernel, by decide +kernel⟩
theorem ex_NoField__ddinitdd {P : Program} {w : World} {K : PySem.W.Frag} {mg : Str → Option Value} {base : Heap} {C R fI cc cda : Addr} {oc kV doc pm ct ccl : Value} {an od cdd : Option Addr} {osl ccs : Array (Option Value)} {vc : Array Value} {ocl : Obj} {file : Str} {tf : Tok}
    (E : ExcK P K mg "NoField" C R fI ["name"]) (G : ExcG P K mg)
    (lk : K.lookup fI = some ⟨oc, od, .func (PySem.W.ksFn "__init__" "NoField.__init__" (defArgs s_NoField__ddinitdd) (defBody s_NoField__ddinitdd) (defScope s_NoField__ddinitdd) .none kV doc pm an (.ref cda) ct cc), osl⟩)
    (hcd : PySem.W.codeIn K (.ref cda) "NoField.__init__" = true) (lcd : K.lookup cda = some ⟨ccl, cdd, .fields vc, ccs⟩) (hvc : vc[2]? = some (.str file tf)) (hfile : ((P.main.file : Str) == file) = true) (lcc : K.lookup cc = some ocl) (lcv : ocl.data = .cell (some (.ref C))) :
    ∃ f fd, ExT P w K mg base "NoField" C ["self", "name"] (spEx C ["name"]) f fd := by
  refine ⟨fI, PySem.W.ksFn "__init__" "NoField.__init__" (defArgs s_NoField__ddinitdd) (defBody s_NoField__ddinitdd) (defScope s_NoField__ddinitdd) .none kV doc pm an (.ref cda) ct cc, E.oex, E.iC, E.tI, ?_, .all (fun us hl => match us, hl with | [_, _], _ => rfl), E.mgC⟩
  refine fn_sup lk hcd lcd hvc hfile lcc lcv sc_NoField__ddinitdd rfl rfl E.oex (E.supc G) (fun _ => rfl) (fun vs H Q E' h => ?_) (fun A outer s H vs Q E' hr h => ?_)
  · obtain ⟨a, ws, rfl, hl, ha, _⟩ := h
    exact ⟨by show ws.length + 1 = _; rw [hl]; rfl, a, ws, rfl, ha⟩
  · obtain ⟨a, ws, rfl, hl, ha, q⟩ := h
    obtain ⟨v1, rfl⟩ : ∃ v1 : V, ws = [v1] := by
      match ws, hl with
      | [v1], _ => exact ⟨v1, rfl⟩
    refine ⟨_, pss_one (ps_ost (pv 0) (pv 1)), ?_⟩
    refine ⟨_, rfl, _, rfl, a, C, rfl, E.oex, E.no "name" (by decide +kernel), .inl ⟨ha, fun d nd hda => ?_⟩⟩
    exact q d nd hda
theorem ck_NoField__ddinitdd {P : Program} {w : World} {K : PySem.W.Frag} {h : Heap} {mg : Str → Option Value} {C R fI cc cda N : Addr} {nm q : Str} {bs sub : List Value} {sn : List Str} {ab : Bool} {col : Option Bool} {dd : Option Addr} {k0 k1 k2 k3 k5 : Option Value}
    {oc kV doc pm ct ccl : Value} {an od cdd : Option Addr} {osl ccs : Array (Option Value)} {vc : Array Value} {ocl : Obj} {file : Str} {tf : Tok} (X : K.In h) (G : h.Ns mainGlobals mg) (EG : ExcG P K mg)
    (aC : PySem.W.nsIn K mainGlobals "NoField" = some (some (.ref C))) (lC : K.lookup C = some (excClassObj nm q C N bs (.ref R :: PySem.HandSPX.veTail) true sn sub ab col dd k0 k1 k2 k3 k5 "ValueError.__new__"))
    (sa : PySem.W.findIn K (.ref C) "__setattr__" = some (some (.builtin "object.__setattr__"))) (ga : PySem.W.findIn K (.ref C) "__getattribute__" = some (some (.builtin "BaseException.__getattribute__")))
    (gg : PySem.W.findIn K (.ref C) "__getattr__" = some none) (cl : PySem.W.findIn K (.ref C) "__class__" = some (some (.builtin "object.__class__"))) (iC : PySem.W.findIn K (.ref C) "__init__" = some (some (.ref fI))) (tI : PySem.W.typeIn K (.ref fI) = some (.type "function"))
    (kC : PySem.W.keepIn K (.ref C) = true) (up : PySem.W.ks_superIn K C C "__init__" = some (some (.builtin "ValueError.__init__"))) (n0 : PySem.W.findIn K (.ref C) "name" = some none)
    (lk : K.lookup fI = some ⟨oc, od, .func (PySem.W.ksFn "__init__" "NoField.__init__" (defArgs s_NoField__ddinitdd) (defBody s_NoField__ddinitdd) (defScope s_NoField__ddinitdd) .none kV doc pm an (.ref cda) ct cc), osl⟩)
    (hcd : PySem.W.codeIn K (.ref cda) "NoField.__init__" = true) (lcd : K.lookup cda = some ⟨ccl, cdd, .fields vc, ccs⟩) (hvc : vc[2]? = some (.str file tf)) (hfile : ((P.main.file : Str) == file) = true) (lcc : K.lookup cc = some ocl) (lcv : ocl.data = .cell (some (.ref C))) :
    ClsOk P w K mg "NoField" C R ["self", "name"] (spEx C ["name"]) ["name"] := by
  have E : ExcK P K mg "NoField" C R fI ["name"] := ⟨PySem.W.mg_of X G aC, ⟨_, _, _, _, _, _, _, _, _, _, _, _, _, _, lC⟩, sa, ga, gg, cl, iC, tI, kC, up, by
    intro f hf
    simp only [List.mem_cons, List.not_mem_nil, or_false] at hf
    rcases hf with rfl <;> assumption⟩
  exact ⟨⟨_, E⟩, fun base => ex_NoField__ddinitdd E EG lk hcd lcd hvc hfile lcc lcv⟩

theorem sc_FieldThere__ddinitdd : SupScope ["self", "name"] ["self", "name"] (defScope s_FieldThere__ddinitdd) := ⟨rfl, rfl, rfl, by decide +kernel, rfl, by decide +kernel, by decide +kernel, by decide +kernel, by decide +kernel, by decide +kernel⟩
theorem ex_FieldThere__ddinitdd {P : Program} {w : World} {K : PySem.W.Frag} {mg : Str → Option Value} {base : Heap} {C R fI cc cda : Addr} {oc kV doc pm ct ccl : Value} {an od cdd : Option Addr} {osl ccs : Array (Option Value)} {vc : Array Value} {ocl : Obj} {file : Str} {tf : Tok}
    (E : ExcK P K mg "FieldThere" C R fI ["name"]) (G : ExcG P K mg)
    (lk : K.lookup fI = some ⟨oc, od, .func (PySem.W.ksFn "__init__" "FieldThere.__init__" (defArgs s_FieldThere__ddinitdd) (defBody s_FieldThere__ddinitdd) (defScope s_FieldThere__ddinitdd) .none kV doc pm an (.ref cda) ct cc), osl⟩)
    (hcd : PySem.W.codeIn K (.ref cda) "FieldThere.__init__" = true) (lcd : K.lookup cda = some ⟨ccl, cdd, .fields vc, ccs⟩) (hvc : vc[2]? = some (.str file tf)) (hfile : ((P.main.file : Str) == file) = true) (lcc : K.lookup cc = some ocl) (lcv : ocl.data = .cell (some (.ref C))) :
    ∃ f fd, ExT P w K mg base "FieldThere" C ["self", "name"] (spEx C ["name"]) f fd := by
  refine ⟨fI, PySem.W.ksFn "__init__" "FieldThere.__init__" (defArgs s_FieldThere__ddinitdd) (defBody s_FieldThere__ddinitdd) (defScope s_FieldThere__ddinitdd) .none kV doc pm an (.ref cda) ct cc, E.oex, E.iC, E.tI, ?_, .all (fun us hl => match us, hl with | [_, _], _ => rfl), E.mgC⟩
  refine fn_sup lk hcd lcd hvc hfile lcc lcv sc_FieldThere__ddinitdd rfl rfl E.oex (E.supc G) (fun _ => rfl) (fun vs H Q E' h => ?_) (fun A outer s H vs Q E' hr h => ?_)
  · obtain ⟨a, ws, rfl, hl, ha, _⟩ := h
    exact ⟨by show ws.length + 1 = _; rw [hl]; rfl, a, ws, rfl, ha⟩
  · obtain ⟨a, ws, rfl, hl, ha, q⟩ := h
    obtain ⟨v1, rfl⟩ : ∃ v1 : V, ws = [v1] := by
      match ws, hl with
      | [v1], _ => exact ⟨v1, rfl⟩
    refine ⟨_, pss_one (ps_ost (pv 0) (pv 1)), ?_⟩
    refine ⟨_, rfl, _, rfl, a, C, rfl, E.oex, E.no "name" (by decide +kernel), .inl ⟨ha, fun d nd hda => ?_⟩⟩
    exact q d nd hda
theorem ck_FieldThere__ddinitdd {P : Program} {w : World} {K : PySem.W.Frag} {h : Heap} {mg : Str → Option Value} {C R fI cc cda N : Addr} {nm q : Str} {bs sub : List Value} {sn : List Str} {ab : Bool} {col : Option Bool} {dd : Option Addr} {k0 k1 k2 k3 k5 : Option Value}
    {oc kV doc pm ct ccl : Value} {an od cdd : Option Addr} {osl ccs : Array (Option Value)} {vc : Array Value} {ocl : Obj} {file : Str} {tf : Tok} (X : K.In h) (G : h.Ns mainGlobals mg) (EG : ExcG P K mg)
    (aC : PySem.W.nsIn K mainGlobals "FieldThere" = some (some (.ref C))) (lC : K.lookup C = some (excClassObj nm q C N bs (.ref R :: PySem.HandSPX.veTail) true sn sub ab col dd k0 k1 k2 k3 k5 "ValueError.__new__"))
    (sa : PySem.W.findIn K (.ref C) "__setattr__" = some (some (.builtin "object.__setattr__"))) (ga : PySem.W.findIn K (.ref C) "__getattribute__" = some (some (.builtin "BaseException.__getattribute__")))
    (gg : PySem.W.findIn K (.ref C) "__getattr__" = some none) (cl : PySem.W.findIn K (.ref C) "__class__" = some (some (.builtin "object.__class__"))) (iC : PySem.W.findIn K (.ref C) "__init__" = some (some (.ref fI))) (tI : PySem.W.typeIn K (.ref fI) = some (.type "function"))
    (kC : PySem.W.keepIn K (.ref C) = true) (up : PySem.W.ks_superIn K C C "__init__" = some (some (.builtin "ValueError.__init__"))) (n0 : PySem.W.findIn K (.ref C) "name" = some none)
    (lk : K.lookup fI = some ⟨oc, od, .func (PySem.W.ksFn "__init__" "FieldThere.__init__" (defArgs s_FieldThere__ddinitdd) (defBody s_FieldThere__ddinitdd) (defScope s_FieldThere__ddinitdd) .none kV doc pm an (.ref cda) ct cc), osl⟩)
    (hcd : PySem.W.codeIn K (.ref cda) "FieldThere.__init__" = true) (lcd : K.lookup cda = some ⟨ccl, cdd, .fields vc, ccs⟩) (hvc : vc[2]? = some (.str file tf)) (hfile : ((P.main.file : Str) == file) = true) (lcc : K.lookup cc = some ocl) (lcv : ocl.data = .cell (some (.ref C))) :
    ClsOk P w K mg "FieldThere" C R ["self", "name"] (spEx C ["name"]) ["name"] := by
  have E : ExcK P K mg "FieldThere" C R fI ["name"] := ⟨PySem.W.mg_of X G aC, ⟨_, _, _, _, _, _, _, _, _, _, _, _, _, _, lC⟩, sa, ga, gg, cl, iC, tI, kC, up, by
    intro f hf
    simp only [List.mem_cons, List.not_mem_nil, or_false] at hf
    rcases hf with rfl <;> assumption⟩
  exact ⟨⟨_, E⟩, fun base => ex_FieldThere__ddinitdd E EG lk hcd lcd hvc hfile lcc lcv⟩

theorem sc_Shared__ddinitdd : SupScope ["self", "name"] ["self", "name"] (defScope s_Shared__ddinitdd) := ⟨rfl, rfl, rfl, by decide +kernel, rfl, by decide +kernel, by decide +kernel, by decide +kernel, by decide +kernel, by decide +kernel⟩
theorem ex_Shared__ddinitdd {P : Program} {w : World} {K : PySem.W.Frag} {mg : Str → Option Value} {base : Heap} {C R fI cc cda : Addr} {oc kV doc pm ct ccl : Value} {an od cdd : Option Addr} {osl ccs : Array (Option Value)} {vc : Array Value} {ocl : Obj} {file : Str} {tf : Tok}
    (E : ExcK P K mg "Shared" C R fI ["name"]) (G : ExcG P K mg)
    (lk : K.lookup fI = some ⟨oc, od, .func (PySem.W.ksFn "__init__" "Shared.__init__" (defArgs s_Shared__ddinitdd) (defBody s_Shared__ddinitdd) (defScope s_Shared__ddinitdd) .none kV doc pm an (.ref cda) ct cc), osl⟩)
    (hcd : PySem.W.codeIn K (.ref cda) "Shared.__init__" = true) (lcd : K.lookup cda = some ⟨ccl, cdd, .fields vc, ccs⟩) (hvc : vc[2]? = some (.str file tf)) (hfile : ((P.main.file : Str) == file) = true) (lcc : K.lookup cc = some ocl) (lcv : ocl.data = .cell (some (.ref C))) :
    ∃ f fd, ExT P w K mg base "Shared" C ["self", "name"] (spEx C ["name"]) f fd := by
  refine ⟨fI, PySem.W.ksFn "__init__" "Shared.__init__" (defArgs s_Shared__ddinitdd) (defBody s_Shared__ddinitdd) (defScope s_Shared__ddinitdd) .none kV doc pm an (.ref cda) ct cc, E.oex, E.iC, E.tI, ?_, .all (fun us hl => match us, hl with | [_, _], _ => rfl), E.mgC⟩
  refine fn_sup lk hcd lcd hvc hfile lcc lcv sc_Shared__ddinitdd rfl rfl E.oex (E.supc G) (fun _ => rfl) (fun vs H Q E' h => ?_) (fun A outer s H vs Q E' hr h => ?_)
  · obtain ⟨a, ws, rfl, hl, ha, _⟩ := h
    exact ⟨by show ws.length + 1 = _; rw [hl]; rfl, a, ws, rfl, ha⟩
  · obtain ⟨a, ws, rfl, hl, ha, q⟩ := h
    obtain ⟨v1, rfl⟩ : ∃ v1 : V, ws = [v1] := by
      match ws, hl with
      | [v1], _ => exact ⟨v1, rfl⟩
    refine ⟨_, pss_one (ps_ost (pv 0) (pv 1)), ?_⟩
    refine ⟨_, rfl, _, rfl, a, C, rfl, E.oex, E.no "name" (by decide +kernel), .inl ⟨ha, fun d nd hda => ?_⟩⟩
    exact q d nd hda
theorem ck_Shared__ddinitdd {P : Program} {w : World} {K : PySem.W.Frag} {h : Heap} {mg : Str → Option Value} {C R fI cc cda N : Addr} {nm q : Str} {bs sub : List Value} {sn : List Str} {ab : Bool} {col : Option Bool} {dd : Option Addr} {k0 k1 k2 k3 k5 : Option Value}
    {oc kV doc pm ct ccl : Value} {an od cdd : Option Addr} {osl ccs : Array (Option Value)} {vc : Array Value} {ocl : Obj} {file : Str} {tf : Tok} (X : K.In h) (G : h.Ns mainGlobals mg) (EG : ExcG P K mg)
    (aC : PySem.W.nsIn K mainGlobals "Shared" = some (some (.ref C))) (lC : K.lookup C = some (excClassObj nm q C N bs (.ref R :: PySem.HandSPX.veTail) true sn sub ab col dd k0 k1 k2 k3 k5 "ValueError.__new__"))
    (sa : PySem.W.findIn K (.ref C) "__setattr__" = some (some (.builtin "object.__setattr__"))) (ga : PySem.W.findIn K (.ref C) "__getattribute__" = some (some (.builtin "BaseException.__getattribute__")))
    (gg : PySem.W.findIn K (.ref C) "__getattr__" = some none) (cl : PySem.W.findIn K (.ref C) "__class__" = some (some (.builtin "object.__class__"))) (iC : PySem.W.findIn K (.ref C) "__init__" = some (some (.ref fI))) (tI : PySem.W.typeIn K (.ref fI) = some (.type "function"))
    (kC : PySem.W.keepIn K (.ref C) = true) (up : PySem.W.ks_superIn K C C "__init__" = some (some (.builtin "ValueError.__init__"))) (n0 : PySem.W.findIn K (.ref C) "name" = some none)
    (lk : K.lookup fI = some ⟨oc, od, .func (PySem.W.ksFn "__init__" "Shared.__init__" (defArgs s_Shared__ddinitdd) (defBody s_Shared__ddinitdd) (defScope s_Shared__ddinitdd) .none kV doc pm an (.ref cda) ct cc), osl⟩)
    (hcd : PySem.W.codeIn K (.ref cda) "Shared.__init__" = true) (lcd : K.lookup cda = some ⟨ccl, cdd, .fields vc, ccs⟩) (hvc : vc[2]? = some (.str file tf)) (hfile : ((P.main.file : Str) == file) = true) (lcc : K.lookup cc = some ocl) (lcv : ocl.data = .cell (some (.ref C))) :
    ClsOk P w K mg "Shared" C R ["self", "name"] (spEx C ["name"]) ["name"] := by
  have E : ExcK P K mg "Shared" C R fI ["name"] := ⟨PySem.W.mg_of X G aC, ⟨_, _, _, _, _, _, _, _, _, _, _, _, _, _, lC⟩, sa, ga, gg, cl, iC, tI, kC, up, by
    intro f hf
    simp only [List.mem_cons, List.not_mem_nil, or_false] at hf
    rcases hf with rfl <;> assumption⟩
  exact ⟨⟨_, E⟩, fun base => ex_Shared__ddinitdd E EG lk hcd lcd hvc hfile lcc lcv⟩

theorem sc_TooLarge__ddinitdd : SupScope ["self", "name"] ["self", "name"] (defScope s_TooLarge__ddinitdd) := ⟨rfl, rfl, rfl, by decide +kernel, rfl, by decide +kernel, by decide +kernel, by decide +kernel, by decide +kernel, by decide +kernel⟩
theorem ex_TooLarge__ddinitdd {P : Program} {w : World} {K : PySem.W.Frag} {mg : Str → Option Value} {base : Heap} {C R fI cc cda : Addr} {oc kV doc pm ct ccl : Value} {an od cdd : Option Addr} {osl ccs : Array (Option Value)} {vc : Array Value} {ocl : Obj} {file : Str} {tf : Tok}
    (E : ExcK P K mg "TooLarge" C R fI ["name"]) (G : ExcG P K mg)
    (lk : K.lookup fI = some ⟨oc, od, .func (PySem.W.ksFn "__init__" "TooLarge.__init__" (defArgs s_TooLarge__ddinitdd) (defBody s_TooLarge__ddinitdd) (defScope s_TooLarge__ddinitdd) .none kV doc pm an (.ref cda) ct cc), osl⟩)
    (hcd : PySem.W.codeIn K (.ref cda) "TooLarge.__init__" = true) (lcd : K.lookup cda = some ⟨ccl, cdd, .fields vc, ccs⟩) (hvc : vc[2]? = some (.str file tf)) (hfile : ((P.main.file : Str) == file) = true) (lcc : K.lookup cc = some ocl) (lcv : ocl.data = .cell (some (.ref C))) :
    ∃ f fd, ExT P w K mg base "TooLarge" C ["self", "name"] (spEx C ["name"]) f fd := by
  refine ⟨fI, PySem.W.ksFn "__init__" "TooLarge.__init__" (defArgs s_TooLarge__ddinitdd) (defBody s_TooLarge__ddinitdd) (defScope s_TooLarge__ddinitdd) .none kV doc pm an (.ref cda) ct cc, E.oex, E.iC, E.tI, ?_, .all (fun us hl => match us, hl with | [_, _], _ => rfl), E.mgC⟩
  refine fn_sup lk hcd lcd hvc hfile lcc lcv sc_TooLarge__ddinitdd rfl rfl E.oex (E.supc G) (fun _ => rfl) (fun vs H Q E' h => ?_) (fun A outer s H vs Q E' hr h => ?_)
  · obtain ⟨a, ws, rfl, hl, ha, _⟩ := h
    exact ⟨by show ws.length + 1 = _; rw [hl]; rfl, a, ws, rfl, ha⟩
  · obtain ⟨a, ws, rfl, hl, ha, q⟩ := h
    obtain ⟨v1, rfl⟩ : ∃ v1 : V, ws = [v1] := by
      match ws, hl with
      | [v1], _ => exact ⟨v1, rfl⟩
    refine ⟨_, pss_one (ps_ost (pv 0) (pv 1)), ?_⟩
    refine ⟨_, rfl, _, rfl, a, C, rfl, E.oex, E.no "name" (by decide +kernel), .inl ⟨ha, fun d nd hda => ?_⟩⟩
    exact q d nd hda
theorem ck_TooLarge__ddinitdd {P : Program} {w : World} {K : PySem.W.Frag} {h : Heap} {mg : Str → Option Value} {C R fI cc cda N : Addr} {nm q : Str} {bs sub : List Value} {sn : List Str} {ab : Bool} {col : Option Bool} {dd : Option Addr} {k0 k1 k2 k3 k5 : Option Value}
    {oc kV doc pm ct ccl : Value} {an od cdd : Option Addr} {osl ccs : Array (Option Value)} {vc : Array Value} {ocl : Obj} {file : Str} {tf : Tok} (X : K.In h) (G : h.Ns mainGlobals mg) (EG : ExcG P K mg)
    (aC : PySem.W.nsIn K mainGlobals "TooLarge" = some (some (.ref C))) (lC : K.lookup C = some (excClassObj nm q C N bs (.ref R :: PySem.HandSPX.veTail) true sn sub ab col dd k0 k1 k2 k3 k5 "ValueError.__new__"))
    (sa : PySem.W.findIn K (.ref C) "__setattr__" = some (some (.builtin "object.__setattr__"))) (ga : PySem.W.findIn K (.ref C) "__getattribute__" = some (some (.builtin "BaseException.__getattribute__")))
    (gg : PySem.W.findIn K (.ref C) "__getattr__" = some none) (cl : PySem.W.findIn K (.ref C) "__class__" = some (some (.builtin "object.__class__"))) (iC : PySem.W.findIn K (.ref C) "__init__" = some (some (.ref fI))) (tI : PySem.W.typeIn K (.ref fI) = some (.type "function"))
    (kC : PySem.W.keepIn K (.ref C) = true) (up : PySem.W.ks_superIn K C C "__init__" = some (some (.builtin "ValueError.__init__"))) (n0 : PySem.W.findIn K (.ref C) "name" = some none)
    (lk : K.lookup fI = some ⟨oc, od, .func (PySem.W.ksFn "__init__" "TooLarge.__init__" (defArgs s_TooLarge__ddinitdd) (defBody s_TooLarge__ddinitdd) (defScope s_TooLarge__ddinitdd) .none kV doc pm an (.ref cda) ct cc), osl⟩)
    (hcd : PySem.W.codeIn K (.ref cda) "TooLarge.__init__" = true) (lcd : K.lookup cda = some ⟨ccl, cdd, .fields vc, ccs⟩) (hvc : vc[2]? = some (.str file tf)) (hfile : ((P.main.file : Str) == file) = true) (lcc : K.lookup cc = some ocl) (lcv : ocl.data = .cell (some (.ref C))) :
    ClsOk P w K mg "TooLarge" C R ["self", "name"] (spEx C ["name"]) ["name"] := by
  have E : ExcK P K mg "TooLarge" C R fI ["name"] := ⟨PySem.W.mg_of X G aC, ⟨_, _, _, _, _, _, _, _, _, _, _, _, _, _, lC⟩, sa, ga, gg, cl, iC, tI, kC, up, by
    intro f hf
    simp only [List.mem_cons, List.not_mem_nil, or_false] at hf
    rcases hf with rfl <;> assumption⟩
  exact ⟨⟨_, E⟩, fun base => ex_TooLarge__ddinitdd E EG lk hcd lcd hvc hfile lcc lcv⟩

theorem sc_UnknownFunction__ddinitdd : SupScope ["self", "name"] ["self", "name"] (defScope s_UnknownFunction__ddinitdd) := ⟨rfl, rfl, rfl, by decide +kernel, rfl, by decide +kernel, by decide +kernel, by decide +kernel, by decide +kernel, by decide +kernel⟩
theorem ex_UnknownFunction__ddinitdd {P : Program} {w : World} {K : PySem.W.Frag} {mg : Str → Option Value} {base : Heap} {C R fI cc cda : Addr} {oc kV doc pm ct ccl : Value} {an od cdd : Option Addr} {osl ccs : Array (Option Value)} {vc : Array Value} {ocl : Obj} {file : Str} {tf : Tok}
    (E : ExcK P K mg "UnknownFunction" C R fI ["name"]) (G : ExcG P K mg)
    (lk : K.lookup fI = some ⟨oc, od, .func (PySem.W.ksFn "__init__" "UnknownFunction.__init__" (defArgs s_UnknownFunction__ddinitdd) (defBody s_UnknownFunction__ddinitdd) (defScope s_UnknownFunction__ddinitdd) .none kV doc pm an (.ref cda) ct cc), osl⟩)
    (hcd : PySem.W.codeIn K (.ref cda) "UnknownFunction.__init__" = true) (lcd : K.lookup cda = some ⟨ccl, cdd, .fields vc, ccs⟩) (hvc : vc[2]? = some (.str file tf)) (hfile : ((P.main.file : Str) == file) = true) (lcc : K.lookup cc = some ocl) (lcv : ocl.data = .cell (some (.ref C))) :
    ∃ f fd, ExT P w K mg base "UnknownFunction" C ["self", "name"] (spEx C ["name"]) f fd := by
  refine ⟨fI, PySem.W.ksFn "__init__" "UnknownFunction.__init__" (defArgs s_UnknownFunction__ddinitdd) (defBody s_UnknownFunction__ddinitdd) (defScope s_UnknownFunction__ddinitdd) .none kV doc pm an (.ref cda) ct cc, E.oex, E.iC, E.tI, ?_, .all (fun us hl => match us, hl with | [_, _], _ => rfl), E.mgC⟩
  refine fn_sup lk hcd lcd hvc hfile lcc lcv sc_UnknownFunction__ddinitdd rfl rfl E.oex (E.supc G) (fun _ => rfl) (fun vs H Q E' h => ?_) (fun A outer s H vs Q E' hr h => ?_)
  · obtain ⟨a, ws, rfl, hl, ha, _⟩ := h
    exact ⟨by show ws.length + 1 = _; rw [hl]; rfl, a, ws, rfl, ha⟩
  · obtain ⟨a, ws, rfl, hl, ha, q⟩ := h
    obtain ⟨v1, rfl⟩ : ∃ v1 : V, ws = [v1] := by
      match ws, hl with
      | [v1], _ => exact ⟨v1, rfl⟩
    refine ⟨_, pss_one (ps_ost (pv 0) (pv 1)), ?_⟩
    refine ⟨_, rfl, _, rfl, a, C, rfl, E.oex, E.no "name" (by decide +kernel), .inl ⟨ha, fun d nd hda => ?_⟩⟩
    exact q d nd hda
theorem ck_UnknownFunction__ddinitdd {P : Program} {w : World} {K : PySem.W.Frag} {h : Heap} {mg : Str → Option Value} {C R fI cc cda N : Addr} {nm q : Str} {bs sub : List Value} {sn : List Str} {ab : Bool} {col : Option Bool} {dd : Option Addr} {k0 k1 k2 k3 k5 : Option Value}
    {oc kV doc pm ct ccl : Value} {an od cdd : Option Addr} {osl ccs : Array (Option Value)} {vc : Array Value} {ocl : Obj} {file : Str} {tf : Tok} (X : K.In h) (G : h.Ns mainGlobals mg) (EG : ExcG P K mg)
    (aC : PySem.W.nsIn K mainGlobals "UnknownFunction" = some (some (.ref C))) (lC : K.lookup C = some (excClassObj nm q C N bs (.ref R :: PySem.HandSPX.veTail) true sn sub ab col dd k0 k1 k2 k3 k5 "ValueError.__new__"))
    (sa : PySem.W.findIn K (.ref C) "__setattr__" = some (some (.builtin "object.__setattr__"))) (ga : PySem.W.findIn K (.ref C) "__getattribute__" = some (some (.builtin "BaseException.__getattribute__")))
    (gg : PySem.W.findIn K (.ref C) "__getattr__" = some none) (cl : PySem.W.findIn K (.ref C) "__class__" = some (some (.builtin "object.__class__"))) (iC : PySem.W.findIn K (.ref C) "__init__" = some (some (.ref fI))) (tI : PySem.W.typeIn K (.ref fI) = some (.type "function"))
    (kC : PySem.W.keepIn K (.ref C) = true) (up : PySem.W.ks_superIn K C C "__init__" = some (some (.builtin "ValueError.__init__"))) (n0 : PySem.W.findIn K (.ref C) "name" = some none)
    (lk : K.lookup fI = some ⟨oc, od, .func (PySem.W.ksFn "__init__" "UnknownFunction.__init__" (defArgs s_UnknownFunction__ddinitdd) (defBody s_UnknownFunction__ddinitdd) (defScope s_UnknownFunction__ddinitdd) .none kV doc pm an (.ref cda) ct cc), osl⟩)
    (hcd : PySem.W.codeIn K (.ref cda) "UnknownFunction.__init__" = true) (lcd : K.lookup cda = some ⟨ccl, cdd, .fields vc, ccs⟩) (hvc : vc[2]? = some (.str file tf)) (hfile : ((P.main.file : Str) == file) = true) (lcc : K.lookup cc = some ocl) (lcv : ocl.data = .cell (some (.ref C))) :
    ClsOk P w K mg "UnknownFunction" C R ["self", "name"] (spEx C ["name"]) ["name"] := by
  have E : ExcK P K mg "UnknownFunction" C R fI ["name"] := ⟨PySem.W.mg_of X G aC, ⟨_, _, _, _, _, _, _, _, _, _, _, _, _, _, lC⟩, sa, ga, gg, cl, iC, tI, kC, up, by
    intro f hf
    simp only [List.mem_cons, List.not_mem_nil, or_false] at hf
    rcases hf with rfl <;> assumption⟩
  exact ⟨⟨_, E⟩, fun base => ex_UnknownFunction__ddinitdd E EG lk hcd lcd hvc hfile lcc lcv⟩

theorem sc_WrongArguments__ddinitdd : SupScope ["self", "name"] ["self", "name"] (defScope s_WrongArguments__ddinitdd) := ⟨rfl, rfl, rfl, by decide +kernel, rfl, by decide +kernel, by decide +kernel, by decide +kernel, by decide +kernel, by decide +kernel⟩
theorem ex_WrongArguments__ddinitdd {P : Program} {w : World} {K : PySem.W.Frag} {mg : Str → Option Value} {base : Heap} {C R fI cc cda : Addr} {oc kV doc pm ct ccl : Value} {an od cdd : Option Addr} {osl ccs : Array (Option Value)} {vc : Array Value} {ocl : Obj} {file : Str} {tf : Tok}
    (E : ExcK P K mg "WrongArguments" C R fI ["name"]) (G : ExcG P K mg)
    (lk : K.lookup fI = some ⟨oc, od, .func (PySem.W.ksFn "__init__" "WrongArguments.__init__" (defArgs s_WrongArguments__ddinitdd) (defBody s_WrongArguments__ddinitdd) (defScope s_WrongArguments__ddinitdd) .none kV doc pm an (.ref cda) ct cc), osl⟩)
    (hcd : PySem.W.codeIn K (.ref cda) "WrongArguments.__init__" = true) (lcd : K.lookup cda = some ⟨ccl, cdd, .fields vc, ccs⟩) (hvc : vc[2]? = some (.str file tf)) (hfile : ((P.main.file : Str) == file) = true) (lcc : K.lookup cc = some ocl) (lcv : ocl.data = .cell (some (.ref C))) :
    ∃ f fd, ExT P w K mg base "WrongArguments" C ["self", "name"] (spEx C ["name"]) f fd := by
  refine ⟨fI, PySem.W.ksFn "__init__" "WrongArguments.__init__" (defArgs s_WrongArguments__ddinitdd) (defBody s_WrongArguments__ddinitdd) (defScope s_WrongArguments__ddinitdd) .none kV doc pm an (.ref cda) ct cc, E.oex, E.iC, E.tI, ?_, .all (fun us hl => match us, hl with | [_, _], _ => rfl), E.mgC⟩
  refine fn_sup lk hcd lcd hvc hfile lcc lcv sc_WrongArguments__ddinitdd rfl rfl E.oex (E.supc G) (fun _ => rfl) (fun vs H Q E' h => ?_) (fun A outer s H vs Q E' hr h => ?_)
  · obtain ⟨a, ws, rfl, hl, ha, _⟩ := h
    exact ⟨by show ws.length + 1 = _; rw [hl]; rfl, a, ws, rfl, ha⟩
  · obtain ⟨a, ws, rfl, hl, ha, q⟩ := h
    obtain ⟨v1, rfl⟩ : ∃ v1 : V, ws = [v1] := by
      match ws, hl with
      | [v1], _ => exact ⟨v1, rfl⟩
    refine ⟨_, pss_one (ps_ost (pv 0) (pv 1)), ?_⟩
    refine ⟨_, rfl, _, rfl, a, C, rfl, E.oex, E.no "name" (by decide +kernel), .inl ⟨ha, fun d nd hda => ?_⟩⟩
    exact q d nd hda
theorem ck_WrongArguments__ddinitdd {P : Program} {w : World} {K : PySem.W.Frag} {h : Heap} {mg : Str → Option Value} {C R fI cc cda N : Addr} {nm q : Str} {bs sub : List Value} {sn : List Str} {ab : Bool} {col : Option Bool} {dd : Option Addr} {k0 k1 k2 k3 k5 : Option Value}
    {oc kV doc pm ct ccl : Value} {an od cdd : Option Addr} {osl ccs : Array (Option Value)} {vc : Array Value} {ocl : Obj} {file : Str} {tf : Tok} (X : K.In h) (G : h.Ns mainGlobals mg) (EG : ExcG P K mg)
    (aC : PySem.W.nsIn K mainGlobals "WrongArguments" = some (some (.ref C))) (lC : K.lookup C = some (excClassObj nm q C N bs (.ref R :: PySem.HandSPX.veTail) true sn sub ab col dd k0 k1 k2 k3 k5 "ValueError.__new__"))
    (sa : PySem.W.findIn K (.ref C) "__setattr__" = some (some (.builtin "object.__setattr__"))) (ga : PySem.W.findIn K (.ref C) "__getattribute__" = some (some (.builtin "BaseException.__getattribute__")))
    (gg : PySem.W.findIn K (.ref C) "__getattr__" = some none) (cl : PySem.W.findIn K (.ref C) "__class__" = some (some (.builtin "object.__class__"))) (iC : PySem.W.findIn K (.ref C) "__init__" = some (some (.ref fI))) (tI : PySem.W.typeIn K (.ref fI) = some (.type "function"))
    (kC : PySem.W.keepIn K (.ref C) = true) (up : PySem.W.ks_superIn K C C "__init__" = some (some (.builtin "ValueError.__init__"))) (n0 : PySem.W.findIn K (.ref C) "name" = some none)
    (lk : K.lookup fI = some ⟨oc, od, .func (PySem.W.ksFn "__init__" "WrongArguments.__init__" (defArgs s_WrongArguments__ddinitdd) (defBody s_WrongArguments__ddinitdd) (defScope s_WrongArguments__ddinitdd) .none kV doc pm an (.ref cda) ct cc), osl⟩)
    (hcd : PySem.W.codeIn K (.ref cda) "WrongArguments.__init__" = true) (lcd : K.lookup cda = some ⟨ccl, cdd, .fields vc, ccs⟩) (hvc : vc[2]? = some (.str file tf)) (hfile : ((P.main.file : Str) == file) = true) (lcc : K.lookup cc = some ocl) (lcv : ocl.data = .cell (some (.ref C))) :
    ClsOk P w K mg "WrongArguments" C R ["self", "name"] (spEx C ["name"]) ["name"] := by
  have E : ExcK P K mg "WrongArguments" C R fI ["name"] := ⟨PySem.W.mg_of X G aC, ⟨_, _, _, _, _, _, _, _, _, _, _, _, _, _, lC⟩, sa, ga, gg, cl, iC, tI, kC, up, by
    intro f hf
    simp only [List.mem_cons, List.not_mem_nil, or_false] at hf
    rcases hf with rfl <;> assumption⟩
  exact ⟨⟨_, E⟩, fun base => ex_WrongArguments__ddinitdd E EG lk hcd lcd hvc hfile lcc lcv⟩

theorem sc_DoubleName__ddinitdd : SupScope ["self", "name", "at"] ["self", "name", "at"] (defScope s_DoubleName__ddinitdd) := ⟨rfl, rfl, rfl, by decide +kernel, rfl, by decide +kernel, by decide +kernel, by decide +kernel, by decide +kernel, by decide +kernel⟩
theorem ex_DoubleName__ddinitdd {P : Program} {w : World} {K : PySem.W.Frag} {mg : Str → Option Value} {base : Heap} {C R fI cc cda : Addr} {oc kV doc pm ct ccl : Value} {an od cdd : Option Addr} {osl ccs : Array (Option Value)} {vc : Array Value} {ocl : Obj} {file : Str} {tf : Tok}
    (E : ExcK P K mg "DoubleName" C R fI ["name", "at"]) (G : ExcG P K mg)
    (lk : K.lookup fI = some ⟨oc, od, .func (PySem.W.ksFn "__init__" "DoubleName.__init__" (defArgs s_DoubleName__ddinitdd) (defBody s_DoubleName__ddinitdd) (defScope s_DoubleName__ddinitdd) .none kV doc pm an (.ref cda) ct cc), osl⟩)
    (hcd : PySem.W.codeIn K (.ref cda) "DoubleName.__init__" = true) (lcd : K.lookup cda = some ⟨ccl, cdd, .fields vc, ccs⟩) (hvc : vc[2]? = some (.str file tf)) (hfile : ((P.main.file : Str) == file) = true) (lcc : K.lookup cc = some ocl) (lcv : ocl.data = .cell (some (.ref C))) :
    ∃ f fd, ExT P w K mg base "DoubleName" C ["self", "name", "at"] (spEx C ["name", "at"]) f fd := by
  refine ⟨fI, PySem.W.ksFn "__init__" "DoubleName.__init__" (defArgs s_DoubleName__ddinitdd) (defBody s_DoubleName__ddinitdd) (defScope s_DoubleName__ddinitdd) .none kV doc pm an (.ref cda) ct cc, E.oex, E.iC, E.tI, ?_, .all (fun us hl => match us, hl with | [_, _, _], _ => rfl), E.mgC⟩
  refine fn_sup lk hcd lcd hvc hfile lcc lcv sc_DoubleName__ddinitdd rfl rfl E.oex (E.supc G) (fun _ => rfl) (fun vs H Q E' h => ?_) (fun A outer s H vs Q E' hr h => ?_)
  · obtain ⟨a, ws, rfl, hl, ha, _⟩ := h
    exact ⟨by show ws.length + 1 = _; rw [hl]; rfl, a, ws, rfl, ha⟩
  · obtain ⟨a, ws, rfl, hl, ha, q⟩ := h
    obtain ⟨v1, v2, rfl⟩ : ∃ v1 v2 : V, ws = [v1, v2] := by
      match ws, hl with
      | [v1, v2], _ => exact ⟨v1, v2, rfl⟩
    refine ⟨_, pss_cons (ps_ost (pv 0) (pv 1)) (pss_one (ps_ost (pv 0) (pv 2))), ?_⟩
    refine ⟨_, rfl, _, rfl, a, C, rfl, E.oex, E.no "name" (by decide +kernel), .inl ⟨ha, fun d nd hda => ?_⟩⟩
    refine ⟨_, rfl, _, rfl, a, C, rfl, E.oex, E.no "at" (by decide +kernel), .inr ⟨d, _, upd_same, (upd_ne hda).trans upd_same, by show 1 ≤ 900; decide, ?_⟩⟩
    rw [upd3 hda]
    exact q d nd hda
theorem ck_DoubleName__ddinitdd {P : Program} {w : World} {K : PySem.W.Frag} {h : Heap} {mg : Str → Option Value} {C R fI cc cda N : Addr} {nm q : Str} {bs sub : List Value} {sn : List Str} {ab : Bool} {col : Option Bool} {dd : Option Addr} {k0 k1 k2 k3 k5 : Option Value}
    {oc kV doc pm ct ccl : Value} {an od cdd : Option Addr} {osl ccs : Array (Option Value)} {vc : Array Value} {ocl : Obj} {file : Str} {tf : Tok} (X : K.In h) (G : h.Ns mainGlobals mg) (EG : ExcG P K mg)
    (aC : PySem.W.nsIn K mainGlobals "DoubleName" = some (some (.ref C))) (lC : K.lookup C = some (excClassObj nm q C N bs (.ref R :: PySem.HandSPX.veTail) true sn sub ab col dd k0 k1 k2 k3 k5 "ValueError.__new__"))
    (sa : PySem.W.findIn K (.ref C) "__setattr__" = some (some (.builtin "object.__setattr__"))) (ga : PySem.W.findIn K (.ref C) "__getattribute__" = some (some (.builtin "BaseException.__getattribute__")))
    (gg : PySem.W.findIn K (.ref C) "__getattr__" = some none) (cl : PySem.W.findIn K (.ref C) "__class__" = some (some (.builtin "object.__class__"))) (iC : PySem.W.findIn K (.ref C) "__init__" = some (some (.ref fI))) (tI : PySem.W.typeIn K (.ref fI) = some (.type "function"))
    (kC : PySem.W.keepIn K (.ref C) = true) (up : PySem.W.ks_superIn K C C "__init__" = some (some (.builtin "ValueError.__init__"))) (n0 : PySem.W.findIn K (.ref C) "name" = some none) (n1 : PySem.W.findIn K (.ref C) "at" = some none)
    (lk : K.lookup fI = some ⟨oc, od, .func (PySem.W.ksFn "__init__" "DoubleName.__init__" (defArgs s_DoubleName__ddinitdd) (defBody s_DoubleName__ddinitdd) (defScope s_DoubleName__ddinitdd) .none kV doc pm an (.ref cda) ct cc), osl⟩)
    (hcd : PySem.W.codeIn K (.ref cda) "DoubleName.__init__" = true) (lcd : K.lookup cda = some ⟨ccl, cdd, .fields vc, ccs⟩) (hvc : vc[2]? = some (.str file tf)) (hfile : ((P.main.file : Str) == file) = true) (lcc : K.lookup cc = some ocl) (lcv : ocl.data = .cell (some (.ref C))) :
    ClsOk P w K mg "DoubleName" C R ["self", "name", "at"] (spEx C ["name", "at"]) ["name", "at"] := by
  have E : ExcK P K mg "DoubleName" C R fI ["name", "at"] := ⟨PySem.W.mg_of X G aC, ⟨_, _, _, _, _, _, _, _, _, _, _, _, _, _, lC⟩, sa, ga, gg, cl, iC, tI, kC, up, by
    intro f hf
    simp only [List.mem_cons, List.not_mem_nil, or_false] at hf
    rcases hf with rfl | rfl <;> assumption⟩
  exact ⟨⟨_, E⟩, fun base => ex_DoubleName__ddinitdd E EG lk hcd lcd hvc hfile lcc lcv⟩

theorem sc_UnknownName__ddinitdd : SupScope ["self", "name", "at"] ["self", "name", "at"] (defScope s_UnknownName__ddinitdd) := ⟨rfl, rfl, rfl, by decide +kernel, rfl, by decide +kernel, by decide +kernel, by decide +kernel, by decide +kernel, by decide +kernel⟩
theorem ex_UnknownName__ddinitdd {P : Program} {w : World} {K : PySem.W.Frag} {mg : Str → Option Value} {base : Heap} {C R fI cc cda : Addr} {oc kV doc pm ct ccl : Value} {an od cdd : Option Addr} {osl ccs : Array (Option Value)} {vc : Array Value} {ocl : Obj} {file : Str} {tf : Tok}
    (E : ExcK P K mg "UnknownName" C R fI ["name", "at"]) (G : ExcG P K mg)
    (lk : K.lookup fI = some ⟨oc, od, .func (PySem.W.ksFn "__init__" "UnknownName.__init__" (defArgs s_UnknownName__ddinitdd) (defBody s_UnknownName__ddinitdd) (defScope s_UnknownName__ddinitdd) .none kV doc pm an (.ref cda) ct cc), osl⟩)
    (hcd : PySem.W.codeIn K (.ref cda) "UnknownName.__init__" = true) (lcd : K.lookup cda = some ⟨ccl, cdd, .fields vc, ccs⟩) (hvc : vc[2]? = some (.str file tf)) (hfile : ((P.main.file : Str) == file) = true) (lcc : K.lookup cc = some ocl) (lcv : ocl.data = .cell (some (.ref C))) :
    ∃ f fd, ExT P w K mg base "UnknownName" C ["self", "name", "at"] (spEx C ["name", "at"]) f fd := by
  refine ⟨fI, PySem.W.ksFn "__init__" "UnknownName.__init__" (defArgs s_UnknownName__ddinitdd) (defBody s_UnknownName__ddinitdd) (defScope s_UnknownName__ddinitdd) .none kV doc pm an (.ref cda) ct cc, E.oex, E.iC, E.tI, ?_, .all (fun us hl => match us, hl with | [_, _, _], _ => rfl), E.mgC⟩
  refine fn_sup lk hcd lcd hvc hfile lcc lcv sc_UnknownName__ddinitdd rfl rfl E.oex (E.supc G) (fun _ => rfl) (fun vs H Q E' h => ?_) (fun A outer s H vs Q E' hr h => ?_)
  · obtain ⟨a, ws, rfl, hl, ha, _⟩ := h
    exact ⟨by show ws.length + 1 = _; rw [hl]; rfl, a, ws, rfl, ha⟩
  · obtain ⟨a, ws, rfl, hl, ha, q⟩ := h
    obtain ⟨v1, v2, rfl⟩ : ∃ v1 v2 : V, ws = [v1, v2] := by
      match ws, hl with
      | [v1, v2], _ => exact ⟨v1, v2, rfl⟩
    refine ⟨_, pss_cons (ps_ost (pv 0) (pv 1)) (pss_one (ps_ost (pv 0) (pv 2))), ?_⟩
    refine ⟨_, rfl, _, rfl, a, C, rfl, E.oex, E.no "name" (by decide +kernel), .inl ⟨ha, fun d nd hda => ?_⟩⟩
    refine ⟨_, rfl, _, rfl, a, C, rfl, E.oex, E.no "at" (by decide +kernel), .inr ⟨d, _, upd_same, (upd_ne hda).trans upd_same, by show 1 ≤ 900; decide, ?_⟩⟩
    rw [upd3 hda]
    exact q d nd hda
theorem ck_UnknownName__ddinitdd {P : Program} {w : World} {K : PySem.W.Frag} {h : Heap} {mg : Str → Option Value} {C R fI cc cda N : Addr} {nm q : Str} {bs sub : List Value} {sn : List Str} {ab : Bool} {col : Option Bool} {dd : Option Addr} {k0 k1 k2 k3 k5 : Option Value}
    {oc kV doc pm ct ccl : Value} {an od cdd : Option Addr} {osl ccs : Array (Option Value)} {vc : Array Value} {ocl : Obj} {file : Str} {tf : Tok} (X : K.In h) (G : h.Ns mainGlobals mg) (EG : ExcG P K mg)
    (aC : PySem.W.nsIn K mainGlobals "UnknownName" = some (some (.ref C))) (lC : K.lookup C = some (excClassObj nm q C N bs (.ref R :: PySem.HandSPX.veTail) true sn sub ab col dd k0 k1 k2 k3 k5 "ValueError.__new__"))
    (sa : PySem.W.findIn K (.ref C) "__setattr__" = some (some (.builtin "object.__setattr__"))) (ga : PySem.W.findIn K (.ref C) "__getattribute__" = some (some (.builtin "BaseException.__getattribute__")))
    (gg : PySem.W.findIn K (.ref C) "__getattr__" = some none) (cl : PySem.W.findIn K (.ref C) "__class__" = some (some (.builtin "object.__class__"))) (iC : PySem.W.findIn K (.ref C) "__init__" = some (some (.ref fI))) (tI : PySem.W.typeIn K (.ref fI) = some (.type "function"))
    (kC : PySem.W.keepIn K (.ref C) = true) (up : PySem.W.ks_superIn K C C "__init__" = some (some (.builtin "ValueError.__init__"))) (n0 : PySem.W.findIn K (.ref C) "name" = some none) (n1 : PySem.W.findIn K (.ref C) "at" = some none)
    (lk : K.lookup fI = some ⟨oc, od, .func (PySem.W.ksFn "__init__" "UnknownName.__init__" (defArgs s_UnknownName__ddinitdd) (defBody s_UnknownName__ddinitdd) (defScope s_UnknownName__ddinitdd) .none kV doc pm an (.ref cda) ct cc), osl⟩)
    (hcd : PySem.W.codeIn K (.ref cda) "UnknownName.__init__" = true) (lcd : K.lookup cda = some ⟨ccl, cdd, .fields vc, ccs⟩) (hvc : vc[2]? = some (.str file tf)) (hfile : ((P.main.file : Str) == file) = true) (lcc : K.lookup cc = some ocl) (lcv : ocl.data = .cell (some (.ref C))) :
    ClsOk P w K mg "UnknownName" C R ["self", "name", "at"] (spEx C ["name", "at"]) ["name", "at"] := by
  have E : ExcK P K mg "UnknownName" C R fI ["name", "at"] := ⟨PySem.W.mg_of X G aC, ⟨_, _, _, _, _, _, _, _, _, _, _, _, _, _, lC⟩, sa, ga, gg, cl, iC, tI, kC, up, by
    intro f hf
    simp only [List.mem_cons, List.not_mem_nil, or_false] at hf
    rcases hf with rfl | rfl <;> assumption⟩
  exact ⟨⟨_, E⟩, fun base => ex_UnknownName__ddinitdd E EG lk hcd lcd hvc hfile lcc lcv⟩

theorem sc_WrongCount__ddinitdd : SupScope ["self", "name", "at"] ["self", "name", "at"] (defScope s_WrongCount__ddinitdd) := ⟨rfl, rfl, rfl, by decide +kernel, rfl, by decide +kernel, by decide +kernel, by decide +kernel, by decide +kernel, by decide +kernel⟩
theorem ex_WrongCount__ddinitdd {P : Program} {w : World} {K : PySem.W.Frag} {mg : Str → Option Value} {base : Heap} {C R fI cc cda : Addr} {oc kV doc pm ct ccl : Value} {an od cdd : Option Addr} {osl ccs : Array (Option Value)} {vc : Array Value} {ocl : Obj} {file : Str} {tf : Tok}
    (E : ExcK P K mg "WrongCount" C R fI ["name", "at"]) (G : ExcG P K mg)
    (lk : K.lookup fI = some ⟨oc, od, .func (PySem.W.ksFn "__init__" "WrongCount.__init__" (defArgs s_WrongCount__ddinitdd) (defBody s_WrongCount__ddinitdd) (defScope s_WrongCount__ddinitdd) .none kV doc pm an (.ref cda) ct cc), osl⟩)
    (hcd : PySem.W.codeIn K (.ref cda) "WrongCount.__init__" = true) (lcd : K.lookup cda = some ⟨ccl, cdd, .fields vc, ccs⟩) (hvc : vc[2]? = some (.str file tf)) (hfile : ((P.main.file : Str) == file) = true) (lcc : K.lookup cc = some ocl) (lcv : ocl.data = .cell (some (.ref C))) :
    ∃ f fd, ExT P w K mg base "WrongCount" C ["self", "name", "at"] (spEx C ["name", "at"]) f fd := by
  refine ⟨fI, PySem.W.ksFn "__init__" "WrongCount.__init__" (defArgs s_WrongCount__ddinitdd) (defBody s_WrongCount__ddinitdd) (defScope s_WrongCount__ddinitdd) .none kV doc pm an (.ref cda) ct cc, E.oex, E.iC, E.tI, ?_, .all (fun us hl => match us, hl with | [_, _, _], _ => rfl), E.mgC⟩
  refine fn_sup lk hcd lcd hvc hfile lcc lcv sc_WrongCount__ddinitdd rfl rfl E.oex (E.supc G) (fun _ => rfl) (fun vs H Q E' h => ?_) (fun A outer s H vs Q E' hr h => ?_)
  · obtain ⟨a, ws, rfl, hl, ha, _⟩ := h
    exact ⟨by show ws.length + 1 = _; rw [hl]; rfl, a, ws, rfl, ha⟩
  · obtain ⟨a, ws, rfl, hl, ha, q⟩ := h
    obtain ⟨v1, v2, rfl⟩ : ∃ v1 v2 : V, ws = [v1, v2] := by
      match ws, hl with
      | [v1, v2], _ => exact ⟨v1, v2, rfl⟩
    refine ⟨_, pss_cons (ps_ost (pv 0) (pv 1)) (pss_one (ps_ost (pv 0) (pv 2))), ?_⟩
    refine ⟨_, rfl, _, rfl, a, C, rfl, E.oex, E.no "name" (by decide +kernel), .inl ⟨ha, fun d nd hda => ?_⟩⟩
    refine ⟨_, rfl, _, rfl, a, C, rfl, E.oex, E.no "at" (by decide +kernel), .inr ⟨d, _, upd_same, (upd_ne hda).trans upd_same, by show 1 ≤ 900; decide, ?_⟩⟩
    rw [upd3 hda]
    exact q d nd hda
theorem ck_WrongCount__ddinitdd {P : Program} {w : World} {K : PySem.W.Frag} {h : Heap} {mg : Str → Option Value} {C R fI cc cda N : Addr} {nm q : Str} {bs sub : List Value} {sn : List Str} {ab : Bool} {col : Option Bool} {dd : Option Addr} {k0 k1 k2 k3 k5 : Option Value}
    {oc kV doc pm ct ccl : Value} {an od cdd : Option Addr} {osl ccs : Array (Option Value)} {vc : Array Value} {ocl : Obj} {file : Str} {tf : Tok} (X : K.In h) (G : h.Ns mainGlobals mg) (EG : ExcG P K mg)
    (aC : PySem.W.nsIn K mainGlobals "WrongCount" = some (some (.ref C))) (lC : K.lookup C = some (excClassObj nm q C N bs (.ref R :: PySem.HandSPX.veTail) true sn sub ab col dd k0 k1 k2 k3 k5 "ValueError.__new__"))
    (sa : PySem.W.findIn K (.ref C) "__setattr__" = some (some (.builtin "object.__setattr__"))) (ga : PySem.W.findIn K (.ref C) "__getattribute__" = some (some (.builtin "BaseException.__getattribute__")))
    (gg : PySem.W.findIn K (.ref C) "__getattr__" = some none) (cl : PySem.W.findIn K (.ref C) "__class__" = some (some (.builtin "object.__class__"))) (iC : PySem.W.findIn K (.ref C) "__init__" = some (some (.ref fI))) (tI : PySem.W.typeIn K (.ref fI) = some (.type "function"))
    (kC : PySem.W.keepIn K (.ref C) = true) (up : PySem.W.ks_superIn K C C "__init__" = some (some (.builtin "ValueError.__init__"))) (n0 : PySem.W.findIn K (.ref C) "name" = some none) (n1 : PySem.W.findIn K (.ref C) "at" = some none)
    (lk : K.lookup fI = some ⟨oc, od, .func (PySem.W.ksFn "__init__" "WrongCount.__init__" (defArgs s_WrongCount__ddinitdd) (defBody s_WrongCount__ddinitdd) (defScope s_WrongCount__ddinitdd) .none kV doc pm an (.ref cda) ct cc), osl⟩)
    (hcd : PySem.W.codeIn K (.ref cda) "WrongCount.__init__" = true) (lcd : K.lookup cda = some ⟨ccl, cdd, .fields vc, ccs⟩) (hvc : vc[2]? = some (.str file tf)) (hfile : ((P.main.file : Str) == file) = true) (lcc : K.lookup cc = some ocl) (lcv : ocl.data = .cell (some (.ref C))) :
    ClsOk P w K mg "WrongCount" C R ["self", "name", "at"] (spEx C ["name", "at"]) ["name", "at"] := by
  have E : ExcK P K mg "WrongCount" C R fI ["name", "at"] := ⟨PySem.W.mg_of X G aC, ⟨_, _, _, _, _, _, _, _, _, _, _, _, _, _, lC⟩, sa, ga, gg, cl, iC, tI, kC, up, by
    intro f hf
    simp only [List.mem_cons, List.not_mem_nil, or_false] at hf
    rcases hf with rfl | rfl <;> assumption⟩
  exact ⟨⟨_, E⟩, fun base => ex_WrongCount__ddinitdd E EG lk hcd lcd hvc hfile lcc lcv⟩

theorem sc_BadText__ddinitdd : SupScope ["self", "at"] ["self", "at"] (defScope s_BadText__ddinitdd) := ⟨rfl, rfl, rfl, by decide +kernel, rfl, by decide +kernel, by decide +kernel, by decide +kernel, by decide +kernel, by decide +kernel⟩
theorem ex_BadText__ddinitdd {P : Program} {w : World} {K : PySem.W.Frag} {mg : Str → Option Value} {base : Heap} {C R fI cc cda : Addr} {oc kV doc pm ct ccl : Value} {an od cdd : Option Addr} {osl ccs : Array (Option Value)} {vc : Array Value} {ocl : Obj} {file : Str} {tf : Tok}
    (E : ExcK P K mg "BadText" C R fI ["at"]) (G : ExcG P K mg)
    (lk : K.lookup fI = some ⟨oc, od, .func (PySem.W.ksFn "__init__" "BadText.__init__" (defArgs s_BadText__ddinitdd) (defBody s_BadText__ddinitdd) (defScope s_BadText__ddinitdd) .none kV doc pm an (.ref cda) ct cc), osl⟩)
    (hcd : PySem.W.codeIn K (.ref cda) "BadText.__init__" = true) (lcd : K.lookup cda = some ⟨ccl, cdd, .fields vc, ccs⟩) (hvc : vc[2]? = some (.str file tf)) (hfile : ((P.main.file : Str) == file) = true) (lcc : K.lookup cc = some ocl) (lcv : ocl.data = .cell (some (.ref C))) :
    ∃ f fd, ExT P w K mg base "BadText" C ["self", "at"] (spEx C ["at"]) f fd := by
  refine ⟨fI, PySem.W.ksFn "__init__" "BadText.__init__" (defArgs s_BadText__ddinitdd) (defBody s_BadText__ddinitdd) (defScope s_BadText__ddinitdd) .none kV doc pm an (.ref cda) ct cc, E.oex, E.iC, E.tI, ?_, .all (fun us hl => match us, hl with | [_, _], _ => rfl), E.mgC⟩
  refine fn_sup lk hcd lcd hvc hfile lcc lcv sc_BadText__ddinitdd rfl rfl E.oex (E.supc G) (fun _ => rfl) (fun vs H Q E' h => ?_) (fun A outer s H vs Q E' hr h => ?_)
  · obtain ⟨a, ws, rfl, hl, ha, _⟩ := h
    exact ⟨by show ws.length + 1 = _; rw [hl]; rfl, a, ws, rfl, ha⟩
  · obtain ⟨a, ws, rfl, hl, ha, q⟩ := h
    obtain ⟨v1, rfl⟩ : ∃ v1 : V, ws = [v1] := by
      match ws, hl with
      | [v1], _ => exact ⟨v1, rfl⟩
    refine ⟨_, pss_one (ps_ost (pv 0) (pv 1)), ?_⟩
    refine ⟨_, rfl, _, rfl, a, C, rfl, E.oex, E.no "at" (by decide +kernel), .inl ⟨ha, fun d nd hda => ?_⟩⟩
    exact q d nd hda
theorem ck_BadText__ddinitdd {P : Program} {w : World} {K : PySem.W.Frag} {h : Heap} {mg : Str → Option Value} {C R fI cc cda N : Addr} {nm q : Str} {bs sub : List Value} {sn : List Str} {ab : Bool} {col : Option Bool} {dd : Option Addr} {k0 k1 k2 k3 k5 : Option Value}
    {oc kV doc pm ct ccl : Value} {an od cdd : Option Addr} {osl ccs : Array (Option Value)} {vc : Array Value} {ocl : Obj} {file : Str} {tf : Tok} (X : K.In h) (G : h.Ns mainGlobals mg) (EG : ExcG P K mg)
    (aC : PySem.W.nsIn K mainGlobals "BadText" = some (some (.ref C))) (lC : K.lookup C = some (excClassObj nm q C N bs (.ref R :: PySem.HandSPX.veTail) true sn sub ab col dd k0 k1 k2 k3 k5 "ValueError.__new__"))
    (sa : PySem.W.findIn K (.ref C) "__setattr__" = some (some (.builtin "object.__setattr__"))) (ga : PySem.W.findIn K (.ref C) "__getattribute__" = some (some (.builtin "BaseException.__getattribute__")))
    (gg : PySem.W.findIn K (.ref C) "__getattr__" = some none) (cl : PySem.W.findIn K (.ref C) "__class__" = some (some (.builtin "object.__class__"))) (iC : PySem.W.findIn K (.ref C) "__init__" = some (some (.ref fI))) (tI : PySem.W.typeIn K (.ref fI) = some (.type "function"))
    (kC : PySem.W.keepIn K (.ref C) = true) (up : PySem.W.ks_superIn K C C "__init__" = some (some (.builtin "ValueError.__init__"))) (n0 : PySem.W.findIn K (.ref C) "at" = some none)
    (lk : K.lookup fI = some ⟨oc, od, .func (PySem.W.ksFn "__init__" "BadText.__init__" (defArgs s_BadText__ddinitdd) (defBody s_BadText__ddinitdd) (defScope s_BadText__ddinitdd) .none kV doc pm an (.ref cda) ct cc), osl⟩)
    (hcd : PySem.W.codeIn K (.ref cda) "BadText.__init__" = true) (lcd : K.lookup cda = some ⟨ccl, cdd, .fields vc, ccs⟩) (hvc : vc[2]? = some (.str file tf)) (hfile : ((P.main.file : Str) == file) = true) (lcc : K.lookup cc = some ocl) (lcv : ocl.data = .cell (some (.ref C))) :
    ClsOk P w K mg "BadText" C R ["self", "at"] (spEx C ["at"]) ["at"] := by
  have E : ExcK P K mg "BadText" C R fI ["at"] := ⟨PySem.W.mg_of X G aC, ⟨_, _, _, _, _, _, _, _, _, _, _, _, _, _, lC⟩, sa, ga, gg, cl, iC, tI, kC, up, by
    intro f hf
    simp only [List.mem_cons, List.not_mem_nil, or_false] at hf
    rcases hf with rfl <;> assumption⟩
  exact ⟨⟨_, E⟩, fun base => ex_BadText__ddinitdd E EG lk hcd lcd hvc hfile lcc lcv⟩

theorem sc_TooDeep__ddinitdd : SupScope ["self", "at"] ["self", "at"] (defScope s_TooDeep__ddinitdd) := ⟨rfl, rfl, rfl, by decide +kernel, rfl, by decide +kernel, by decide +kernel, by decide +kernel, by decide +kernel, by decide +kernel⟩
theorem ex_TooDeep__ddinitdd {P : Program} {w : World} {K : PySem.W.Frag} {mg : Str → Option Value} {base : Heap} {C R fI cc cda : Addr} {oc kV doc pm ct ccl : Value} {an od cdd : Option Addr} {osl ccs : Array (Option Value)} {vc : Array Value} {ocl : Obj} {file : Str} {tf : Tok}
    (E : ExcK P K mg "TooDeep" C R fI ["at"]) (G : ExcG P K mg)
    (lk : K.lookup fI = some ⟨oc, od, .func (PySem.W.ksFn "__init__" "TooDeep.__init__" (defArgs s_TooDeep__ddinitdd) (defBody s_TooDeep__ddinitdd) (defScope s_TooDeep__ddinitdd) .none kV doc pm an (.ref cda) ct cc), osl⟩)
    (hcd : PySem.W.codeIn K (.ref cda) "TooDeep.__init__" = true) (lcd : K.lookup cda = some ⟨ccl, cdd, .fields vc, ccs⟩) (hvc : vc[2]? = some (.str file tf)) (hfile : ((P.main.file : Str) == file) = true) (lcc : K.lookup cc = some ocl) (lcv : ocl.data = .cell (some (.ref C))) :
    ∃ f fd, ExT P w K mg base "TooDeep" C ["self", "at"] (spEx C ["at"]) f fd := by
  refine ⟨fI, PySem.W.ksFn "__init__" "TooDeep.__init__" (defArgs s_TooDeep__ddinitdd) (defBody s_TooDeep__ddinitdd) (defScope s_TooDeep__ddinitdd) .none kV doc pm an (.ref cda) ct cc, E.oex, E.iC, E.tI, ?_, .all (fun us hl => match us, hl with | [_, _], _ => rfl), E.mgC⟩
  refine fn_sup lk hcd lcd hvc hfile lcc lcv sc_TooDeep__ddinitdd rfl rfl E.oex (E.supc G) (fun _ => rfl) (fun vs H Q E' h => ?_) (fun A outer s H vs Q E' hr h => ?_)
  · obtain ⟨a, ws, rfl, hl, ha, _⟩ := h
    exact ⟨by show ws.length + 1 = _; rw [hl]; rfl, a, ws, rfl, ha⟩
  · obtain ⟨a, ws, rfl, hl, ha, q⟩ := h
    obtain ⟨v1, rfl⟩ : ∃ v1 : V, ws = [v1] := by
      match ws, hl with
      | [v1], _ => exact ⟨v1, rfl⟩
    refine ⟨_, pss_one (ps_ost (pv 0) (pv 1)), ?_⟩
    refine ⟨_, rfl, _, rfl, a, C, rfl, E.oex, E.no "at" (by decide +kernel), .inl ⟨ha, fun d nd hda => ?_⟩⟩
    exact q d nd hda
theorem ck_TooDeep__ddinitdd {P : Program} {w : World} {K : PySem.W.Frag} {h : Heap} {mg : Str → Option Value} {C R fI cc cda N : Addr} {nm q : Str} {bs sub : List Value} {sn : List Str} {ab : Bool} {col : Option Bool} {dd : Option Addr} {k0 k1 k2 k3 k5 : Option Value}
    {oc kV doc pm ct ccl : Value} {an od cdd : Option Addr} {osl ccs : Array (Option Value)} {vc : Array Value} {ocl : Obj} {file : Str} {tf : Tok} (X : K.In h) (G : h.Ns mainGlobals mg) (EG : ExcG P K mg)
    (aC : PySem.W.nsIn K mainGlobals "TooDeep" = some (some (.ref C))) (lC : K.lookup C = some (excClassObj nm q C N bs (.ref R :: PySem.HandSPX.veTail) true sn sub ab col dd k0 k1 k2 k3 k5 "ValueError.__new__"))
    (sa : PySem.W.findIn K (.ref C) "__setattr__" = some (some (.builtin "object.__setattr__"))) (ga : PySem.W.findIn K (.ref C) "__getattribute__" = some (some (.builtin "BaseException.__getattribute__")))
    (gg : PySem.W.findIn K (.ref C) "__getattr__" = some none) (cl : PySem.W.findIn K (.ref C) "__class__" = some (some (.builtin "object.__class__"))) (iC : PySem.W.findIn K (.ref C) "__init__" = some (some (.ref fI))) (tI : PySem.W.typeIn K (.ref fI) = some (.type "function"))
    (kC : PySem.W.keepIn K (.ref C) = true) (up : PySem.W.ks_superIn K C C "__init__" = some (some (.builtin "ValueError.__init__"))) (n0 : PySem.W.findIn K (.ref C) "at" = some none)
    (lk : K.lookup fI = some ⟨oc, od, .func (PySem.W.ksFn "__init__" "TooDeep.__init__" (defArgs s_TooDeep__ddinitdd) (defBody s_TooDeep__ddinitdd) (defScope s_TooDeep__ddinitdd) .none kV doc pm an (.ref cda) ct cc), osl⟩)
    (hcd : PySem.W.codeIn K (.ref cda) "TooDeep.__init__" = true) (lcd : K.lookup cda = some ⟨ccl, cdd, .fields vc, ccs⟩) (hvc : vc[2]? = some (.str file tf)) (hfile : ((P.main.file : Str) == file) = true) (lcc : K.lookup cc = some ocl) (lcv : ocl.data = .cell (some (.ref C))) :
    ClsOk P w K mg "TooDeep" C R ["self", "at"] (spEx C ["at"]) ["at"] := by
  have E : ExcK P K mg "TooDeep" C R fI ["at"] := ⟨PySem.W.mg_of X G aC, ⟨_, _, _, _, _, _, _, _, _, _, _, _, _, _, lC⟩, sa, ga, gg, cl, iC, tI, kC, up, by
    intro f hf
    simp only [List.mem_cons, List.not_mem_nil, or_false] at hf
    rcases hf with rfl <;> assumption⟩
  exact ⟨⟨_, E⟩, fun base => ex_TooDeep__ddinitdd E EG lk hcd lcd hvc hfile lcc lcv⟩

theorem sc_NoBranch__ddinitdd : SupScope ["self", "at"] ["self", "at"] (defScope s_NoBranch__ddinitdd) := ⟨rfl, rfl, rfl, by decide +kernel, rfl, by decide +kernel, by decide +kernel, by decide +kernel, by decide +kernel, by decide +kernel⟩
theorem ex_NoBranch__ddinitdd {P : Program} {w : World} {K : PySem.W.Frag} {mg : Str → Option Value} {base : Heap} {C R fI cc cda : Addr} {oc kV doc pm ct ccl : Value} {an od cdd : Option Addr} {osl ccs : Array (Option Value)} {vc : Array Value} {ocl : Obj} {file : Str} {tf : Tok}
    (E : ExcK P K mg "NoBranch" C R fI ["at"]) (G : ExcG P K mg)
    (lk : K.lookup fI = some ⟨oc, od, .func (PySem.W.ksFn "__init__" "NoBranch.__init__" (defArgs s_NoBranch__ddinitdd) (defBody s_NoBranch__ddinitdd) (defScope s_NoBranch__ddinitdd) .none kV doc pm an (.ref cda) ct cc), osl⟩)
    (hcd : PySem.W.codeIn K (.ref cda) "NoBranch.__init__" = true) (lcd : K.lookup cda = some ⟨ccl, cdd, .fields vc, ccs⟩) (hvc : vc[2]? = some (.str file tf)) (hfile : ((P.main.file : Str) == file) = true) (lcc : K.lookup cc = some ocl) (lcv : ocl.data = .cell (some (.ref C))) :
    ∃ f fd, ExT P w K mg base "NoBranch" C ["self", "at"] (spEx C ["at"]) f fd := by
  refine ⟨fI, PySem.W.ksFn "__init__" "NoBranch.__init__" (defArgs s_NoBranch__ddinitdd) (defBody s_NoBranch__ddinitdd) (defScope s_NoBranch__ddinitdd) .none kV doc pm an (.ref cda) ct cc, E.oex, E.iC, E.tI, ?_, .all (fun us hl => match us, hl with | [_, _], _ => rfl), E.mgC⟩
  refine fn_sup lk hcd lcd hvc hfile lcc lcv sc_NoBranch__ddinitdd rfl rfl E.oex (E.supc G) (fun _ => rfl) (fun vs H Q E' h => ?_) (fun A outer s H vs Q E' hr h => ?_)
  · obtain ⟨a, ws, rfl, hl, ha, _⟩ := h
    exact ⟨by show ws.length + 1 = _; rw [hl]; rfl, a, ws, rfl, ha⟩
  · obtain ⟨a, ws, rfl, hl, ha, q⟩ := h
    obtain ⟨v1, rfl⟩ : ∃ v1 : V, ws = [v1] := by
      match ws, hl with
      | [v1], _ => exact ⟨v1, rfl⟩
    refine ⟨_, pss_one (ps_ost (pv 0) (pv 1)), ?_⟩
    refine ⟨_, rfl, _, rfl, a, C, rfl, E.oex, E.no "at" (by decide +kernel), .inl ⟨ha, fun d nd hda => ?_⟩⟩
    exact q d nd hda
theorem ck_NoBranch__ddinitdd {P : Program} {w : World} {K : PySem.W.Frag} {h : Heap} {mg : Str → Option Value} {C R fI cc cda N : Addr} {nm q : Str} {bs sub : List Value} {sn : List Str} {ab : Bool} {col : Option Bool} {dd : Option Addr} {k0 k1 k2 k3 k5 : Option Value}
    {oc kV doc pm ct ccl : Value} {an od cdd : Option Addr} {osl ccs : Array (Option Value)} {vc : Array Value} {ocl : Obj} {file : Str} {tf : Tok} (X : K.In h) (G : h.Ns mainGlobals mg) (EG : ExcG P K mg)
    (aC : PySem.W.nsIn K mainGlobals "NoBranch" = some (some (.ref C))) (lC : K.lookup C = some (excClassObj nm q C N bs (.ref R :: PySem.HandSPX.veTail) true sn sub ab col dd k0 k1 k2 k3 k5 "ValueError.__new__"))
    (sa : PySem.W.findIn K (.ref C) "__setattr__" = some (some (.builtin "object.__setattr__"))) (ga : PySem.W.findIn K (.ref C) "__getattribute__" = some (some (.builtin "BaseException.__getattribute__")))
    (gg : PySem.W.findIn K (.ref C) "__getattr__" = some none) (cl : PySem.W.findIn K (.ref C) "__class__" = some (some (.builtin "object.__class__"))) (iC : PySem.W.findIn K (.ref C) "__init__" = some (some (.ref fI))) (tI : PySem.W.typeIn K (.ref fI) = some (.type "function"))
    (kC : PySem.W.keepIn K (.ref C) = true) (up : PySem.W.ks_superIn K C C "__init__" = some (some (.builtin "ValueError.__init__"))) (n0 : PySem.W.findIn K (.ref C) "at" = some none)
    (lk : K.lookup fI = some ⟨oc, od, .func (PySem.W.ksFn "__init__" "NoBranch.__init__" (defArgs s_NoBranch__ddinitdd) (defBody s_NoBranch__ddinitdd) (defScope s_NoBranch__ddinitdd) .none kV doc pm an (.ref cda) ct cc), osl⟩)
    (hcd : PySem.W.codeIn K (.ref cda) "NoBranch.__init__" = true) (lcd : K.lookup cda = some ⟨ccl, cdd, .fields vc, ccs⟩) (hvc : vc[2]? = some (.str file tf)) (hfile : ((P.main.file : Str) == file) = true) (lcc : K.lookup cc = some ocl) (lcv : ocl.data = .cell (some (.ref C))) :
    ClsOk P w K mg "NoBranch" C R ["self", "at"] (spEx C ["at"]) ["at"] := by
  have E : ExcK P K mg "NoBranch" C R fI ["at"] := ⟨PySem.W.mg_of X G aC, ⟨_, _, _, _, _, _, _, _, _, _, _, _, _, _, lC⟩, sa, ga, gg, cl, iC, tI, kC, up, by
    intro f hf
    simp only [List.mem_cons, List.not_mem_nil, or_false] at hf
    rcases hf with rfl <;> assumption⟩
  exact ⟨⟨_, E⟩, fun base => ex_NoBranch__ddinitdd E EG lk hcd lcd hvc hfile lcc lcv⟩

theorem sc_Mismatch__ddinitdd : SupScope ["self"] ["self"] (defScope s_Mismatch__ddinitdd) := ⟨rfl, rfl, rfl, by decide +kernel, rfl, by decide +kernel, by decide +kernel, by decide +kernel, by decide +kernel, by decide +kernel⟩
theorem ex_Mismatch__ddinitdd {P : Program} {w : World} {K : PySem.W.Frag} {mg : Str → Option Value} {base : Heap} {C R fI cc cda : Addr} {oc kV doc pm ct ccl : Value} {an od cdd : Option Addr} {osl ccs : Array (Option Value)} {vc : Array Value} {ocl : Obj} {file : Str} {tf : Tok}
    (E : ExcK P K mg "Mismatch" C R fI []) (G : ExcG P K mg)
    (lk : K.lookup fI = some ⟨oc, od, .func (PySem.W.ksFn "__init__" "Mismatch.__init__" (defArgs s_Mismatch__ddinitdd) (defBody s_Mismatch__ddinitdd) (defScope s_Mismatch__ddinitdd) .none kV doc pm an (.ref cda) ct cc), osl⟩)
    (hcd : PySem.W.codeIn K (.ref cda) "Mismatch.__init__" = true) (lcd : K.lookup cda = some ⟨ccl, cdd, .fields vc, ccs⟩) (hvc : vc[2]? = some (.str file tf)) (hfile : ((P.main.file : Str) == file) = true) (lcc : K.lookup cc = some ocl) (lcv : ocl.data = .cell (some (.ref C))) :
    ∃ f fd, ExT P w K mg base "Mismatch" C ["self"] (spEx0 C) f fd := by
  refine ⟨fI, PySem.W.ksFn "__init__" "Mismatch.__init__" (defArgs s_Mismatch__ddinitdd) (defBody s_Mismatch__ddinitdd) (defScope s_Mismatch__ddinitdd) .none kV doc pm an (.ref cda) ct cc, E.oex, E.iC, E.tI, ?_, .all (fun us hl => match us, hl with | [_], _ => rfl), E.mgC⟩
  refine fn_sup lk hcd lcd hvc hfile lcc lcv sc_Mismatch__ddinitdd rfl rfl E.oex (E.supc G) (fun _ => rfl) (fun vs H Q E' h => ?_) (fun A outer s H vs Q E' hr h => ?_)
  · obtain ⟨a, rfl, ha, _⟩ := h
    exact ⟨rfl, a, [], rfl, ha⟩
  · obtain ⟨a, rfl, ha, q⟩ := h
    exact ⟨_, pss_nil, q⟩
theorem ck_Mismatch__ddinitdd {P : Program} {w : World} {K : PySem.W.Frag} {h : Heap} {mg : Str → Option Value} {C R fI cc cda N : Addr} {nm q : Str} {bs sub : List Value} {sn : List Str} {ab : Bool} {col : Option Bool} {dd : Option Addr} {k0 k1 k2 k3 k5 : Option Value}
    {oc kV doc pm ct ccl : Value} {an od cdd : Option Addr} {osl ccs : Array (Option Value)} {vc : Array Value} {ocl : Obj} {file : Str} {tf : Tok} (X : K.In h) (G : h.Ns mainGlobals mg) (EG : ExcG P K mg)
    (aC : PySem.W.nsIn K mainGlobals "Mismatch" = some (some (.ref C))) (lC : K.lookup C = some (excClassObj nm q C N bs (.ref R :: PySem.HandSPX.veTail) true sn sub ab col dd k0 k1 k2 k3 k5 "ValueError.__new__"))
    (sa : PySem.W.findIn K (.ref C) "__setattr__" = some (some (.builtin "object.__setattr__"))) (ga : PySem.W.findIn K (.ref C) "__getattribute__" = some (some (.builtin "BaseException.__getattribute__")))
    (gg : PySem.W.findIn K (.ref C) "__getattr__" = some none) (cl : PySem.W.findIn K (.ref C) "__class__" = some (some (.builtin "object.__class__"))) (iC : PySem.W.findIn K (.ref C) "__init__" = some (some (.ref fI))) (tI : PySem.W.typeIn K (.ref fI) = some (.type "function"))
    (kC : PySem.W.keepIn K (.ref C) = true) (up : PySem.W.ks_superIn K C C "__init__" = some (some (.builtin "ValueError.__init__")))
    (lk : K.lookup fI = some ⟨oc, od, .func (PySem.W.ksFn "__init__" "Mismatch.__init__" (defArgs s_Mismatch__ddinitdd) (defBody s_Mismatch__ddinitdd) (defScope s_Mismatch__ddinitdd) .none kV doc pm an (.ref cda) ct cc), osl⟩)
    (hcd : PySem.W.codeIn K (.ref cda) "Mismatch.__init__" = true) (lcd : K.lookup cda = some ⟨ccl, cdd, .fields vc, ccs⟩) (hvc : vc[2]? = some (.str file tf)) (hfile : ((P.main.file : Str) == file) = true) (lcc : K.lookup cc = some ocl) (lcv : ocl.data = .cell (some (.ref C))) :
    ClsOk P w K mg "Mismatch" C R ["self"] (spEx0 C) [] := by
  have E : ExcK P K mg "Mismatch" C R fI [] := ⟨PySem.W.mg_of X G aC, ⟨_, _, _, _, _, _, _, _, _, _, _, _, _, _, lC⟩, sa, ga, gg, cl, iC, tI, kC, up, by
    intro f hf
    exact nomatch hf⟩
  exact ⟨⟨_, E⟩, fun base => ex_Mismatch__ddinitdd E EG lk hcd lcd hvc hfile lcc lcv⟩

theorem sc_NotRefined__ddinitdd : SupScope ["self", "arguments"] ["self", "arguments"] (defScope s_NotRefined__ddinitdd) := ⟨rfl, rfl, rfl, by decide +kernel, rfl, by decide +kernel, by decide +kernel, by decide +kernel, by decide +kernel, by decide +kernel⟩
theorem ex_NotRefined__ddinitdd {P : Program} {w : World} {K : PySem.W.Frag} {mg : Str → Option Value} {base : Heap} {C R fI cc cda : Addr} {oc kV doc pm ct ccl : Value} {an od cdd : Option Addr} {osl ccs : Array (Option Value)} {vc : Array Value} {ocl : Obj} {file : Str} {tf : Tok}
    (E : ExcK P K mg "NotRefined" C R fI ["arguments"]) (G : ExcG P K mg)
    (lk : K.lookup fI = some ⟨oc, od, .func (PySem.W.ksFn "__init__" "NotRefined.__init__" (defArgs s_NotRefined__ddinitdd) (defBody s_NotRefined__ddinitdd) (defScope s_NotRefined__ddinitdd) .none kV doc pm an (.ref cda) ct cc), osl⟩)
    (hcd : PySem.W.codeIn K (.ref cda) "NotRefined.__init__" = true) (lcd : K.lookup cda = some ⟨ccl, cdd, .fields vc, ccs⟩) (hvc : vc[2]? = some (.str file tf)) (hfile : ((P.main.file : Str) == file) = true) (lcc : K.lookup cc = some ocl) (lcv : ocl.data = .cell (some (.ref C))) :
    ∃ f fd, ExT P w K mg base "NotRefined" C ["self", "arguments"] (spEx C ["arguments"]) f fd := by
  refine ⟨fI, PySem.W.ksFn "__init__" "NotRefined.__init__" (defArgs s_NotRefined__ddinitdd) (defBody s_NotRefined__ddinitdd) (defScope s_NotRefined__ddinitdd) .none kV doc pm an (.ref cda) ct cc, E.oex, E.iC, E.tI, ?_, .all (fun us hl => match us, hl with | [_, _], _ => rfl), E.mgC⟩
  refine fn_sup lk hcd lcd hvc hfile lcc lcv sc_NotRefined__ddinitdd rfl rfl E.oex (E.supc G) (fun _ => rfl) (fun vs H Q E' h => ?_) (fun A outer s H vs Q E' hr h => ?_)
  · obtain ⟨a, ws, rfl, hl, ha, _⟩ := h
    exact ⟨by show ws.length + 1 = _; rw [hl]; rfl, a, ws, rfl, ha⟩
  · obtain ⟨a, ws, rfl, hl, ha, q⟩ := h
    obtain ⟨v1, rfl⟩ : ∃ v1 : V, ws = [v1] := by
      match ws, hl with
      | [v1], _ => exact ⟨v1, rfl⟩
    refine ⟨_, pss_one (ps_ost (pv 0) (pv 1)), ?_⟩
    refine ⟨_, rfl, _, rfl, a, C, rfl, E.oex, E.no "arguments" (by decide +kernel), .inl ⟨ha, fun d nd hda => ?_⟩⟩
    exact q d nd hda
theorem ck_NotRefined__ddinitdd {P : Program} {w : World} {K : PySem.W.Frag} {h : Heap} {mg : Str → Option Value} {C R fI cc cda N : Addr} {nm q : Str} {bs sub : List Value} {sn : List Str} {ab : Bool} {col : Option Bool} {dd : Option Addr} {k0 k1 k2 k3 k5 : Option Value}
    {oc kV doc pm ct ccl : Value} {an od cdd : Option Addr} {osl ccs : Array (Option Value)} {vc : Array Value} {ocl : Obj} {file : Str} {tf : Tok} (X : K.In h) (G : h.Ns mainGlobals mg) (EG : ExcG P K mg)
    (aC : PySem.W.nsIn K mainGlobals "NotRefined" = some (some (.ref C))) (lC : K.lookup C = some (excClassObj nm q C N bs (.ref R :: PySem.HandSPX.veTail) true sn sub ab col dd k0 k1 k2 k3 k5 "ValueError.__new__"))
    (sa : PySem.W.findIn K (.ref C) "__setattr__" = some (some (.builtin "object.__setattr__"))) (ga : PySem.W.findIn K (.ref C) "__getattribute__" = some (some (.builtin "BaseException.__getattribute__")))
    (gg : PySem.W.findIn K (.ref C) "__getattr__" = some none) (cl : PySem.W.findIn K (.ref C) "__class__" = some (some (.builtin "object.__class__"))) (iC : PySem.W.findIn K (.ref C) "__init__" = some (some (.ref fI))) (tI : PySem.W.typeIn K (.ref fI) = some (.type "function"))
    (kC : PySem.W.keepIn K (.ref C) = true) (up : PySem.W.ks_superIn K C C "__init__" = some (some (.builtin "ValueError.__init__"))) (n0 : PySem.W.findIn K (.ref C) "arguments" = some none)
    (lk : K.lookup fI = some ⟨oc, od, .func (PySem.W.ksFn "__init__" "NotRefined.__init__" (defArgs s_NotRefined__ddinitdd) (defBody s_NotRefined__ddinitdd) (defScope s_NotRefined__ddinitdd) .none kV doc pm an (.ref cda) ct cc), osl⟩)
    (hcd : PySem.W.codeIn K (.ref cda) "NotRefined.__init__" = true) (lcd : K.lookup cda = some ⟨ccl, cdd, .fields vc, ccs⟩) (hvc : vc[2]? = some (.str file tf)) (hfile : ((P.main.file : Str) == file) = true) (lcc : K.lookup cc = some ocl) (lcv : ocl.data = .cell (some (.ref C))) :
    ClsOk P w K mg "NotRefined" C R ["self", "arguments"] (spEx C ["arguments"]) ["arguments"] := by
  have E : ExcK P K mg "NotRefined" C R fI ["arguments"] := ⟨PySem.W.mg_of X G aC, ⟨_, _, _, _, _, _, _, _, _, _, _, _, _, _, lC⟩, sa, ga, gg, cl, iC, tI, kC, up, by
    intro f hf
    simp only [List.mem_cons, List.not_mem_nil, or_false] at hf
    rcases hf with rfl <;> assumption⟩
  exact ⟨⟨_, E⟩, fun base => ex_NotRefined__ddinitdd E EG lk hcd lcd hvc hfile lcc lcv⟩

theorem sc_Failure__ddinitdd : SupScope ["self", "kind", "at", "calls", "name"] ["self", "kind", "at", "calls", "name"] (defScope s_Failure__ddinitdd) := ⟨rfl, rfl, rfl, by decide +kernel, rfl, by decide +kernel, by decide +kernel, by decide +kernel, by decide +kernel, by decide +kernel⟩
theorem ex_Failure__ddinitdd {P : Program} {w : World} {K : PySem.W.Frag} {mg : Str → Option Value} {base : Heap} {C R fI cc cda : Addr} {oc kV doc pm ct ccl : Value} {an od cdd : Option Addr} {osl ccs : Array (Option Value)} {vc : Array Value} {ocl : Obj} {file : Str} {tf : Tok}
    (E : ExcK P K mg "Failure" C R fI ["kind", "at", "calls", "name"]) (G : ExcG P K mg)
    (lk : K.lookup fI = some ⟨oc, od, .func (PySem.W.ksFn "__init__" "Failure.__init__" (defArgs s_Failure__ddinitdd) (defBody s_Failure__ddinitdd) (defScope s_Failure__ddinitdd) .none kV doc pm an (.ref cda) ct cc), osl⟩)
    (hcd : PySem.W.codeIn K (.ref cda) "Failure.__init__" = true) (lcd : K.lookup cda = some ⟨ccl, cdd, .fields vc, ccs⟩) (hvc : vc[2]? = some (.str file tf)) (hfile : ((P.main.file : Str) == file) = true) (lcc : K.lookup cc = some ocl) (lcv : ocl.data = .cell (some (.ref C))) :
    ∃ f fd, ExT P w K mg base "Failure" C ["self", "kind", "at", "calls", "name"] (spEx C ["kind", "at", "calls", "name"]) f fd := by
  refine ⟨fI, PySem.W.ksFn "__init__" "Failure.__init__" (defArgs s_Failure__ddinitdd) (defBody s_Failure__ddinitdd) (defScope s_Failure__ddinitdd) .none kV doc pm an (.ref cda) ct cc, E.oex, E.iC, E.tI, ?_, .all (fun us hl => match us, hl with | [_, _, _, _, _], _ => rfl), E.mgC⟩
  refine fn_sup lk hcd lcd hvc hfile lcc lcv sc_Failure__ddinitdd rfl rfl E.oex (E.supc G) (fun _ => rfl) (fun vs H Q E' h => ?_) (fun A outer s H vs Q E' hr h => ?_)
  · obtain ⟨a, ws, rfl, hl, ha, _⟩ := h
    exact ⟨by show ws.length + 1 = _; rw [hl]; rfl, a, ws, rfl, ha⟩
  · obtain ⟨a, ws, rfl, hl, ha, q⟩ := h
    obtain ⟨v1, v2, v3, v4, rfl⟩ : ∃ v1 v2 v3 v4 : V, ws = [v1, v2, v3, v4] := by
      match ws, hl with
      | [v1, v2, v3, v4], _ => exact ⟨v1, v2, v3, v4, rfl⟩
    refine ⟨_, pss_cons (ps_ost (pv 0) (pv 1)) (pss_cons (ps_ost (pv 0) (pv 2)) (pss_cons (ps_ost (pv 0) (pv 3)) (pss_one (ps_ost (pv 0) (pv 4))))), ?_⟩
    refine ⟨_, rfl, _, rfl, a, C, rfl, E.oex, E.no "kind" (by decide +kernel), .inl ⟨ha, fun d nd hda => ?_⟩⟩
    refine ⟨_, rfl, _, rfl, a, C, rfl, E.oex, E.no "at" (by decide +kernel), .inr ⟨d, _, upd_same, (upd_ne hda).trans upd_same, by show 1 ≤ 900; decide, ?_⟩⟩
    rw [upd3 hda]
    refine ⟨_, rfl, _, rfl, a, C, rfl, E.oex, E.no "calls" (by decide +kernel), .inr ⟨d, _, upd_same, (upd_ne hda).trans upd_same, by show 2 ≤ 900; decide, ?_⟩⟩
    rw [upd3 hda]
    refine ⟨_, rfl, _, rfl, a, C, rfl, E.oex, E.no "name" (by decide +kernel), .inr ⟨d, _, upd_same, (upd_ne hda).trans upd_same, by show 3 ≤ 900; decide, ?_⟩⟩
    rw [upd3 hda]
    exact q d nd hda
theorem ck_Failure__ddinitdd {P : Program} {w : World} {K : PySem.W.Frag} {h : Heap} {mg : Str → Option Value} {C R fI cc cda N : Addr} {nm q : Str} {bs sub : List Value} {sn : List Str} {ab : Bool} {col : Option Bool} {dd : Option Addr} {k0 k1 k2 k3 k5 : Option Value}
    {oc kV doc pm ct ccl : Value} {an od cdd : Option Addr} {osl ccs : Array (Option Value)} {vc : Array Value} {ocl : Obj} {file : Str} {tf : Tok} (X : K.In h) (G : h.Ns mainGlobals mg) (EG : ExcG P K mg)
    (aC : PySem.W.nsIn K mainGlobals "Failure" = some (some (.ref C))) (lC : K.lookup C = some (excClassObj nm q C N bs (.ref R :: PySem.HandSPX.veTail) true sn sub ab col dd k0 k1 k2 k3 k5 "ValueError.__new__"))
    (sa : PySem.W.findIn K (.ref C) "__setattr__" = some (some (.builtin "object.__setattr__"))) (ga : PySem.W.findIn K (.ref C) "__getattribute__" = some (some (.builtin "BaseException.__getattribute__")))
    (gg : PySem.W.findIn K (.ref C) "__getattr__" = some none) (cl : PySem.W.findIn K (.ref C) "__class__" = some (some (.builtin "object.__class__"))) (iC : PySem.W.findIn K (.ref C) "__init__" = some (some (.ref fI))) (tI : PySem.W.typeIn K (.ref fI) = some (.type "function"))
    (kC : PySem.W.keepIn K (.ref C) = true) (up : PySem.W.ks_superIn K C C "__init__" = some (some (.builtin "ValueError.__init__"))) (n0 : PySem.W.findIn K (.ref C) "kind" = some none) (n1 : PySem.W.findIn K (.ref C) "at" = some none) (n2 : PySem.W.findIn K (.ref C) "calls" = some none) (n3 : PySem.W.findIn K (.ref C) "name" = some none)
    (lk : K.lookup fI = some ⟨oc, od, .func (PySem.W.ksFn "__init__" "Failure.__init__" (defArgs s_Failure__ddinitdd) (defBody s_Failure__ddinitdd) (defScope s_Failure__ddinitdd) .none kV doc pm an (.ref cda) ct cc), osl⟩)
    (hcd : PySem.W.codeIn K (.ref cda) "Failure.__init__" = true) (lcd : K.lookup cda = some ⟨ccl, cdd, .fields vc, ccs⟩) (hvc : vc[2]? = some (.str file tf)) (hfile : ((P.main.file : Str) == file) = true) (lcc : K.lookup cc = some ocl) (lcv : ocl.data = .cell (some (.ref C))) :
    ClsOk P w K mg "Failure" C R ["self", "kind", "at", "calls", "name"] (spEx C ["kind", "at", "calls", "name"]) ["kind", "at", "calls", "name"] := by
  have E : ExcK P K mg "Failure" C R fI ["kind", "at", "calls", "name"] := ⟨PySem.W.mg_of X G aC, ⟨_, _, _, _, _, _, _, _, _, _, _, _, _, _, lC⟩, sa, ga, gg, cl, iC, tI, kC, up, by
    intro f hf
    simp only [List.mem_cons, List.not_mem_nil, or_false] at hf
    rcases hf with rfl | rfl | rfl | rfl <;> assumption⟩
  exact ⟨⟨_, E⟩, fun base => ex_Failure__ddinitdd E EG lk hcd lcd hvc hfile lcc lcv⟩

theorem all_mk {P : Program} {w : World} {K : PySem.W.Frag} {h : Heap} {mg : Str → Option Value} {fa R C0 C1 C2 C3 C4 C5 C6 C7 C8 C9 C10 C11 C12 C13 C14 C15 : Addr} (X : K.In h) (G : h.Ns mainGlobals mg) (EG : ExcG P K mg) (hfa : mg "law" = some (.ref fa))
    (aR : PySem.W.nsIn K mainGlobals "RecordsError" = some (some (.ref R))) (r1 : PySem.W.subIn K (.ref R) (.type "BaseException") = some true) (r2 : PySem.W.isClsIn K R = true) (r3 : PySem.W.typeIn K (.ref R) = some (.type "type"))
    (x0 : ClsOk P w K mg "BadName" C0 R ["self", "name"] (spEx C0 ["name"]) ["name"]) (x1 : ClsOk P w K mg "NoField" C1 R ["self", "name"] (spEx C1 ["name"]) ["name"]) (x2 : ClsOk P w K mg "FieldThere" C2 R ["self", "name"] (spEx C2 ["name"]) ["name"]) (x3 : ClsOk P w K mg "Shared" C3 R ["self", "name"] (spEx C3 ["name"]) ["name"]) (x4 : ClsOk P w K mg "TooLarge" C4 R ["self", "name"] (spEx C4 ["name"]) ["name"]) (x5 : ClsOk P w K mg "UnknownFunction" C5 R ["self", "name"] (spEx C5 ["name"]) ["name"]) (x6 : ClsOk P w K mg "WrongArguments" C6 R ["self", "name"] (spEx C6 ["name"]) ["name"]) (x7 : ClsOk P w K mg "DoubleName" C7 R ["self", "name", "at"] (spEx C7 ["name", "at"]) ["name", "at"]) (x8 : ClsOk P w K mg "UnknownName" C8 R ["self", "name", "at"] (spEx C8 ["name", "at"]) ["name", "at"]) (x9 : ClsOk P w K mg "WrongCount" C9 R ["self", "name", "at"] (spEx C9 ["name", "at"]) ["name", "at"]) (x10 : ClsOk P w K mg "BadText" C10 R ["self", "at"] (spEx C10 ["at"]) ["at"]) (x11 : ClsOk P w K mg "TooDeep" C11 R ["self", "at"] (spEx C11 ["at"]) ["at"]) (x12 : ClsOk P w K mg "NoBranch" C12 R ["self", "at"] (spEx C12 ["at"]) ["at"]) (x13 : ClsOk P w K mg "Mismatch" C13 R ["self"] (spEx0 C13) []) (x14 : ClsOk P w K mg "NotRefined" C14 R ["self", "arguments"] (spEx C14 ["arguments"]) ["arguments"]) (x15 : ClsOk P w K mg "Failure" C15 R ["self", "kind", "at", "calls", "name"] (spEx C15 ["kind", "at", "calls", "name"]) ["kind", "at", "calls", "name"])
    (nd : [C0, C1, C2, C3, C4, C5, C6, C7, C8, C9, C10, C11, C12, C13, C14, C15].Nodup) (nR : R ∉ [C0, C1, C2, C3, C4, C5, C6, C7, C8, C9, C10, C11, C12, C13, C14, C15])
    {f__law_cell : Addr} {od__law_cell an__law_cell : Option Addr} {sl__law_cell : Array (Option Value)} {oc__law_cell kV__law_cell dc__law_cell pm__law_cell cd__law_cell ct__law_cell : Value}
    (a__law_cell : PySem.W.nsIn K mainGlobals "_law_cell" = some (some (.ref f__law_cell))) (l__law_cell : K.lookup f__law_cell = some ⟨oc__law_cell, od__law_cell, .func (PySem.W.fnOf "_law_cell" "_law_cell" (defArgs s__law_cell) (defBody s__law_cell) (defScope s__law_cell) .none kV__law_cell dc__law_cell pm__law_cell an__law_cell cd__law_cell ct__law_cell), sl__law_cell⟩) (c__law_cell : PySem.W.codeIn K cd__law_cell "_law_cell" = true) (k__law_cell : PySem.W.keepIn K (.ref f__law_cell) = true)
    {f__law_mixed : Addr} {od__law_mixed an__law_mixed : Option Addr} {sl__law_mixed : Array (Option Value)} {oc__law_mixed kV__law_mixed dc__law_mixed pm__law_mixed cd__law_mixed ct__law_mixed : Value}
    (a__law_mixed : PySem.W.nsIn K mainGlobals "_law_mixed" = some (some (.ref f__law_mixed))) (l__law_mixed : K.lookup f__law_mixed = some ⟨oc__law_mixed, od__law_mixed, .func (PySem.W.fnOf "_law_mixed" "_law_mixed" (defArgs s__law_mixed) (defBody s__law_mixed) (defScope s__law_mixed) .none kV__law_mixed dc__law_mixed pm__law_mixed an__law_mixed cd__law_mixed ct__law_mixed), sl__law_mixed⟩) (c__law_mixed : PySem.W.codeIn K cd__law_mixed "_law_mixed" = true) (k__law_mixed : PySem.W.keepIn K (.ref f__law_mixed) = true)
    {f__law_tape : Addr} {od__law_tape an__law_tape : Option Addr} {sl__law_tape : Array (Option Value)} {oc__law_tape kV__law_tape dc__law_tape pm__law_tape cd__law_tape ct__law_tape : Value}
    (a__law_tape : PySem.W.nsIn K mainGlobals "_law_tape" = some (some (.ref f__law_tape))) (l__law_tape : K.lookup f__law_tape = some ⟨oc__law_tape, od__law_tape, .func (PySem.W.fnOf "_law_tape" "_law_tape" (defArgs s__law_tape) (defBody s__law_tape) (defScope s__law_tape) .none kV__law_tape dc__law_tape pm__law_tape an__law_tape cd__law_tape ct__law_tape), sl__law_tape⟩) (c__law_tape : PySem.W.codeIn K cd__law_tape "_law_tape" = true) (k__law_tape : PySem.W.keepIn K (.ref f__law_tape) = true)
    {f__law_take : Addr} {od__law_take an__law_take : Option Addr} {sl__law_take : Array (Option Value)} {oc__law_take kV__law_take dc__law_take pm__law_take cd__law_take ct__law_take : Value}
    (a__law_take : PySem.W.nsIn K mainGlobals "_law_take" = some (some (.ref f__law_take))) (l__law_take : K.lookup f__law_take = some ⟨oc__law_take, od__law_take, .func (PySem.W.fnOf "_law_take" "_law_take" (defArgs s__law_take) (defBody s__law_take) (defScope s__law_take) .none kV__law_take dc__law_take pm__law_take an__law_take cd__law_take ct__law_take), sl__law_take⟩) (c__law_take : PySem.W.codeIn K cd__law_take "_law_take" = true) (k__law_take : PySem.W.keepIn K (.ref f__law_take) = true)
    {f__law_number : Addr} {od__law_number an__law_number : Option Addr} {sl__law_number : Array (Option Value)} {oc__law_number kV__law_number dc__law_number pm__law_number cd__law_number ct__law_number : Value}
    (a__law_number : PySem.W.nsIn K mainGlobals "_law_number" = some (some (.ref f__law_number))) (l__law_number : K.lookup f__law_number = some ⟨oc__law_number, od__law_number, .func (PySem.W.fnOf "_law_number" "_law_number" (defArgs s__law_number) (defBody s__law_number) (defScope s__law_number) .none kV__law_number dc__law_number pm__law_number an__law_number cd__law_number ct__law_number), sl__law_number⟩) (c__law_number : PySem.W.codeIn K cd__law_number "_law_number" = true) (k__law_number : PySem.W.keepIn K (.ref f__law_number) = true)
    {f__law_word : Addr} {od__law_word an__law_word : Option Addr} {sl__law_word : Array (Option Value)} {oc__law_word kV__law_word dc__law_word pm__law_word cd__law_word ct__law_word : Value}
    (a__law_word : PySem.W.nsIn K mainGlobals "_law_word" = some (some (.ref f__law_word))) (l__law_word : K.lookup f__law_word = some ⟨oc__law_word, od__law_word, .func (PySem.W.fnOf "_law_word" "_law_word" (defArgs s__law_word) (defBody s__law_word) (defScope s__law_word) .none kV__law_word dc__law_word pm__law_word an__law_word cd__law_word ct__law_word), sl__law_word⟩) (c__law_word : PySem.W.codeIn K cd__law_word "_law_word" = true) (k__law_word : PySem.W.keepIn K (.ref f__law_word) = true)
    {f__law_raise_named : Addr} {od__law_raise_named an__law_raise_named : Option Addr} {sl__law_raise_named : Array (Option Value)} {oc__law_raise_named kV__law_raise_named dc__law_raise_named pm__law_raise_named cd__law_raise_named ct__law_raise_named : Value}
    (a__law_raise_named : PySem.W.nsIn K mainGlobals "_law_raise_named" = some (some (.ref f__law_raise_named))) (l__law_raise_named : K.lookup f__law_raise_named = some ⟨oc__law_raise_named, od__law_raise_named, .func (PySem.W.fnOf "_law_raise_named" "_law_raise_named" (defArgs s__law_raise_named) (defBody s__law_raise_named) (defScope s__law_raise_named) .none kV__law_raise_named dc__law_raise_named pm__law_raise_named an__law_raise_named cd__law_raise_named ct__law_raise_named), sl__law_raise_named⟩) (c__law_raise_named : PySem.W.codeIn K cd__law_raise_named "_law_raise_named" = true) (k__law_raise_named : PySem.W.keepIn K (.ref f__law_raise_named) = true)
    {f__law_raise_other : Addr} {od__law_raise_other an__law_raise_other : Option Addr} {sl__law_raise_other : Array (Option Value)} {oc__law_raise_other kV__law_raise_other dc__law_raise_other pm__law_raise_other cd__law_raise_other ct__law_raise_other : Value}
    (a__law_raise_other : PySem.W.nsIn K mainGlobals "_law_raise_other" = some (some (.ref f__law_raise_other))) (l__law_raise_other : K.lookup f__law_raise_other = some ⟨oc__law_raise_other, od__law_raise_other, .func (PySem.W.fnOf "_law_raise_other" "_law_raise_other" (defArgs s__law_raise_other) (defBody s__law_raise_other) (defScope s__law_raise_other) .none kV__law_raise_other dc__law_raise_other pm__law_raise_other an__law_raise_other cd__law_raise_other ct__law_raise_other), sl__law_raise_other⟩) (c__law_raise_other : PySem.W.codeIn K cd__law_raise_other "_law_raise_other" = true) (k__law_raise_other : PySem.W.keepIn K (.ref f__law_raise_other) = true)
    {f__law_classes : Addr} {od__law_classes an__law_classes : Option Addr} {sl__law_classes : Array (Option Value)} {oc__law_classes kV__law_classes dc__law_classes pm__law_classes cd__law_classes ct__law_classes : Value}
    (a__law_classes : PySem.W.nsIn K mainGlobals "_law_classes" = some (some (.ref f__law_classes))) (l__law_classes : K.lookup f__law_classes = some ⟨oc__law_classes, od__law_classes, .func (PySem.W.fnOf "_law_classes" "_law_classes" (defArgs s__law_classes) (defBody s__law_classes) (defScope s__law_classes) .none kV__law_classes dc__law_classes pm__law_classes an__law_classes cd__law_classes ct__law_classes), sl__law_classes⟩) (c__law_classes : PySem.W.codeIn K cd__law_classes "_law_classes" = true) (k__law_classes : PySem.W.keepIn K (.ref f__law_classes) = true)
    {f__law_attributes : Addr} {od__law_attributes an__law_attributes : Option Addr} {sl__law_attributes : Array (Option Value)} {oc__law_attributes kV__law_attributes dc__law_attributes pm__law_attributes cd__law_attributes ct__law_attributes : Value}
    (a__law_attributes : PySem.W.nsIn K mainGlobals "_law_attributes" = some (some (.ref f__law_attributes))) (l__law_attributes : K.lookup f__law_attributes = some ⟨oc__law_attributes, od__law_attributes, .func (PySem.W.fnOf "_law_attributes" "_law_attributes" (defArgs s__law_attributes) (defBody s__law_attributes) (defScope s__law_attributes) .none kV__law_attributes dc__law_attributes pm__law_attributes an__law_attributes cd__law_attributes ct__law_attributes), sl__law_attributes⟩) (c__law_attributes : PySem.W.codeIn K cd__law_attributes "_law_attributes" = true) (k__law_attributes : PySem.W.keepIn K (.ref f__law_attributes) = true)
    {f__law_due : Addr} {od__law_due an__law_due : Option Addr} {sl__law_due : Array (Option Value)} {oc__law_due kV__law_due dc__law_due pm__law_due cd__law_due ct__law_due : Value}
    (a__law_due : PySem.W.nsIn K mainGlobals "_law_due" = some (some (.ref f__law_due))) (l__law_due : K.lookup f__law_due = some ⟨oc__law_due, od__law_due, .func (PySem.W.fnOf "_law_due" "_law_due" (defArgs s__law_due) (defBody s__law_due) (defScope s__law_due) .none kV__law_due dc__law_due pm__law_due an__law_due cd__law_due ct__law_due), sl__law_due⟩) (c__law_due : PySem.W.codeIn K cd__law_due "_law_due" = true) (k__law_due : PySem.W.keepIn K (.ref f__law_due) = true)
    {f__law_caught : Addr} {od__law_caught an__law_caught : Option Addr} {sl__law_caught : Array (Option Value)} {oc__law_caught kV__law_caught dc__law_caught pm__law_caught cd__law_caught ct__law_caught : Value}
    (a__law_caught : PySem.W.nsIn K mainGlobals "_law_caught" = some (some (.ref f__law_caught))) (l__law_caught : K.lookup f__law_caught = some ⟨oc__law_caught, od__law_caught, .func (PySem.W.fnOf "_law_caught" "_law_caught" (defArgs s__law_caught) (defBody s__law_caught) (defScope s__law_caught) .none kV__law_caught dc__law_caught pm__law_caught an__law_caught cd__law_caught ct__law_caught), sl__law_caught⟩) (c__law_caught : PySem.W.codeIn K cd__law_caught "_law_caught" = true) (k__law_caught : PySem.W.keepIn K (.ref f__law_caught) = true)
    {f_law : Addr} {od_law an_law : Option Addr} {sl_law : Array (Option Value)} {oc_law kV_law dc_law pm_law cd_law ct_law : Value}
    (a_law : PySem.W.nsIn K mainGlobals "law" = some (some (.ref f_law))) (l_law : K.lookup f_law = some ⟨oc_law, od_law, .func (PySem.W.fnOf "law" "law" (defArgs s_law) (defBody s_law) (defScope s_law) .none kV_law dc_law pm_law an_law cd_law ct_law), sl_law⟩) (c_law : PySem.W.codeIn K cd_law "law" = true) (k_law : PySem.W.keepIn K (.ref f_law) = true)
    (z1 : PySem.W.nsIn K mainGlobals "len" = some none) (z2 : PySem.W.nsIn K mainGlobals "int" = some none) (z3 : PySem.W.nsIn K mainGlobals "range" = some none) (z4 : PySem.W.nsIn K mainGlobals "tuple" = some none) (z5 : PySem.W.nsIn K mainGlobals "isinstance" = some none) (z6 : PySem.W.nsIn K mainGlobals "ValueError" = some none) :
    ∃ fd : FuncData, (∀ (s : Shared) (v : Value), BindsTo s fd ⟨[v], []⟩ [("_law_script", v)]) ∧ ∀ base : Heap, K.In base → base.Ns mainGlobals mg → FnOk P w K mg base CX0 7 fa fd ["_law_script"] (spLaw K) := by
  have e := hfa.symm.trans (PySem.W.mg_of X G a_law)
  cases e
  have B : Bl mg := ⟨PySem.W.mg_none_of X G z1, PySem.W.mg_none_of X G z2, PySem.W.mg_none_of X G z3, PySem.W.mg_none_of X G z4, PySem.W.mg_none_of X G z5, PySem.W.mg_none_of X G z6⟩
  have F__law_cell := fun_mk (st := s__law_cell) l__law_cell c__law_cell k__law_cell
  have b__law_cell := F__law_cell.binds (ps := ["_law_script", "_law_k"]) fun _ _ _ _ _ _ us hl => match us, hl with | [_, _], _ => rfl
  have F__law_mixed := fun_mk (st := s__law_mixed) l__law_mixed c__law_mixed k__law_mixed
  have b__law_mixed := F__law_mixed.binds (ps := ["_law_cell_here", "_law_k"]) fun _ _ _ _ _ _ us hl => match us, hl with | [_, _], _ => rfl
  have F__law_tape := fun_mk (st := s__law_tape) l__law_tape c__law_tape k__law_tape
  have b__law_tape := F__law_tape.binds (ps := ["_law_great", "_law_lesser", "_law_count"]) fun _ _ _ _ _ _ us hl => match us, hl with | [_, _, _], _ => rfl
  have F__law_take := fun_mk (st := s__law_take) l__law_take c__law_take k__law_take
  have b__law_take := F__law_take.binds (ps := ["_law_tape_here", "_law_many"]) fun _ _ _ _ _ _ us hl => match us, hl with | [_, _], _ => rfl
  have F__law_number := fun_mk (st := s__law_number) l__law_number c__law_number k__law_number
  have b__law_number := F__law_number.binds (ps := ["_law_tape_here"]) fun _ _ _ _ _ _ us hl => match us, hl with | [_], _ => rfl
  have F__law_word := fun_mk (st := s__law_word) l__law_word c__law_word k__law_word
  have b__law_word := F__law_word.binds (ps := ["_law_tape_here", "_law_longest"]) fun _ _ _ _ _ _ us hl => match us, hl with | [_, _], _ => rfl
  have F__law_raise_named := fun_mk (st := s__law_raise_named) l__law_raise_named c__law_raise_named k__law_raise_named
  have b__law_raise_named := F__law_raise_named.binds (ps := ["_law_k", "_law_name", "_law_at"]) fun _ _ _ _ _ _ us hl => match us, hl with | [_, _, _], _ => rfl
  have F__law_raise_other := fun_mk (st := s__law_raise_other) l__law_raise_other c__law_raise_other k__law_raise_other
  have b__law_raise_other := F__law_raise_other.binds (ps := ["_law_k", "_law_kind", "_law_at", "_law_calls", "_law_name"]) fun _ _ _ _ _ _ us hl => match us, hl with | [_, _, _, _, _], _ => rfl
  have F__law_classes := fun_mk (st := s__law_classes) l__law_classes c__law_classes k__law_classes
  have b__law_classes := F__law_classes.binds (ps := ["_law_e"]) fun _ _ _ _ _ _ us hl => match us, hl with | [_], _ => rfl
  have F__law_attributes := fun_mk (st := s__law_attributes) l__law_attributes c__law_attributes k__law_attributes
  have b__law_attributes := F__law_attributes.binds (ps := ["_law_e", "_law_k"]) fun _ _ _ _ _ _ us hl => match us, hl with | [_, _], _ => rfl
  have F__law_due := fun_mk (st := s__law_due) l__law_due c__law_due k__law_due
  have b__law_due := F__law_due.binds (ps := ["_law_k", "_law_kind", "_law_at", "_law_calls", "_law_name"]) fun _ _ _ _ _ _ us hl => match us, hl with | [_, _, _, _, _], _ => rfl
  have F__law_caught := fun_mk (st := s__law_caught) l__law_caught c__law_caught k__law_caught
  have b__law_caught := F__law_caught.binds (ps := ["_law_k", "_law_kind", "_law_at", "_law_calls", "_law_name"]) fun _ _ _ _ _ _ us hl => match us, hl with | [_, _, _, _, _], _ => rfl
  have F_law := fun_mk (st := s_law) l_law c_law k_law
  have b_law := F_law.binds (ps := ["_law_script"]) fun _ _ _ _ _ _ us hl => match us, hl with | [_], _ => rfl

  have mgR := PySem.W.mg_of X G aR
  let C : Nat → Addr := fun n => [C0, C1, C2, C3, C4, C5, C6, C7, C8, C9, C10, C11, C12, C13, C14, C15].getD n 0
  have xk : ∀ j, j < 16 → ∃ x fI, ExcK P K mg x (C j) R fI (flds j) := fun j hj => by
    have h16 : j = 0 ∨ j = 1 ∨ j = 2 ∨ j = 3 ∨ j = 4 ∨ j = 5 ∨ j = 6 ∨ j = 7 ∨ j = 8 ∨ j = 9 ∨ j = 10 ∨ j = 11 ∨ j = 12 ∨ j = 13 ∨ j = 14 ∨ j = 15 := by omega
    rcases h16 with rfl | rfl | rfl | rfl | rfl | rfl | rfl | rfl | rfl | rfl | rfl | rfl | rfl | rfl | rfl | rfl
    · exact ⟨_, x0.k⟩
    · exact ⟨_, x1.k⟩
    · exact ⟨_, x2.k⟩
    · exact ⟨_, x3.k⟩
    · exact ⟨_, x4.k⟩
    · exact ⟨_, x5.k⟩
    · exact ⟨_, x6.k⟩
    · exact ⟨_, x7.k⟩
    · exact ⟨_, x8.k⟩
    · exact ⟨_, x9.k⟩
    · exact ⟨_, x10.k⟩
    · exact ⟨_, x11.k⟩
    · exact ⟨_, x12.k⟩
    · exact ⟨_, x13.k⟩
    · exact ⟨_, x14.k⟩
    · exact ⟨_, x15.k⟩
  have inj : ∀ i j, i < 16 → j < 16 → (C i = C j ↔ i = j) := fun i j hi hj => by
    constructor
    · intro e
      have hl : [C0, C1, C2, C3, C4, C5, C6, C7, C8, C9, C10, C11, C12, C13, C14, C15].length = 16 := rfl
      have ei : [C0, C1, C2, C3, C4, C5, C6, C7, C8, C9, C10, C11, C12, C13, C14, C15][i]? = some (C i) := by rw [List.getElem?_eq_getElem (by rw [hl]; exact hi)]; show _ = some (List.getD _ i 0); rw [List.getD_eq_getElem?_getD, List.getElem?_eq_getElem (by rw [hl]; exact hi)]; rfl
      have ej : [C0, C1, C2, C3, C4, C5, C6, C7, C8, C9, C10, C11, C12, C13, C14, C15][j]? = some (C i) := by rw [e, List.getElem?_eq_getElem (by rw [hl]; exact hj)]; show _ = some (List.getD _ j 0); rw [List.getD_eq_getElem?_getD, List.getElem?_eq_getElem (by rw [hl]; exact hj)]; rfl
      exact nd_ix nd ei ej
    · rintro rfl
      rfl
  have neR : ∀ i, i < 16 → C i ≠ R := fun i hi e => nR (by
    rw [← e]
    have hl : [C0, C1, C2, C3, C4, C5, C6, C7, C8, C9, C10, C11, C12, C13, C14, C15].length = 16 := rfl
    have ei : [C0, C1, C2, C3, C4, C5, C6, C7, C8, C9, C10, C11, C12, C13, C14, C15][i]? = some (C i) := by rw [List.getElem?_eq_getElem (by rw [hl]; exact hi)]; show _ = some (List.getD _ i 0); rw [List.getD_eq_getElem?_getD, List.getElem?_eq_getElem (by rw [hl]; exact hi)]; rfl
    exact List.mem_of_getElem? ei)
  have T : ∀ base, Ers P w K mg base C R := fun base =>
    { e0 := x0.e base, e1 := x1.e base, e2 := x2.e base, e3 := x3.e base, e4 := x4.e base, e5 := x5.e base, e6 := x6.e base, e7 := x7.e base, e8 := x8.e base, e9 := x9.e base, e10 := x10.e base, e11 := x11.e base, e12 := x12.e base, e13 := x13.e base, e14 := x14.e base, e15 := x15.e base, mgR := mgR,
      xf := fun j hj => let ⟨_, _, E⟩ := xk j hj; E.xf
      ec := fun j hj => let ⟨_, _, E⟩ := xk j hj; E.ec EG
      kit := fun i j hi hj => by
        obtain ⟨_, _, E⟩ := xk j hj
        obtain ⟨_, _, F⟩ := xk i hi
        rw [E.kit F (neR i hi)]
        congr 1
        exact decide_eq_decide.mpr (inj i j hi hj)
      kve := fun j hj => let ⟨_, _, E⟩ := xk j hj; E.kitV
      no := fun j hj => let ⟨_, _, E⟩ := xk j hj; E.no
      exm := fun j hj => let ⟨_, _, E⟩ := xk j hj; E.exmR r1 r2 r3 }
  refine ⟨PySem.W.fnOf "law" "law" (defArgs s_law) (defBody s_law) (defScope s_law) .none kV_law dc_law pm_law an_law cd_law ct_law, fun s v => .of_eq rfl, fun base _ _ => ?_⟩
  have g__law_cell := PySem.W.mg_of X G a__law_cell
  have g__law_mixed := PySem.W.mg_of X G a__law_mixed
  have g__law_tape := PySem.W.mg_of X G a__law_tape
  have g__law_take := PySem.W.mg_of X G a__law_take
  have g__law_number := PySem.W.mg_of X G a__law_number
  have g__law_word := PySem.W.mg_of X G a__law_word
  have g__law_raise_named := PySem.W.mg_of X G a__law_raise_named
  have g__law_raise_other := PySem.W.mg_of X G a__law_raise_other
  have g__law_classes := PySem.W.mg_of X G a__law_classes
  have g__law_attributes := PySem.W.mg_of X G a__law_attributes
  have g__law_due := PySem.W.mg_of X G a__law_due
  have g__law_caught := PySem.W.mg_of X G a__law_caught
  have g_law := PySem.W.mg_of X G a_law
  have G1 : Fd P w K mg base CX0 1 "_law_cell" ["_law_script", "_law_k"] (spCell K) _ _ := ⟨ok_cell F__law_cell B, g__law_cell, k__law_cell, b__law_cell⟩
  have G2 : Fd P w K mg base CX0 1 "_law_mixed" ["_law_cell_here", "_law_k"] spMixed _ _ := ⟨ok_mixed F__law_mixed B, g__law_mixed, k__law_mixed, b__law_mixed⟩
  have G3 : Fd P w K mg base CX0 2 "_law_tape" (N__law_tape.take 3) spTape _ _ := ⟨ok_tape F__law_tape B G2, g__law_tape, k__law_tape, b__law_tape⟩
  have G4 : Fd P w K mg base CX0 1 "_law_take" ["_law_tape_here", "_law_many"] spTake _ _ := ⟨ok_take F__law_take B, g__law_take, k__law_take, b__law_take⟩
  have G5 : Fd P w K mg base CX0 2 "_law_number" ["_law_tape_here"] spNumber _ _ := ⟨ok_number F__law_number B G4, g__law_number, k__law_number, b__law_number⟩
  have G6 : Fd P w K mg base CX0 2 "_law_word" ["_law_tape_here", "_law_longest"] spWord _ _ := ⟨ok_word F__law_word B G4, g__law_word, k__law_word, b__law_word⟩
  have G7 : Fd P w K mg base (L2N.CX P w) 4 "_law_raise_named" ["_law_k", "_law_name", "_law_at"] (spNamed C) _ _ := ⟨ok_named F__law_raise_named B (T base), g__law_raise_named, k__law_raise_named, b__law_raise_named⟩
  have G8 : Fd P w K mg base (L2N.CX P w) 4 "_law_raise_other" ["_law_k", "_law_kind", "_law_at", "_law_calls", "_law_name"] (spOther C) _ _ := ⟨ok_other F__law_raise_other B (T base), g__law_raise_other, k__law_raise_other, b__law_raise_other⟩
  have G9 : Fd P w K mg base CX0 6 "_law_caught" ["_law_k", "_law_kind", "_law_at", "_law_calls", "_law_name"] (spCaught K) _ _ := ⟨ok_caught F__law_caught B (T base) G7 G8 ⟨g__law_classes, k__law_classes, b__law_classes⟩ (fun hz hf => ok_classes F__law_classes B (T base) hz hf) ⟨g__law_attributes, k__law_attributes, b__law_attributes⟩ (fun hz hf => ok_attributes F__law_attributes B (T base) hz hf) ⟨g__law_due, k__law_due, b__law_due⟩ (ok_due F__law_due B), g__law_caught, k__law_caught, b__law_caught⟩
  exact ok_law F_law B G1 G3 G4 G5 G6 G9
theorem walk {l : PySem.W.OpenLaw} {q : Program} {loose : List Str} {XP : (Str → Option Value) → Heap → Prop} {YP : World → Heap → Prop} {d : DefRec} {K : Params → PySem.W.Frag} (hn : l.most = some 63) (hdf : d.params.defaults = [])
    (hY : ∀ (w : World) (h : Heap), YP w h → (K w.params).In h)
    (F : ∀ (w : World) (mg : Str → Option Value) (fa : Addr) (h : Heap), (K w.params).In h → h.Ns mainGlobals mg → mg d.name = some (.ref fa) →
      ∃ fd : FuncData, (∀ (s : Shared) (u : Value), BindsTo s fd ⟨[u], []⟩ [("_law_script", u)]) ∧ ∀ base : Heap, (K w.params).In base → base.Ns mainGlobals mg → FnOk l.prog w (K w.params) mg base CX0 7 fa fd ["_law_script"] (spLaw (K w.params))) :
    PySem.W.WalkO q loose XP YP l.row.toRowW d [] (fun f vs => PySem.call f vs) :=
  L2.walk_of (n := 63) (k := 7) (x := "_law_script") (CX := fun _ => CX0) (sp := fun w => spLaw (K w.params)) hn (by decide) hdf ⟨rfl, by decide, by decide⟩ hY F (fun _ _ a ns hl _ hS => ⟨a, ns, rfl, hS, hl, fun _ => rfl⟩) fun _ _ _ _ _ z => z
end GR

open PySem PySem.W PyProof.Rows
set_option maxRecDepth 100000 in
set_option maxHeartbeats 0 in
theorem PySem.Challenge.cw_growingrecords_k18_errors_made_holds : PySem.Challenge.rw_growingrecords_k18_errors_made.Holds := by
  w_on; o_law; k_head; (case hw => w_witness2)
  k_fill
  refine GR.walk (l := PySem.Challenge.rw_growingrecords_k18_errors_made) rfl rfl (fun w h Y => PySem.W.kIn_of Y) ?F
  case F =>
    intro w mg fa h KX G hmg
    refine' GR.with_eg PySem.Challenge.rw_growingrecords_k18_errors_made.prog KX G ?g1 ?g2 ?g3 ?g4 ?g5 (fun EG => ?rest)
    (case g1 => k_is); (case g2 => k_is); (case g3 => decide +kernel); (case g4 => k_is); (case g5 => k_is)
    refine' GR.all_mk KX G EG hmg ?h0 ?h1 ?h2 ?h3 (GR.ck_BadName__ddinitdd KX G EG ?h4 ?h5 ?h6 ?h7 ?h8 ?h9 ?h10 ?h11 ?h12 ?h13 ?h14 ?h15 ?h16 ?h17 ?h18 ?h19 ?h20 ?h21) (GR.ck_NoField__ddinitdd KX G EG ?h22 ?h23 ?h24 ?h25 ?h26 ?h27 ?h28 ?h29 ?h30 ?h31 ?h32 ?h33 ?h34 ?h35 ?h36 ?h37 ?h38 ?h39) (GR.ck_FieldThere__ddinitdd KX G EG ?h40 ?h41 ?h42 ?h43 ?h44 ?h45 ?h46 ?h47 ?h48 ?h49 ?h50 ?h51 ?h52 ?h53 ?h54 ?h55 ?h56 ?h57) (GR.ck_Shared__ddinitdd KX G EG ?h58 ?h59 ?h60 ?h61 ?h62 ?h63 ?h64 ?h65 ?h66 ?h67 ?h68 ?h69 ?h70 ?h71 ?h72 ?h73 ?h74 ?h75) (GR.ck_TooLarge__ddinitdd KX G EG ?h76 ?h77 ?h78 ?h79 ?h80 ?h81 ?h82 ?h83 ?h84 ?h85 ?h86 ?h87 ?h88 ?h89 ?h90 ?h91 ?h92 ?h93) (GR.ck_UnknownFunction__ddinitdd KX G EG ?h94 ?h95 ?h96 ?h97 ?h98 ?h99 ?h100 ?h101 ?h102 ?h103 ?h104 ?h105 ?h106 ?h107 ?h108 ?h109 ?h110 ?h111) (GR.ck_WrongArguments__ddinitdd KX G EG ?h112 ?h113 ?h114 ?h115 ?h116 ?h117 ?h118 ?h119 ?h120 ?h121 ?h122 ?h123 ?h124 ?h125 ?h126 ?h127 ?h128 ?h129) (GR.ck_DoubleName__ddinitdd KX G EG ?h130 ?h131 ?h132 ?h133 ?h134 ?h135 ?h136 ?h137 ?h138 ?h139 ?h140 ?h141 ?h142 ?h143 ?h144 ?h145 ?h146 ?h147 ?h148) (GR.ck_UnknownName__ddinitdd KX G EG ?h149 ?h150 ?h151 ?h152 ?h153 ?h154 ?h155 ?h156 ?h157 ?h158 ?h159 ?h160 ?h161 ?h162 ?h163 ?h164 ?h165 ?h166 ?h167) (GR.ck_WrongCount__ddinitdd KX G EG ?h168 ?h169 ?h170 ?h171 ?h172 ?h173 ?h174 ?h175 ?h176 ?h177 ?h178 ?h179 ?h180 ?h181 ?h182 ?h183 ?h184 ?h185 ?h186) (GR.ck_BadText__ddinitdd KX G EG ?h187 ?h188 ?h189 ?h190 ?h191 ?h192 ?h193 ?h194 ?h195 ?h196 ?h197 ?h198 ?h199 ?h200 ?h201 ?h202 ?h203 ?h204) (GR.ck_TooDeep__ddinitdd KX G EG ?h205 ?h206 ?h207 ?h208 ?h209 ?h210 ?h211 ?h212 ?h213 ?h214 ?h215 ?h216 ?h217 ?h218 ?h219 ?h220 ?h221 ?h222) (GR.ck_NoBranch__ddinitdd KX G EG ?h223 ?h224 ?h225 ?h226 ?h227 ?h228 ?h229 ?h230 ?h231 ?h232 ?h233 ?h234 ?h235 ?h236 ?h237 ?h238 ?h239 ?h240) (GR.ck_Mismatch__ddinitdd KX G EG ?h241 ?h242 ?h243 ?h244 ?h245 ?h246 ?h247 ?h248 ?h249 ?h250 ?h251 ?h252 ?h253 ?h254 ?h255 ?h256 ?h257) (GR.ck_NotRefined__ddinitdd KX G EG ?h258 ?h259 ?h260 ?h261 ?h262 ?h263 ?h264 ?h265 ?h266 ?h267 ?h268 ?h269 ?h270 ?h271 ?h272 ?h273 ?h274 ?h275) (GR.ck_Failure__ddinitdd KX G EG ?h276 ?h277 ?h278 ?h279 ?h280 ?h281 ?h282 ?h283 ?h284 ?h285 ?h286 ?h287 ?h288 ?h289 ?h290 ?h291 ?h292 ?h293 ?h294 ?h295 ?h296) ?h297 ?h298 ?h299 ?h300 ?h301 ?h302 ?h303 ?h304 ?h305 ?h306 ?h307 ?h308 ?h309 ?h310 ?h311 ?h312 ?h313 ?h314 ?h315 ?h316 ?h317 ?h318 ?h319 ?h320 ?h321 ?h322 ?h323 ?h324 ?h325 ?h326 ?h327 ?h328 ?h329 ?h330 ?h331 ?h332 ?h333 ?h334 ?h335 ?h336 ?h337 ?h338 ?h339 ?h340 ?h341 ?h342 ?h343 ?h344 ?h345 ?h346 ?h347 ?h348 ?h349 ?h350 ?h351 ?h352 ?h353 ?h354 ?h355 ?h356
    (case h0 => k_is)
    (case h1 => k_is)
    (case h2 => k_is)
    (case h3 => k_is)
    (case h4 => k_is)
    (case h5 => k_is)
    (case h6 => k_is)
    (case h7 => k_is)
    (case h8 => k_is)
    (case h9 => k_is)
    (case h10 => k_is)
    (case h11 => k_is)
    (case h12 => k_is)
    (case h13 => first | ks_is | kernel_rfl)
    (case h14 => k_is)
    (case h15 => k_is)
    (case h16 => k_is)
    (case h17 => k_is)
    (case h18 => first | rfl | kernel_rfl)
    (case h19 => first | rfl | decide +kernel)
    (case h20 => k_is)
    (case h21 => first | rfl | kernel_rfl)
    (case h22 => k_is)
    (case h23 => k_is)
    (case h24 => k_is)
    (case h25 => k_is)
    (case h26 => k_is)
    (case h27 => k_is)
    (case h28 => k_is)
    (case h29 => k_is)
    (case h30 => k_is)
    (case h31 => first | ks_is | kernel_rfl)
    (case h32 => k_is)
    (case h33 => k_is)
    (case h34 => k_is)
    (case h35 => k_is)
    (case h36 => first | rfl | kernel_rfl)
    (case h37 => first | rfl | decide +kernel)
    (case h38 => k_is)
    (case h39 => first | rfl | kernel_rfl)
    (case h40 => k_is)
    (case h41 => k_is)
    (case h42 => k_is)
    (case h43 => k_is)
    (case h44 => k_is)
    (case h45 => k_is)
    (case h46 => k_is)
    (case h47 => k_is)
    (case h48 => k_is)
    (case h49 => first | ks_is | kernel_rfl)
    (case h50 => k_is)
    (case h51 => k_is)
    (case h52 => k_is)
    (case h53 => k_is)
    (case h54 => first | rfl | kernel_rfl)
    (case h55 => first | rfl | decide +kernel)
    (case h56 => k_is)
    (case h57 => first | rfl | kernel_rfl)
    (case h58 => k_is)
    (case h59 => k_is)
    (case h60 => k_is)
    (case h61 => k_is)
    (case h62 => k_is)
    (case h63 => k_is)
    (case h64 => k_is)
    (case h65 => k_is)
    (case h66 => k_is)
    (case h67 => first | ks_is | kernel_rfl)
    (case h68 => k_is)
    (case h69 => k_is)
    (case h70 => k_is)
    (case h71 => k_is)
    (case h72 => first | rfl | kernel_rfl)
    (case h73 => first | rfl | decide +kernel)
    (case h74 => k_is)
    (case h75 => first | rfl | kernel_rfl)
    (case h76 => k_is)
    (case h77 => k_is)
    (case h78 => k_is)
    (case h79 => k_is)
    (case h80 => k_is)
    (case h81 => k_is)
    (case h82 => k_is)
    (case h83 => k_is)
    (case h84 => k_is)
    (case h85 => first | ks_is | kernel_rfl)
    (case h86 => k_is)
    (case h87 => k_is)
    (case h88 => k_is)
    (case h89 => k_is)
    (case h90 => first | rfl | kernel_rfl)
    (case h91 => first | rfl | decide +kernel)
    (case h92 => k_is)
    (case h93 => first | rfl | kernel_rfl)
    (case h94 => k_is)
    (case h95 => k_is)
    (case h96 => k_is)
    (case h97 => k_is)
    (case h98 => k_is)
    (case h99 => k_is)
    (case h100 => k_is)
    (case h101 => k_is)
    (case h102 => k_is)
    (case h103 => first | ks_is | kernel_rfl)
    (case h104 => k_is)
    (case h105 => k_is)
    (case h106 => k_is)
    (case h107 => k_is)
    (case h108 => first | rfl | kernel_rfl)
    (case h109 => first | rfl | decide +kernel)
    (case h110 => k_is)
    (case h111 => first | rfl | kernel_rfl)
    (case h112 => k_is)
    (case h113 => k_is)
    (case h114 => k_is)
    (case h115 => k_is)
    (case h116 => k_is)
    (case h117 => k_is)
    (case h118 => k_is)
    (case h119 => k_is)
    (case h120 => k_is)
    (case h121 => first | ks_is | kernel_rfl)
    (case h122 => k_is)
    (case h123 => k_is)
    (case h124 => k_is)
    (case h125 => k_is)
    (case h126 => first | rfl | kernel_rfl)
    (case h127 => first | rfl | decide +kernel)
    (case h128 => k_is)
    (case h129 => first | rfl | kernel_rfl)
    (case h130 => k_is)
    (case h131 => k_is)
    (case h132 => k_is)
    (case h133 => k_is)
    (case h134 => k_is)
    (case h135 => k_is)
    (case h136 => k_is)
    (case h137 => k_is)
    (case h138 => k_is)
    (case h139 => first | ks_is | kernel_rfl)
    (case h140 => k_is)
    (case h141 => k_is)
    (case h142 => k_is)
    (case h143 => k_is)
    (case h144 => k_is)
    (case h145 => first | rfl | kernel_rfl)
    (case h146 => first | rfl | decide +kernel)
    (case h147 => k_is)
    (case h148 => first | rfl | kernel_rfl)
    (case h149 => k_is)
    (case h150 => k_is)
    (case h151 => k_is)
    (case h152 => k_is)
    (case h153 => k_is)
    (case h154 => k_is)
    (case h155 => k_is)
    (case h156 => k_is)
    (case h157 => k_is)
    (case h158 => first | ks_is | kernel_rfl)
    (case h159 => k_is)
    (case h160 => k_is)
    (case h161 => k_is)
    (case h162 => k_is)
    (case h163 => k_is)
    (case h164 => first | rfl | kernel_rfl)
    (case h165 => first | rfl | decide +kernel)
    (case h166 => k_is)
    (case h167 => first | rfl | kernel_rfl)
    (case h168 => k_is)
    (case h169 => k_is)
    (case h170 => k_is)
    (case h171 => k_is)
    (case h172 => k_is)
    (case h173 => k_is)
    (case h174 => k_is)
    (case h175 => k_is)
    (case h176 => k_is)
    (case h177 => first | ks_is | kernel_rfl)
    (case h178 => k_is)
    (case h179 => k_is)
    (case h180 => k_is)
    (case h181 => k_is)
    (case h182 => k_is)
    (case h183 => first | rfl | kernel_rfl)
    (case h184 => first | rfl | decide +kernel)
    (case h185 => k_is)
    (case h186 => first | rfl | kernel_rfl)
    (case h187 => k_is)
    (case h188 => k_is)
    (case h189 => k_is)
    (case h190 => k_is)
    (case h191 => k_is)
    (case h192 => k_is)
    (case h193 => k_is)
    (case h194 => k_is)
    (case h195 => k_is)
    (case h196 => first | ks_is | kernel_rfl)
    (case h197 => k_is)
    (case h198 => k_is)
    (case h199 => k_is)
    (case h200 => k_is)
    (case h201 => first | rfl | kernel_rfl)
    (case h202 => first | rfl | decide +kernel)
    (case h203 => k_is)
    (case h204 => first | rfl | kernel_rfl)
    (case h205 => k_is)
    (case h206 => k_is)
    (case h207 => k_is)
    (case h208 => k_is)
    (case h209 => k_is)
    (case h210 => k_is)
    (case h211 => k_is)
    (case h212 => k_is)
    (case h213 => k_is)
    (case h214 => first | ks_is | kernel_rfl)
    (case h215 => k_is)
    (case h216 => k_is)
    (case h217 => k_is)
    (case h218 => k_is)
    (case h219 => first | rfl | kernel_rfl)
    (case h220 => first | rfl | decide +kernel)
    (case h221 => k_is)
    (case h222 => first | rfl | kernel_rfl)
    (case h223 => k_is)
    (case h224 => k_is)
    (case h225 => k_is)
    (case h226 => k_is)
    (case h227 => k_is)
    (case h228 => k_is)
    (case h229 => k_is)
    (case h230 => k_is)
    (case h231 => k_is)
    (case h232 => first | ks_is | kernel_rfl)
    (case h233 => k_is)
    (case h234 => k_is)
    (case h235 => k_is)
    (case h236 => k_is)
    (case h237 => first | rfl | kernel_rfl)
    (case h238 => first | rfl | decide +kernel)
    (case h239 => k_is)
    (case h240 => first | rfl | kernel_rfl)
    (case h241 => k_is)
    (case h242 => k_is)
    (case h243 => k_is)
    (case h244 => k_is)
    (case h245 => k_is)
    (case h246 => k_is)
    (case h247 => k_is)
    (case h248 => k_is)
    (case h249 => k_is)
    (case h250 => first | ks_is | kernel_rfl)
    (case h251 => k_is)
    (case h252 => k_is)
    (case h253 => k_is)
    (case h254 => first | rfl | kernel_rfl)
    (case h255 => first | rfl | decide +kernel)
    (case h256 => k_is)
    (case h257 => first | rfl | kernel_rfl)
    (case h258 => k_is)
    (case h259 => k_is)
    (case h260 => k_is)
    (case h261 => k_is)
    (case h262 => k_is)
    (case h263 => k_is)
    (case h264 => k_is)
    (case h265 => k_is)
    (case h266 => k_is)
    (case h267 => first | ks_is | kernel_rfl)
    (case h268 => k_is)
    (case h269 => k_is)
    (case h270 => k_is)
    (case h271 => k_is)
    (case h272 => first | rfl | kernel_rfl)
    (case h273 => first | rfl | decide +kernel)
    (case h274 => k_is)
    (case h275 => first | rfl | kernel_rfl)
    (case h276 => k_is)
    (case h277 => k_is)
    (case h278 => k_is)
    (case h279 => k_is)
    (case h280 => k_is)
    (case h281 => k_is)
    (case h282 => k_is)
    (case h283 => k_is)
    (case h284 => k_is)
    (case h285 => first | ks_is | kernel_rfl)
    (case h286 => k_is)
    (case h287 => k_is)
    (case h288 => k_is)
    (case h289 => k_is)
    (case h290 => k_is)
    (case h291 => k_is)
    (case h292 => k_is)
    (case h293 => first | rfl | kernel_rfl)
    (case h294 => first | rfl | decide +kernel)
    (case h295 => k_is)
    (case h296 => first | rfl | kernel_rfl)
    (case h297 => decide)
    (case h298 => decide)
    (case h299 => k_is)
    (case h300 => k_is)
    (case h301 => k_is)
    (case h302 => k_is)
    (case h303 => k_is)
    (case h304 => k_is)
    (case h305 => k_is)
    (case h306 => k_is)
    (case h307 => k_is)
    (case h308 => k_is)
    (case h309 => k_is)
    (case h310 => k_is)
    (case h311 => k_is)
    (case h312 => k_is)
    (case h313 => k_is)
    (case h314 => k_is)
    (case h315 => k_is)
    (case h316 => k_is)
    (case h317 => k_is)
    (case h318 => k_is)
    (case h319 => k_is)
    (case h320 => k_is)
    (case h321 => k_is)
    (case h322 => k_is)
    (case h323 => k_is)
    (case h324 => k_is)
    (case h325 => k_is)
    (case h326 => k_is)
    (case h327 => k_is)
    (case h328 => k_is)
    (case h329 => k_is)
    (case h330 => k_is)
    (case h331 => k_is)
    (case h332 => k_is)
    (case h333 => k_is)
    (case h334 => k_is)
    (case h335 => k_is)
    (case h336 => k_is)
    (case h337 => k_is)
    (case h338 => k_is)
    (case h339 => k_is)
    (case h340 => k_is)
    (case h341 => k_is)
    (case h342 => k_is)
    (case h343 => k_is)
    (case h344 => k_is)
    (case h345 => k_is)
    (case h346 => k_is)
    (case h347 => k_is)
    (case h348 => k_is)
    (case h349 => k_is)
    (case h350 => k_is)
    (case h351 => k_is)
    (case h352 => k_is)
    (case h353 => k_is)
    (case h354 => k_is)
    (case h355 => k_is)
    (case h356 => k_is)
