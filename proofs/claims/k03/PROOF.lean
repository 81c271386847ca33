import PyProof.Rows.All
import Wide.All
import OpenK.AllK
import Wide.FinOn
import KE.KExcSuper
import HandS.Base
import HandS.Call
import HandS.List
import HandS.Exc
import HandS.ExcInit
import KE.KTryMore
import HandS.ForMost
import HandS.ExcField
import HandS.HeadHook1
import HandS.HeadHook2
import KE.KStateDown
import HandS.Defaults
import HandS.Head0
import HandS.Head1
import HandS.Head2
import HandS.HeadHook4
import HandS.HeadWalk
import HandS.Wide
import HandS.Lambda
import HandS.WordsExc
import HandS.Style
import HandS.Text
import HandS.Iter
import KE.KRevSl
import HandS.Codes
import HandS.StrMore
import HandS.FStr
import PyProof.Rows.StrDigitsNeg
import PyProof.Rows.ReprOcc
import PyProof.Rows.StrMul
import PyProof.StrBlock2
import Lean
import HandS.IsInst
import HandS.Zip
import HandS.Replace
import HandS.Walk
import PySem.Challenge.RW_copytail_k03_texts_of_fractions
set_option Elab.async false
set_option linter.all false
set_option maxRecDepth 100000
set_option maxHeartbeats 0
/-! An own error's __init__ that begins with super().__init__(e), over ValueError. -/
namespace CT
open PySem PySem.Spec PySem.Calls PyProof.Rows L2

section
open PySem.W
variable {prog : Program} {w : World} {A : Around} {E : Value → Shared → Prop} {h : Heap} {g : Array GenState} {d : Drawn} {t : Nat} {os : OsState}
variable {nm q : Str} {C N : Addr} {bs bm : List Value} {hdct : Bool} {sn : List Str} {sub : List Value} {ab : Bool} {col : Option Bool} {dd : Option Addr} {k0 k1 k2 k3 k5 : Option Value}
theorem call_mw {u e t0 : Addr} {rest : List Value} {Q : Value → Shared → Prop}
    (hC : h.get? C = some (excClassObj nm q C N bs bm hdct sn sub ab col dd k0 k1 k2 k3 k5 "ValueError.__new__")) (he : h.get? e = some (HandSPX.excO C t0)) (hu : h.get? u = some (kxs_mw "ValueError.__init__" e)) (hrest : rest.length ≤ sizeLine)
    (hq : ∀ h' t1, (∀ b o, b ≠ e → h.get? b = some o → h'.get? b = some o) → h'.get? e = some (HandSPX.excO C t1) → Q .none ⟨h', g, d, t, os⟩) :
    wpAny (model prog w) A (call (.ref u) rest) Q E ⟨h, g, d, t, os⟩ := by
  refine wpAny_call (codeAny_of_tree ?_)
  show wpAny _ A.in1 (callAny (.ref u) ⟨rest, []⟩) _ _ _
  simp only [callAny]
  refine wpAny_bind (wpAny_load hu ?_)
  simp only [kxs_mw, show (Value.type "method-wrapper" == Value.type "method" || Value.type "method-wrapper" == Value.type "builtin_function_or_method" || Value.type "method-wrapper" == Value.type "method-wrapper") = true by decide, if_true]
  refine W.KFB.if_so (by decide) ?_
  refine wpAny_bind (check_bound_init F.excBase_ValueError.toExcCallFacts hC he rfl ?_)
  refine wpAny_bind (wpAny_pure (wpAny_pure ?_))
  refine ⟨Code.quiet_builtin _ (by decide +kernel), codeAny_builtin F.excBase_ValueError.initEntry ?_⟩
  rw [Around.under_plainId F.excBase_ValueError.init.plain _]
  wp_walk
  refine hq _ h.objs.size (fun b o hb ho => ?_) ?_
  · rw [Heap.get?_update_other _ _ (Ne.symm hb)]
    exact Heap.get?_push_of_some _ ho
  · rw [Heap.get?_update_self _ (Heap.get?_push_of_some _ he) rfl]
    rfl
end

theorem callWith_mw {M : Model} {A : Around} {E : Value → Shared → Prop} {s : Shared} {i : String} {pos : Pos} {u x : Addr} {first : List Value} {env : Env} {e : Expr} {rest : List Expr} {Q : Value → Shared → Prop}
    (he : starEach (e :: rest) env = (false, eval e env) :: starEach rest env) (hpl : (backTo pos (starEach rest env)).any (·.1) = false)
    (h : wpAny M A (spliced (backTo pos (starEach (e :: rest) env))) (fun vs s₁ => PySem.W.KxsAt i u x s₁.heap ∧ wpAny M A (call (.ref u) (first ++ vs)) Q E s₁) E s) :
    wpAny M A (callWith pos (.ref u) first (backTo pos (starEach (e :: rest) env)) []) Q E s := by
  rw [he] at h ⊢
  refine PySem.W.kxs_callWith (i := i) (x := x) (by show (false || (backTo pos (starEach rest env)).any (·.1)) = false; rw [hpl]; rfl) ?_
  exact evalArgs_plain h

abbrev envS (qual : Str) (scope : Scope) (L f cda cc : Addr) : Env := PySem.W.ksEnv qual scope L f (.ref cda) cc
def cxS (CX : CXT) (P : Program) (w : World) (K : PySem.W.Frag) (mg : Str → Option Value) (base : Heap) (N : List Str) (qual : Str) (scope : Scope) (f cda cc : Addr) (A : Around) (outer : List Env) (s : Shared) (H : Hp) (E : XK) : Cx where
  prog := P
  w := w
  K := K
  mg := mg
  base := base
  A := A.deeper (envS qual scope s.heap.objs.size f cda cc)
  N := N
  s_0 := s
  H_0 := H
  env := envS qual scope s.heap.objs.size f cda cc
  outer := outer
  stack := envS qual scope s.heap.objs.size f cda cc :: outer
  ex := []
  calm := true
  fn := fun _ => false
  pn := []
  xe := fun e s' => wpAny (model P w) (A.deeper (envS qual scope s.heap.objs.size f cda cc)) (leaving (envS qual scope s.heap.objs.size f cda cc) e) (fun _ s'' => CX outer H s E e s'') (fun e' s'' => CX outer H s E e' s'') s'

/-- the names of such a def: its parameters, super, and the free __class__ -/
structure ScS (ps : List Str) (sc : Scope) : Prop where
  kind : sc.kind = .function
  co : sc.isCoroutine = false
  gen : sc.isGenerator = false
  nd : ps.Nodup
  par : ∀ x ∈ ps, sc.names.lookup x = some .local
  nocell : ∀ y ∈ sc.names, y.2 ≠ .cell
  free : ∀ y ∈ sc.names, y.2 = .free → y.1 = ("__class__" : Str)
  sup : sc.names.lookup ("super" : Str) = some .globalImplicit
  cls : sc.names.lookup ("__class__" : Str) = some .free

theorem lookup_zip_rev : ∀ {ps : List Str} {us : List Value} {i : Nat} {x : Str} {u : Value}, ps.Nodup → ps[i]? = some x → us[i]? = some u → (ps.zip us).reverse.lookup x = some u
  | [], _, _, _, _, _, h, _ => by simp at h
  | _ :: _, [], _, _, _, _, _, h => by simp at h
  | p :: ps, v :: us, 0, x, u, nd, h1, h2 => by
    simp at h1 h2
    subst h1; subst h2
    have hn : (ps.zip us).reverse.lookup p = none := by
      cases e : (ps.zip us).reverse.lookup p with
      | none => rfl
      | some z =>
        have m := PySem.mem_of_lookup e
        exact absurd (List.of_mem_zip (List.mem_reverse.mp m)).1 (List.nodup_cons.mp nd).1
    rw [List.zip_cons_cons, List.reverse_cons, List.lookup_append, hn]
    simp
  | p :: ps, v :: us, i + 1, x, u, nd, h1, h2 => by
    rw [List.zip_cons_cons, List.reverse_cons, List.lookup_append, lookup_zip_rev (i := i) (List.nodup_cons.mp nd).2 (by simpa using h1) (by simpa using h2)]
    rfl

theorem one_cell {cc c : Addr} {x : Str} (h : ([("__class__", cc)] : List (Str × Addr)).lookup x = some c) : x = ("__class__" : Str) ∧ c = cc := by
  have m := PySem.mem_of_lookup h
  simp at m
  exact m

theorem inv_startS {CX : CXT} {P : Program} {w : World} {K : PySem.W.Frag} {mg : Str → Option Value} {base : Heap} {ps : List Str} {qual : Str} {scope : Scope} {f cda cc : Addr} {A : Around} {outer : List Env} {s : Shared} {H : Hp} {E : XK} {us : List Value} {vs : List V} {h₁ : Heap} {tk : Nat}
    (S : ScS ps scope) (hd : A.handled = none) (e0 : Env0 P w K mg base A outer s H) (hl : vs.length = ps.length) (r : Vals vs us)
    (hns : h₁.Ns s.heap.objs.size (fun x => (ps.zip us).reverse.lookup x)) (kp : ∀ b o, s.heap.get? b = some o → h₁.get? b = some o) (hcc : ∃ o v, base.get? cc = some o ∧ o.data = .cell v) :
    Inv (cxS CX P w K mg base ps qual scope f cda cc A outer s H E) [] (L2.start ps vs) H { s with heap := h₁, toks := tk } := by
  have noA : ∀ b : Addr, b ∉ (cxS CX P w K mg base ps qual scope f cda cc A outer s H E).ex := fun b z => absurd (show b ∈ ([] : List Addr) from z) (by simp)
  obtain ⟨oc, vc, hc1, hc2⟩ := hcc
  have hfull : L2.start ps vs = vs.map some := by
    unfold L2.start
    rw [hl, Nat.sub_self]
    simp
  refine ⟨⟨e0.mod, S.kind, rfl, rfl, Nat.le_refl _, fun y z c h1 h2 => ?_, fun y hy => ?_, fun y c h _ => ?_, fun _ => hd, Around.frames_deeper e0.frames, .inr ⟨rfl, rfl⟩, fun b z => absurd z (noA b), e0.bs, e0.bsz, fun b _ _ => noA b, fun b z => absurd z (noA b), e0.funs, e0.frf⟩,
    rfl, e0.bare, Un.kept kp, ⟨_, hns, fun i y v h1 h2 h3 => ?_⟩, fun y c h => ?_, e0.hok.fresh (Nat.le_refl _), fun y c h => ?_, fun p hp => absurd (show p ∈ ([] : List (Addr × Obj)) from hp) (by simp), e0.hok.kept kp, ?_⟩
  · rw [(one_cell h1).1, (one_cell h2).1]
  · have hy : scope.names.lookup y = some .cell ∨ scope.names.lookup y = some .free := hy
    rcases hy with hy | hy
    · exact absurd rfl (S.nocell _ (PySem.mem_of_lookup hy))
    · have e := S.free _ (PySem.mem_of_lookup hy) rfl
      have e : y = ("__class__" : Str) := e
      subst e
      exact ⟨cc, rfl⟩
  · have h : false = true := h
    cases h
  · rw [hfull, List.getElem?_map] at h2
    obtain ⟨v', hv', e⟩ := Option.map_eq_some_iff.mp h2
    cases e
    obtain ⟨u, hu, rv⟩ := r.get hv'
    have hp : ps[i]? = some y := h1
    exact ⟨u, rv, .inl ⟨S.par y (List.mem_of_getElem? hp), lookup_zip_rev S.nd hp hu⟩⟩
  · obtain ⟨_, rfl⟩ := one_cell h
    exact ⟨vc, oc, kp _ _ (e0.bs _ _ hc1).1, hc2⟩
  · obtain ⟨_, rfl⟩ := one_cell h
    exact (e0.bs _ _ hc1).2
  · rw [hfull, List.length_map]
    exact hl

section
open PySem.W
variable {CX : CXT} {P : Program} {w : World} {K : PySem.W.Frag} {mg : Str → Option Value} {base : Heap} {k : Nat} {f C cc cda : Addr} {name qual : Str} {params : Arguments} {rest : List Stmt} {scope : Scope} {dV kV doc pm ct oc : Value} {an od : Option Addr}
  {osl : Array (Option Value)} {ps : List Str} {sp : Sp} {e : Expr} {p0 p1 p2 p3 p4 : Pos} {ar : Arg} {ccl cl : Value} {cdd cld : Option Addr} {ccs csl : Array (Option Value)} {vsc : Array Value} {file : Str} {tf : Tok}
abbrev bodyS (e : Expr) (rest : List Stmt) (p0 p1 p2 p3 p4 : Pos) : List Stmt := .Expr (.Call (.Attribute (.Call (.Name "super" p0) [] [] p1) "__init__" p2) [e] [] p3) p4 :: rest
/-- a def that begins with super().__init__(e), run upon a new error of the class at C -/
theorem fn_super (lk : K.lookup f = some ⟨oc, od, .func (ksFn name qual params (bodyS e rest p0 p1 p2 p3 p4) scope dV kV doc pm an (.ref cda) ct cc), osl⟩) (hcd : codeIn K (.ref cda) qual = true) (S : ScS ps scope)
    (hp : (params.posonlyargs ++ params.args).head? = some ar) (hps : ps[0]? = some ar.arg)
    (hcell : K.lookup cc = some ⟨cl, cld, .cell (some (.ref C)), csl⟩) (hcode : K.lookup cda = some ⟨ccl, cdd, .fields vsc, ccs⟩) (hvs : vsc[2]? = some (.str file tf)) (hfile : ((P.main.file : Str) == file) = true)
    (htop : (P.main.scope.names.lookup ("super" : Str)).isSome = false) (msup : mg "super" = none) (T : OexC K C) (hop : nsIn K cStatics "thirdparty.any" = some none)
    (hm : ks_superIn K C C "__init__" = some (some (.builtin "ValueError.__init__"))) (hB : subIn K (.ref C) (.type "ValueError") = some true)
    (len : ∀ vs H Q E, sp vs H Q E → vs.length = ps.length)
    (hstar : ∀ env : Env, starEach [e] env = (false, eval e env) :: starEach [] env)
    (hsw : ∀ env : Env, swapsWith (.Call (.Attribute (.Call (.Name "super" p0) [] [] p1) "__init__" p2) [e] [] p3) none p4.line env = pure false)
    (hev : ∀ env : Env, ∃ pl : Sem Bool, eval (.Call (.Attribute (.Call (.Name "super" p0) [] [] p1) "__init__" p2) [e] [] p3) env = (do
      let ov ← attributeBase (.Call (.Name "super" p0) [] [] p1) "__init__" env (eval (.Call (.Name "super" p0) [] [] p1) env)
      standAt p2.atName
      let (f, first) ← holding [ov] (getMethod ov "__init__" pl)
      callWith p3 f first (backTo p3 (starEach [e] env)) []))
    (hbody : ∀ (A : Around) (outer : List Env) (s : Shared) (H : Hp) (vs : List V) (Q : VK) (E : XK), Room k (A.deeper (envS qual scope s.heap.objs.size f cda cc)) → sp vs H Q E →
      ∃ (a : Addr) (ta : TA), vs[0]? = some (.ref a) ∧ H a = some (exo a C none) ∧ PA (cxS CX P w K mg base ps qual scope f cda cc A outer s H E) [e] ta ∧
        ta (L2.start ps vs) H fun ws H1 => ws.length ≤ 1000 ∧ H1 a = some (exo a C none) ∧ ∃ t, PSs (cxS CX P w K mg base ps qual scope f cda cc A outer s H E) rest t ∧ t { nx := fun _ H' => Q .non H', rt := Q } (L2.start ps vs) H1) :
    FnOk P w K mg base CX (k + 1) f (ksFn name qual params (bodyS e rest p0 p1 p2 p3 p4) scope dV kV doc pm an (.ref cda) ct cc) ps sp := by
  refine ⟨len, fun A outer s H args us vs Q E hr e0 hb r hsp => ?_⟩
  have hl := len _ _ _ _ hsp
  have KX : K.In s.heap := e0.mod.kin.keeps fun b o e => (e0.bs b o e).1
  have lim : s.heap.NoLimit := e0.mod.nolimit.keeps fun b o e => (e0.bs b o e).1
  obtain ⟨a, ta, hv0, ea, ha, hq⟩ := hbody A outer s H vs Q E (hr.deeper _) hsp
  obtain ⟨u0, hu0, ru0⟩ := r.get hv0
  obtain rfl : u0 = Value.ref a := ru0
  refine ks_codeAny_call_defAt (fd := ksFn name qual params (bodyS e rest p0 p1 p2 p3 p4) scope dV kV doc pm an (.ref cda) ct cc) (body := bodyS e rest p0 p1 p2 p3 p4) (binds := ps.zip us) hr.depth (KX _ _ lk) rfl lim (codeRec_of KX hcd) rfl hb S.nocell
    (fun y hy => S.par y.1 (List.of_mem_zip hy).1) (fun h₁ hns hk₁ => ?_) S.co S.gen S.kind
  have I := inv_startS (CX := CX) (qual := qual) (f := f) (cda := cda) (cc := cc) (E := E) (tk := s.toks + (ps.zip us).length) S hr.hd e0 hl r hns hk₁ ⟨_, _, e0.mod.kin _ _ hcell, rfl⟩
  show _root_.PySem.wpAt (model P w) (A.deeper (envS qual scope s.heap.objs.size f cda cc)) (.func (bodyS e rest p0 p1 p2 p3 p4) (envS qual scope s.heap.objs.size f cda cc)) (execs (bodyS e rest p0 p1 p2 p3 p4) (envS qual scope s.heap.objs.size f cda cc)) _ _ _
  obtain ⟨X, hX⟩ : ∃ X, X = cxS CX P w K mg base ps qual scope f cda cc A outer s H E := ⟨_, rfl⟩
  have KX1 : K.In h₁ := KX.keeps hk₁
  obtain ⟨nm, q, N, bs, bm, sn, sub, ab, col, dd, k0, k1, k2, k3, k5, hC, hbm⟩ := id T.cls
  have hcl : clsIn K C = some { name := nm, bases := bs, mro := .ref C :: bm, ns := N, qualname := q, hasDict := true, slotNames := sn, subclasses := sub, abstract := ab, collection := col, hasDel := false } := by unfold clsIn; rw [hC] <;> rfl
  obtain ⟨t1, hxo⟩ := exo_at I.hok ea
  have hxC : a ≠ C := fun z => by
    have y := KX1 _ _ hC
    rw [← z, hxo] at y
    cases y
  obtain ⟨pl, hpl⟩ := hev (envS qual scope s.heap.objs.size f cda cc)
  refine ks_wpAt_execs_cons (ks_wpAt_Expr_any (ks_wpAt_MethodCall (pl := pl) (o := .Call (.Name "super" p0) [] [] p1) (name := "__init__") ?_ hpl) I.quiet (hsw _))
  refine ks_wpAt_super_base (env := envS qual scope s.heap.objs.size f cda cc) S.sup S.cls (by decide) rfl (KX1 _ _ lk) rfl hp rfl (KX1 _ _ hcode) rfl hvs hfile htop ?_
  obtain ⟨mb, hb1, hb2⟩ := e0.mod.blt
  have bk : ∀ b o, base.get? b = some o → h₁.get? b = some o := fun b o z => hk₁ b o (e0.bs b o z).1
  refine ks_loadName_global S.kind S.sup (loadGlobal_builtin (env := envS qual scope s.heap.objs.size f cda cc) (e0.mod.glob.keeps bk) msup (hb1.keeps bk) ((hb2 _ (by decide)).trans (by decide +kernel : bootBuiltins "super" = some (.type "super"))) ⟨rfl, ?_⟩)
  refine wpAny_loadName_free S.kind S.cls rfl ⟨_, KX1 _ _ hcell, rfl⟩ ?_
  refine wpAny_loadName_local S.kind (S.par _ (List.mem_of_getElem? hps)) hns (lookup_zip_rev S.nd hps hu0) ?_
  refine ks_wpAny_isType_cls (KX1 _ _ hC) rfl ⟨rfl, ?_⟩
  refine ks_wpAny_call_super (KX1 _ _ hC) rfl hxo rfl (fun c z => by cases z) (looks_mroIn KX1 (by unfold mroIn; rw [hcl]; simp)) (fun h2 eso k2' => ?_)
  have I2 := I.kept (h' := h2) (t' := s.toks + (ps.zip us).length) k2'
  have KX2 : K.In h2 := KX1.keeps k2'
  have hx2 : h2.get? a = some (HandSPX.excO C t1) := k2' _ _ hxo
  have hI2 : Looks (model P w) h2 (isInstance (.ref a) (.type "ValueError")) true := InstAt.type (ox := HandSPX.excO C t1) (od := none) ⟨hx2, rfl, rfl, trivial⟩ |>.andThen (looks_subIn KX2 hB)
  have hm' : alongIn K "__init__" (((.ref C :: bm : List Value).dropWhile (· != .ref C)).drop 1) = some (some (.builtin "ValueError.__init__")) := by
    have z := hm
    unfold ks_superIn at z
    rw [hcl] at z
    exact z
  refine kxs_getMethod kxs_ValueError eso (looks_opaque KX2 hop) (l₀ := .ref C :: bm) ((looks_clsIn KX2 hcl).andThen .now) rfl KX2 hm' hI2 hxC (by decide) ?_
  have k3' : ∀ b o, h2.get? b = some o → (h2.push (kxs_mw "ValueError.__init__" a)).get? b = some o := fun b o z => Heap.get?_push_of_some _ z
  have I3 := I2.kept (h' := h2.push (kxs_mw "ValueError.__init__" a)) (t' := s.toks + (ps.zip us).length + 1) k3'
  have hu3 : (h2.push (kxs_mw "ValueError.__init__" a)).get? h2.objs.size = some (kxs_mw "ValueError.__init__" a) := Heap.get?_push_size _ rfl
  have hL2 := I2.lt
  have I4 := I3.pins_of (pins' := [(h2.objs.size, kxs_mw "ValueError.__init__" a)]) fun p hp => by
    have e : p = (h2.objs.size, kxs_mw "ValueError.__init__" a) := by simpa using hp
    subst e
    exact ⟨hu3, I2.hok.fresh (Nat.le_refl _), Nat.ne_of_gt hL2, I2.nofs (Nat.le_refl _), fun v z => by cases z⟩
  refine callWith_mw (i := "ValueError.__init__") (x := a) (hstar _) rfl ?_
  refine thn (ha.run p3 _ _ _ _ _ I4 hq) fun ws s4 hw => ?_
  obtain ⟨zs, H4, I5, r4, hz4, ea4, t, ht, hq4⟩ := hw
  have hu4 := (I5.pin (h2.objs.size, kxs_mw "ValueError.__init__" a) (List.mem_append_right _ (by simp))).1
  refine ⟨hu4, ?_⟩
  obtain ⟨t4, ho4⟩ := exo_at I5.hok ea4
  have KX4 := I5.kIn
  obtain ⟨hp4, g4, d4, tk4, os4⟩ := s4
  have hws : ws.length ≤ sizeLine := by
    rw [← r4.length, sizeLine_eq]
    omega
  refine call_mw (KX4 _ _ hC) ho4 hu4 hws fun h' t5 k5 hx5 => ?_
  have J := I5.write (t' := tk4) (x := a) (e := a) (o := exo a C none) (by rw [ea4]; exact True.intro) (.inl rfl) k5 ⟨_, hx5⟩ (exo_ok hx5)
  have eu : upd H4 a (exo a C none) = H4 := by
    funext b
    by_cases hb : b = a
    · rw [hb, upd_same, ea4]
    · rw [upd_ne hb]
  rw [eu] at J
  have J0 := J.pins_of (pins' := []) fun p hp => absurd hp (by simp)
  refine wpAt_of_wpAny (wpAny_mono (ht.run [] _ _ _ _ J0 hq4) (fun fl s' hs => ?_) fun e s' hs => hs)
  have fin : ∀ {σ' : L2.St} {H' : Hp} {v : V} {u : Value}, Inv (cxS CX P w K mg base ps qual scope f cda cc A outer s H E) [] σ' H' s' → RelV v u → Q v H' → CE outer P w H s Q u s' :=
    fun {σ' H' v u} J rv q => ⟨v, H', J.os, J.bare, J.base, J.hok, rv, q⟩
  cases fl with
  | ret u =>
    obtain ⟨v, σ', H', J, rv, q⟩ := hs
    exact fin J rv q
  | next =>
    obtain ⟨σ', H', J, q⟩ := hs
    exact fin (v := V.non) (u := Value.none) J rfl q
  | brk =>
    obtain ⟨_, _, _, q⟩ := hs
    exact False.elim q
  | cont =>
    obtain ⟨_, _, _, q⟩ := hs
    exact False.elim q
end
end CT

/-! try with several clauses «except X as n» and «except (X, Y, ..) as n». -/
namespace CT
open PySem PySem.Spec PySem.Calls PyProof.Rows L2

/-! ### a tuple of classes, any length -/
section
open PySem.W
variable {M : Model} {K : Frag}
theorem loop1 {A : Around} {E : Value → Shared → Prop} {s : Shared} {cls : Value} (X : K.In s.heap) : ∀ {cs : List Value} {b : Bool}, exmAny K cls cs = some b → ∀ {Q : PUnit → Shared → Prop}, Q PUnit.unit s →
    wpAny M A (forIn cs PUnit.unit fun c (__s : PUnit) => do
      let __do_lift ← isExcClass c
      if (!__do_lift) = true then do
          rule "try.except-non-exception-class"
          raiseErrorWords "TypeError" "catching classes that do not inherit from BaseException is not allowed"
          pure (ForInStep.yield PUnit.unit)
        else pure (ForInStep.yield PUnit.unit)) Q E s
  | [], _, _, _, q => wpAny_pure q
  | c :: r, b, hx, Q, q => by
    obtain ⟨b1, d1, x1, y1, _⟩ := exmAny_cons hx
    obtain ⟨e1, _⟩ := exm_cls (M := M) X x1
    rw [List.forIn_cons]
    refine wpAny_bind (wpAny_bind (e1.here ?_))
    rw [if_neg (show ¬ ((!true) = true) from Bool.false_ne_true)]
    exact wpAny_pure (loop1 X y1 q)
theorem loop2 {A : Around} {E : Value → Shared → Prop} {s : Shared} {cls : Value} (X : K.In s.heap) : ∀ {cs : List Value} {b : Bool}, exmAny K cls cs = some b → ∀ {Q : Option Bool × Unit → Shared → Prop}, Q (if b then some true else none, ()) s →
    wpAny M A (forIn cs ((none, ()) : Option Bool × Unit) fun c (__s : Option Bool × Unit) => do
      let __do_lift ← isSubtype cls c
      if __do_lift = true then pure (ForInStep.done (some true, ())) else pure (ForInStep.yield (none, ()))) Q E s
  | [], b, hx, Q, q => by
    have e : some false = some b := hx
    cases e
    exact wpAny_pure q
  | c :: r, b, hx, Q, q => by
    obtain ⟨b1, d1, x1, y1, z1⟩ := exmAny_cons hx
    obtain ⟨_, S1⟩ := exm_cls (M := M) X x1
    rw [List.forIn_cons]
    refine wpAny_bind (wpAny_bind (S1.here ?_))
    cases b1 with
    | true =>
      rw [if_pos rfl]
      subst z1
      exact wpAny_pure (wpAny_pure q)
    | false =>
      rw [if_neg Bool.false_ne_true]
      have z2 : b = d1 := by rw [z1]; rfl
      subst z2
      exact wpAny_pure (loop2 X y1 q)
theorem exm_tupN {cs : List Value} {cls : Value} {tp e : Addr} {b : Bool} {h : Heap} (X : K.In h) (LT : Looks M h (typeOf (.ref e)) cls) (hp : h.get? tp = some { cls := .type "tuple", data := .seq cs.toArray }) (hx : exmAny K cls cs = some b) :
    Looks M h (excMatches (.ref e) (.ref tp)) b := by
  intro A Q E s k₀ q
  obtain ⟨hh, g, d, tk, os⟩ := s
  have k : ∀ b o, h.get? b = some o → hh.get? b = some o := k₀
  have LT0 : Looks M h (isInstance (.ref tp) (.type "tuple")) true := ((Looks.ld hp).andThen .now).andThen (Looks.of_pure isSubtype_tuple_tuple)
  have LT := LT.keeps k
  have LT0 := LT0.keeps k
  have X' := X.keeps k
  have hp' := k _ _ hp
  unfold excMatches
  refine wpAny_bind (LT0.at ?_)
  dsimp only
  rw [if_pos rfl]
  first
    | refine wpAny_bind (wpAny_seqItems hp' rfl ?_)
    | refine wpAny_bind (wpAny_bind (wpAny_seqItems hp' rfl (wpAny_pure ?_)))
  dsimp only [Option.getD_some, Option.getD]
  refine wpAny_bind (wpAny_pure ?_)
  refine wpAny_bind (loop1 (s := ⟨hh, g, d, tk, os⟩) X' hx ?_)
  refine wpAny_bind (LT.at ?_)
  refine wpAny_bind (loop2 (s := ⟨hh, g, d, tk, os⟩) X' hx ?_)
  cases b
  · exact wpAny_pure q
  · exact wpAny_pure q
end
/-! ### the clauses -/
inductive NamesL (X : Cx) : List Expr → List Value → Prop
  | nil : NamesL X [] []
  | cons {x : Str} {c : Value} {np : Pos} {es : List Expr} {cs : List Value} (h : Names X x c) (r : NamesL X es cs) : NamesL X (.Name x np :: es) (c :: cs)
inductive ClTest (X : Cx) : Expr → List Value → Prop
  | one {x : Str} {c : Value} {np : Pos} (h : Names X x c) : ClTest X (.Name x np) [c]
  | tup {es : List Expr} {cs : List Value} {k : Nat} {tp : Pos} (h : NamesL X es cs) (hl : cs.length ≤ 100) : ClTest X (.Tuple es k tp) cs
section
variable {X : Cx} {pins : List (Addr × Obj)} {σ : L2.St} {H : Hp} {s : Shared}
theorem names_eval {x : Str} {c : Value} {np : Pos} {Q E : Value → Shared → Prop} (hc : Names X x c) (S : Inv X pins σ H s) (q : Q c s) : wpAny (model X.prog X.w) X.A (eval (.Name x np) X.env) Q E s := by
  obtain ⟨hg, hdbg, hm | ⟨hm, hv, hnn⟩⟩ := hc
  · exact ld_glob S hg hm q hdbg
  · exact ld_blt S hg hm hv q hnn hdbg
theorem namesL_eval {E : Value → Shared → Prop} {pos : Pos} : ∀ {es : List Expr} {cs : List Value}, NamesL X es cs → Inv X pins σ H s → ∀ {Q : List Value → Shared → Prop}, Q cs s → wpAny (model X.prog X.w) X.A (spliced (backTo pos (starEach es X.env))) Q E s
  | _, _, .nil, _, _, q => wpAny_items_nil q
  | _, _, .cons h r, S, Q, q => wpAny_items_cons (names_eval h S (namesL_eval r S q))
theorem NamesL.suite {a : Addr} {pn : List (Addr × Obj)} : ∀ {es : List Expr} {cs : List Value}, NamesL X es cs → NamesL (X.suite a pn) es cs
  | _, _, .nil => .nil
  | _, _, .cons h r => .cons h r.suite
theorem cl_test {te : Expr} {cs : List Value} {a : Addr} {pn : List (Addr × Obj)} {cls : Value} {b : Bool} (hcl : ClTest X te cs) (S : Inv (X.suite a pn) pins σ H s) (LT : PySem.W.Looks (model X.prog X.w) s.heap (typeOf (.ref a)) cls)
    (hx : PySem.W.exmAny X.K cls cs = some b) {Q : Bool → Shared → Prop} {E : Value → Shared → Prop} (q : ∀ h', (∀ b o, s.heap.get? b = some o → h'.get? b = some o) → Q b { s with heap := h' }) :
    wpAny (model X.prog X.w) (X.A.mark (some (.ref a))) (eval te X.env) (fun c s₁ => wpAny (model X.prog X.w) (X.A.mark (some (.ref a))) (excMatches (.ref a) c) Q E s₁) E s := by
  have KX : X.K.In s.heap := S.kIn
  cases hcl with
  | one h =>
    obtain ⟨b1, d1, x1, y1, z1⟩ := PySem.W.exmAny_cons hx
    have e1 : some false = some d1 := y1
    cases e1
    rw [Bool.or_false] at z1
    subst z1
    exact names_eval (X := X.suite a pn) h S ((PySem.W.exm_one KX LT x1).here (q s.heap fun _ _ z => z))
  | tup h hl =>
    refine wpAny_Tuple (namesL_eval (X := X.suite a pn) h.suite S ⟨Nat.le_trans hl (by decide), ?_⟩)
    have kp : ∀ q o, s.heap.get? q = some o → (s.heap.push { cls := .type "tuple", data := .seq cs.toArray }).get? q = some o := fun _ _ z => Heap.get?_push_of_some _ z
    exact (exm_tupN (KX.keeps kp) (LT.keeps kp) (Heap.get?_push_size s.heap rfl) hx).here (q _ kp)
theorem flying_keep {base h h' : Heap} {l : List Env} {e : Addr} {Z : Obj → Prop} (fl : HandSPX.FlyingZ base l e Z h) (k : ∀ b o, h.get? b = some o → h'.get? b = some o) : HandSPX.FlyingZ base l e Z h' := by
  obtain ⟨k1, k2, k3, oe, vs, T, oT, ts, he, hz, hd, h1, h2, h3, h4, h5, h6⟩ := fl
  exact ⟨fun b o z => k b o (k1 b o z), k2, Heap.FunFrames.of_keeps (fun b o e _ => ⟨o, k b o e, rfl⟩) k3, oe, vs, T, oT, ts, k _ _ he, hz, hd, h1, h2, h3, k _ _ h4, h5, h6⟩
end
/-- what the clauses wish of an exception of the body, one after the other; slot i holds the error within a suite -/
def wManyAs (K : PySem.W.Frag) (i : Nat) (Wout : WX) (D : Ends) : List (List Value × (Addr → Value → Option Addr → TS)) → WX
  | [] => Wout
  | (cs, ts) :: r => fun cls d σ H => ∃ b, PySem.W.exmAny K cls cs = some b ∧ (b = true → ∀ a, H a = none → ts a cls d { nx := fun σ' H' => D.nx (σ'.set i none) H', rt := D.rt, bk := fun σ' H' => D.bk (σ'.set i none) H', ct := fun σ' H' => D.ct (σ'.set i none) H' } (σ.set i (some (.ref a))) H) ∧
      (b = false → wManyAs K i Wout D r cls d σ H)
inductive HdsAs (X : Cx) (n : Str) : List ExceptHandler → List (List Value × (Addr → Value → Option Addr → TS)) → Prop
  | nil : HdsAs X n [] []
  | cons {te : Expr} {cs : List Value} {ts : Addr → Value → Option Addr → TS} {b₀ : Stmt} {suite : List Stmt} {pos' : Pos} {hds : List ExceptHandler} {l : List (List Value × (Addr → Value → Option Addr → TS))} (hc : ClTest X te cs)
      (hsu : ∀ (a : Addr) (oe : Obj) (cls : Value) (d : Option Addr) (pn : List (Addr × Obj)), Zc cls d oe → (∃ vs, oe.data = .fields vs) → PSs (X.suite a ((a, oe) :: pn)) (b₀ :: suite) (ts a cls d)) (r : HdsAs X n hds l) :
      HdsAs X n (.ExceptHandler (some te) (some n) (b₀ :: suite) pos' :: hds) ((cs, ts) :: l)
section
variable {X : Cx} {body : List Stmt} {h₀ : ExceptHandler} {hds : List ExceptHandler} {l : List (List Value × (Addr → Value → Option Addr → TS))} {pos : Pos} {tb : WX → TS} {Wout : WX} {n : Str} {i : Nat}
theorem ps_try_manyAs (hs : X.stack = X.env :: X.outer) (hf : X.env.frame = some X.env.locals) (hN : X.N.Nodup) (hi : X.N[i]? = some n) (hln : X.env.kindOf n = some .local) (tk : Takes X Wout)
    (hb : ∀ (W : WX) (pn : List (Addr × Obj)) (xe : Value → Shared → Prop), Takes (X.tr pn xe) W → PassesOwn (model X.prog X.w) X.A X.env xe → PSs (X.tr pn xe) body (tb W))
    (hh : HdsAs X n (h₀ :: hds) l) : PS X (.Try body (h₀ :: hds) [] [] pos) (fun D σ H => tb (wManyAs X.K i Wout D l) D σ H) := by
  refine ⟨fun pins s σ H D I h => ?_⟩
  have ok := I.ok
  have hfr : X.A.frames = some (X.env :: X.outer) := by rw [ok.frames, hs]
  have hloc : Loc X.env.scope n := .inl hln
  refine wpAny_Try_except ?_
  refine wpAny_mono ((hb (wManyAs X.K i Wout D l) (X.pn ++ pins) (fun e s₁ => wpAny (model X.prog X.w) X.A (noteFrame e X.env) (fun _ s₂ => wpAny (model X.prog X.w) X.A (setFlight e none) (fun _ s₃ =>
    wpAny (model X.prog X.w) X.A (handleBy e X.env (h₀ :: hds)) (SP X pins D) X.xe s₃) X.xe s₂) X.xe s₁) (fun u s' xx => ?_) PassesOwn.looking).run [] s σ H D (I.toTry _) h) (fun f s1 hsp => ?_) (fun e s1 he => he)
  · obtain ⟨a, B, sI, pins', σ', H', cls, d, rfl, J', nb, up, sky, na, os, ag, w⟩ := xx
    have J : Inv X pins σ' H' sI := J'.ofTry ok
    have sky' : Sky B (X.env :: X.outer) a (Zc cls d) X.env.locals s'.heap := by rw [← hs]; exact sky
    show wpAny (model X.prog X.w) X.A (noteFrame (.ref a) X.env) _ _ _
    refine Sky.land Zc.steady hfr hf sky' fun h3 fl3 up3 => ?_
    have notFr : ∀ {h : Heap} {o : Obj} {vs : Array Value}, h.FunFrames B (X.env :: X.outer) → h.get? a = some o → o.data = .fields vs → a ∉ frs (X.env :: X.outer) := fun {h o vs} ff e dd hm => by
      obtain ⟨_, o', e', hnf⟩ := ff.mem hm
      rw [e] at e'; cases e'
      exact hnf _ dd
    obtain ⟨oe3, vs3, he3, hz3, hd3⟩ := fl3.there
    have nfr := notFr fl3.2.2.1 he3 hd3
    have nL : a ≠ X.env.locals := fun z => nfr (List.mem_filterMap.mpr ⟨X.env, List.mem_cons_self, by rw [hf, z]⟩)
    have nF : a ∉ X.fs := fun hm => by
      obtain ⟨e, he, q⟩ := List.mem_filterMap.mp hm
      exact nfr (List.mem_filterMap.mpr ⟨e, List.mem_cons_of_mem _ he, q⟩)
    have go : ∀ {hds' : List ExceptHandler} {l' : List (List Value × (Addr → Value → Option Addr → TS))}, HdsAs X n hds' l' → wManyAs X.K i Wout D l' cls d σ' H' → ∀ h5 : Heap, HandSPX.FlyingZ B (X.env :: X.outer) a (Zc cls d) h5 → sI.heap.UpToSlots h5 →
        wpAny (model X.prog X.w) X.A (handleBy (.ref a) X.env hds') (SP X pins D) X.xe { s' with heap := h5 } := by
      intro hds' l' hk
      induction hk with
      | nil =>
        intro w h5 fl5 up5
        refine wpAny_handleBy_nil ?_
        obtain ⟨k1, k2, k3, oe, vs, T, oT, ts', he, hz, hd, h1, hr⟩ := id fl5
        unfold PySem.passOn
        refine wpAny_bind (wpAny_field he hd h1 ?_)
        rw [if_neg (show ¬ ((Value.ref T == Value.none) = true) from by simp)]
        have fin : wpAny (model X.prog X.w) X.A (setFlight (.ref a) X.env.frame) (fun _ s4 => wpAny (model X.prog X.w) X.A (throw (.ref a) : Sem Flow) (SP X pins D) X.xe s4) X.xe { s' with heap := h5 } := by
          rw [hf]
          refine HandSPX.setFlight_upZ fl5 fun h4 hh4 up4 => wpAny_throw (tk _ _ ?_)
          exact ⟨a, B, sI, pins, σ', H', cls, d, rfl, J, nb, up5.trans up4, .inr (.inr (by rw [hs]; exact hh4)), na, os, ag, w⟩
        first
          | exact wpAny_bind (wpAny_pure (wpAny_bind fin))
          | exact wpAny_bind fin
      | @cons te cs ts b₀ suite pos' hds2 l2 hc hsu r ih =>
        intro w h5 fl5 up5
        obtain ⟨b, hb1, hyes, hno⟩ := w
        obtain ⟨oe5, vs5, he5, hz5, hd5⟩ := fl5.there
        have J5 : Inv X pins σ' H' { s' with heap := h5 } := J.landed nb fl5.1 up5 os ag
        have S5 := J5.suite he5 hd5 na nL nF
        refine wpAny_handleBy_cons (codeAny_handlers_test ?_) (by intro q; cases q)
        have LT : PySem.W.Looks (model X.prog X.w) h5 (typeOf (.ref a)) cls := fun A Q E s k q => wpAny_typeOf_ref (k _ _ he5) (by rw [hz5.1]; exact q)
        refine cl_test hc S5 LT hb1 fun h6 k6 => ?_
        have fl6 := flying_keep fl5 k6
        have up6 : sI.heap.UpToSlots h6 := up5.trans (Heap.UpToSlots.of_keeps k6)
        cases b with
        | true =>
          refine codeAny_handlers_suite_as ?_
          refine HandSPX.lands_againZ fl6 fun h4 fl4 up4 => ?_
          have J4 : Inv X pins σ' H' { s' with heap := h4 } := J.landed nb fl4.1 (up6.trans up4) os ag
          obtain ⟨oe4, vs4, he4, hz4, hd4⟩ := fl4.there
          have S4 := J4.suite he4 hd4 na nL nF
          refine store_ok (X := X.suite a ((a, oe4) :: (X.pn ++ pins))) (v := .ref a) S4 hN hi hloc rfl (fun s5 S5 => ?_) (.inr hln)
          refine wpAny_mono ((hsu a oe4 cls d (X.pn ++ pins) hz4 ⟨_, hd4⟩).run [] s5 _ H' _ S5 (hyes rfl a na)) (fun f s6 hsp => ?_) (fun _ _ z => False.elim z)
          have end_ : ∀ {σ6 : L2.St} {H6 : Hp} {Q : Shared → Prop}, Inv (X.suite a ((a, oe4) :: (X.pn ++ pins))) [] σ6 H6 s6 → (∀ s7, Inv X pins (σ6.set i none) H6 s7 → Q s7) →
              wpAny (model X.prog X.w) X.A (do bindName X.env n .none; unbindBehindTheSuite X.env n pos') (fun _ s7 => Q s7) X.xe s6 := fun {σ6 H6 Q} S6 hq => gone_ok (S6.unsuite ok) hN hi hln hq
          cases f with
          | next =>
            obtain ⟨σ6, H6, S6, q6⟩ := hsp
            exact end_ S6 fun s7 J7 => ⟨_, _, J7, q6⟩
          | brk =>
            obtain ⟨σ6, H6, S6, q6⟩ := hsp
            exact end_ S6 fun s7 J7 => ⟨_, _, J7, q6⟩
          | cont =>
            obtain ⟨σ6, H6, S6, q6⟩ := hsp
            exact end_ S6 fun s7 J7 => ⟨_, _, J7, q6⟩
          | ret u =>
            obtain ⟨v6, σ6, H6, S6, r6, q6⟩ := hsp
            exact end_ S6 fun s7 J7 => ⟨_, _, _, J7, r6, q6⟩
        | false =>
          show wpAny _ X.A (handleBy (.ref a) X.env hds2) _ _ _
          exact ih (hno rfl) h6 fl6 up6
    exact go hh w h3 fl3 (up.trans up3)
  · cases f with
    | next =>
      obtain ⟨σ', H', J', q⟩ := hsp
      exact wpAny_execs_nil ⟨σ', H', J'.ofTry ok, q⟩
    | brk =>
      obtain ⟨σ', H', J', q⟩ := hsp
      exact ⟨σ', H', J'.ofTry ok, q⟩
    | cont =>
      obtain ⟨σ', H', J', q⟩ := hsp
      exact ⟨σ', H', J'.ofTry ok, q⟩
    | ret u =>
      obtain ⟨v, σ', H', J', r, q⟩ := hsp
      exact ⟨v, σ', H', J'.ofTry ok, r, q⟩
end
end CT

/-! The package's error classes: facts, making, raising. -/
namespace CT
open PySem PySem.Spec PySem.Calls PyProof.Rows L2 He

/-! ### class facts by a Bool -/
def oexB (K : PySem.W.Frag) (C : Addr) : Bool := (match K.lookup C with
  | some ⟨.type t, _, .cls cd, sl⟩ => (match cd.mro, sl.toList with
    | .ref C' :: bm, [_, _, _, _, some (.builtin n), _] => decide (t = "type") && (decide (C' = C) && (decide (n = "ValueError.__new__") && (!cd.hasDel && (cd.hasDict && PySem.HandSPX.refsVE bm))))
    | _, _ => false)
  | _ => false) && (eqO (PySem.W.findIn K (.ref C) "__setattr__") (some (some (.builtin "object.__setattr__"))) && (decide (PySem.W.subIn K (.ref C) (.type "BaseException") = some true) &&
    (decide (PySem.W.typeIn K (.ref C) = some (.type "type")) && PySem.W.keepIn K (.ref C))))
theorem oexB_ok {K : PySem.W.Frag} {C : Addr} (h : oexB K C = true) : OexC K C := by
  obtain ⟨h1, h⟩ := ba h
  obtain ⟨h2, h⟩ := ba h
  obtain ⟨h3, h⟩ := ba h
  obtain ⟨h4, h5⟩ := ba h
  refine ⟨?_, eqO_ok h2, of_decide_eq_true h3, of_decide_eq_true h4, h5⟩
  split at h1
  · rename_i t dd cd sl ho
    split at h1
    · rename_i C' bm k0 k1 k2 k3 n k5 hm hs
      simp only [Bool.and_eq_true, decide_eq_true_eq, Bool.not_eq_true'] at h1
      obtain ⟨rfl, rfl, rfl, hdel, hdict, hr⟩ := h1
      obtain ⟨nm, bs, mro, ns, qn, hd, sn, sub, ab, col, del⟩ := cd
      dsimp only at hm hdel hdict
      subst hm hdel hdict
      have hsl : sl = #[k0, k1, k2, k3, some (.builtin "ValueError.__new__"), k5] := by
        obtain ⟨l⟩ := sl
        simp only at hs
        rw [hs]
      subst hsl
      exact ⟨nm, qn, ns, bs, bm, sn, sub, ab, col, dd, k0, k1, k2, k3, k5, ho, hr⟩
    · cases h1
  · cases h1
def noDfl : Value → Bool
  | .none => true
  | _ => false
theorem noDfl_ok {v : Value} (h : noDfl v = true) : v = .none := by
  cases v with
  | none => rfl
  | _ => cases h
/-- the cell of __class__ of the def at f holds C, its code object knows the text -/
def closB (K : PySem.W.Frag) (f C : Addr) (file : Str) : Bool := match K.lookup f with
  | some ⟨_, _, .func fd, _⟩ => (match fd.closure, fd.code with
    | [(_, cc)], .ref cda => (match K.lookup cc with
      | some ⟨_, _, .cell (some (.ref C')), _⟩ => decide (C' = C)
      | _ => false) && ((match K.lookup cda with
      | some ⟨_, _, .fields vs, _⟩ => (match (vs[2]? : Option Value) with
        | some (.str z _) => decide (z = file)
        | _ => false)
      | _ => false) && (PySem.W.codeIn K (.ref cda) fd.qualname && noDfl fd.defaults))
    | _, _ => false)
  | _ => false
/-- a class of errors with its own __init__, x the attribute it stores besides its tag (none: no parameter) -/
def errB (K : PySem.W.Frag) (n : Str) (x : Option Str) (file : Str) : Bool := oexB K (ga K n) && (xfB K (ga K n) && (eqO (PySem.W.findIn K (.ref (ga K n)) "__init__") (some (some (.ref (ma K (ga K n) "__init__")))) &&
  (decide (PySem.W.typeIn K (.ref (ma K (ga K n) "__init__")) = some (.type "function")) && (eqO (PySem.W.ks_superIn K (ga K n) (ga K n) "__init__") (some (some (.builtin "ValueError.__init__"))) &&
  (decide (PySem.W.subIn K (.ref (ga K n)) (.type "ValueError") = some true) && (eqO (PySem.W.findIn K (.ref (ga K n)) "tag") (some none) && ((match x with
    | some x => eqO (PySem.W.findIn K (.ref (ga K n)) x) (some none)
    | none => true) && (closB K (ma K (ga K n) "__init__") (ga K n) file && eqO (PySem.W.nsIn K cStatics "thirdparty.any") (some none)))))))))

structure ErrC (K : PySem.W.Frag) (n : Str) (x : Option Str) (file : Str) : Prop where
  o : OexC K (ga K n)
  xf : XfC K (ga K n)
  init : PySem.W.findIn K (.ref (ga K n)) "__init__" = some (some (.ref (ma K (ga K n) "__init__")))
  ty : PySem.W.typeIn K (.ref (ma K (ga K n) "__init__")) = some (.type "function")
  sup : PySem.W.ks_superIn K (ga K n) (ga K n) "__init__" = some (some (.builtin "ValueError.__init__"))
  ve : PySem.W.subIn K (.ref (ga K n)) (.type "ValueError") = some true
  tag : PySem.W.findIn K (.ref (ga K n)) "tag" = some none
  fld : ∀ y, x = some y → PySem.W.findIn K (.ref (ga K n)) y = some none
  clos : closB K (ma K (ga K n) "__init__") (ga K n) file = true
  third : PySem.W.nsIn K cStatics "thirdparty.any" = some none
theorem errB_ok {K : PySem.W.Frag} {n : Str} {x : Option Str} {file : Str} (h : errB K n x file = true) : ErrC K n x file := by
  obtain ⟨h1, h⟩ := ba h
  obtain ⟨h2, h⟩ := ba h
  obtain ⟨h3, h⟩ := ba h
  obtain ⟨h4, h⟩ := ba h
  obtain ⟨h5, h⟩ := ba h
  obtain ⟨h6, h⟩ := ba h
  obtain ⟨h7, h⟩ := ba h
  obtain ⟨h8, h⟩ := ba h
  obtain ⟨h9, h10⟩ := ba h
  refine ⟨oexB_ok h1, xfB_ok h2, eqO_ok h3, of_decide_eq_true h4, eqO_ok h5, of_decide_eq_true h6, eqO_ok h7, fun y e => ?_, h9, eqO_ok h10⟩
  subst e
  exact eqO_ok h8

/-! ### the function of such an __init__, as the head tells it -/
def fnS (K : PySem.W.Frag) (f : Addr) : Option (Str × Str × Arguments × FuncBody × Scope × Addr × List Str × Addr) := match K.lookup f with
  | some ⟨_, _, .func fd, _⟩ => some (fd.name, fd.qualname, fd.params, fd.body, fd.scope, fd.globals, fd.closure.map (·.1), fd.builtins)
  | _ => none
/-- name, qualified name, parameters, body, scope of the statement -/
def stVal (q : Str) (st : Stmt) : Option (Str × Str × Arguments × FuncBody × Scope × Addr × List Str × Addr) := some ("__init__", q, defArgs st, .stmts (defBody st), defScope st, mainGlobals, ["__class__"], builtinsNs)
theorem fnS_ok {K : PySem.W.Frag} {f C : Addr} {file q : Str} {st : Stmt} (e : fnS K f = stVal q st) (c : closB K f C file = true) :
    ∃ (oc : Value) (od : Option Addr) (osl : Array (Option Value)) (kV doc pm ct : Value) (an : Option Addr) (cc cda : Addr) (cl : Value) (cld : Option Addr) (csl : Array (Option Value)) (ccl : Value) (cdd : Option Addr) (ccs : Array (Option Value)) (vs : Array Value) (tf : Tok),
      K.lookup f = some ⟨oc, od, .func (PySem.W.ksFn "__init__" q (defArgs st) (defBody st) (defScope st) .none kV doc pm an (.ref cda) ct cc), osl⟩ ∧ PySem.W.codeIn K (.ref cda) q = true ∧
      K.lookup cc = some ⟨cl, cld, .cell (some (.ref C)), csl⟩ ∧ K.lookup cda = some ⟨ccl, cdd, .fields vs, ccs⟩ ∧ vs[2]? = some (.str file tf) := by
  unfold fnS stVal at e
  unfold closB at c
  split at e
  · rename_i oc od fd osl lk
    rw [lk] at c
    dsimp only at c
    split at c
    · rename_i x cc cda hcl hcd
      obtain ⟨c1, c2⟩ := ba c
      obtain ⟨c3, c4⟩ := ba c2
      obtain ⟨c6, c7⟩ := ba c4
      have c5 := noDfl_ok c7
      clear c4 c7 c2
      split at c1
      · rename_i cl cld C' csl lcc
        have eC := of_decide_eq_true c1
        subst eC
        split at c3
        · rename_i ccl cdd vs ccs lcd
          split at c3
          · rename_i z tf hv
            have ez := of_decide_eq_true c3
            subst ez
            obtain ⟨n1, n2, n3, n4, n5, n6, n7, n8, n9, n10, n11, n12, n13, n14, n15⟩ := fd
            dsimp only at hcl hcd c6 c5 e
            subst hcl hcd c5
            simp only [Option.some.injEq, Prod.mk.injEq, List.map_cons, List.map_nil, List.cons.injEq, and_true] at e
            obtain ⟨h1, h2, h3, h4, h5, h6, h7, h8⟩ := e
            subst h1 h2 h3 h4 h5 h6 h7 h8
            exact ⟨oc, od, osl, n9, n10, n11, n14, n12, cc, cda, cl, cld, csl, ccl, cdd, ccs, vs, tf, lk, c6, lcc, lcd, hv⟩
          · cases c3
        · cases c3
      · cases c1
    · cases c
  · cases e
end CT

/-! The error classes' __init__ as promises; raise C(e). -/
namespace CT
open PySem PySem.Spec PySem.Calls PyProof.Rows L2 He

abbrev supCall (p0 p1 p2 p3 : Pos) (e : Expr) : Expr := .Call (.Attribute (.Call (.Name "super" p0) [] [] p1) "__init__" p2) [e] [] p3
/-- def __init__(self, x): super().__init__(x); self.x = x; self.tag = T -/
structure ErrS (st : Stmt) (x T : Str) : Prop where
  body : ∃ (p0 p1 p2 p3 p4 p5 p6 p7 p8 p9 p10 p11 p12 p13 : Pos) (k : Nat), defBody st =
    [.Expr (supCall p0 p1 p2 p3 (.Name x p5)) p4, .Assign [.Attribute (.Name "self" p6) x p7] (.Name x p8) p9, .Assign [.Attribute (.Name "self" p10) "tag" p11] (.Constant (.str T) k p12) p13] ∧
    ∀ env : Env, ∃ pl : Sem Bool, eval (supCall p0 p1 p2 p3 (.Name x p5)) env = (do
      let ov ← attributeBase (.Call (.Name "super" p0) [] [] p1) "__init__" env (eval (.Call (.Name "super" p0) [] [] p1) env)
      standAt p2.atName
      let (f, first) ← holding [ov] (getMethod ov "__init__" pl)
      callWith p3 f first (backTo p3 (starEach [.Name x p5] env)) [])
  sc : ScS ["self", x] (defScope st)
  hd : ∃ ar : Arg, ((defArgs st).posonlyargs ++ (defArgs st).args).head? = some ar ∧ ar.arg = ("self" : Str)
  dbg : (x == ("__debug__" : Str)) = false
  dct : (x == ("__classdict__" : Str)) = false
  bind : ∀ (q : Str) (kV doc pm ct cdv : Value) (an : Option Addr) (cc : Addr) (us : List Value), us.length = 2 → bindArgs (PySem.W.ksFn "__init__" q (defArgs st) (defBody st) (defScope st) .none kV doc pm an cdv ct cc) ⟨us, []⟩ = pure ((["self", x] : List Str).zip us)
def spInit1 (C : Addr) (x T : Str) : Sp := fun vs H Q _ => ∃ (a : Addr) (v : V), vs = [.ref a, v] ∧ H a = some (exo a C none) ∧
  ∀ d, H d = none → d ≠ a → Q .non (upd (upd (upd H d (exd d [(x, v)])) a (exo a C (some d))) d (exd d [("tag", .str T), (x, v)]))
section
variable {P : Program} {w : World} {K : PySem.W.Frag} {mg : Str → Option Value} {base : Heap} {n x T q file : Str} {st : Stmt}
theorem err_fn1 (E : ErrC K n (some x) file) (S : ErrS st x T) (e : fnS K (ma K (ga K n) "__init__") = stVal q st)
    (hfile : ((P.main.file : Str) == file) = true) (htop : (P.main.scope.names.lookup ("super" : Str)).isSome = false) (msup : mg "super" = none) :
    ∃ fd, FnOk P w K mg base CX0 1 (ma K (ga K n) "__init__") fd ["self", x] (spInit1 (ga K n) x T) ∧ Binds K fd ["self", x] [] := by
  obtain ⟨oc, od, osl, kV, doc, pm, ct, an, cc, cda, cl, cld, csl, ccl, cdd, ccs, vs, tf, lk, hcd, lcc, lcd, hv⟩ := fnS_ok e E.clos
  obtain ⟨p0, p1, p2, p3, p4, p5, p6, p7, p8, p9, p10, p11, p12, p13, k, hb, hev⟩ := S.body
  obtain ⟨ar, har, har2⟩ := S.hd
  refine ⟨_, ?_, .all (S.bind q kV doc pm ct (.ref cda) an cc)⟩
  rw [hb] at lk ⊢
  refine fn_super (k := 0) (e := .Name x p5) lk hcd S.sc har (by rw [har2]; rfl) lcc lcd hv hfile htop msup E.o E.third E.sup E.ve (fun vs H Q E h => ?_) (fun env => rfl) (fun env => rfl) hev (fun A outer s H vs Q E' hr h => ?_)
  · obtain ⟨a, v, rfl, _⟩ := h
    rfl
  · obtain ⟨a, v, rfl, ha, hq⟩ := h
    have hx1 : (["self", x] : List Str)[1]? = some x := rfl
    refine ⟨a, tCons (tVar 1) tNil, rfl, ha, pa_cons (pv 1 rfl (.inl (S.sc.par x (by simp))) S.dbg S.dct) pa_nil, ?_⟩
    refine ⟨v, rfl, by show 1 ≤ 1000; decide, ha, _, pss_cons (ps_ost (pv 0 rfl (.inl (S.sc.par "self" (by simp)))) (pv 1 rfl (.inl (S.sc.par x (by simp))) S.dbg S.dct)) (pss_one (ps_ost (pv 0 rfl (.inl (S.sc.par "self" (by simp)))) pe_str)), ?_⟩
    refine ⟨v, rfl, .ref a, rfl, a, ga K n, rfl, E.o, E.fld x rfl, .inl ⟨ha, fun d hd hda => ?_⟩⟩
    refine ⟨.ref a, rfl, a, ga K n, rfl, E.o, E.tag, .inr ⟨d, [(x, v)], upd_same, ?_, by show 1 ≤ 900; decide, hq d hd hda⟩⟩
    rw [upd_ne hda, upd_same]
theorem err_read {C : Addr} {v : V} {H1 : Hp} {Q : XK} (h : ∀ d, H1 d = none → Q (.ref C) (some d) (upd H1 d (.xd [("tag", .str T), (x, v)]))) :
    ([v] : List V).length ≤ 1000 ∧ ∀ a, H1 a = none → spInit1 C x T (.ref a :: ([v] ++ [])) (upd H1 a (exo a C none))
      (fun v H2 => v = .non ∧ ∃ (d : Addr) (fs : List (Str × V)), H2 a = some (exo a C (some d)) ∧ H2 d = some (exd d fs) ∧ H1 d = none ∧ Q (.ref C) (some d) (upd (del H2 a) d (.xd fs))) (fun _ _ _ => False) := by
  refine ⟨by show 1 ≤ 1000; decide, fun a ha => ⟨a, v, rfl, upd_same, fun d hd hda => ⟨rfl, d, _, ?_, upd_same, ?_, ?_⟩⟩⟩
  · rw [upd_ne hda.symm, upd_same]
  · rw [upd_ne hda] at hd
    exact hd
  · have hd' : H1 d = none := by
      rw [upd_ne hda] at hd
      exact hd
    have e : upd (del (upd (upd (upd (upd H1 a (exo a C none)) d (exd d [(x, v)])) a (exo a C (some d))) d (exd d [("tag", .str T), (x, v)])) a) d (.xd [("tag", .str T), (x, v)]) = upd H1 d (.xd [("tag", .str T), (x, v)]) := by
      funext b
      by_cases hb : b = d
      · rw [hb, upd_same, upd_same]
      · rw [upd_ne hb, upd_ne hb]
        by_cases hba : b = a
        · rw [hba, del_same, ha]
        · rw [del_ne hba, upd_ne hb, upd_ne hba, upd_ne hb, upd_ne hba]
    rw [e]
    exact h d hd'
end
section
variable {X : Cx} {n x T file : Str} {e : Expr} {te : TE} {p pos : Pos}
theorem pmk_err1 (E : ErrC X.K n (some x) file) (F : ∃ fd, FnOk X.prog X.w X.K X.mg X.base CX0 1 (ma X.K (ga X.K n) "__init__") fd ["self", x] (spInit1 (ga X.K n) x T) ∧ Binds X.K fd ["self", x] []) (hr : Room 2 X.A) (hg : Gl X n) (hm : X.mg n = some (.ref (ga X.K n)))
    (ha : PE X e te) (hdb : (n == ("__debug__" : Str)) = false := by decide) (he : starEach [e] X.env = (false, eval e X.env) :: starEach [] X.env := by rfl) :
    PMk X (.Call (.Name n p) [e] [] pos) (tMkO (ga X.K n) (spInit1 (ga X.K n) x T) [] (tCons te tNil)) := by
  obtain ⟨fd, F, b⟩ := F
  exact pmk_oex E.o E.init E.ty F hr b .nil (fun _ _ _ _ _ _ _ h => h.elim) hg hm (pa_cons ha pa_nil he) hdb he rfl
end
end CT

/-! Errors whose __init__ takes nothing: raise C(). -/
namespace CT
open PySem PySem.Spec PySem.Calls PyProof.Rows L2 He
/-- def __init__(self): super().__init__(T); self.tag = T -/
structure ErrS0 (st : Stmt) (T : Str) : Prop where
  body : ∃ (p0 p1 p2 p3 p4 p5 p6 p7 p8 p9 : Pos) (k k2 : Nat), defBody st =
    [.Expr (supCall p0 p1 p2 p3 (.Constant (.str T) k p5)) p4, .Assign [.Attribute (.Name "self" p6) "tag" p7] (.Constant (.str T) k2 p8) p9] ∧
    ∀ env : Env, ∃ pl : Sem Bool, eval (supCall p0 p1 p2 p3 (.Constant (.str T) k p5)) env = (do
      let ov ← attributeBase (.Call (.Name "super" p0) [] [] p1) "__init__" env (eval (.Call (.Name "super" p0) [] [] p1) env)
      standAt p2.atName
      let (f, first) ← holding [ov] (getMethod ov "__init__" pl)
      callWith p3 f first (backTo p3 (starEach [.Constant (.str T) k p5] env)) [])
  sc : ScS ["self"] (defScope st)
  hd : ∃ ar : Arg, ((defArgs st).posonlyargs ++ (defArgs st).args).head? = some ar ∧ ar.arg = ("self" : Str)
  bind : ∀ (q : Str) (kV doc pm ct cdv : Value) (an : Option Addr) (cc : Addr) (us : List Value), us.length = 1 → bindArgs (PySem.W.ksFn "__init__" q (defArgs st) (defBody st) (defScope st) .none kV doc pm an cdv ct cc) ⟨us, []⟩ = pure ((["self"] : List Str).zip us)
def spInit0 (C : Addr) (T : Str) : Sp := fun vs H Q _ => ∃ a : Addr, vs = [.ref a] ∧ H a = some (exo a C none) ∧
  ∀ d, H d = none → d ≠ a → Q .non (upd (upd H d (exd d [("tag", .str T)])) a (exo a C (some d)))
section
variable {P : Program} {w : World} {K : PySem.W.Frag} {mg : Str → Option Value} {base : Heap} {n T q file : Str} {st : Stmt}
theorem err_fn0 (E : ErrC K n none file) (S : ErrS0 st T) (e : fnS K (ma K (ga K n) "__init__") = stVal q st)
    (hfile : ((P.main.file : Str) == file) = true) (htop : (P.main.scope.names.lookup ("super" : Str)).isSome = false) (msup : mg "super" = none) :
    ∃ fd, FnOk P w K mg base CX0 1 (ma K (ga K n) "__init__") fd ["self"] (spInit0 (ga K n) T) ∧ Binds K fd ["self"] [] := by
  obtain ⟨oc, od, osl, kV, doc, pm, ct, an, cc, cda, cl, cld, csl, ccl, cdd, ccs, vs, tf, lk, hcd, lcc, lcd, hv⟩ := fnS_ok e E.clos
  obtain ⟨p0, p1, p2, p3, p4, p5, p6, p7, p8, p9, k, k2, hb, hev⟩ := S.body
  obtain ⟨ar, har, har2⟩ := S.hd
  refine ⟨_, ?_, .all (S.bind q kV doc pm ct (.ref cda) an cc)⟩
  rw [hb] at lk ⊢
  refine fn_super (k := 0) (e := .Constant (.str T) k p5) lk hcd S.sc har (by rw [har2]; rfl) lcc lcd hv hfile htop msup E.o E.third E.sup E.ve (fun vs H Q E h => ?_) (fun env => rfl) (fun env => rfl) hev (fun A outer s H vs Q E' hr h => ?_)
  · obtain ⟨a, rfl, _⟩ := h
    rfl
  · obtain ⟨a, rfl, ha, hq⟩ := h
    refine ⟨a, tCons (tC (.str T)) tNil, rfl, ha, pa_cons pe_str pa_nil, ?_⟩
    refine ⟨by show 1 ≤ 1000; decide, ha, _, pss_one (ps_ost (pv 0 rfl (.inl (S.sc.par "self" (by simp)))) pe_str), ?_⟩
    exact ⟨.ref a, rfl, a, ga K n, rfl, E.o, E.tag, .inl ⟨ha, fun d hd hda => hq d hd hda⟩⟩
theorem err_read0 {C : Addr} {H1 : Hp} {Q : XK} (h : ∀ d, H1 d = none → Q (.ref C) (some d) (upd H1 d (.xd [("tag", .str T)]))) :
    ([] : List V).length ≤ 1000 ∧ ∀ a, H1 a = none → spInit0 C T (.ref a :: (([] : List V) ++ [])) (upd H1 a (exo a C none))
      (fun v H2 => v = .non ∧ ∃ (d : Addr) (fs : List (Str × V)), H2 a = some (exo a C (some d)) ∧ H2 d = some (exd d fs) ∧ H1 d = none ∧ Q (.ref C) (some d) (upd (del H2 a) d (.xd fs))) (fun _ _ _ => False) := by
  refine ⟨by show 0 ≤ 1000; decide, fun a ha => ⟨a, rfl, upd_same, fun d hd hda => ?_⟩⟩
  have hd' : H1 d = none := by
    rw [upd_ne hda] at hd
    exact hd
  refine ⟨rfl, d, [("tag", .str T)], upd_same, ?_, hd', ?_⟩
  · rw [upd_ne hda, upd_same]
  · have e : upd (del (upd (upd (upd H1 a (exo a C none)) d (exd d [("tag", .str T)])) a (exo a C (some d))) a) d (.xd [("tag", .str T)]) = upd H1 d (.xd [("tag", .str T)]) := by
      funext b
      by_cases hb : b = d
      · rw [hb, upd_same, upd_same]
      · rw [upd_ne hb, upd_ne hb]
        by_cases hba : b = a
        · rw [hba, del_same, ha]
        · rw [del_ne hba, upd_ne hba, upd_ne hb, upd_ne hba]
    rw [e]
    exact h d hd'
end
section
variable {X : Cx} {x T : Str} {C fI : Addr} {k : Nat} {fd : FuncData} {ps : List Str} {sp : Sp} {p pos : Pos} {CX : CXT}
/-- C() of an own error class -/
theorem pmk_nil (T : OexC X.K C) (iC : PySem.W.findIn X.K (.ref C) "__init__" = some (some (.ref fI))) (tI : PySem.W.typeIn X.K (.ref fI) = some (.type "function")) (F1 : FnOk X.prog X.w X.K X.mg X.base CX k fI fd ps sp) (hr : Room (k + 1) X.A)
    (hb : Binds X.K fd ps []) (hx : Passes CX X (fun _ _ _ => False)) (hg : Gl X x) (hm : X.mg x = some (.ref C)) (hdb : (x == ("__debug__" : Str)) = false := by decide) : PMk X (.Call (.Name x p) [] [] pos) (tMkO C sp [] tNil) := by
  intro pins s σ H Q J h
  obtain ⟨_, h⟩ := h
  obtain ⟨nm, qn, ns, bs, bm, sn, sub, ab, col, dd, k0, k1, k2, k3, k5, hC, hbm⟩ := T.cls
  refine wpAny_Call_Name_kw (ld_glob J hg hm ?_ hdb)
  refine PySem.W.callWith_K0 J.kIn T.kC ?_
  obtain ⟨hp, gs, dr, tk, os⟩ := s
  have fresh := J.hok.fresh (Nat.le_succ hp.objs.size)
  have want := h (hp.objs.size + 1) fresh
  have keep : ∀ b o, hp.get? b = some o → ((hp.push (PySem.W.kdv_tup [])).push (PySem.HandSPX.excO C hp.objs.size)).get? b = some o := fun b o e => Heap.get?_push_of_some _ (Heap.get?_push_of_some _ e)
  have lies : ((hp.push (PySem.W.kdv_tup [])).push (PySem.HandSPX.excO C hp.objs.size)).get? (hp.objs.size + 1) = some (PySem.HandSPX.excO C hp.objs.size) := by heap_get
  have J2 : Inv X pins σ (upd H (hp.objs.size + 1) (exo (hp.objs.size + 1) C none)) ⟨(hp.push (PySem.W.kdv_tup [])).push (PySem.HandSPX.excO C hp.objs.size), gs, dr, tk, os⟩ :=
    J.laid (t' := tk) (a := hp.objs.size + 1) (o := exo (hp.objs.size + 1) C none) (h' := (hp.push (PySem.W.kdv_tup [])).push (PySem.HandSPX.excO C hp.objs.size)) keep (Nat.le_succ _) (exo_ok lies)
  have hl : ([Value.ref (hp.objs.size + 1)] ++ []).length = ps.length := F1.len _ _ _ _ want
  refine wpAny_call (PySem.HandSPX.call_own F.excBase_ValueError (fun Y => PySem.HandSPX.refsVE_contains Y bm hbm) (J.kIn _ _ hC) (PySem.W.looks_findIn J.kIn iC) (fun self => PySem.W.bind_fn J.kIn self tI) (Nat.zero_le _)
    (codeAny_mono (F1.run _ X.stack _ _ ⟨[Value.ref (hp.objs.size + 1)], []⟩ ([Value.ref (hp.objs.size + 1)] ++ []) [V.ref (hp.objs.size + 1)] _ (fun _ _ _ => False) (hr.make C [] []) (J2.env0.make C [] []) (hb _ [Value.ref (hp.objs.size + 1)] J2.kIn hl) (.cons rfl .nil) want) fun r s' hq' => ?_))
  cases r with
  | error er => exact hx pins σ _ _ er s' J2 hq'
  | ok fl =>
    cases fl with
    | ret u =>
      obtain ⟨v, H2, os2, bare2, un2, hok2, rv, ev, d, fs, ea, ed, hd1, q2⟩ := hq'
      cases ev
      obtain ⟨h2, g2, d2, t2, os'⟩ := s'
      exact ⟨rv, mk_end (raises_own T.exC T.tyC) J (Nat.le_succ _) keep un2 hok2 os2 bare2 ea ed hd1 q2⟩
    | next => exact hq'.elim
    | brk => exact hq'.elim
    | cont => exact hq'.elim
end
section
variable {X : Cx} {n T file : Str} {p pos : Pos}
theorem pmk_err0 (E : ErrC X.K n none file) (F : ∃ fd, FnOk X.prog X.w X.K X.mg X.base CX0 1 (ma X.K (ga X.K n) "__init__") fd ["self"] (spInit0 (ga X.K n) T) ∧ Binds X.K fd ["self"] []) (hr : Room 2 X.A) (hg : Gl X n) (hm : X.mg n = some (.ref (ga X.K n)))
    (hdb : (n == ("__debug__" : Str)) = false := by decide) : PMk X (.Call (.Name n p) [] [] pos) (tMkO (ga X.K n) (spInit0 (ga X.K n) T) [] tNil) := by
  obtain ⟨fd, F, b⟩ := F
  exact pmk_nil E.o E.init E.ty F hr b (fun _ _ _ _ _ _ _ h => h.elim) hg hm hdb
end
end CT

/-! The head's facts: defs, error classes, tables of code objects. -/
namespace CT
open PySem PySem.Spec PyProof.Rows L2 He
def obsC (n : Nat) (fa : List Fa) (fn : List DefD) (tf : List Defn) (ex : PySem.W.Frag → Bool) (fs : List (Str × Str)) (g : Addr → Option Obj) : AlD × Bool × List (Option (Str × Str × Arguments × FuncBody × Scope × Addr × List Str × Addr)) :=
  (fun K => (obsD fa fn K, ex K && tabsB g tf K, fs.map fun p => fnS K (ma K (ga K p.1) p.2))) (frT g (cStatics :: asD g n))
def valC (fn : List DefD) (vs : List (Option (Str × Str × Arguments × FuncBody × Scope × Addr × List Str × Addr))) : AlD × Bool × List (Option (Str × Str × Arguments × FuncBody × Scope × Addr × List Str × Addr)) := (valD fn, true, vs)
structure SaysC (fa : List Fa) (fn : List DefD) (tf : List Defn) (ex : PySem.W.Frag → Bool) (fs : List (Str × Str)) (vs : List (Option (Str × Str × Arguments × FuncBody × Scope × Addr × List Str × Addr))) (h : Heap) (K : PySem.W.Frag) : Prop where
  d : SaysD fa fn K
  more : ex K = true
  fns : (fs.map fun p => fnS K (ma K (ga K p.1) p.2)) = vs
  hd : ∀ p ∈ tf, PySem.W.codeHdIn K (cT K p).1 (cT K p).2 = true
  out : ∀ p ∈ tf, K.lookup (cT K p).2 = none
  empty : ∀ p ∈ tf, h.get? (cT K p).2 = some { cls := .none, data := .fields #[] }
theorem saysC_of {n : Nat} {fa : List Fa} {fn : List DefD} {tf : List Defn} {ex : PySem.W.Frag → Bool} {fs : List (Str × Str)} {vs : List (Option (Str × Str × Arguments × FuncBody × Scope × Addr × List Str × Addr))} {h : Heap} (e : obsC n fa fn tf ex fs h.get? = valC fn vs) : SaysC fa fn tf ex fs vs h (frT h.get? (cStatics :: asD h.get? n)) := by
  have e1 : obsD fa fn (frT h.get? (cStatics :: asD h.get? n)) = valD fn := congrArg (fun z => z.1) e
  have e2 : (ex (frT h.get? (cStatics :: asD h.get? n)) && tabsB h.get? tf (frT h.get? (cStatics :: asD h.get? n))) = true := congrArg (fun z => z.2.1) e
  have e3 : (fs.map fun p => fnS (frT h.get? (cStatics :: asD h.get? n)) (ma (frT h.get? (cStatics :: asD h.get? n)) (ga (frT h.get? (cStatics :: asD h.get? n)) p.1) p.2)) = vs := congrArg (fun z => z.2.2) e
  generalize hK : frT h.get? (cStatics :: asD h.get? n) = K at e1 e2 e3 ⊢
  obtain ⟨h1, h2⟩ := ba e2
  have key : ∀ p ∈ tf, PySem.W.codeHdIn K (cT K p).1 (cT K p).2 = true ∧ ∃ o, h.get? (cT K p).2 = some o ∧ emptyTab o = true := fun p hp => by
    obtain ⟨h3, h4⟩ := ba (List.all_eq_true.mp h2 p hp)
    refine ⟨h3, ?_⟩
    cases q : h.get? (cT K p).2 with
    | none =>
      rw [q] at h4
      cases h4
    | some o =>
      rw [q] at h4
      exact ⟨o, rfl, h4⟩
  exact ⟨e1, h1, e3, fun p hp => (key p hp).1, fun p hp => by
    obtain ⟨_, o, q, z⟩ := key p hp
    have y := frT_none (as := cStatics :: asD h.get? n) q z
    rw [hK] at y
    exact y, fun p hp => by
    obtain ⟨_, o, q, z⟩ := key p hp
    rw [q, emptyTab_eq z]⟩
def hookC (n : Nat) (fa : List Fa) (fn : List DefD) (tf : List Defn) (ex : PySem.W.Frag → Bool) (fs : List (Str × Str)) (vs : List (Option (Str × Str × Arguments × FuncBody × Scope × Addr × List Str × Addr))) : PySem.W.Hook where
  α := AlD × Bool × List (Option (Str × Str × Arguments × FuncBody × Scope × Addr × List Str × Addr))
  obs := fun s => obsC n fa fn tf ex fs s.heap.get?
  val := fun _ => valC fn vs
  says := fun _ h => ∃ K : PySem.W.Frag, K.In h ∧ SaysC fa fn tf ex fs vs h K
  of := fun _ _ e => ⟨_, frT_in, saysC_of e⟩
  keeps := fun _ _ _ ⟨K, hK, c⟩ k => ⟨K, PySem.W.Frag.In.keeps hK k, ⟨c.d, c.more, c.fns, c.hd, c.out, fun p hp => k _ _ (c.empty p hp)⟩⟩
theorem obsC_eq {n : Nat} {fa : List Fa} {fn : List DefD} {tf : List Defn} {ex : PySem.W.Frag → Bool} {fs : List (Str × Str)} {vs : List (Option (Str × Str × Arguments × FuncBody × Scope × Addr × List Str × Addr))} {g : Addr → Option Obj} {s : Shared} (h : ∀ a, g a = s.heap.get? a) :
    obsC n fa fn tf ex fs g = (hookC n fa fn tf ex fs vs).obs s := by
  have e : g = s.heap.get? := funext h
  rw [e] <;> rfl
theorem SaysC.fn {fa : List Fa} {fn : List DefD} {tf : List Defn} {ex : PySem.W.Frag → Bool} {fs : List (Str × Str)} {vs : List (Option (Str × Str × Arguments × FuncBody × Scope × Addr × List Str × Addr))} {h : Heap} {K : PySem.W.Frag} (c : SaysC fa fn tf ex fs vs h K) (i : Nat) {p : Str × Str} {v : Option (Str × Str × Arguments × FuncBody × Scope × Addr × List Str × Addr)} (h1 : fs[i]? = some p := by rfl) (h2 : vs[i]? = some v := by rfl) : fnS K (ma K (ga K p.1) p.2) = v := by
  have e := congrArg (fun l : List _ => l[i]?) c.fns
  have e2 : (fs.map fun p => fnS K (ma K (ga K p.1) p.2))[i]? = vs[i]? := e
  rw [List.getElem?_map, h1, h2] at e2
  exact Option.some.inj e2
end CT

/-! Promises by names, short rules. -/
namespace CT
open PySem PySem.Spec PySem.Calls PyProof.Rows L2 He

/-- the def named n stands behind the top and keeps sp -/
def FOkX (CX : CXT) (P : Program) (w : World) (K : PySem.W.Frag) (mg : Str → Option Value) (base : Heap) (k : Nat) (n : Str) (ps : List Str) (sp : Sp) : Prop :=
  mg n = some (.ref (ga K n)) ∧ PySem.W.keepIn K (.ref (ga K n)) = true ∧ ∃ fd, FnOk P w K mg base CX k (ga K n) fd ps sp ∧ Binds K fd ps []
abbrev FOk (P : Program) (w : World) (K : PySem.W.Frag) (mg : Str → Option Value) (base : Heap) (k : Nat) (n : Str) (ps : List Str) (sp : Sp) : Prop := FOkX CX0 P w K mg base k n ps sp
/-- the def named n is the statement st -/
structure Dn (K : PySem.W.Frag) (mg : Str → Option Value) (n : Str) (st : Stmt) (dvs : List V) : Prop where
  f : ∃ fd, FunD K n n (defArgs st) (defBody st) (defScope st) dvs [] (ga K n) fd
  g : mg n = some (.ref (ga K n))
section
variable {P : Program} {w : World} {K : PySem.W.Frag} {mg : Str → Option Value} {base : Heap} {n : Str} {st : Stmt} {CX : CXT} {N ps : List Str} {k : Nat} {sp : Sp}
theorem Dn.okX (D : Dn K mg n st []) (S : FnScope N ps (defScope st)) (bind : ∀ (kV doc pm : Value) (an : Option Addr) (cdv ct : Value) (us : List Value), us.length = ps.length → bindArgs (PySem.W.fnOf n n (defArgs st) (defBody st) (defScope st) .none kV doc pm an cdv ct) ⟨us, []⟩ = pure (ps.zip us))
    (len : ∀ vs H Q E, sp vs H Q E → vs.length = ps.length)
    (hbody : ∀ (cdv : Value) (A : Around) (outer : List Env) (s : Shared) (H : Hp) (vs : List V) (Q : VK) (E : XK), Room k (A.deeper (envOfC n (defScope st) s.heap.objs.size (ga K n) cdv)) → sp vs H Q E →
      ∃ t, PSs (cxOf CX P w K mg base N n (defScope st) (ga K n) cdv A outer s H E) (defBody st) t ∧ t { nx := fun _ H' => Q .non H', rt := Q } (L2.start N vs) H) : FOkX CX P w K mg base (k + 1) n ps sp := by
  obtain ⟨fd, F⟩ := D.f
  exact ⟨D.g, F.kp, fd, F.ok S len hbody, F.bindsN bind⟩
theorem Dn.ok (D : Dn K mg n st []) (S : FnScope N ps (defScope st)) (bind : ∀ (kV doc pm : Value) (an : Option Addr) (cdv ct : Value) (us : List Value), us.length = ps.length → bindArgs (PySem.W.fnOf n n (defArgs st) (defBody st) (defScope st) .none kV doc pm an cdv ct) ⟨us, []⟩ = pure (ps.zip us))
    (len : ∀ vs H Q E, sp vs H Q E → vs.length = ps.length)
    (hbody : ∀ (cdv : Value) (A : Around) (outer : List Env) (s : Shared) (H : Hp) (vs : List V) (Q : VK) (E : XK), Room k (A.deeper (envOfC n (defScope st) s.heap.objs.size (ga K n) cdv)) → sp vs H Q E →
      ∃ t, PSs (cxOf CX0 P w K mg base N n (defScope st) (ga K n) cdv A outer s H E).nox (defBody st) t ∧ t { nx := fun _ H' => Q .non H', rt := Q } (L2.start N vs) H) : FOk P w K mg base (k + 1) n ps sp :=
  D.okX S bind len fun cdv A outer s H vs Q E hr h => by
    obtain ⟨t, ht, hq⟩ := hbody cdv A outer s H vs Q E hr h
    exact ⟨t, ht.nox, hq⟩
theorem FOkX.mono {j : Nat} (F : FOkX CX P w K mg base j n ps sp) (h : j ≤ k) : FOkX CX P w K mg base k n ps sp := by
  obtain ⟨a, b, fd, F, B⟩ := F
  exact ⟨a, b, fd, F.mono h, B⟩
theorem FOkX.imp {sp' : Sp} (F : FOkX CX P w K mg base k n ps sp) (h : ∀ vs H Q E, sp' vs H Q E → sp vs H Q E) : FOkX CX P w K mg base k n ps sp' := by
  obtain ⟨a, b, fd, F, B⟩ := F
  exact ⟨a, b, fd, F.imp h, B⟩
end
section
variable {X : Cx} {n : Str} {ps : List Str} {sp : Sp} {k : Nat} {p pos : Pos} {e : Expr} {es : List Expr} {t : TA} {u : Value} {v : V}
/-- f(e, ..), f lets nothing out -/
theorem pe_callF (F : FOk X.prog X.w X.K X.mg X.base k n ps sp) (hr : Room k X.A) (ha : PA X (e :: es) t) (hg : Gl X n := by rfl) (hdb : (n == ("__debug__" : Str)) = false := by decide)
    (he : starEach (e :: es) X.env = (false, eval e X.env) :: starEach es X.env := by rfl) (hpl : (backTo pos (starEach es X.env)).any (·.1) = false := by rfl) : PE X (.Call (.Name n p) (e :: es) [] pos) (tCall sp [] E0 t) := by
  obtain ⟨g, kp, fd, F, b⟩ := F
  exact pe_call F hr hg g kp b .nil pass0 ha hdb he hpl
/-- f(e, ..), f may let something out: tk tells what is wished -/
theorem pe_callE {CX : CXT} {E : XK} (F : FOkX CX X.prog X.w X.K X.mg X.base k n ps sp) (hx : Passes CX X E) (hr : Room k X.A) (ha : PA X (e :: es) t) (hg : Gl X n := by rfl) (hdb : (n == ("__debug__" : Str)) = false := by decide)
    (he : starEach (e :: es) X.env = (false, eval e X.env) :: starEach es X.env := by rfl) (hpl : (backTo pos (starEach es X.env)).any (·.1) = false := by rfl) : PE X (.Call (.Name n p) (e :: es) [] pos) (tCall sp [] E t) := by
  obtain ⟨g, kp, fd, F, b⟩ := F
  exact pe_call F hr hg g kp b .nil hx ha hdb he hpl
/-- a built-in class as a value -/
theorem pe_bty {T : String} {x : Str} (hm : X.mg x = none) (hg : Gl X x := by rfl) (hv : bootBuiltins x = some (.type T) := by decide +kernel) (hn : x ≠ "__name__" := by decide) (hd : (x == ("__debug__" : Str)) = false := by decide) : PE X (.Name x pos) (tC (.ty T)) :=
  pe_bltn hg hm hv rfl hn hd
/-- a module's constant -/
theorem pe_gl {x : Str} (h : ∃ u, X.mg x = some u ∧ RelV v u) (hg : Gl X x := by rfl) (hd : (x == ("__debug__" : Str)) = false := by decide) : PE X (.Name x pos) (tC v) := by
  obtain ⟨u, h1, h2⟩ := h
  exact pe_glob hg h1 h2 hd
/-- // by a divisor of either sign -/
def CDivZ (_ j : Int) : Prop := j ≠ 0 ∧ j.natAbs.log2 < 9000
theorem op_fdivZ : OpR X (binaryOp .FloorDiv) (rI CDivZ fun i j => .int (i.fdiv j)) := opI fun i j _ _ _ _ _ hc q => floordiv_int hc.1 q (.inl (PyProof.noPylong_of_log2 hc.2))
theorem divz {i j : Int} {b : Nat} (h : j ≠ 0) (hb : j.natAbs < 2 ^ b) (h0 : 0 < b) (h9 : b ≤ 9000) : CDivZ i j := ⟨h, Nat.lt_of_lt_of_le (PySem.Flt.log2_lt_of h0 hb) h9⟩
end
end CT
namespace CT
theorem itT {c : Bool} {A B : Prop} (hc : c = true) (h : A) : if c = true then A else B := by
  rw [if_pos hc]
  exact h
theorem itF {c : Bool} {A B : Prop} (hc : c = false) (h : B) : if c = true then A else B := by
  rw [if_neg (by rw [hc]; decide)]
  exact h
/-- both ways -/
theorem it2 {c : Bool} {A B : Prop} (h1 : c = true → A) (h2 : c = false → B) : if c = true then A else B := by
  cases c with
  | true => exact itT rfl (h1 rfl)
  | false => exact itF rfl (h2 rfl)
theorem itD {p : Prop} [Decidable p] {A B : Prop} (h1 : p → A) (h2 : ¬ p → B) : if decide p = true then A else B := it2 (fun e => h1 (of_decide_eq_true e)) fun e => h2 (of_decide_eq_false e)
end CT
namespace CT
open PySem
theorem sl (n : Nat) (h : n ≤ 100000 := by decide) : n ≤ sizeLine := Nat.le_trans h (by decide)
theorem slt (n : Nat) (h : n < 100000 := by decide) : n < sizeLine := Nat.lt_of_lt_of_le h (by decide)
end CT
namespace CT
open PySem PySem.Spec PySem.Calls PyProof.Rows L2
section
variable {X : Cx}
/-- a statement, then the rest, with a word between them -/
def tCut (t u : TS) : TS := fun D σ H => ∃ Mid : L2.St → Hp → Prop, t { D with nx := Mid } σ H ∧ ∀ σ' H', Mid σ' H' → u D σ' H'
theorem pss_cut {st : Stmt} {rest : List Stmt} {t u : TS} (h1 : PS X st t) (h2 : PSs X rest u) : PSs X (st :: rest) (tCut t u) := by
  refine ⟨fun pins s σ H D I h => ?_⟩
  obtain ⟨Mid, hm, hu⟩ := h
  refine wpAny_execs_cons (thn (h1.run pins s σ H { D with nx := Mid } I hm) fun f s1 q => ?_)
  cases f with
  | next =>
    obtain ⟨σ', H', I', q⟩ := q
    exact h2.run pins s1 σ' H' D I' (hu σ' H' q)
  | ret v => exact q
  | brk => exact q
  | cont => exact q
/-- a value, with a word behind it -/
def tMid (t : TE) : TE := fun σ H Q => ∃ Mid : VK, t σ H Mid ∧ ∀ v H', Mid v H' → Q v H'
theorem pe_mid {e : Expr} {t : TE} (h : PE X e t) : PE X e (tMid t) := by
  refine ⟨fun pins s σ H Q I hq => ?_⟩
  obtain ⟨Mid, hm, hu⟩ := hq
  exact thn (h.run pins s σ H Mid I hm) fun v s1 ⟨x, H1, I1, r1, q1⟩ => ⟨x, H1, I1, r1, hu _ _ q1⟩
end
end CT
namespace CT
open PySem PySem.Spec PySem.Calls PyProof.Rows L2
/-! ### equal data -/
def flat : V → Bool
  | .non | .bl _ | .int _ | .str _ => true
  | _ => false
/-- x and y hold equal data, at most n lists or tuples deep -/
def EqD (K : PySem.W.Frag) (H : Hp) : Nat → V → V → Prop
  | 0, x, y => x = y ∧ flat x = true
  | n + 1, x, y => (x = y ∧ flat x = true) ∨ ∃ (a b : Addr) (xs ys : List V), x = .ref a ∧ y = .ref b ∧ ((SqT K H a xs ∧ SqT K H b ys) ∨ (SqL K H a xs ∧ SqL K H b ys)) ∧ xs.length = ys.length ∧ xs.length ≤ 10000 ∧ ∀ (i : Nat) (x y : V), xs[i]? = some x → ys[i]? = some y → EqD K H n x y
theorem sqL_same {K : PySem.W.Frag} {H H' : Hp} {a : Addr} {xs : List V} (e : Same H H') (h : SqL K H a xs) : SqL K H' a xs := e.seq h
theorem sqT_same {K : PySem.W.Frag} {H H' : Hp} {a : Addr} {xs : List V} (e : Same H H') (h : SqT K H a xs) : SqT K H' a xs := by
  rcases h with (h | ⟨o, h⟩) | h
  · exact .inl (.inl (e _ _ h))
  · exact .inl (.inr ⟨o, e _ _ h⟩)
  · exact .inr h
theorem EqD.same {K : PySem.W.Frag} {H H' : Hp} (e : Same H H') : ∀ {n : Nat} {x y : V}, EqD K H n x y → EqD K H' n x y
  | 0, _, _, h => h
  | n + 1, x, y, h => by
    rcases h with h | ⟨a, b, xs, ys, h1, h2, h3, h4, h5, h6⟩
    · exact .inl h
    · refine .inr ⟨a, b, xs, ys, h1, h2, ?_, h4, h5, fun i x y q1 q2 => EqD.same e (h6 i x y q1 q2)⟩
      rcases h3 with ⟨q1, q2⟩ | ⟨q1, q2⟩
      · exact .inl ⟨sqT_same e q1, sqT_same e q2⟩
      · exact .inr ⟨sqL_same e q1, sqL_same e q2⟩
theorem EqD.up {K : PySem.W.Frag} {H : Hp} : ∀ {n : Nat} {x y : V}, EqD K H n x y → EqD K H (n + 1) x y
  | 0, _, _, h => .inl h
  | n + 1, x, y, h => by
    rcases h with h | ⟨a, b, xs, ys, h1, h2, h3, h4, h5, h6⟩
    · exact .inl h
    · exact .inr ⟨a, b, xs, ys, h1, h2, h3, h4, h5, fun i x y q1 q2 => (h6 i x y q1 q2).up⟩
theorem EqD.flat {K : PySem.W.Frag} {H : Hp} {x : V} (h : flat x = true) : ∀ {n : Nat}, EqD K H n x x
  | 0 => ⟨rfl, h⟩
  | _ + 1 => .inl ⟨rfl, h⟩
theorem same_new {H : Hp} {p : Addr} {o : HO} (h : H p = none) : Same H (upd H p o) := fun b x e => by
  rw [upd_ne (ne_of_none e h)]
  exact e
end CT
namespace CT
open PySem
theorem slt' {n : Nat} (h : n ≤ 20000) : n < sizeLine := Nat.lt_of_le_of_lt h (by decide)
theorem all_rep (n : Nat) : (List.replicate n true).all id = true := by
  rw [List.all_eq_true]
  intro x hx
  exact (List.eq_of_mem_replicate hx)
end CT
namespace CT
open PySem PySem.Spec PySem.Calls PyProof.Rows L2
theorem vals_rev : ∀ {vs : List V} {us : List Value}, Vals vs us → Vals vs.reverse us.reverse
  | _, _, .nil => .nil
  | _, _, .cons r t => by
    rw [List.reverse_cons, List.reverse_cons]
    exact (vals_rev t).append (.cons r .nil)
end CT
namespace CT
open PySem PySem.Spec PySem.Calls PyProof.Rows L2
/-! ### new tuples and lists, the heap behind them by what stays -/
def tTupA (t : TA) : TE := fun σ H Q => t σ H fun xs H1 => xs.length ≤ sizeLine ∧ ∀ p H2, H1 p = none → Same H1 H2 → H2 p = some (.tup xs) → Q (.ref p) H2
def tLstA (t : TA) : TE := fun σ H Q => t σ H fun xs H1 => xs.length ≤ sizeLine ∧ ∀ p H2, H1 p = none → Same H1 H2 → H2 p = some (.lst xs) → Q (.ref p) H2
section
variable {X : Cx} {es : List Expr} {t : TA} {pos : Pos}
/-- the items, with a word behind them -/
def tMidA (t : TA) : TA := fun σ H Q => ∃ Mid : List V → Hp → Prop, t σ H Mid ∧ ∀ xs H1, Mid xs H1 → Q xs H1
theorem pa_mid (h : PA X es t) : PA X es (tMidA t) := by
  refine ⟨fun q pins s σ H Q I hq => ?_⟩
  obtain ⟨Mid, hm, hu⟩ := hq
  exact thn (h.run q pins s σ H Mid I hm) fun us s1 ⟨xs, H1, I1, r1, q1⟩ => ⟨xs, H1, I1, r1, hu _ _ q1⟩
theorem pe_tupA {x1} (h : PA X es t) : PE X (.Tuple es x1 pos) (tTupA t) :=
  ⟨fun pins s σ H Q I hq => (pe_tup (pa_mid h)).run pins s σ H Q I ⟨_, hq, fun xs H1 hm => ⟨hm.1, fun p hp => hm.2 p _ hp (same_new hp) upd_same⟩⟩⟩
theorem pe_lstA (h : PA X es t) : PE X (.List es pos) (tLstA t) :=
  ⟨fun pins s σ H Q I hq => (pe_lst (pa_mid h)).run pins s σ H Q I ⟨_, hq, fun xs H1 hm => ⟨hm.1, fun p hp => hm.2 p _ hp (same_new hp) upd_same⟩⟩⟩
end
end CT
namespace CT
open PySem PySem.Spec PySem.Calls PyProof.Rows L2
def EqA (K : PySem.W.Frag) (H : Hp) (n : Nat) : List V → List V → Prop
  | [], [] => True
  | x :: xs, y :: ys => EqD K H n x y ∧ EqA K H n xs ys
  | _, _ => False
theorem EqA.len {K : PySem.W.Frag} {H : Hp} {n : Nat} : ∀ {xs ys : List V}, EqA K H n xs ys → xs.length = ys.length
  | [], [], _ => rfl
  | _ :: xs, _ :: ys, h => congrArg Nat.succ (EqA.len h.2)
theorem EqA.get {K : PySem.W.Frag} {H : Hp} {n : Nat} : ∀ {xs ys : List V}, EqA K H n xs ys → ∀ (i : Nat) (x y : V), xs[i]? = some x → ys[i]? = some y → EqD K H n x y
  | _ :: _, _ :: _, h, 0, _, _, q1, q2 => by
    cases q1
    cases q2
    exact h.1
  | _ :: xs, _ :: ys, h, i + 1, x, y, q1, q2 => EqA.get h.2 i x y q1 q2
theorem eqT {K : PySem.W.Frag} {H : Hp} {n : Nat} {a b : Addr} {xs ys : List V} (ha : SqT K H a xs) (hb : SqT K H b ys) (h : EqA K H n xs ys) (hl : xs.length ≤ 10000 := by exact Nat.le_of_ble_eq_true rfl) : EqD K H (n + 1) (.ref a) (.ref b) :=
  .inr ⟨a, b, xs, ys, rfl, rfl, .inl ⟨ha, hb⟩, h.len, hl, fun i x y => h.get i x y⟩
theorem eqL {K : PySem.W.Frag} {H : Hp} {n : Nat} {a b : Addr} {xs ys : List V} (ha : SqL K H a xs) (hb : SqL K H b ys) (h : EqA K H n xs ys) (hl : xs.length ≤ 10000 := by exact Nat.le_of_ble_eq_true rfl) : EqD K H (n + 1) (.ref a) (.ref b) :=
  .inr ⟨a, b, xs, ys, rfl, rfl, .inr ⟨ha, hb⟩, h.len, hl, fun i x y => h.get i x y⟩
/-- two new tuples, lists with the same items -/
theorem eqT2 {K : PySem.W.Frag} {H : Hp} {n : Nat} {a b : Addr} {xs ys : List V} (ha : H a = some (.tup xs)) (hb : H b = some (.tup ys)) (h : EqA K H n xs ys) (hl : xs.length ≤ 10000 := by exact Nat.le_of_ble_eq_true rfl) : EqD K H (n + 1) (.ref a) (.ref b) := eqT (.inl (.of ha)) (.inl (.of hb)) h hl
theorem eqL2 {K : PySem.W.Frag} {H : Hp} {n : Nat} {a b : Addr} {xs ys : List V} (ha : H a = some (.lst xs)) (hb : H b = some (.lst ys)) (h : EqA K H n xs ys) (hl : xs.length ≤ 10000 := by exact Nat.le_of_ble_eq_true rfl) : EqD K H (n + 1) (.ref a) (.ref b) := eqL (.inl (.of ha)) (.inl (.of hb)) h hl
theorem eqI {K : PySem.W.Frag} {H : Hp} {n : Nat} {i j : Int} (h : i = j) : EqD K H n (.int i) (.int j) := by
  rw [h]
  exact EqD.flat rfl
theorem eqB {K : PySem.W.Frag} {H : Hp} {n : Nat} {i j : Bool} (h : i = j) : EqD K H n (.bl i) (.bl j) := by
  rw [h]
  exact EqD.flat rfl
theorem eqS {K : PySem.W.Frag} {H : Hp} {n : Nat} {i j : Str} (h : i = j) : EqD K H n (.str i) (.str j) := by
  rw [h]
  exact EqD.flat rfl
end CT

/-! Plain laws of numbers. -/
namespace CT
open PySem L2
/-- the bound of the numbers at hand -/
def Big (z : Int) : Prop := z.natAbs < 2 ^ 4000
theorem Big.div {j : Int} (h : j ≠ 0) (b : Big j) : j ≠ 0 ∧ j.natAbs.log2 < 9000 := ⟨h, Nat.lt_of_lt_of_le (PySem.Flt.log2_lt_of (by decide) b) (by decide)⟩
theorem Big.divW {i j : Int} (h : 0 < j) (b : Big j) : CDivW i j := wide_div h b (by decide) (by decide)
theorem Big.mulW {i j : Int} (a : Big i) (b : Big j) : CMulW i j := wide_mul a b (by decide) (by decide) (by decide)
theorem Big.le {i j : Int} (b : Big j) (h : i.natAbs ≤ j.natAbs) : Big i := Nat.lt_of_le_of_lt h b
theorem Big.abs {i : Int} (b : Big i) : Big (if i < 0 then -i else i) := Big.le b (by split <;> omega)
theorem abs_eq (i : Int) : (if i < 0 then -i else i) = (i.natAbs : Int) := by split <;> omega
theorem gcd_step (x y : Int) : Int.gcd y (x % y) = Int.gcd x y := by
  rw [Int.gcd_comm x y]
  have e : x % y = x + -(x / y) * y := by
    have := Int.emod_add_mul_ediv x y
    rw [Int.neg_mul, Int.mul_comm (x / y) y]
    omega
  rw [e]
  exact Int.gcd_add_mul_right_right y x (-(x / y))
theorem gcd_abs (a b : Int) : Int.gcd (if a < 0 then -a else a) (if b < 0 then -b else b) = Int.gcd a b := by
  rw [abs_eq, abs_eq]
  rfl
theorem gcd_end (x : Int) (h : 0 ≤ x) : ((Int.gcd x 0 : Nat) : Int) = x := by
  rw [Int.gcd_zero_right]
  omega
theorem fdiv_rest {x y : Int} : x - x / y * y = x % y := by
  have := Int.emod_add_mul_ediv x y
  rw [Int.mul_comm (x / y) y]
  omega
theorem big_gcd {a b : Int} (ha : Big a) (h : a ≠ 0) : Big (Int.gcd a b) := by
  refine Big.le ha ?_
  show Int.gcd a b ≤ a.natAbs
  exact Nat.le_of_dvd (by omega) (Nat.gcd_dvd_left _ _)
theorem big_small {z : Int} {n : Nat} (h : z.natAbs < 2 ^ n) (hn : n ≤ 4000) : Big z := Nat.lt_of_lt_of_le h (Nat.pow_le_pow_right (by decide) hn)
end CT
namespace CT
open PySem L2
def den (t u : Int) : Int := if u < 0 then -(Int.gcd t u : Int) else (Int.gcd t u : Int)
def fracT (t u : Int) : Int := t.fdiv (den t u)
def fracU (t u : Int) : Int := u.fdiv (den t u)
theorem Big.neg {i : Int} (b : Big i) : Big (-i) := b.le (by omega)
theorem gcd_ne {t u : Int} (h : u ≠ 0) : (Int.gcd t u : Int) ≠ 0 := by
  intro e
  have e2 : Int.gcd t u = 0 := by omega
  exact h (Int.gcd_eq_zero_iff.mp e2).2
theorem big_gcd2 {t u : Int} (hu : Big u) (h : u ≠ 0) : Big (Int.gcd t u : Int) := by
  refine Big.le hu ?_
  show Int.gcd t u ≤ u.natAbs
  exact Nat.le_of_dvd (by omega) (Nat.gcd_dvd_right _ _)
end CT
namespace CT
theorem nz (j : Int) (h : j ≠ 0 := by decide) : j ≠ 0 := h
end CT
namespace CT
open PySem L2
/-! ### lowest terms -/
theorem den_nat (t u : Int) : (den t u).natAbs = Int.gcd t u := by
  unfold den
  split <;> omega
theorem den_ne {t u : Int} (h : u ≠ 0) : den t u ≠ 0 := by
  have := gcd_ne (t := t) h
  unfold den
  split <;> omega
theorem den_t (t u : Int) : den t u ∣ t := by
  rw [← Int.natAbs_dvd_natAbs, den_nat]
  exact Nat.gcd_dvd_left _ _
theorem den_u (t u : Int) : den t u ∣ u := by
  rw [← Int.natAbs_dvd_natAbs, den_nat]
  exact Nat.gcd_dvd_right _ _
theorem frac_mul_t {t u : Int} (h : u ≠ 0) : den t u * fracT t u = t := by
  obtain ⟨a, e⟩ := den_t t u
  have z := Int.mul_fdiv_cancel_left a (den_ne (t := t) h)
  rw [← e] at z
  unfold fracT
  rw [z, ← e]
theorem frac_mul_u {t u : Int} (h : u ≠ 0) : den t u * fracU t u = u := by
  obtain ⟨a, e⟩ := den_u t u
  have z := Int.mul_fdiv_cancel_left a (den_ne (t := t) h)
  rw [← e] at z
  unfold fracU
  rw [z, ← e]
theorem frac_gcd {t u : Int} (h : u ≠ 0) : Int.gcd (fracT t u) (fracU t u) = 1 := by
  have e : Int.gcd (den t u * fracT t u) (den t u * fracU t u) = Int.gcd t u := by rw [frac_mul_t h, frac_mul_u h]
  rw [Int.gcd_mul_left, den_nat] at e
  have := gcd_ne (t := t) h
  exact Nat.eq_of_mul_eq_mul_left (n := Int.gcd t u) (by omega) (by rw [e, Nat.mul_one])
theorem frac_pos {t u : Int} (h : u ≠ 0) : 0 < fracU t u := by
  have e := frac_mul_u (t := t) h
  have g := gcd_ne (t := t) h
  rcases Int.lt_or_le 0 (fracU t u) with z | z
  · exact z
  exfalso
  rcases Int.lt_or_le u 0 with s | s
  · have d : den t u < 0 := by
      unfold den
      rw [if_pos s]
      omega
    have : 0 ≤ den t u * fracU t u := Int.mul_nonneg_of_nonpos_of_nonpos (by omega) z
    omega
  · have d : 0 < den t u := by
      unfold den
      rw [if_neg (by omega)]
      omega
    have : den t u * fracU t u ≤ 0 := Int.mul_nonpos_of_nonneg_of_nonpos (by omega) z
    omega
theorem den_mul {t u k : Int} (hu : u ≠ 0) (hk : k ≠ 0) : den (t * k) (u * k) = den t u * k := by
  unfold den
  have g : (Int.gcd (t * k) (u * k) : Int) = (Int.gcd t u : Int) * (k.natAbs : Int) := by
    rw [Int.gcd_mul_right]
    exact Int.natCast_mul _ _
  rw [g]
  rcases Int.lt_or_le u 0 with s | s
  · rw [if_pos s]
    rcases Int.lt_or_le k 0 with z | z
    · rw [if_neg (by have := Int.mul_pos_of_neg_of_neg s z; omega)]
      have e : (k.natAbs : Int) = -k := by omega
      rw [e, Int.mul_neg, Int.neg_mul]
    · rw [if_pos (Int.mul_neg_of_neg_of_pos s (by omega))]
      have e : (k.natAbs : Int) = k := by omega
      rw [e, Int.neg_mul]
  · rw [if_neg (show ¬ u < 0 by omega)]
    rcases Int.lt_or_le k 0 with z | z
    · rw [if_pos (Int.mul_neg_of_pos_of_neg (by omega) z)]
      have e : (k.natAbs : Int) = -k := by omega
      rw [e, Int.mul_neg, Int.neg_neg]
    · rw [if_neg (by have := Int.mul_nonneg (by omega : 0 ≤ u) z; omega)]
      have e : (k.natAbs : Int) = k := by omega
      rw [e]
theorem mul_fdiv {a d : Int} (h : d ≠ 0) : (d * a).fdiv d = a := Int.mul_fdiv_cancel_left a h
theorem fracT_mul {t u k : Int} (hu : u ≠ 0) (hk : k ≠ 0) : fracT (t * k) (u * k) = fracT t u := by
  have e := frac_mul_t (t := t) hu
  have d := den_mul (t := t) hu hk
  have : t * k = (den t u * k) * fracT t u := by
    rw [Int.mul_right_comm, e]
  show (t * k).fdiv (den (t * k) (u * k)) = _
  rw [d, this]
  exact mul_fdiv (Int.mul_ne_zero (den_ne hu) hk)
theorem fracU_mul {t u k : Int} (hu : u ≠ 0) (hk : k ≠ 0) : fracU (t * k) (u * k) = fracU t u := by
  have e := frac_mul_u (t := t) hu
  have d := den_mul (t := t) hu hk
  have : u * k = (den t u * k) * fracU t u := by
    rw [Int.mul_right_comm, e]
  show (u * k).fdiv (den (t * k) (u * k)) = _
  rw [d, this]
  exact mul_fdiv (Int.mul_ne_zero (den_ne hu) hk)
theorem fracT_one (t : Int) : fracT t 1 = t := by
  unfold fracT den
  rw [if_neg (by decide), Int.gcd_one]
  exact Int.fdiv_one t
theorem fracU_one (t : Int) : fracU t 1 = 1 := by
  unfold fracU den
  rw [if_neg (by decide), Int.gcd_one]
  rfl
theorem frac_big {t u : Int} (hu : u ≠ 0) (ht : Big t) (hu2 : Big u) : Big (fracT t u) ∧ Big (fracU t u) := by
  have e1 := congrArg Int.natAbs (frac_mul_t (t := t) hu)
  have e2 := congrArg Int.natAbs (frac_mul_u (t := t) hu)
  rw [Int.natAbs_mul] at e1 e2
  have d : 0 < (den t u).natAbs := by
    have := den_ne (t := t) hu
    omega
  refine ⟨ht.le ?_, hu2.le ?_⟩
  · exact Nat.le_trans (Nat.le_mul_of_pos_left _ d) (Nat.le_of_eq e1)
  · exact Nat.le_trans (Nat.le_mul_of_pos_left _ d) (Nat.le_of_eq e2)
theorem big_of {z : Int} (h : z.natAbs < 2 ^ 200) : Big z := big_small h (by decide)
end CT
namespace CT
open PySem L2
theorem big_mul {a b : Int} (ha : a.natAbs < 2 ^ 200) (hb : b.natAbs < 2 ^ 200) : Big (a * b) := by
  refine big_small (n := 200 + 200) ?_ (by decide)
  rw [Int.natAbs_mul, Nat.pow_add]
  exact Nat.mul_lt_mul_of_lt_of_lt ha hb
end CT
namespace CT
open PySem L2
/-- a bound whose products stay below the other one -/
def Mid (z : Int) : Prop := z.natAbs < 2 ^ 1500
theorem Mid.big {z : Int} (h : Mid z) : Big z := big_small h (by decide)
theorem Mid.of {z : Int} {n : Nat} (h : z.natAbs < 2 ^ n) (hn : n ≤ 1500 := by decide) : Mid z := Nat.lt_of_lt_of_le h (Nat.pow_le_pow_right (by decide) hn)
theorem Mid.neg0 {z : Int} (h : Mid z) : Mid (0 - z) := by
  show (0 - z).natAbs < 2 ^ 1500
  have e : (0 - z).natAbs = z.natAbs := by omega
  rw [e]
  exact h
theorem Mid.neg {z : Int} (h : Mid z) : Mid (-z) := by
  show (-z).natAbs < 2 ^ 1500
  rw [Int.natAbs_neg]
  exact h
theorem mid_nat {a b : Int} (ha : Mid a) (hb : Mid b) : (a * b).natAbs < 2 ^ (1500 + 1500) := by
  rw [Int.natAbs_mul, Nat.pow_add]
  exact Nat.mul_lt_mul_of_lt_of_lt ha hb
theorem mid_mul {a b : Int} (ha : Mid a) (hb : Mid b) : Big (a * b) := big_small (mid_nat ha hb) (by decide)
theorem mid_cross {a b c d : Int} (ha : Mid a) (hb : Mid b) (hc : Mid c) (hd : Mid d) : Big (a * b + c * d) := by
  have h1 := mid_nat ha hb
  have h2 := mid_nat hc hd
  have h3 := Int.natAbs_add_le (a * b) (c * d)
  refine big_small (n := (1500 + 1500) + 1) ?_ (by decide)
  rw [Nat.pow_succ]
  generalize (2 : Nat) ^ (1500 + 1500) = z at h1 h2 ⊢
  omega
theorem frac_le {t u : Int} (hu : u ≠ 0) : (fracT t u).natAbs ≤ t.natAbs ∧ (fracU t u).natAbs ≤ u.natAbs := by
  have e1 := congrArg Int.natAbs (frac_mul_t (t := t) hu)
  have e2 := congrArg Int.natAbs (frac_mul_u (t := t) hu)
  rw [Int.natAbs_mul] at e1 e2
  have d : 0 < (den t u).natAbs := by
    have := den_ne (t := t) hu
    omega
  exact ⟨Nat.le_trans (Nat.le_mul_of_pos_left _ d) (Nat.le_of_eq e1), Nat.le_trans (Nat.le_mul_of_pos_left _ d) (Nat.le_of_eq e2)⟩
end CT

/-! A lambda handed to a def that calls it within a try whose suites store. -/
namespace CT
open PySem PySem.Spec PySem.Calls PyProof.Rows L2 He LamX

/-! ### e.f in a suite, the class asked by the reading -/
def tXg (K : PySem.W.Frag) (a : Addr) (cls : Value) (d : Option Addr) (f : Str) (te : TE) : TE := fun σ H Q => te σ H fun x H1 => x = .ref a ∧ ∃ (C dd : Addr) (fs : List (Str × V)) (v : V), cls = .ref C ∧ XfC K C ∧ PySem.W.findIn K (.ref C) f = some none ∧ d = some dd ∧ H1 dd = some (.xd fs) ∧ fs.lookup f = some v ∧ Q v H1
theorem pe_xg {X : Cx} {a : Addr} {oe : Obj} {cls : Value} {d : Option Addr} {pn : List (Addr × Obj)} {e : Expr} {te : TE} {pos : Pos} {n : Str}
    (hz : Zc cls d oe) (hf : ∃ vs, oe.data = .fields vs) (he : PE (X.suite a ((a, oe) :: pn)) e te) (hb : attributeBase e n X.env (eval e X.env) = eval e X.env := by rfl) :
    PE (X.suite a ((a, oe) :: pn)) (.Attribute e n pos) (tXg X.K a cls d n te) := by
  refine ⟨fun pins s σ H Q I h => ?_⟩
  refine attr_of hb (thn (he.run pins s σ H _ I h) fun u s1 hh => ?_)
  obtain ⟨x, H1, I1, rx, ex, C, dd, fs, v, ec, T, hno, ed, ea, l, q⟩ := hh
  subst ex
  obtain rfl : u = Value.ref a := rx
  subst ec
  subst ed
  obtain ⟨ha, _⟩ := I1.pin (a, oe) (List.mem_append_left _ List.mem_cons_self)
  obtain ⟨vs, hd⟩ := hf
  have hx : ObjOk X.prog X.w H1 s1.heap dd (.xd fs) := I1.hok dd _ ea
  obtain ⟨mA, hns, hr⟩ := hx
  obtain ⟨od, ho, hl⟩ := lookIn_ns hns
  obtain ⟨u, hu, ru⟩ := RelO.some_of (v := v) (o := mA n) (by rw [← l]; exact hr n)
  have J : PySem.W.InstAt s1.heap a oe C (some od) := ⟨ha, hz.1, by unfold PySem.W.notCls; rw [hd] <;> rfl, by rw [hz.2]; exact ho⟩
  exact HandSPX.exc_get I1.kIn J T.ga T.gg T.exC (PySem.W.findObj_own T.hdC hno rfl (by rw [hl, hu])) (handed_of ru) ⟨v, H1, I1.tok _, ru, q⟩

/-! ### the lambda called; what is let out is wished for at the caller's slots -/
section
variable {X : Cx} {pins : List (Addr × Obj)} {σ : L2.St} {H : Hp} {s s1 : Shared}
theorem pe_actS {CXg : CXT} {Eg : XK} {Ng : List Str} {qg : Str} {sg : Scope} {g f c' : Addr} {cdg pm ctv : Value} {params : Arguments} {body : Expr} {scope : Scope} {k i : Nat} {a : Str} {pn : List (Addr × Obj)} {xe : Value → Shared → Prop} {W : WX} {tb : XK → TE} {p1 p2 : Pos}
    (I : Inv X pins σ H s) (L : LamS X.env.scope scope) (hf : s.heap.get? f = some (PySem.W.kla_obj "<lambda>" (X.env.qual ++ "<lambda>") params body scope (cloFrom X.env.cells scope.names []) pm c' ctv)) (hfn : H f = none) (hfr : f ∉ frs X.stack)
    (hbind : bindArgs (PySem.W.kla_fn "<lambda>" (X.env.qual ++ "<lambda>") params body scope (cloFrom X.env.cells scope.names []) pm (.ref c') ctv) ⟨[], []⟩ = pure [])
    (tk : Takes ((cxOf CXg X.prog X.w X.K X.mg X.base Ng qg sg g cdg X.A X.stack s H Eg).tr pn xe) W) (hr : Room (k + 1) (X.A.deeper (envOfC qg sg s.heap.objs.size g cdg)))
    (hbody : ∀ (E : XK) (A : Around) (outer : List Env) (s : Shared) (H : Hp), Room k (A.deeper (lamEnv X scope s.heap.objs.size f c')) → PE (lamCx X A outer s H E scope f c') body (tb E))
    (hN : Ng[i]? = some a) (hv : Vis sg a) (hd : (a == ("__debug__" : Str)) = false := by decide) (hcd : (a == ("__classdict__" : Str)) = false := by decide) :
    PE ((cxOf CXg X.prog X.w X.K X.mg X.base Ng qg sg g cdg X.A X.stack s H Eg).tr pn xe) (.Call (.Name a p1) [] [] p2)
      (fun σZ HZ Q => σZ[i]? = some (some (.ref f)) ∧ HZ c' = some (CodeO c' (X.env.qual ++ "<lambda>")) ∧ ∃ E : XK, (∀ cls d H', E cls d H' → W cls d σZ H') ∧ tb E σ HZ Q) := by
  refine ⟨fun pinsZ sZ σZ HZ Q IZ h => ?_⟩
  obtain ⟨hs, hc, E, hW, ht⟩ := h
  refine wpAny_Call_Name_kw (thn ((pe_var (pos := p1) (i := i) hN hv hd hcd).run pinsZ sZ σZ HZ (fun v H1 => v = .ref f ∧ H1 = HZ) IZ ⟨.ref f, hs, rfl, rfl⟩) fun u s1 ⟨v, H1, I1, r1, q1⟩ => ?_)
  obtain ⟨ev, eH⟩ := q1
  subst ev
  rw [eH] at I1
  obtain rfl : u = Value.ref f := r1
  have of1 : s1.heap.get? f = some (PySem.W.kla_obj "<lambda>" (X.env.qual ++ "<lambda>") params body scope (cloFrom X.env.cells scope.names []) pm c' ctv) := I1.base.keep f _ hf hfn hfr (fun z => nomatch (show f ∈ ([] : List Addr) from z))
  refine PySem.W.callWith_F0 ⟨_, _, _, _, of1⟩ ?_
  have un : Un (frs X.stack) [] H HZ s.heap s1.heap := I1.base
  obtain ⟨⟨oc, vs, t, hoc, hdc, hvc⟩, _, _⟩ := I1.hok c' _ hc
  have rc : codeAny (model X.prog X.w) (X.A.deeper (envOfC qg sg s.heap.objs.size g cdg)) (.call (.ref f) ⟨[], []⟩) (CR (L2.CX X.prog X.w) (envOfC qg sg s.heap.objs.size g cdg :: X.stack) X.prog X.w HZ s1 Q E) s1 := by
    refine PySem.W.kla_callFunE hr.depth of1 rfl L.co L.gen rfl ⟨c', oc, vs, t, rfl, hoc, hdc, hvc⟩ ?_
    rw [hbind]
    refine wpAny_pure (wpAny_newFunctionEnv (fun y hy => (L.own y hy).2) (fun y hy => absurd hy (by simp)) (fun h₁ hns hsb => ⟨I1.nolimit.fresh _ hsb, ?_⟩) L.kind)
    show codeAny _ _ (.expr body (lamEnv X scope s1.heap.objs.size f c')) _ _
    have kp : ∀ b o, s1.heap.get? b = some o → h₁.get? b = some o := fun b o e => hsb.extBut b o (Nat.ne_of_lt (Heap.lt_size e)) (Heap.get?_push_of_some _ e)
    have J : Inv (lamCx X (X.A.deeper (envOfC qg sg s.heap.objs.size g cdg)) (envOfC qg sg s.heap.objs.size g cdg :: X.stack) s1 HZ E scope f c') [] σ HZ { s1 with heap := h₁, toks := s1.toks + ([] : List (Str × Value)).length } :=
      lam_start2 I L I1.env0 hr.hd un hns kp
    refine PySem.W.kla_codeExpr (wpAny_mono ((hbody E _ _ s1 HZ (hr.deeper _)).run [] _ _ HZ Q J ht) (fun v s' hq => ?_) fun e s' hq => hq)
    obtain ⟨w', H', J', rv, q⟩ := hq
    exact ⟨w', H', J'.os, J'.bare, J'.base, J'.hok, rv, q⟩
  refine wpAny_call (codeAny_mono rc fun r s' hq => ?_)
  cases r with
  | error e => exact tk e s' (XE.of_call I1 (fun cls d H' => hW cls d H') hq)
  | ok fl =>
    cases fl with
    | ret u => exact I1.after hq
    | next => exact False.elim hq
    | brk => exact False.elim hq
    | cont => exact False.elim hq
end
/-- the def that calls what it got: a calls it; TT: what it makes of the lambda's reading -/
def GivesS (X : Cx) (Ng : List Str) (x : Str) (sg : Scope) (g : Addr) (cdg : Value) (bg : List Stmt) (a : Str) (q : Str) (TT : (XK → Hp → VK → Prop) → Hp → VK → Prop) : Prop :=
  ∀ (f c' : Addr) (s : Shared) (H : Hp) (Q : VK) (tl : XK → Hp → VK → Prop),
    (∀ (W : WX) (pn : List (Addr × Obj)) (xe : Value → Shared → Prop) (p1 p2 : Pos), Takes ((cxOf CX0 X.prog X.w X.K X.mg X.base Ng x sg g cdg X.A X.stack s H E0).tr pn xe) W →
      PE ((cxOf CX0 X.prog X.w X.K X.mg X.base Ng x sg g cdg X.A X.stack s H E0).tr pn xe) (.Call (.Name a p1) [] [] p2) (fun σZ HZ Q => σZ[0]? = some (some (.ref f)) ∧ HZ c' = some (CodeO c' q) ∧ ∃ E : XK, (∀ cls d H', E cls d H' → W cls d σZ H') ∧ tl E HZ Q)) →
    H c' = some (CodeO c' q) → TT tl H Q →
    ∃ t, PSs (cxOf CX0 X.prog X.w X.K X.mg X.base Ng x sg g cdg X.A X.stack s H E0).nox bg t ∧ t { nx := fun _ H' => Q .non H', rt := Q } (L2.start Ng [.ref f]) H
section
variable {X : Cx}
/-- x(lambda: body) -/
theorem pe_lamcallS {T : List (Addr × Str)} {TT : (XK → Hp → VK → Prop) → Hp → VK → Prop} {x a : Str} {g c P : Addr} {k : Nat} {pg : Arguments} {bg : List Stmt} {sg : Scope} {dV kV doc pm cdv ct oc : Value} {an od : Option Addr} {osl : Array (Option Value)} {Ng : List Str}
    {params : Arguments} {body : Expr} {scope : Scope} {t : XK → TE} {p lpos pos : Pos} (hg : Gl X x) (hm : X.mg x = some (.ref g)) (hk : PySem.W.keepIn X.K (.ref g) = true)
    (lk : X.K.lookup g = some ⟨oc, od, .func (PySem.W.fnOf x x pg bg sg dV kV doc pm an cdv ct), osl⟩) (hcg : PySem.W.codeIn X.K cdv x = true) (hb : L2.Binds X.K (PySem.W.fnOf x x pg bg sg dV kV doc pm an cdv ct) [a] []) (Sg : FnScope Ng [a] sg) (hNg : Ng[0]? = some a) (hva : Vis sg a)
    (hG : GivesS X Ng x sg g cdv bg a (X.env.qual ++ "<lambda>") TT)
    (TB : TabB X.base X.mg c P) (hcode : X.env.code = .ref c) (hmT : (P, X.env.qual ++ "<lambda>") ∈ T) (hu : ∀ p ∈ T, p.1 = P → p.2 = X.env.qual ++ "<lambda>") (hr : Room (k + 2) X.A) (L : LamS X.env.scope scope) (hdef : defaultsOf params X.env = ([], []))
    (hbind : ∀ (q : Str) (cl : List (Str × Addr)) (pm cv ctv : Value), bindArgs (PySem.W.kla_fn "<lambda>" q params body scope cl pm cv ctv) ⟨[], []⟩ = pure [])
    (hbody : ∀ (A : Around) (outer : List Env) (s : Shared) (H : Hp) (E : XK) (f c' : Addr), Room k (A.deeper (lamEnv X scope s.heap.objs.size f c')) → PE (lamCx X A outer s H E scope f c') body (t E))
    (hdb : (x == ("__debug__" : Str)) = false := by decide) (hd : (a == ("__debug__" : Str)) = false := by decide) (hcd : (a == ("__classdict__" : Str)) = false := by decide) :
    PE X (.Call (.Name x p) [.Lambda params body scope lpos] [] pos) (tLam T TT t) := by
  refine ⟨fun pins s σ H Q I h => ?_⟩
  obtain ⟨hT, h⟩ := h
  refine wpAny_Call_Name_kw (ld_glob I hg hm ?_ hdb)
  refine PySem.W.callWith_K (h₀ := X.base) I.ok.mod.kin hk ?_ (by rfl) (by rfl)
  show wpAny _ _ (spliced ((false, eval (.Lambda params body scope lpos) X.env) :: backTo pos (starEach [] X.env))) _ _ s
  refine Calls.spliced_cons (lam_make2 I TB hcode hmT hu hT hdef (L.has I.ok) fun f c' pm' ctv H1 s' I1 eN T1 hf hfn hfr hco => ?_)
  refine Calls.spliced_nil ⟨I1.kIn, ?_⟩
  have rc : codeAny (model X.prog X.w) X.A (.call (.ref g) ⟨[.ref f], []⟩) (CR CX0 X.stack X.prog X.w H1 s' Q E0) s' := by
    refine run_ofS (N := Ng) (ps := [a]) (us := [.ref f]) (vs := [.ref f]) lk hcg Sg hr I1.env0 (hb s' [.ref f] I1.kIn rfl) (.cons rfl .nil) rfl fun hr' => ?_
    obtain ⟨t', ht', hq'⟩ := hG f c' s' H1 Q (fun E H' Q' => t E σ H' Q') (fun W pn xe p1 p2 tk => pe_actS (i := 0) I1 L hf hfn hfr (hbind _ _ _ _ _) tk hr' (fun E A outer s H hr2 => hbody A outer s H E f c' hr2) hNg hva hd hcd) hco (h H1 eN T1)
    exact ⟨t', ht'.nox, hq'⟩
  refine wpAny_call (codeAny_mono rc fun r s2 hq => ?_)
  cases r with
  | error e => exact (show False from hq).elim
  | ok fl =>
    cases fl with
    | ret u => exact I1.after hq
    | next => exact False.elim hq
    | brk => exact False.elim hq
    | cont => exact False.elim hq
end
/-! ### _law_why -/
/-- the clauses of _law_why: the classes, the field that is told -/
def whyCl : List (List Str × Option Str) := [(["InvalidRatio", "InvalidDegree", "InvalidLimit"], some "given"), (["InvalidTerm", "ParseError", "InvalidLetters", "InvalidBegin", "InvalidMode"], some "at"),
  (["InvalidGuard", "UnknownLetter", "InvalidRecoding"], some "at"), (["Mismatch"], some "wanted"), (["InvalidName", "DuplicateName", "WrongSort", "UnknownName"], some "name"), (["CapacityExceeded"], some "most"),
  (["InvalidCommand"], some "first"), (["InUse"], some "label"), (["Fails"], some "word"), (["NoLead", "LettersDiffer", "NoText", "NothingLeft"], none)]
def whyNames : List Str := (["InvalidRatio", "InvalidDegree", "InvalidLimit", "InvalidTerm", "ParseError", "InvalidLetters", "InvalidBegin", "InvalidMode", "InvalidGuard", "UnknownLetter", "InvalidRecoding", "Mismatch"] : List Str) ++ ((["InvalidName", "DuplicateName", "WrongSort", "UnknownName", "CapacityExceeded", "InvalidCommand", "InUse", "Fails", "NoLead", "LettersDiffer", "NoText", "NothingLeft"] : List Str))
def whyX (K : PySem.W.Frag) (a : Addr) (cls : Value) (d : Option Addr) : Option Str → TE
  | some y => tXg K a cls d y (tVar 2)
  | none => tC V.non
def whyTs (K : PySem.W.Frag) (x : Option Str) : Addr → Value → Option Addr → TS := fun a cls d => tSeq (tAsg (tTup (tCons (tXg K a cls d "tag" (tVar 2)) (tCons (whyX K a cls d x) tNil))) (gName 1)) tNext
def refs (K : PySem.W.Frag) (ns : List Str) : List Value := ns.map fun n => Value.ref (ga K n)
def whyL (K : PySem.W.Frag) (cl : List (List Str × Option Str)) : List (List Value × (Addr → Value → Option Addr → TS)) := cl.map fun c => (refs K c.1, whyTs K c.2)
/-- what is known of an error class that _law_why may meet -/
structure WhyC (K : PySem.W.Frag) (n : Str) (x : Option Str) : Prop where
  xf : XfC K (ga K n)
  tag : PySem.W.findIn K (.ref (ga K n)) "tag" = some none
  fld : ∀ y, x = some y → PySem.W.findIn K (.ref (ga K n)) y = some none
  exm : ∀ m ∈ whyNames, PySem.W.exmOne K (.ref (ga K n)) (.ref (ga K m)) = some (decide (n = m))
theorem exm_list {K : PySem.W.Frag} {n : Str} : ∀ {ns : List Str}, (∀ m ∈ ns, PySem.W.exmOne K (.ref (ga K n)) (.ref (ga K m)) = some (decide (n = m))) → PySem.W.exmAny K (.ref (ga K n)) (refs K ns) = some (ns.any fun m => decide (n = m))
  | [], _ => rfl
  | m :: r, h => by
    show PySem.W.exmAny K (.ref (ga K n)) (.ref (ga K m) :: refs K r) = _
    unfold PySem.W.exmAny
    rw [h m (by simp), exm_list fun z hz => h z (List.mem_cons_of_mem _ hz)]
    rfl
/-- an error as it is told: its tag, its field -/
def Told (K : PySem.W.Frag) (n : Str) (x : Option Str) (v : V) (cls : Value) (d : Option Addr) (H' : Hp) : Prop :=
  cls = .ref (ga K n) ∧ ∃ (dd : Addr) (fs : List (Str × V)), d = some dd ∧ H' dd = some (.xd fs) ∧ fs.lookup ("tag" : Str) = some (V.str n) ∧ ∀ y, x = some y → fs.lookup y = some v
theorem why_reads {K : PySem.W.Frag} {n : Str} {x : Option Str} {v : V} {cls : Value} {d : Option Addr} {H' : Hp} {u0 u1 : Option V} {D : Ends} {Wout : WX} (C : WhyC K n x) (ht : Told K n x v cls d H') (hv : x = none → v = V.non)
    (q : ∀ p, H' p = none → D.nx [u0, some (.ref p), none] (upd H' p (.tup [.str n, v]))) : ∀ cl : List (List Str × Option Str), (∀ c ∈ cl, ∀ m ∈ c.1, m ∈ whyNames) → (∀ c ∈ cl, n ∈ c.1 → c.2 = x) → (∃ c ∈ cl, n ∈ c.1) → wManyAs K 2 Wout D (whyL K cl) cls d [u0, u1, none] H'
  | [], _, _, h => by
    obtain ⟨c, hc, _⟩ := h
    cases hc
  | (ns, y) :: r, h1, h2, h3 => by
    obtain ⟨ec, dd, fs, ed, edd, hl, hf⟩ := ht
    have e := exm_list (K := K) (n := n) (ns := ns) fun m hm => C.exm m (h1 (ns, y) (by simp) m hm)
    refine ⟨ns.any fun m => decide (n = m), by rw [ec]; exact e, fun hb a ha => ?_, fun hb => ?_⟩
    · have hn : n ∈ ns := by
        obtain ⟨m, hm, e2⟩ := List.any_eq_true.mp hb
        rw [of_decide_eq_true e2]
        exact hm
      have ey : y = x := h2 (ns, y) (by simp) hn
      subst ey
      refine ⟨.ref a, rfl, rfl, ga K n, dd, fs, .str n, ec, C.xf, C.tag, ed, edd, hl, ?_⟩
      have fin : (2 : Nat) ≤ sizeLine ∧ ∀ p, H' p = none → D.nx (([u0, u1, some (V.ref a)].set 1 (some (.ref p))).set 2 none) (upd H' p (.tup [.str n, v])) := ⟨by decide, fun p hp => q p hp⟩
      cases y with
      | none =>
        rw [hv rfl] at fin
        exact fin
      | some y => exact ⟨.ref a, rfl, rfl, ga K n, dd, fs, v, ec, C.xf, C.fld y rfl, ed, edd, hf y rfl, fin⟩
    · have hn : n ∉ ns := fun hm => by
        have z : (ns.any fun m => decide (n = m)) = true := List.any_eq_true.mpr ⟨n, hm, decide_eq_true rfl⟩
        rw [hb] at z
        cases z
      refine why_reads C ⟨ec, dd, fs, ed, edd, hl, hf⟩ hv q r (fun c hc => h1 c (List.mem_cons_of_mem _ hc)) (fun c hc => h2 c (List.mem_cons_of_mem _ hc)) ?_
      obtain ⟨c, hc, hm⟩ := h3
      rcases List.mem_cons.mp hc with e | hc
      · subst e
        exact absurd hm hn
      · exact ⟨c, hc, hm⟩
/-- what _law_why hands back: told at a new tuple; R: the errors that may come, each with its field (none: None is told) -/
def TWhy (K : PySem.W.Frag) (R : List (Str × Option Str)) : (XK → Hp → VK → Prop) → Hp → VK → Prop := fun tl H Q => ∀ p H1, H p = none → Same H H1 → H1 p = some (.tup [.str "", .non]) → ∀ (QQ : VK) (EE : XK), (∀ v H', Q (.ref p) H' → QQ v H') →
  (∀ cls d H', (∃ n x v, (n, x) ∈ R ∧ Told K n x v cls d H' ∧ (x = none → v = V.non) ∧ ∀ q H2, H' q = none → Same H' H2 → H2 q = some (.tup [.str n, v]) → Q (.ref q) H2) → EE cls d H') → tl EE H1 QQ
theorem why_all : ∀ c ∈ whyCl, ∀ m ∈ c.1, m ∈ whyNames := by decide +kernel
end CT

/-! The law's own def, its tables; calls by keywords alone. -/
namespace CT
open PySem PySem.Spec PySem.Calls PyProof.Rows L2 He LamX
section
variable {P : Program} {w : World} {K : PySem.W.Frag} {mg : Str → Option Value} {base : Heap} {n : Str} {st : Stmt} {CX : CXT} {N ps : List Str} {k : Nat} {sp : Sp}
/-- as FunD.ok, the code object known -/
theorem okC {fd : FuncData} (F : FunD K n n (defArgs st) (defBody st) (defScope st) [] [] (ga K n) fd) (S : FnScope N ps (defScope st))
    (len : ∀ vs H Q E, sp vs H Q E → vs.length = ps.length)
    (hbody : ∀ (A : Around) (outer : List Env) (s : Shared) (H : Hp) (vs : List V) (Q : VK) (E : XK), Room k (A.deeper (envOfC n (defScope st) s.heap.objs.size (ga K n) (.ref (codeOf K (n, none))))) → sp vs H Q E →
      ∃ t, PSs (cxOf CX0 P w K mg base N n (defScope st) (ga K n) (.ref (codeOf K (n, none))) A outer s H E).nox (defBody st) t ∧ t { nx := fun _ H' => Q .non H', rt := Q } (L2.start N vs) H) :
    FnOk P w K mg base CX0 (k + 1) (ga K n) fd ps sp := by
  obtain ⟨oc, od, dV, kV, doc, pm, an, cdv, ct, osl, rfl, lk, hcd, _, _⟩ := F.ex
  obtain ⟨c, ec⟩ := codeIn_ref hcd
  have e2 : codeOf K (n, none) = c := codeOf_eq (p := (n, none)) lk ec
  subst ec
  rw [e2] at hbody
  refine fn_of lk hcd S len fun A outer s H vs Q E hr hsp => ?_
  obtain ⟨t, ht, hq⟩ := hbody A outer s H vs Q E hr hsp
  exact ⟨t, ht.nox, hq⟩
end
section
variable {X : Cx} {CX : CXT} {k : Nat} {f : Addr} {fd : FuncData} {ps ks : List Str} {sp : Sp} {E : XK} {x : Str} {p pos : Pos} {kws : List Keyword} {tk : TA} {g : List Value → List Value → List Value} {gV : List V → List V → List V}
/-- f(k = v, ..) -/
theorem pe_callN0 (F : FnOk X.prog X.w X.K X.mg X.base CX k f fd ps sp) (hr : Room k X.A) (hg : Gl X x) (hm : X.mg x = some (.ref f)) (hk : PySem.W.keepIn X.K (.ref f) = true) (hb : KBn X.K fd ps 0 ks g gV) (hx : Passes CX X E) (hkw : PK X kws tk)
    (hall : (backToKw pos (keywordEach kws X.env)).all (·.1.isSome) = true := by rfl) (hks : (backToKw pos (keywordEach kws X.env)).filterMap (·.1) = ks := by rfl) (hdb : (x == ("__debug__" : Str)) = false := by decide)
    (hpl : ((backTo pos (starEach [] X.env)).any (·.1) || (backToKw pos (keywordEach kws X.env)).any (·.1.isNone)) = false := by rfl) :
    PE X (.Call (.Name x p) [] kws pos) (tCallN 0 ks.length sp gV E tNil tk) := by
  refine ⟨fun pins s σ H Q I h => ?_⟩
  refine wpAny_Call_Name_kw (ld_glob I hg hm ?_ hdb)
  refine PySem.W.callWith_KW0 (h₀ := X.base) I.ok.mod.kin hk hall ?_ hpl
  refine thn (hkw.run pos pins s σ H _ I h) fun ws s2 ⟨zs, H2, I2, rz, l1, l2, q2⟩ => ⟨I2.kIn, ?_⟩
  rw [hks]
  exact run_fnN (us := []) (vs := []) F hr hb hx I2 .nil rz rfl l2 q2
end
/-! ### tables -/
theorem Tabs.but {T : List (Addr × Str)} {H H' : Hp} {p : Addr} {xs : List V} (t : Tabs T H) (hp : H p = some (.lst xs)) (e : ∀ b o, b ≠ p → H b = some o → H' b = some o) : Tabs T H' := fun q hq => by
  obtain ⟨ps, h1, h2, h3⟩ := t q hq
  refine ⟨ps, e _ _ (ne_of h1 hp fun z => by cases z) h1, h2, fun pos cv hc => ?_⟩
  obtain ⟨c, e1, e2⟩ := h3 pos cv hc
  refine ⟨c, e1, e _ _ (ne_of e2 hp fun z => ?_) e2⟩
  unfold CodeO at z
  cases z
theorem Tabs.same {T : List (Addr × Str)} {H H' : Hp} (t : Tabs T H) (e : Same H H') : Tabs T H' := t.ext e
theorem but_upd {H : Hp} {p : Addr} {x : HO} : ∀ b o, b ≠ p → H b = some o → upd H p x b = some o := fun b o h e => by
  rw [upd_ne h]
  exact e
/-- what the lambda's body lets out goes to what is wished -/
theorem pass_lam {X : Cx} {A : Around} {outer : List Env} {s : Shared} {H : Hp} {E : XK} {scope : Scope} {f c' : Addr} : Passes (L2.CX X.prog X.w) (lamCx X A outer s H E scope f c') E :=
  passes_call (W := fun cls d _ H => E cls d H) (takes_of rfl rfl rfl rfl) fun _ _ _ _ h => h
end CT
namespace CT
open PySem PySem.Spec PySem.Calls PyProof.Rows L2 He
/-! ### what is told is what is due -/
def toData : V → PyData
  | .bl b => .bool b
  | .int i => .int i
  | .str x => .str x
  | _ => .none
def okData : V → Bool
  | .non | .bl _ | .int _ => true
  | .str x => (PyData.str x).canLay0
  | _ => false
theorem dp_flat {K : PySem.W.Frag} {H : Hp} : ∀ {v : V}, okData v = true → Dp K H v (toData v)
  | .non, _ => .non
  | .bl b, _ => .bl b
  | .int i, _ => .int i
  | .str x, _ => .str x
theorem lay_flat : ∀ {v : V}, okData v = true → (toData v).canLay0 = true ∧ (toData v).depth = 0 ∧ PyData.eqv (toData v) (toData v) = true
  | .non, _ => by simp [toData, PyData.canLay0, PyData.depth, PyData.eqv]
  | .bl b, _ => by simp [toData, PyData.canLay0, PyData.depth, PyData.eqv]
  | .int i, _ => by simp [toData, PyData.canLay0, PyData.depth, PyData.eqv]
  | .str x, h => by
    refine ⟨h, ?_, ?_⟩ <;> simp [toData, PyData.depth, PyData.eqv]
theorem ne_told {K : PySem.W.Frag} {H : Hp} {a b : Addr} {x v : V} {Q : VK} (ha : SqT K H a [x, v]) (hb : SqT K H b [x, v]) (hx : okData x = true) (hv : okData v = true) (q : Q (.bl false) H) : rNeD K (.ref a) (.ref b) H Q := by
  obtain ⟨x1, x2, x3⟩ := lay_flat hx
  obtain ⟨v1, v2, v3⟩ := lay_flat hv
  have sh : SeqAt.shaped (.tuple [toData x, toData v]) = true := by
    simp [SeqAt.shaped, PyData.canLay0, PyData.canLayAll0, PyData.depth, PyData.depthAll, x1, x2, v1, v2]
  refine ⟨_, _, .tup ha (.cons (dp_flat hx) (.cons (dp_flat hv) .nil)), .tup hb (.cons (dp_flat hx) (.cons (dp_flat hv) .nil)), sh, sh, ?_⟩
  have e : PyData.eqv (.tuple [toData x, toData v]) (.tuple [toData x, toData v]) = true := by simp [PyData.eqv, PyData.eqvAll, x3, v3]
  rw [e]
  exact q
end CT
namespace CT
open PySem PySem.Spec PySem.Calls PyProof.Rows L2 He
theorem exm_at {K : PySem.W.Frag} {n m : Str} {b : Bool} (c : (Fa.exm n m b).ok K = true) (e : b = decide (n = m) := by decide +kernel) : PySem.W.exmOne K (.ref (ga K n)) (.ref (ga K m)) = some (decide (n = m)) := by
  rw [← e]
  exact exm_ok c
theorem whyC_of {K : PySem.W.Frag} {n file : Str} {x : Option Str} (E : ErrC K n x file) (h : ∀ m ∈ whyNames, PySem.W.exmOne K (.ref (ga K n)) (.ref (ga K m)) = some (decide (n = m))) : WhyC K n x := ⟨E.xf, E.tag, fun y e => E.fld y e, h⟩
end CT
namespace CT
open PySem PySem.Spec PySem.Calls PyProof.Rows L2 He
theorem eq_told {K : PySem.W.Frag} {H : Hp} {a b : Addr} {x v : V} {Q : VK} (ha : SqT K H a [x, v]) (hb : SqT K H b [x, v]) (hx : okData x = true) (hv : okData v = true) (q : Q (.bl true) H) : rEqD K (.ref a) (.ref b) H Q := by
  obtain ⟨x1, x2, x3⟩ := lay_flat hx
  obtain ⟨v1, v2, v3⟩ := lay_flat hv
  have sh : SeqAt.shaped (.tuple [toData x, toData v]) = true := by
    simp [SeqAt.shaped, PyData.canLay0, PyData.canLayAll0, PyData.depth, PyData.depthAll, x1, x2, v1, v2]
  refine ⟨_, _, .tup ha (.cons (dp_flat hx) (.cons (dp_flat hv) .nil)), .tup hb (.cons (dp_flat hx) (.cons (dp_flat hv) .nil)), sh, sh, ?_⟩
  have e : PyData.eqv (.tuple [toData x, toData v]) (.tuple [toData x, toData v]) = true := by simp [PyData.eqv, PyData.eqvAll, x3, v3]
  rw [e]
  exact q
end CT
namespace CT
open PySem PySem.Spec PySem.Calls PyProof.Rows L2 He
theorem sqT_ext {K : PySem.W.Frag} {H H' : Hp} {a : Addr} {xs : List V} (e : LamX.ExtN H H') (h : SqT K H a xs) : SqT K H' a xs := by
  rcases h with (h | ⟨o, h⟩) | h
  · exact .inl (.inl (e _ _ h fun _ z => by cases z))
  · exact .inl (.inr ⟨o, e _ _ h fun _ z => by cases z⟩)
  · exact .inr h
theorem sqL_ext {K : PySem.W.Frag} {H H' : Hp} {a : Addr} {xs : List V} (e : LamX.ExtN H H') (h : SqL K H a xs) : SqL K H' a xs := by
  rcases h with (h | ⟨o, h⟩) | h
  · exact .inl (.inl (e _ _ h fun _ z => by cases z))
  · exact .inl (.inr ⟨o, e _ _ h fun _ z => by cases z⟩)
  · exact .inr h
end CT

/-! Texts: backwards. -/
namespace CT
open PySem PySem.Spec PySem.Calls PyProof.Rows L2
/-- the text backwards -/
def revS (z : Str) : Str := ⟨z.cps.toList.reverse.toArray⟩
theorem rev_pick (z : Str) : (Builtin.Str.strSliceIndices none none (-1) z.length).filterMap (z.cps[·]?) = z.cps.toList.reverse := by
  have e : Builtin.Str.strSliceIndices none none (-1) z.length = (List.range z.cps.size).map fun k => z.cps.size - 1 - k := PySem.W.krv_sliceRange z.cps.size
  rw [e, PySem.W.krv_range, List.filterMap_reverse, PySem.W.krv_all]
def tRevS (te : TE) : TE := fun σ H Q => te σ H fun x H1 => ∃ z : Str, x = .str z ∧ z.length ≤ sizeLine ∧ Q (.str (revS z)) H1
theorem pe_revS {X : Cx} {e : Expr} {te : TE} {k : Nat} {p1 p2 p3 pos : Pos} (he : PE X e te) : PE X (.Subscript e (.Slice none none (some (.UnaryOp .USub (.Constant (.int 1) k p1) p2)) p3) pos) (tRevS te) := by
  refine ⟨fun pins s σ H Q J h => ?_⟩
  refine Subscript_ (thn (he.run pins s σ H _ J h) fun v s1 ⟨x, H1, J1, r1, q1⟩ => ?_)
  obtain ⟨z, ex, hz, q⟩ := q1
  subst ex
  obtain ⟨t, rfl⟩ := r1
  have back : PO X (some (.UnaryOp .USub (.Constant (.int 1) k p1) p2)) (tPart (tUn (rU fun i => .int (-i)) (tC (.int 1)))) := po_some (pe_un un_neg pe_int)
  refine wpAny_Slice (thn (po_none.run pins s1 σ H1 (fun o H2 => o = none ∧ H2 = H1) J1 ⟨rfl, rfl⟩) fun va s2 ⟨l, H2, J2, pa, el, e2⟩ => ?_)
  subst el e2
  refine thn (po_none.run pins s2 σ H2 (fun o H3 => o = none ∧ H3 = H2) J2 ⟨rfl, rfl⟩) fun vb s3 ⟨u, H3, J3, pb, eu, e3⟩ => ?_
  subst eu e3
  refine thn (back.run pins s3 σ H3 (fun o H4 => o = some (-1) ∧ H4 = H3) J3 ⟨1, rfl, -1, rfl, rfl, rfl⟩) fun vc s4 ⟨o, H4, J4, pc, eo, e4⟩ => ?_
  subst eo e4
  obtain ⟨la, rfl, ha⟩ := IsPart.raw pa
  obtain ⟨lb, rfl, hb⟩ := IsPart.raw pb
  obtain ⟨lc, rfl, hc⟩ := IsPart.raw pc
  have J5 : Inv X pins σ H4 { s4 with heap := s4.heap.push { cls := .type "slice", data := .fields #[partValue la, partValue lb, partValue lc] } } := J4.kept (t' := s4.toks) fun b ob q => Heap.get?_push_of_some _ q
  show wpAny (model X.prog X.w) X.A (subscriptTail e (.Slice none none (some (.UnaryOp .USub (.Constant (.int 1) k p1) p2)) p3) (.str z t) (.ref s4.heap.objs.size)) (EP X pins σ Q) X.xe { s4 with heap := s4.heap.push { cls := .type "slice", data := .fields #[partValue la, partValue lb, partValue lc] } }
  refine tail_any (ops := [.str z t, .ref s4.heap.objs.size]) (typeIs_str _ _ _) F.slot_str_getitem.lookup ?_ (by with_unfolding_all rfl)
  refine wpAny_getItem_str_slice (l := la) (u := lb) (st := lc) ⟨_, Heap.get?_push_size _ rfl, rfl, rfl⟩ (by rw [hc]; rfl) ?_
  have pk : ((slicePicked z la lb lc).filterMap (z.cps[·]?)) = z.cps.toList.reverse := by
    unfold slicePicked
    rw [ha, hb, hc]
    exact rev_pick z
  have no : ¬ ((lc.map (·.1)).getD 1 == 1 && (slicePicked z la lb lc).length == z.length) = true := by
    rw [hc]
    simp
  unfold sliceMade
  rw [if_neg no, pk]
  refine ⟨?_, .str _, H4, J5.tok _, ⟨_, rfl⟩, q⟩
  show (z.cps.toList.reverse.toArray).size ≤ sizeLine
  rw [List.size_toArray, List.length_reverse, Array.length_toList]
  exact hz
end CT
namespace CT
/-! ### figures -/
/-- the number whose figures, the lowest one first, are these -/
def bw (b : Nat) : List Nat → Nat
  | [] => 0
  | d :: r => d + b * bw b r
/-- the number whose figures, the highest one first, are these -/
def fw (b : Nat) (ds : List Nat) : Nat := ds.foldl (fun a d => a * b + d) 0
theorem fw_rev (b : Nat) (ds : List Nat) : fw b ds = bw b ds.reverse := by
  unfold fw
  rw [List.foldl_eq_foldr_reverse]
  induction ds.reverse with
  | nil => rfl
  | cons d r ih =>
    show List.foldr _ 0 r * b + d = d + b * bw b r
    rw [ih, Nat.mul_comm, Nat.add_comm]
theorem fw_snoc (b : Nat) (l : List Nat) (d : Nat) : fw b (l ++ [d]) = fw b l * b + d := by
  unfold fw
  rw [List.foldl_append]
  rfl
theorem bw_snoc (b : Nat) : ∀ (l : List Nat) (d : Nat), bw b (l ++ [d]) = bw b l + d * b ^ l.length
  | [], d => by
    show d + b * 0 = 0 + d * b ^ 0
    rw [Nat.mul_zero, Nat.pow_zero, Nat.mul_one, Nat.zero_add, Nat.add_zero]
  | e :: r, d => by
    show e + b * bw b (r ++ [d]) = e + b * bw b r + d * b ^ (r.length + 1)
    rw [bw_snoc b r d, Nat.pow_succ, Nat.mul_add, ← Nat.add_assoc]
    congr 1
    rw [Nat.mul_left_comm, Nat.mul_comm b]
theorem bw_lt {b : Nat} : ∀ {ds : List Nat}, (∀ d ∈ ds, d < b) → bw b ds < b ^ ds.length
  | [], _ => by
    show 0 < b ^ 0
    rw [Nat.pow_zero]
    decide
  | d :: r, h => by
    have h1 := h d List.mem_cons_self
    have h2 := bw_lt (ds := r) fun e he => h e (List.mem_cons_of_mem _ he)
    show d + b * bw b r < b ^ (r.length + 1)
    rw [Nat.pow_succ, Nat.mul_comm (b ^ r.length)]
    have h3 : b * (bw b r + 1) ≤ b * b ^ r.length := Nat.mul_le_mul_left b h2
    rw [Nat.mul_add, Nat.mul_one] at h3
    omega
theorem take_snoc {α : Type} {ds : List α} {k : Nat} {d : α} (h : ds[k]? = some d) : ds.take (k + 1) = ds.take k ++ [d] := by
  rw [List.take_add_one, h]
  rfl
theorem fw_step {b k d : Nat} {ds : List Nat} (h : ds[k]? = some d) (h1 : 1 ≤ d) : ((fw b (ds.take (k + 1)) : Nat) : Int) = ((fw b (ds.take k) : Nat) : Int) * (b : Int) + (((d - 1 : Nat) : Int) + 1) := by
  rw [take_snoc h, fw_snoc, Int.natCast_add, Int.natCast_mul]
  omega
theorem bw_step {b k d : Nat} {ds : List Nat} (h : ds[k]? = some d) (h1 : 1 ≤ d) : ((bw b (ds.take (k + 1)) : Nat) : Int) = ((bw b (ds.take k) : Nat) : Int) + (((d - 1 : Nat) : Int) + 1) * ((b ^ k : Nat) : Int) := by
  obtain ⟨hk, _⟩ := List.getElem?_eq_some_iff.mp h
  rw [take_snoc h, bw_snoc, List.length_take, Nat.min_eq_left (Nat.le_of_lt hk), Int.natCast_add, Int.natCast_mul]
  have e : (((d - 1 : Nat) : Int) + 1) = (d : Int) := by omega
  rw [e]
theorem pw_step {b k : Nat} : ((b ^ (k + 1) : Nat) : Int) = ((b ^ k : Nat) : Int) * (b : Int) := by
  rw [Nat.pow_succ, Int.natCast_mul]
/-- the last figure is not zero -/
def LastNz (ds : List Nat) : Prop := ∀ l d, ds = l ++ [d] → d ≠ 0
theorem bw_pos {b : Nat} (hb : 0 < b) {r : List Nat} (h : LastNz r) (hr : r ≠ []) : 0 < bw b r := by
  obtain ⟨l, d, e⟩ : ∃ l d, r = l ++ [d] := ⟨_, _, (List.dropLast_concat_getLast hr).symm⟩
  have hd := h l d e
  rw [e, bw_snoc]
  have : 0 < d * b ^ l.length := Nat.mul_pos (by omega) (Nat.pow_pos hb)
  omega
theorem LastNz.tail {l r : List Nat} (h : LastNz (l ++ r)) : LastNz r := fun k d e => h (l ++ k) d (by rw [e, List.append_assoc])
theorem bw_mod {b d : Nat} {r : List Nat} (h : d < b) : bw b (d :: r) / b = bw b r ∧ bw b (d :: r) % b = d := by
  have e : bw b (d :: r) = d + b * bw b r := rfl
  rw [e, Nat.add_mul_div_left _ _ (by omega), Nat.add_mul_mod_self_left, Nat.div_eq_of_lt h, Nat.mod_eq_of_lt h, Nat.zero_add]
  exact ⟨rfl, rfl⟩
/-- a number's figures, the lowest one first -/
def digs (b : Nat) : Nat → Nat → List Nat
  | 0, _ => []
  | f + 1, n => if n = 0 then [] else n % b :: digs b f (n / b)
theorem digs_bw {b : Nat} (hb : 2 ≤ b) : ∀ {f n : Nat}, n ≤ f → bw b (digs b f n) = n
  | 0, n, h => by
    have : n = 0 := by omega
    subst this
    rfl
  | f + 1, n, h => by
    unfold digs
    split
    · rename_i z
      rw [z]
      rfl
    · have l : n / b ≤ f := by
        have : n / b < n := Nat.div_lt_self (by omega) hb
        omega
      show n % b + b * bw b (digs b f (n / b)) = n
      rw [digs_bw hb l]
      exact Nat.mod_add_div n b
theorem digs_lt {b : Nat} (hb : 2 ≤ b) : ∀ {f n : Nat}, ∀ d ∈ digs b f n, d < b
  | 0, n, d, h => by cases h
  | f + 1, n, d, h => by
    unfold digs at h
    split at h
    · cases h
    · rcases List.mem_cons.mp h with e | h
      · rw [e]
        exact Nat.mod_lt _ (by omega)
      · exact digs_lt hb d h
theorem digs_last {b : Nat} (hb : 2 ≤ b) : ∀ {f n : Nat}, n ≤ f → LastNz (digs b f n)
  | 0, n, _, l, d, e => by
    have := congrArg List.length e
    simp [digs] at this
  | f + 1, n, h, l, d, e => by
    unfold digs at e
    split at e
    · have := congrArg List.length e
      simp at this
    · rename_i hn
      have le : n / b ≤ f := by
        have : n / b < n := Nat.div_lt_self (by omega) hb
        omega
      cases l with
      | nil =>
        have e1 := (List.cons.inj e).1
        have e2 := (List.cons.inj e).2
        have z := digs_bw hb le
        rw [e2] at z
        have z2 : n / b = 0 := z.symm
        have := Nat.mod_add_div n b
        rw [z2, Nat.mul_zero] at this
        omega
      | cons x l => exact digs_last hb le l d (List.cons.inj e).2
theorem digs_len {b : Nat} (hb : 2 ≤ b) : ∀ {f n k : Nat}, n < 2 ^ k → (digs b f n).length ≤ k
  | 0, n, k, _ => Nat.zero_le _
  | f + 1, n, 0, h => by
    have : n = 0 := by
      rw [Nat.pow_zero] at h
      omega
    subst this
    exact Nat.le_refl _
  | f + 1, n, k + 1, h => by
    unfold digs
    split
    · exact Nat.zero_le _
    · have l : n / b < 2 ^ k := by
        rw [Nat.pow_succ] at h
        exact Nat.div_lt_of_lt_mul (Nat.lt_of_lt_of_le h (by rw [Nat.mul_comm]; exact Nat.mul_le_mul_right _ hb))
      exact Nat.succ_le_succ (digs_len hb l)
end CT
namespace CT
open PySem PySem.Spec PySem.Calls PyProof.Rows L2
/-! ### texts by their signs -/
abbrev S (l : List Nat) : Str := SX.S l
theorem S_len (l : List Nat) : (S l).length = l.length := SX.S_len l
theorem rev_S (l : List Nat) : revS (S l) = S l.reverse := rfl
theorem occ_sign {l : List Nat} {j c : Nat} (nd : l.Nodup) (h : l[j]? = some c) : ∃ rest, Builtin.Str.occurrences (S l) ⟨#[c]⟩ 0 (S l).length 1 = j :: rest := by
  have f := StrLaws.found_one (S l) c
  have m : c ∈ (S l).cps.toList := List.mem_of_getElem? h
  rw [decide_eq_true m] at f
  obtain ⟨g, ch⟩ := StrLaws.occ_chain (S l) ⟨#[c]⟩ 1
  cases e : Builtin.Str.occurrences (S l) ⟨#[c]⟩ 0 (S l).length 1 with
  | nil =>
    rw [e] at f
    cases f
  | cons i r =>
    rw [e] at ch
    have at_ := ch.2.1
    have q := (StrLaws.subAt_one (S l) c i).mp ⟨at_.1, at_.2⟩
    have q2 : l[i]? = some c := q
    have hi := (List.getElem?_eq_some_iff.mp q2).1
    have hj := (List.getElem?_eq_some_iff.mp h).1
    have ev : l[i] = l[j] := by rw [(List.getElem?_eq_some_iff.mp q2).2, (List.getElem?_eq_some_iff.mp h).2]
    have ei : i = j := by
      rcases Nat.lt_trichotomy i j with z | z | z
      · exact absurd ev (List.pairwise_iff_getElem.mp nd i j hi hj z)
      · exact z
      · exact absurd ev.symm (List.pairwise_iff_getElem.mp nd j i hj hi z)
    rw [ei]
    exact ⟨r, rfl⟩
theorem joinL_ones : ∀ l : List Nat, TL.joinL [] (l.map fun c => [c]) = l
  | [] => rfl
  | [_] => rfl
  | x :: y :: r => by
    show [x] ++ ([] ++ TL.joinL [] ((y :: r).map fun c => [c])) = _
    rw [joinL_ones (y :: r)]
    rfl
theorem join_ones (l : List Nat) : Txt.join (Str.ofString "") (l.map fun c => S [c]) = S l := by
  have e := SX.join_S [] (l.map fun c => [c])
  rw [joinL_ones, List.map_map] at e
  exact e
theorem sum_ones (l : List Nat) : ((l.map fun c => S [c]).map (·.length)).sum = l.length := by
  induction l with
  | nil => rfl
  | cons x r ih =>
    rw [List.map_cons, List.map_cons, List.sum_cons, ih, List.length_cons]
    show 1 + r.length = r.length + 1
    omega
theorem cut_S {l : List Nat} {a b : Nat} (ha : a ≤ l.length) (hb : b ≤ l.length) : cutS (S l) (some (a : Int)) (some (b : Int)) = S ((l.drop a).take (b - a)) := by
  unfold cutS
  rw [HT.sIx_nat, HT.sIx_nat, S_len, Nat.min_eq_left ha, Nat.min_eq_left hb] <;> rfl
theorem cat_S (a b : List Nat) : S a ++ S b = S (a ++ b) := SX.S_cat a b
/-- the sign of a figure -/
def sg (l : List Nat) (d : Nat) : Nat := l.getD (d - 1) 0
theorem sg_get {l : List Nat} {d : Nat} (h1 : 1 ≤ d) (h2 : d ≤ l.length) : l[d - 1]? = some (sg l d) := by
  unfold sg
  rw [List.getD_eq_getElem?_getD, List.getElem?_eq_getElem (by omega : d - 1 < l.length)]
  rfl
/-- the figures of a text -/
def FigOf (l : List Nat) (ds : List Nat) : Prop := ∀ d ∈ ds, 1 ≤ d ∧ d ≤ l.length
theorem bw_big {b : Nat} {ds : List Nat} (hb : b ≤ 32) (hl : ds.length ≤ 30) (h : ∀ d ∈ ds, d < b) : bw b ds < 2 ^ 150 := by
  refine Nat.lt_of_lt_of_le (bw_lt h) ?_
  rcases Nat.eq_zero_or_pos b with z | z
  · subst z
    cases ds with
    | nil => decide
    | cons d r => exact absurd (h d List.mem_cons_self) (by omega)
  · refine Nat.le_trans (Nat.pow_le_pow_left hb _) (Nat.le_trans (Nat.pow_le_pow_right (by decide) hl) (by decide))
theorem pow_big {b k : Nat} (hb : b ≤ 32) (h0 : 0 < b) (hk : k ≤ 30) : b ^ k < 2 ^ 151 :=
  Nat.lt_of_le_of_lt (Nat.le_trans (Nat.pow_le_pow_left hb _) (Nat.le_trans (Nat.pow_le_pow_right (by decide) hk) (Nat.le_refl _))) (by decide)
end CT
namespace CT
open PySem PySem.Spec PySem.Calls PyProof.Rows L2
theorem big_nat {n k : Nat} (h : n < 2 ^ k) (hk : k ≤ 4000) : Big ((n : Nat) : Int) := big_small (n := k) (by rw [Int.natAbs_natCast]; exact h) hk
theorem fw_big {b : Nat} {ds : List Nat} (hb : b ≤ 32) (hl : ds.length ≤ 30) (h : ∀ d ∈ ds, d < b) : fw b ds < 2 ^ 150 := by
  rw [fw_rev]
  exact bw_big hb (by rw [List.length_reverse]; exact hl) fun d hd => h d (List.mem_reverse.mp hd)
end CT
namespace CT
theorem bw_suffix {b d : Nat} {r : List Nat} (hb : 1 ≤ b) : bw b r ≤ bw b (d :: r) := by
  show bw b r ≤ d + b * bw b r
  have := Nat.le_mul_of_pos_left (bw b r) hb
  omega
theorem bw_app {b : Nat} {r : List Nat} (hb : 1 ≤ b) : ∀ {l : List Nat}, bw b r ≤ bw b (l ++ r)
  | [] => Nat.le_refl _
  | _ :: l => Nat.le_trans (bw_app hb (l := l)) (bw_suffix hb)
end CT
namespace CT
theorem nodup_rev {l : List Nat} (h : l.Nodup) : l.reverse.Nodup := List.pairwise_reverse.mpr (List.Pairwise.imp (fun h => Ne.symm h) h)
end CT
namespace CT
open PySem PySem.Spec PySem.Calls PyProof.Rows L2
theorem flat_digs (es : List Nat) : (es.map fun d => V.int ((d : Nat) : Int)).all flatV = true := by
  rw [List.all_eq_true]
  intro x hx
  obtain ⟨d, _, rfl⟩ := List.mem_map.mp hx
  rfl
theorem in_digs (es : List Nat) : inV (.int 0) (es.map fun d => V.int ((d : Nat) : Int)) = decide (0 ∈ es) := by
  unfold inV
  rw [List.any_map, Bool.eq_iff_iff, List.any_eq_true, decide_eq_true_eq]
  constructor
  · rintro ⟨d, hd, e⟩
    have e2 : ((d : Nat) : Int) = 0 := eq_of_beq (show (((d : Nat) : Int) == 0) = true from e)
    have : d = 0 := by omega
    rw [← this]
    exact hd
  · intro h
    exact ⟨0, h, rfl⟩
end CT

/-! Texts of numbers and fractions, plain laws. -/
namespace CT
open PySem PySem.Spec PySem.Calls PyProof.Rows L2
def isDig (c : Nat) : Bool := decide (c ∈ ([48, 49, 50, 51, 52, 53, 54, 55, 56, 57] : List Nat))
/-- figures of a number as they are written: no zero in front, at most thirty -/
def isNum (l : List Nat) : Bool := decide (1 ≤ l.length ∧ l.length ≤ 30) && (l.all isDig && (decide (l = [48]) || !decide (l.head? = some 48)))
def spIsNum : Sp := fun vs H Q _ => ∃ l : List Nat, vs = [.str (S l)] ∧ l.length ≤ 1000 ∧ ∀ H', Same H H' → Q (.bl (isNum l)) H'
theorem relS {mg : Str → Option Value} {x z : Str} (h : ∃ t, mg x = some (.str z t)) : ∃ u, mg x = some u ∧ RelV (.str z) u := by
  obtain ⟨t, e⟩ := h
  exact ⟨_, e, t, rfl⟩
theorem relI {mg : Str → Option Value} {x : Str} {i : Int} (h : ∃ t, mg x = some (.int i t)) : ∃ u, mg x = some u ∧ RelV (.int i) u := by
  obtain ⟨t, e⟩ := h
  exact ⟨_, e, t, rfl⟩
end CT
namespace CT
open PySem PySem.Spec PySem.Calls PyProof.Rows L2
theorem isNum_long {l : List Nat} (h : ¬ (1 ≤ l.length ∧ l.length ≤ 30)) : isNum l = false := by
  unfold isNum
  rw [decide_eq_false h]
  rfl
theorem isNum_sign {l : List Nat} (h : l.all isDig = false) : isNum l = false := by
  unfold isNum
  rw [h]
  simp
theorem isNum_rest {l : List Nat} (h : 1 ≤ l.length ∧ l.length ≤ 30) (h2 : l.all isDig = true) : isNum l = (decide (l = [48]) || !decide (l.head? = some 48)) := by
  unfold isNum
  rw [decide_eq_true h, h2]
  rfl
theorem isNum_zero {l : List Nat} (h : 1 ≤ l.length ∧ l.length ≤ 30) (h2 : l.all isDig = true) (e : l = [48]) : isNum l = true := by
  rw [isNum_rest h h2, decide_eq_true e]
  rfl
theorem isNum_head {c : Nat} {r : List Nat} (h : 1 ≤ (c :: r).length ∧ (c :: r).length ≤ 30) (h2 : (c :: r).all isDig = true) (e : ¬ c :: r = [48]) : isNum (c :: r) = !decide (c = 48) := by
  rw [isNum_rest h h2, decide_eq_false e]
  simp
theorem str_dec (a b : List Nat) : decide (V.str (S a) = V.str (S b)) = decide (a = b) := by
  rw [decide_eq_decide]
  exact ⟨fun z => SX.S_inj (V.str.inj z), fun z => by rw [z]⟩
end CT
namespace CT
open PySem PySem.Spec PySem.Calls PyProof.Rows L2
def valN (l : List Nat) : Nat := NumText.digitsVal l
def bodyOf (l : List Nat) : List Nat := if l.head? = some 45 then l.drop 1 else l
/-- the fraction at hand, if it is one in lowest terms; st: a stroke is written; ng: a sign is written -/
def fitF (st ng : Bool) (t u : Nat) : Option (Int × Int) :=
  if 0 < u ∧ Int.gcd (t : Int) (u : Int) = 1 ∧ ¬ (st = true ∧ u = 1) ∧ ¬ (ng = true ∧ t = 0) then some (if ng then 0 - (t : Int) else (t : Int), (u : Int)) else none
/-- the fraction that a text tells -/
def readF (l : List Nat) : Option (Int × Int) := match TL.par [47] [] (bodyOf l) with
  | some (p, q) => if isNum p = true ∧ isNum q = true then fitF true (decide (bodyOf l ≠ l)) (valN p) (valN q) else none
  | none => if isNum (bodyOf l) = true then fitF false (decide (bodyOf l ≠ l)) (valN (bodyOf l)) 1 else none
theorem isNum_len {l : List Nat} (h : isNum l = true) : 1 ≤ l.length ∧ l.length ≤ 30 := by
  unfold isNum at h
  exact of_decide_eq_true (Bool.and_eq_true_iff.mp h).1
theorem isNum_dig {l : List Nat} (h : isNum l = true) : l.all isDig = true := by
  unfold isNum at h
  exact (Bool.and_eq_true_iff.mp (Bool.and_eq_true_iff.mp h).2).1
theorem isDig_le {c : Nat} (h : isDig c = true) : 48 ≤ c ∧ c ≤ 57 := by
  have := of_decide_eq_true h
  simp at this
  omega
theorem int_of {l : List Nat} (h : isNum l = true) : intText? (S l) = some ((valN l : Nat) : Int) ∧ (S l).length ≤ 640 := by
  have hl := isNum_len h
  refine ⟨SX.int_S ?_ ?_ (by omega), by rw [S_len]; omega⟩
  · rw [List.all_eq_true]
    intro c hc
    have := isDig_le (List.all_eq_true.mp (isNum_dig h) c hc)
    rw [Bool.and_eq_true, decide_eq_true_eq, decide_eq_true_eq]
    exact this
  · intro e
    rw [e] at hl
    exact absurd hl.1 (by decide)
theorem fold_lt : ∀ (l : List Nat) (a : Nat), (∀ c ∈ l, 48 ≤ c ∧ c ≤ 57) → l.foldl (fun acc c => acc * 10 + (c - 48)) a < (a + 1) * 10 ^ l.length
  | [], a, _ => by
    show a < (a + 1) * 10 ^ 0
    rw [Nat.pow_zero]
    omega
  | c :: r, a, h => by
    have h1 := h c List.mem_cons_self
    have h2 := fold_lt r (a * 10 + (c - 48)) fun e he => h e (List.mem_cons_of_mem _ he)
    show r.foldl _ (a * 10 + (c - 48)) < (a + 1) * 10 ^ (r.length + 1)
    have h3 : (a * 10 + (c - 48) + 1) * 10 ^ r.length ≤ ((a + 1) * 10) * 10 ^ r.length := Nat.mul_le_mul_right _ (by omega)
    have h4 : ((a + 1) * 10) * 10 ^ r.length = (a + 1) * 10 ^ (r.length + 1) := by rw [Nat.pow_succ, Nat.mul_assoc, Nat.mul_comm 10]
    rw [← h4]
    exact Nat.lt_of_lt_of_le h2 h3
theorem val_big {l : List Nat} (h : isNum l = true) : valN l < 2 ^ 120 := by
  have hl := isNum_len h
  have e := fold_lt l 0 fun c hc => isDig_le (List.all_eq_true.mp (isNum_dig h) c hc)
  rw [Nat.zero_add, Nat.one_mul] at e
  refine Nat.lt_of_lt_of_le e (Nat.le_trans (Nat.pow_le_pow_right (by decide) hl.2) (by decide))
theorem removeprefix_S (l : List Nat) : Txt.removeprefix (S l) (S [45]) = S (bodyOf l) := by
  rw [StrLaws.removeprefix_eq]
  have key := StrLaws.subAt_one (S l) 45 0
  have e0 : (S l).cps.toList[0]? = l.head? := by
    cases l <;> rfl
  rw [e0] at key
  unfold bodyOf
  by_cases h : l.head? = some 45
  · obtain ⟨k1, k2⟩ := key.mpr h
    rw [if_pos h, if_pos (Bool.and_eq_true_iff.mpr ⟨decide_eq_true k1, k2⟩)]
    show (⟨((l.drop 1).take (l.length - 1)).toArray⟩ : Str) = ⟨(l.drop 1).toArray⟩
    rw [List.take_of_length_le (by rw [List.length_drop]; exact Nat.le_refl _)]
  · rw [if_neg h, if_neg fun z => h (key.mp ⟨of_decide_eq_true (Bool.and_eq_true_iff.mp z).1, (Bool.and_eq_true_iff.mp z).2⟩)]
end CT
namespace CT
open PySem PySem.Spec PySem.Calls PyProof.Rows L2
theorem pre1 (c : Nat) (r : List Nat) : TL.pre [47] (c :: r) = decide (c = 47) := by
  first
    | (unfold TL.pre; by_cases h : c = 47 <;> simp [h])
    | (simp [TL.pre])
theorem par_len1 : ∀ (l acc p q : List Nat), TL.par [47] acc l = some (p, q) → p.length + q.length + 1 = acc.length + l.length
  | [], acc, p, q, h => by
    simp [TL.par] at h
  | c :: r, acc, p, q, h => by
    by_cases hc : c = 47
    · rw [TL.par_hit (by rw [pre1, decide_eq_true hc])] at h
      cases h
      show acc.length + (List.drop 1 (c :: r)).length + 1 = acc.length + (r.length + 1)
      rw [List.drop_one, List.tail_cons]
      omega
    · rw [TL.par_miss (by rw [pre1, decide_eq_false hc])] at h
      have e := par_len1 r (acc ++ [c]) p q h
      rw [List.length_append] at e
      show p.length + q.length + 1 = acc.length + (r.length + 1)
      simp at e
      omega
end CT
namespace CT
open PySem PySem.Spec PySem.Calls PyProof.Rows L2
/-- a text's parts: is there a stroke, what stands before it, behind it -/
def partsOf (l : List Nat) : Bool × List Nat × List Nat := match TL.par [47] [] (bodyOf l) with
  | some (p, q) => (true, p, q)
  | none => (false, bodyOf l, [])
def readP (l : List Nat) (st : Bool) (p q : List Nat) : Option (Int × Int) :=
  if isNum p = true ∧ (st = true → isNum q = true) then fitF st (decide (bodyOf l ≠ l)) (valN p) (if st = true then valN q else 1) else none
theorem read_parts (l : List Nat) : readF l = readP l (partsOf l).1 (partsOf l).2.1 (partsOf l).2.2 := by
  unfold readF partsOf readP
  cases TL.par [47] [] (bodyOf l) with
  | none => simp
  | some z =>
    obtain ⟨p, q⟩ := z
    simp
theorem part_S (l : List Nat) : Txt.partition (S (bodyOf l)) (S [47]) = (S (partsOf l).2.1, S (if (partsOf l).1 = true then [47] else []), S (partsOf l).2.2) := by
  unfold partsOf
  cases h : TL.par [47] [] (bodyOf l) with
  | none => exact SX.partition_none (by decide) h
  | some z =>
    obtain ⟨p, q⟩ := z
    exact SX.partition_some (by decide) h
theorem body_len (l : List Nat) : (bodyOf l).length ≤ l.length := by
  unfold bodyOf
  split
  · rw [List.length_drop]
    omega
  · exact Nat.le_refl _
theorem parts_len (l : List Nat) : (partsOf l).2.1.length ≤ l.length ∧ (partsOf l).2.2.length ≤ l.length := by
  have hb := body_len l
  unfold partsOf
  cases h : TL.par [47] [] (bodyOf l) with
  | none => exact ⟨hb, Nat.zero_le _⟩
  | some z =>
    obtain ⟨p, q⟩ := z
    have e := par_len1 _ _ _ _ h
    simp at e
    exact ⟨by show p.length ≤ _; omega, by show q.length ≤ _; omega⟩
end CT
namespace CT
open PySem PySem.Spec PySem.Calls PyProof.Rows L2
theorem stroke_dec (st : Bool) : decide (V.str (S (if st = true then [47] else [])) = V.str (S [47])) = st := by
  rw [str_dec]
  cases st with
  | true => rfl
  | false => rfl
end CT
namespace CT
open PySem PySem.Spec PySem.Calls PyProof.Rows L2
theorem fold_ge : ∀ (l : List Nat) (a : Nat), a * 10 ^ l.length ≤ l.foldl (fun acc c => acc * 10 + (c - 48)) a
  | [], a => by
    show a * 10 ^ 0 ≤ a
    rw [Nat.pow_zero]
    omega
  | c :: r, a => by
    have h2 := fold_ge r (a * 10 + (c - 48))
    show a * 10 ^ (r.length + 1) ≤ r.foldl _ (a * 10 + (c - 48))
    refine Nat.le_trans ?_ h2
    rw [Nat.pow_succ, Nat.mul_comm (10 ^ r.length), ← Nat.mul_assoc]
    exact Nat.mul_le_mul_right _ (by omega)
theorem val_two {l : List Nat} (h : isNum l = true) (h0 : ¬ l = [48]) (h1 : ¬ l = [49]) : 2 ≤ valN l := by
  have hl := isNum_len h
  have hd := isNum_dig h
  cases l with
  | nil => exact absurd hl.1 (by decide)
  | cons c r =>
    have hc := isDig_le (List.all_eq_true.mp hd c List.mem_cons_self)
    have h48 : ¬ c = 48 := by
      have e := isNum_head hl hd h0
      rw [h] at e
      intro z
      rw [decide_eq_true z] at e
      cases e
    have g := fold_ge r (0 * 10 + (c - 48))
    have e : valN (c :: r) = r.foldl (fun acc c => acc * 10 + (c - 48)) (0 * 10 + (c - 48)) := rfl
    rw [e]
    refine Nat.le_trans ?_ g
    cases r with
    | nil =>
      have : ¬ c = 49 := fun z => h1 (by rw [z])
      show 2 ≤ (0 * 10 + (c - 48)) * 10 ^ 0
      rw [Nat.pow_zero]
      omega
    | cons d r =>
      have : 10 ^ 1 ≤ 10 ^ (d :: r).length := Nat.pow_le_pow_right (by decide) (by simp)
      have := Nat.mul_le_mul (show 1 ≤ 0 * 10 + (c - 48) by omega) this
      omega
theorem cut_head (l : List Nat) : cutS (S l) none (some 1) = S (l.take 1) := by
  unfold cutS
  rw [HT.sIx_none, show HT.sIx (S l).length (S l).length (some 1) = min 1 (S l).length from HT.sIx_nat _ _ 1, S_len]
  show (⟨((l.drop 0).take (min 1 l.length - 0)).toArray⟩ : Str) = ⟨(l.take 1).toArray⟩
  rw [List.drop_zero, Nat.sub_zero]
  cases l with
  | nil => rfl
  | cons c r =>
    rw [Nat.min_eq_left (by simp)]
theorem cut_tail (l : List Nat) : cutS (S l) (some 1) none = S (l.drop 1) := by
  unfold cutS
  rw [HT.sIx_none, show HT.sIx (S l).length 0 (some 1) = min 1 (S l).length from HT.sIx_nat _ _ 1, S_len]
  show (⟨((l.drop (min 1 l.length)).take (l.length - min 1 l.length)).toArray⟩ : Str) = ⟨(l.drop 1).toArray⟩
  cases l with
  | nil => rfl
  | cons c r =>
    rw [Nat.min_eq_left (by simp), List.take_of_length_le (by rw [List.length_drop]; exact Nat.le_refl _)]
theorem minus_dec (l : List Nat) : decide (V.str (S (l.take 1)) = V.str (S [45])) = decide (l.head? = some 45) := by
  rw [str_dec, decide_eq_decide]
  cases l with
  | nil => simp
  | cons c r => simp
theorem ne_pair {K : PySem.W.Frag} {H : Hp} {a b : Addr} {x y z w : Int} {Q : VK} (ha : SqT K H a [.int x, .int y]) (hb : SqT K H b [.int z, .int w]) (q : Q (.bl (!decide (x = z ∧ y = w))) H) : rNeD K (.ref a) (.ref b) H Q := by
  have sh : ∀ i j : Int, SeqAt.shaped (.tuple [.int i, .int j]) = true := fun i j => by
    simp [SeqAt.shaped, PyData.canLay0, PyData.canLayAll0, PyData.depth, PyData.depthAll]
  refine ⟨_, _, .tup ha (.cons (.int _) (.cons (.int _) .nil)), .tup hb (.cons (.int _) (.cons (.int _) .nil)), sh _ _, sh _ _, ?_⟩
  have e : PyData.eqv (.tuple [.int x, .int y]) (.tuple [.int z, .int w]) = decide (x = z ∧ y = w) := by
    simp [PyData.eqv, PyData.eqvAll, Bool.decide_and]
    try rfl
  rw [e]
  exact q
theorem frac_same {t u : Int} (hu : 0 < u) : (fracT t u = t ∧ fracU t u = u) ↔ Int.gcd t u = 1 := by
  constructor
  · rintro ⟨h1, h2⟩
    have := frac_gcd (t := t) (u := u) (by omega)
    rw [h1, h2] at this
    exact this
  · intro h
    unfold fracT fracU den
    rw [if_neg (by omega), h]
    exact ⟨Int.fdiv_one t, Int.fdiv_one u⟩
end CT
namespace CT
open PySem PySem.Spec PySem.Calls PyProof.Rows L2
theorem in_two (q : List Nat) : inV (.str (S q)) [.str (S [48]), .str (S [49])] = decide (q = [48] ∨ q = [49]) := by
  show ((S [48] == S q) || ((S [49] == S q) || false)) = _
  rw [SX.S_beq, SX.S_beq, Bool.or_false, Bool.eq_iff_iff, Bool.or_eq_true, beq_iff_eq, beq_iff_eq, decide_eq_true_eq]
  exact ⟨fun z => z.elim (fun e => .inl e.symm) fun e => .inr e.symm, fun z => z.elim (fun e => .inl e.symm) fun e => .inr e.symm⟩
end CT
namespace CT
open PySem PySem.Spec PySem.Calls PyProof.Rows L2
/-- a whole number's text -/
def decL (z : Int) : List Nat := if z < 0 then 45 :: TL.numL z.natAbs else TL.numL z.natAbs
/-- a fraction's text -/
def textF (t u : Int) : List Nat := decL t ++ (if u = 1 then [] else 47 :: decL u)
theorem dec_S (z : Int) : Str.ofString (toString z) = S (decL z) := by
  unfold decL
  by_cases h : z < 0
  · rw [if_pos h, toString_neg h]
    have e : (0 : Int) - z = ((z.natAbs : Nat) : Int) := by omega
    rw [e]
    have e2 : Str.ofString ("-" ++ toString ((z.natAbs : Nat) : Int)) = Str.ofString "-" ++ Str.ofString (toString ((z.natAbs : Nat) : Int)) := by
      refine TL.ext_tl ?_
      rw [TL.tl_append]
      show (Str.ofString _).cps.toList = (Str.ofString _).cps.toList ++ (Str.ofString _).cps.toList
      rw [PyProof.Rows.signs_ofString, PyProof.Rows.signs_ofString, PyProof.Rows.signs_ofString, String.toList_append, List.map_append]
    rw [e2, SX.num_S]
    exact SX.S_cat [45] _
  · rw [if_neg h]
    have e : z = ((z.natAbs : Nat) : Int) := by omega
    conv => lhs; rw [e]
    exact SX.num_S _
theorem numL_head : ∀ n : Nat, 0 < n → (TL.numL n).head? ≠ some 48 := by
  intro n
  induction n using Nat.strongRecOn with
  | _ n ih =>
    intro hn
    by_cases h : n < 10
    · rw [TL.numL_lt h]
      intro e
      have := Option.some.inj e
      omega
    · rw [TL.numL_step (by omega)]
      have q := ih (n / 10) (Nat.div_lt_self hn (by decide)) (Nat.div_pos (by omega) (by decide))
      cases e : TL.numL (n / 10) with
      | nil => exact absurd e (TL.numL_ne _)
      | cons c r =>
        rw [e] at q
        exact q
theorem isNum_numL {n : Nat} (h : n < 10 ^ 30) : isNum (TL.numL n) = true := by
  have l1 := TL.numL_len (k := 30) (by decide) h
  have l0 : 1 ≤ (TL.numL n).length := by
    cases e : TL.numL n with
    | nil => exact absurd e (TL.numL_ne _)
    | cons c r => simp
  have hd : (TL.numL n).all isDig = true := by
    rw [List.all_eq_true]
    intro c hc
    have := TL.numL_digits n c hc
    refine decide_eq_true ?_
    simp
    omega
  rw [isNum_rest ⟨l0, l1⟩ hd]
  rcases Nat.eq_zero_or_pos n with z | z
  · subst z
    rw [TL.numL_lt (by decide)]
    rfl
  · rw [decide_eq_false (numL_head n z)]
    simp
end CT
namespace CT
open PySem PySem.Spec PySem.Calls PyProof.Rows L2
theorem body_text (t u : Int) : bodyOf (textF t u) = TL.numL t.natAbs ++ (if u = 1 then [] else 47 :: decL u) ∧ (bodyOf (textF t u) ≠ textF t u ↔ t < 0) := by
  unfold textF decL
  by_cases h : t < 0
  · rw [if_pos h]
    have e : bodyOf (45 :: TL.numL t.natAbs ++ (if u = 1 then [] else 47 :: (if u < 0 then 45 :: TL.numL u.natAbs else TL.numL u.natAbs))) = TL.numL t.natAbs ++ (if u = 1 then [] else 47 :: (if u < 0 then 45 :: TL.numL u.natAbs else TL.numL u.natAbs)) := rfl
    rw [e]
    refine ⟨rfl, fun _ => h, fun _ z => ?_⟩
    have := congrArg List.length z
    rw [List.cons_append, List.length_cons] at this
    omega
  · rw [if_neg h]
    obtain ⟨c, r, e⟩ : ∃ c r, TL.numL t.natAbs = c :: r := by
      cases e : TL.numL t.natAbs with
      | nil => exact absurd e (TL.numL_ne _)
      | cons c r => exact ⟨c, r, rfl⟩
    have hc := TL.numL_digits t.natAbs c (by rw [e]; exact List.mem_cons_self)
    have e2 : ∀ x : List Nat, bodyOf (c :: r ++ x) = c :: r ++ x := fun x => by
      unfold bodyOf
      rw [if_neg]
      intro z
      have := Option.some.inj z
      omega
    rw [e, e2]
    exact ⟨rfl, fun z => absurd rfl z, fun z => absurd z h⟩
theorem read_text {t u : Int} (hu : 0 < u) (hg : Int.gcd t u = 1) (ht : t.natAbs < 10 ^ 30) (hu2 : u.natAbs < 10 ^ 30) : readF (textF t u) = some (t, u) := by
  obtain ⟨e1, e2⟩ := body_text t u
  have hd : decide (bodyOf (textF t u) ≠ textF t u) = decide (t < 0) := decide_eq_decide.mpr e2
  have hg2 : Int.gcd ((t.natAbs : Nat) : Int) ((u.natAbs : Nat) : Int) = 1 := hg
  have fin : ∀ st : Bool, (st = true → u ≠ 1) → fitF st (decide (t < 0)) t.natAbs u.natAbs = some (t, u) := fun st hst => by
    unfold fitF
    rw [if_pos ⟨by omega, hg2, fun z => hst z.1 (by omega), fun z => by
      have := of_decide_eq_true z.1
      omega⟩]
    have e3 : ((u.natAbs : Nat) : Int) = u := by omega
    rw [e3]
    by_cases h : t < 0
    · rw [decide_eq_true h]
      show some (0 - ((t.natAbs : Nat) : Int), u) = some (t, u)
      rw [show 0 - ((t.natAbs : Nat) : Int) = t by omega]
    · rw [decide_eq_false h]
      show some (((t.natAbs : Nat) : Int), u) = some (t, u)
      rw [show ((t.natAbs : Nat) : Int) = t by omega]
  unfold readF
  rw [hd, e1]
  by_cases h1 : u = 1
  · rw [if_pos h1, List.append_nil, TL.par_none1 (TL.numL_free (by omega))]
    show (if isNum (TL.numL t.natAbs) = true then fitF false (decide (t < 0)) (valN (TL.numL t.natAbs)) 1 else none) = _
    rw [if_pos (isNum_numL ht)]
    have ev : valN (TL.numL t.natAbs) = t.natAbs := TL.numL_val _
    rw [ev]
    have := fin false (fun z => by cases z)
    rw [h1] at this ⊢
    exact this
  · have hdu : decL u = TL.numL u.natAbs := by
      unfold decL
      rw [if_neg (by omega)]
    rw [if_neg h1, hdu]
    have ep : TL.par [47] [] (TL.numL t.natAbs ++ 47 :: TL.numL u.natAbs) = some (TL.numL t.natAbs, TL.numL u.natAbs) := TL.par_part1 (S := []) (acc := []) (TL.numL_free (by omega))
    rw [ep]
    show (if isNum (TL.numL t.natAbs) = true ∧ isNum (TL.numL u.natAbs) = true then fitF true (decide (t < 0)) (valN (TL.numL t.natAbs)) (valN (TL.numL u.natAbs)) else none) = _
    rw [if_pos ⟨isNum_numL ht, isNum_numL hu2⟩]
    have ev : valN (TL.numL t.natAbs) = t.natAbs := TL.numL_val _
    have ev2 : valN (TL.numL u.natAbs) = u.natAbs := TL.numL_val _
    rw [ev, ev2]
    exact fin true fun _ => h1
end CT
namespace CT
open PySem PySem.Spec PySem.Calls PyProof.Rows L2
theorem dec_len {z : Int} (h : z.natAbs < 10 ^ 30) : (decL z).length ≤ 31 := by
  have l := TL.numL_len (k := 30) (by decide) h
  unfold decL
  split
  · rw [List.length_cons]
    omega
  · omega
theorem dec_log {z : Int} (h : z.natAbs < 10 ^ 30) : z.natAbs.log2 < 1920 := Nat.lt_of_lt_of_le (PySem.Flt.log2_lt_of (k := 100) (by decide) (Nat.lt_of_lt_of_le h (by decide))) (by decide)
theorem text_one (t : Int) : S (textF t 1) = Str.ofString (toString t) := by
  rw [dec_S]
  unfold textF
  rw [if_pos rfl, List.append_nil]
theorem text_two {t u : Int} (h : u ≠ 1) : S (textF t u) = Str.ofString (toString t) ++ S [47] ++ Str.ofString (toString u) := by
  rw [dec_S, dec_S, cat_S, cat_S]
  unfold textF
  rw [if_neg h, List.append_assoc]
  rfl
end CT
namespace CT
open PySem PySem.Spec PySem.Calls PyProof.Rows L2
theorem emp_cat (x : Str) : Str.empty ++ x = x := by
  refine TL.ext_tl ?_
  rw [TL.tl_append]
  rfl
end CT

/-! Slices of texts from a place, up to a place. -/
namespace CT
open PySem PySem.Spec PySem.Calls PyProof.Rows L2
theorem cut_to (l : List Nat) (b : Nat) : cutS (S l) none (some (b : Int)) = S (l.take b) := by
  unfold cutS
  rw [HT.sIx_none, HT.sIx_nat, S_len]
  show (⟨((l.drop 0).take (min b l.length - 0)).toArray⟩ : Str) = ⟨(l.take b).toArray⟩
  rw [List.drop_zero, Nat.sub_zero]
  by_cases h : b ≤ l.length
  · rw [Nat.min_eq_left h]
  · rw [Nat.min_eq_right (by omega), List.take_of_length_le (Nat.le_refl _), List.take_of_length_le (by omega)]
theorem cut_from (l : List Nat) (a : Nat) : cutS (S l) (some (a : Int)) none = S (l.drop a) := by
  unfold cutS
  rw [HT.sIx_none, HT.sIx_nat, S_len]
  show (⟨((l.drop (min a l.length)).take (l.length - min a l.length)).toArray⟩ : Str) = ⟨(l.drop a).toArray⟩
  by_cases h : a ≤ l.length
  · rw [Nat.min_eq_left h, List.take_of_length_le (by rw [List.length_drop]; exact Nat.le_refl _)]
  · rw [Nat.min_eq_right (by omega), List.drop_of_length_le (show l.length ≤ a by omega), List.drop_of_length_le (Nat.le_refl _), List.take_nil]
section
variable {X : Cx}
/-- a text, some times -/
theorem op_repS : OpR X (binaryOp .Mult) (fun x y H Q => ∃ z n, x = .str z ∧ y = .int n ∧ MulOk z n ∧ Q (.str (Txt.mul z n)) H) := by
  intro pins s σ H x y v u Q I rx ry h
  obtain ⟨z, n, rfl, rfl, hz, q⟩ := h
  obtain ⟨t, rfl⟩ := rx
  obtain ⟨t', rfl⟩ := ry
  exact PySem.SB.mul hz (fun t' tk => ⟨.str (Txt.mul z n), H, I.tok _, ⟨_, rfl⟩, q⟩)
end
theorem mulOk_small {x : Str} {n : Int} (h1 : x.length ≤ 1000) (h2 : 0 ≤ n) (h3 : n ≤ 1000) : MulOk x n := mulOk_of 1000 1000 h1 h3 (by omega) (by decide) (by decide)
end CT

/-! Lists of what is told, compared. -/
namespace CT
open PySem PySem.Spec PySem.Calls PyProof.Rows L2 He
def toldD (t : Str × V) : PyData := .tuple [.str t.1, toData t.2]
def okT (t : Str × V) : Bool := okData (.str t.1) && okData t.2
theorem okT_of {x : Str} {v : V} (h1 : okData (.str x) = true) (h2 : okData v = true) : okT (x, v) = true := by
  unfold okT
  rw [h1, h2]
  rfl
/-- the tuples at these addresses tell so -/
def ToldL (K : PySem.W.Frag) (H : Hp) : List Addr → List (Str × V) → Prop
  | [], [] => True
  | a :: as, t :: ts => SqT K H a [.str t.1, t.2] ∧ okT t = true ∧ ToldL K H as ts
  | _, _ => False
theorem ToldL.len {K : PySem.W.Frag} {H : Hp} : ∀ {as : List Addr} {ts : List (Str × V)}, ToldL K H as ts → as.length = ts.length
  | [], [], _ => rfl
  | _ :: _, _ :: _, h => congrArg Nat.succ (ToldL.len h.2.2)
theorem ToldL.same {K : PySem.W.Frag} {H H' : Hp} (e : Same H H') : ∀ {as : List Addr} {ts : List (Str × V)}, ToldL K H as ts → ToldL K H' as ts
  | [], [], _ => trivial
  | _ :: _, _ :: _, h => ⟨sqT_same e h.1, h.2.1, ToldL.same e h.2.2⟩
theorem ToldL.but {K : PySem.W.Frag} {H H' : Hp} (e : ∀ b xs, SqT K H b xs → SqT K H' b xs) : ∀ {as : List Addr} {ts : List (Str × V)}, ToldL K H as ts → ToldL K H' as ts
  | [], [], _ => trivial
  | _ :: _, _ :: _, h => ⟨e _ _ h.1, h.2.1, ToldL.but e h.2.2⟩
theorem ToldL.app {K : PySem.W.Frag} {H : Hp} : ∀ {as bs : List Addr} {ts us : List (Str × V)}, ToldL K H as ts → ToldL K H bs us → ToldL K H (as ++ bs) (ts ++ us)
  | [], _, [], _, _, h => h
  | _ :: _, _, _ :: _, _, h, h2 => ⟨h.1, h.2.1, ToldL.app h.2.2 h2⟩
theorem ToldL.rep {K : PySem.W.Frag} {H : Hp} {a : Addr} {t : Str × V} (h : SqT K H a [.str t.1, t.2]) (ht : okT t = true) : ∀ n, ToldL K H (List.replicate n a) (List.replicate n t)
  | 0 => trivial
  | n + 1 => ⟨h, ht, ToldL.rep h ht n⟩
theorem ToldL.dp {K : PySem.W.Frag} {H : Hp} : ∀ {as : List Addr} {ts : List (Str × V)}, ToldL K H as ts → DpAll K H (as.map V.ref) (ts.map toldD)
  | [], [], _ => .nil
  | _ :: _, t :: _, h => .cons (.tup h.1 (.cons (.str _) (.cons (dp_flat (Bool.and_eq_true_iff.mp h.2.1).2) .nil))) (ToldL.dp h.2.2)
theorem ToldL.ok {K : PySem.W.Frag} {H : Hp} : ∀ {as : List Addr} {ts : List (Str × V)}, ToldL K H as ts → ∀ t ∈ ts, okT t = true
  | [], [], _, _, ht => by cases ht
  | _ :: _, t :: _, h, u, hu => by
    rcases List.mem_cons.mp hu with e | e
    · rw [e]
      exact h.2.1
    · exact ToldL.ok h.2.2 u e
theorem told_lay : ∀ {ts : List (Str × V)}, (∀ t ∈ ts, okT t = true) → PyData.canLayAll0 (ts.map toldD) = true ∧ PyData.depthAll (ts.map toldD) ≤ 1 ∧ PyData.eqvAll (ts.map toldD) (ts.map toldD) = true
  | [], _ => by simp [PyData.canLayAll0, PyData.depthAll, PyData.eqvAll]
  | t :: ts, h => by
    obtain ⟨h1, h2, h3⟩ := told_lay (ts := ts) fun u hu => h u (List.mem_cons_of_mem _ hu)
    have ht := h t List.mem_cons_self
    obtain ⟨x1, x2, x3⟩ := lay_flat (Bool.and_eq_true_iff.mp ht).1
    obtain ⟨v1, v2, v3⟩ := lay_flat (Bool.and_eq_true_iff.mp ht).2
    simp only [toData] at x1 x2 x3
    refine ⟨?_, ?_, ?_⟩
    · simp [toldD, PyData.canLayAll0, PyData.canLay0] at x1 h1 ⊢
      exact ⟨⟨x1, v1⟩, h1⟩
    · simp [toldD, PyData.depthAll, PyData.depth, v2] at h2 ⊢
      omega
    · simp [toldD, PyData.eqvAll, PyData.eqv, v3] at h3 ⊢
      exact h3
theorem told_shaped {ts : List (Str × V)} (h : ∀ t ∈ ts, okT t = true) : SeqAt.shaped (.list (ts.map toldD)) = true := by
  obtain ⟨h1, h2, _⟩ := told_lay h
  unfold SeqAt.shaped
  rw [Bool.and_eq_true, decide_eq_true_eq]
  refine ⟨?_, ?_⟩
  · simpa [PyData.canLay0] using h1
  · have e : PyData.depth (.list (ts.map toldD)) = PyData.depthAll (ts.map toldD) + 1 := by simp [PyData.depth]
    omega
theorem told_eqv {ts : List (Str × V)} (h : ∀ t ∈ ts, okT t = true) : PyData.eqv (.list (ts.map toldD)) (.list (ts.map toldD)) = true := by
  simpa [PyData.eqv] using (told_lay h).2.2
theorem eq_tolds {K : PySem.W.Frag} {H : Hp} {a b : Addr} {as bs : List Addr} {ts : List (Str × V)} {Q : VK} (ha : SqL K H a (as.map V.ref)) (hb : SqL K H b (bs.map V.ref)) (h1 : ToldL K H as ts) (h2 : ToldL K H bs ts) (q : Q (.bl true) H) : rEqD K (.ref a) (.ref b) H Q := by
  have sh := told_shaped h1.ok
  refine ⟨_, _, .lst ha h1.dp, .lst hb h2.dp, sh, sh, ?_⟩
  rw [told_eqv h1.ok]
  exact q
theorem ne_tolds {K : PySem.W.Frag} {H : Hp} {a b : Addr} {as bs : List Addr} {ts : List (Str × V)} {Q : VK} (ha : SqL K H a (as.map V.ref)) (hb : SqL K H b (bs.map V.ref)) (h1 : ToldL K H as ts) (h2 : ToldL K H bs ts) (q : Q (.bl false) H) : rNeD K (.ref a) (.ref b) H Q := by
  have sh := told_shaped h1.ok
  refine ⟨_, _, .lst ha h1.dp, .lst hb h2.dp, sh, sh, ?_⟩
  rw [told_eqv h1.ok]
  exact q
end CT

namespace CT
open PySem PySem.Spec PySem.Calls PyProof.Rows L2 He
def top (i : Nat) : Stmt := PySem.Challenge.pw_copytail_k03_texts_of_fractions.main.body.getD i (.Pass ⟨0, 0, 0, 0⟩)
abbrev s_greatest_common : Stmt := top 30
abbrev n_greatest_common : List Str := ["one", "other"]
theorem sc_greatest_common : FnScope ["one", "other"] ["one", "other"] (defScope s_greatest_common) := ⟨rfl, rfl, rfl, by decide +kernel, rfl, by decide +kernel, by decide +kernel⟩
abbrev s_is_ratio : Stmt := top 31
abbrev n_is_ratio : List Str := ["pair"]
theorem sc_is_ratio : FnScope ["pair"] ["pair"] (defScope s_is_ratio) := ⟨rfl, rfl, rfl, by decide +kernel, rfl, by decide +kernel, by decide +kernel⟩
abbrev s_negated : Stmt := top 32
abbrev n_negated : List Str := ["one"]
theorem sc_negated : FnScope ["one"] ["one"] (defScope s_negated) := ⟨rfl, rfl, rfl, by decide +kernel, rfl, by decide +kernel, by decide +kernel⟩
abbrev s_ratio_text : Stmt := top 33
abbrev n_ratio_text : List Str := ["one"]
theorem sc_ratio_text : FnScope ["one"] ["one"] (defScope s_ratio_text) := ⟨rfl, rfl, rfl, by decide +kernel, rfl, by decide +kernel, by decide +kernel⟩
abbrev s_is_number : Stmt := top 34
abbrev n_is_number : List Str := ["text", "sign"]
theorem sc_is_number : FnScope ["text", "sign"] ["text"] (defScope s_is_number) := ⟨rfl, rfl, rfl, by decide +kernel, rfl, by decide +kernel, by decide +kernel⟩
abbrev s_read_ratio : Stmt := top 35
abbrev n_read_ratio : List Str := ["text", "body", "top", "stroke", "under", "found"]
theorem sc_read_ratio : FnScope ["text", "body", "top", "stroke", "under", "found"] ["text"] (defScope s_read_ratio) := ⟨rfl, rfl, rfl, by decide +kernel, rfl, by decide +kernel, by decide +kernel⟩
abbrev s_law_feed : Stmt := top 37
abbrev n_law_feed : List Str := ["_law_script", "_law_cells", "_law_mark", "_law_cell"]
theorem sc_law_feed : FnScope ["_law_script", "_law_cells", "_law_mark", "_law_cell"] ["_law_script"] (defScope s_law_feed) := ⟨rfl, rfl, rfl, by decide +kernel, rfl, by decide +kernel, by decide +kernel⟩
abbrev s_law_take : Stmt := top 38
abbrev n_law_take : List Str := ["_law_feed_here", "_law_many", "_law_cell", "_law_mixed", "_law_found"]
theorem sc_law_take : FnScope ["_law_feed_here", "_law_many", "_law_cell", "_law_mixed", "_law_found"] ["_law_feed_here", "_law_many"] (defScope s_law_take) := ⟨rfl, rfl, rfl, by decide +kernel, rfl, by decide +kernel, by decide +kernel⟩
abbrev s_law_gcd : Stmt := top 39
abbrev n_law_gcd : List Str := ["_law_one", "_law_two"]
theorem sc_law_gcd : FnScope ["_law_one", "_law_two"] ["_law_one", "_law_two"] (defScope s_law_gcd) := ⟨rfl, rfl, rfl, by decide +kernel, rfl, by decide +kernel, by decide +kernel⟩
abbrev s_law_low : Stmt := top 40
abbrev n_law_low : List Str := ["_law_top", "_law_under", "_law_part"]
theorem sc_law_low : FnScope ["_law_top", "_law_under", "_law_part"] ["_law_top", "_law_under"] (defScope s_law_low) := ⟨rfl, rfl, rfl, by decide +kernel, rfl, by decide +kernel, by decide +kernel⟩
abbrev s_law_number : Stmt := top 41
abbrev n_law_number : List Str := ["_law_feed_here", "_law_size", "_law_top", "_law_under"]
theorem sc_law_number : FnScope ["_law_feed_here", "_law_size", "_law_top", "_law_under"] ["_law_feed_here", "_law_size"] (defScope s_law_number) := ⟨rfl, rfl, rfl, by decide +kernel, rfl, by decide +kernel, by decide +kernel⟩
abbrev s_law_pick : Stmt := top 42
abbrev n_law_pick : List Str := ["_law_feed_here", "_law_things"]
theorem sc_law_pick : FnScope ["_law_feed_here", "_law_things"] ["_law_feed_here", "_law_things"] (defScope s_law_pick) := ⟨rfl, rfl, rfl, by decide +kernel, rfl, by decide +kernel, by decide +kernel⟩
abbrev s_law_ratio_text : Stmt := top 43
abbrev n_law_ratio_text : List Str := ["_law_one"]
theorem sc_law_ratio_text : FnScope ["_law_one"] ["_law_one"] (defScope s_law_ratio_text) := ⟨rfl, rfl, rfl, by decide +kernel, rfl, by decide +kernel, by decide +kernel⟩
abbrev s_law_same : Stmt := top 44
abbrev n_law_same : List Str := ["_law_found", "_law_due", "_law_one", "_law_two"]
theorem sc_law_same : FnScope ["_law_found", "_law_due", "_law_one", "_law_two"] ["_law_found", "_law_due"] (defScope s_law_same) := ⟨rfl, rfl, rfl, by decide +kernel, rfl, by decide +kernel, by decide +kernel⟩
abbrev s_law_figures : Stmt := top 45
abbrev n_law_figures : List Str := ["_law_text", "_law_sign"]
theorem sc_law_figures : FnScope ["_law_text", "_law_sign"] ["_law_text"] (defScope s_law_figures) := ⟨rfl, rfl, rfl, by decide +kernel, rfl, by decide +kernel, by decide +kernel⟩
abbrev s_law_ratio_of : Stmt := top 46
abbrev n_law_ratio_of : List Str := ["_law_text", "_law_body", "_law_top", "_law_stroke", "_law_under", "_law_found"]
theorem sc_law_ratio_of : FnScope ["_law_text", "_law_body", "_law_top", "_law_stroke", "_law_under", "_law_found"] ["_law_text"] (defScope s_law_ratio_of) := ⟨rfl, rfl, rfl, by decide +kernel, rfl, by decide +kernel, by decide +kernel⟩
abbrev s_law_why : Stmt := top 47
abbrev n_law_why : List Str := ["_law_ask", "_law_told", "e"]
theorem sc_law_why : FnScope ["_law_ask", "_law_told", "e"] ["_law_ask"] (defScope s_law_why) := ⟨rfl, rfl, rfl, by decide +kernel, rfl, by decide +kernel, by decide +kernel⟩
abbrev s_law : Stmt := top 48
abbrev n_law : List Str := ["_law_script", "_law_feed_here", "_law_turn", "_law_one", "_law_text", "_law_at", "_law_sign", "_law_bent", "_law_due", "_law_odd"]
theorem sc_law : FnScope ["_law_script", "_law_feed_here", "_law_turn", "_law_one", "_law_text", "_law_at", "_law_sign", "_law_bent", "_law_due", "_law_odd"] ["_law_script"] (defScope s_law) := ⟨rfl, rfl, rfl, by decide +kernel, rfl, by decide +kernel, by decide +kernel⟩
abbrev s_ParseError_init : Stmt := inClass (top 7) 0
theorem es_ParseError : ErrS s_ParseError_init "at" "ParseError" := ⟨⟨_, _, _, _, _, _, _, _, _, _, _, _, _, _, _, rfl, fun env => ⟨_, rfl⟩⟩, ⟨rfl, rfl, rfl, by decide +kernel, by decide +kernel, by decide +kernel, by decide +kernel, rfl, rfl⟩, ⟨_, rfl, rfl⟩, by decide, by decide, fun _ _ _ _ _ _ _ _ us hl => match us, hl with | [_, _], _ => rfl⟩
def dd_greatest_common : He.DefD := ⟨("greatest_common", none), "greatest_common", "greatest_common", defArgs s_greatest_common, defBody s_greatest_common, defScope s_greatest_common, [], []⟩
def dd_is_ratio : He.DefD := ⟨("is_ratio", none), "is_ratio", "is_ratio", defArgs s_is_ratio, defBody s_is_ratio, defScope s_is_ratio, [], []⟩
def dd_negated : He.DefD := ⟨("negated", none), "negated", "negated", defArgs s_negated, defBody s_negated, defScope s_negated, [], []⟩
def dd_ratio_text : He.DefD := ⟨("ratio_text", none), "ratio_text", "ratio_text", defArgs s_ratio_text, defBody s_ratio_text, defScope s_ratio_text, [], []⟩
def dd_is_number : He.DefD := ⟨("is_number", none), "is_number", "is_number", defArgs s_is_number, defBody s_is_number, defScope s_is_number, [], []⟩
def dd_read_ratio : He.DefD := ⟨("read_ratio", none), "read_ratio", "read_ratio", defArgs s_read_ratio, defBody s_read_ratio, defScope s_read_ratio, [], []⟩
def dd_law_feed : He.DefD := ⟨("_law_feed", none), "_law_feed", "_law_feed", defArgs s_law_feed, defBody s_law_feed, defScope s_law_feed, [], []⟩
def dd_law_take : He.DefD := ⟨("_law_take", none), "_law_take", "_law_take", defArgs s_law_take, defBody s_law_take, defScope s_law_take, [], []⟩
def dd_law_gcd : He.DefD := ⟨("_law_gcd", none), "_law_gcd", "_law_gcd", defArgs s_law_gcd, defBody s_law_gcd, defScope s_law_gcd, [], []⟩
def dd_law_low : He.DefD := ⟨("_law_low", none), "_law_low", "_law_low", defArgs s_law_low, defBody s_law_low, defScope s_law_low, [], []⟩
def dd_law_number : He.DefD := ⟨("_law_number", none), "_law_number", "_law_number", defArgs s_law_number, defBody s_law_number, defScope s_law_number, [], []⟩
def dd_law_pick : He.DefD := ⟨("_law_pick", none), "_law_pick", "_law_pick", defArgs s_law_pick, defBody s_law_pick, defScope s_law_pick, [], []⟩
def dd_law_ratio_text : He.DefD := ⟨("_law_ratio_text", none), "_law_ratio_text", "_law_ratio_text", defArgs s_law_ratio_text, defBody s_law_ratio_text, defScope s_law_ratio_text, [], []⟩
def dd_law_same : He.DefD := ⟨("_law_same", none), "_law_same", "_law_same", defArgs s_law_same, defBody s_law_same, defScope s_law_same, [], []⟩
def dd_law_figures : He.DefD := ⟨("_law_figures", none), "_law_figures", "_law_figures", defArgs s_law_figures, defBody s_law_figures, defScope s_law_figures, [], []⟩
def dd_law_ratio_of : He.DefD := ⟨("_law_ratio_of", none), "_law_ratio_of", "_law_ratio_of", defArgs s_law_ratio_of, defBody s_law_ratio_of, defScope s_law_ratio_of, [], []⟩
def dd_law_why : He.DefD := ⟨("_law_why", none), "_law_why", "_law_why", defArgs s_law_why, defBody s_law_why, defScope s_law_why, [], []⟩
def dd_law : He.DefD := ⟨("law", none), "law", "law", defArgs s_law, defBody s_law, defScope s_law, [], []⟩
def fn : List He.DefD := [dd_greatest_common, dd_is_ratio, dd_negated, dd_ratio_text, dd_is_number, dd_read_ratio, dd_law_feed, dd_law_take, dd_law_gcd, dd_law_low, dd_law_number, dd_law_pick, dd_law_ratio_text, dd_law_same, dd_law_figures, dd_law_ratio_of, dd_law_why, dd_law]
def fa : List He.Fa := [.glo "greatest_common", .glo "is_ratio", .glo "negated", .glo "ratio_text", .glo "is_number", .glo "read_ratio", .glo "_law_feed", .glo "_law_take", .glo "_law_gcd", .glo "_law_low", .glo "_law_number", .glo "_law_pick", .glo "_law_ratio_text", .glo "_law_same", .glo "_law_figures", .glo "_law_ratio_of", .glo "_law_why", .glo "law", .glo "InvalidRatio", .glo "InvalidTerm", .glo "Mismatch", .glo "NoLead", .glo "ParseError", .glo "InvalidLetters", .glo "InvalidBegin", .glo "InvalidMode", .glo "InvalidGuard", .glo "UnknownLetter", .glo "LettersDiffer", .glo "InvalidRecoding", .glo "NoText", .glo "InvalidDegree", .glo "Fails", .glo "InvalidName", .glo "DuplicateName", .glo "WrongSort", .glo "CapacityExceeded", .glo "InvalidLimit", .glo "InvalidCommand", .glo "InUse", .glo "UnknownName", .glo "NothingLeft", .free "ValueError", .free "LookupError", .free "IndexError", .free "list", .free "isinstance", .free "range", .free "abs", .free "str", .free "int", .free "bool", .free "all", .free "len", .free "tuple", .free "super", .free "zip", .exm "ParseError" "InvalidRatio" false, .exm "ParseError" "InvalidTerm" false, .exm "ParseError" "Mismatch" false, .exm "ParseError" "NoLead" false, .exm "ParseError" "ParseError" true, .exm "ParseError" "InvalidLetters" false, .exm "ParseError" "InvalidBegin" false, .exm "ParseError" "InvalidMode" false, .exm "ParseError" "InvalidGuard" false, .exm "ParseError" "UnknownLetter" false, .exm "ParseError" "LettersDiffer" false, .exm "ParseError" "InvalidRecoding" false, .exm "ParseError" "NoText" false, .exm "ParseError" "InvalidDegree" false, .exm "ParseError" "Fails" false, .exm "ParseError" "InvalidName" false, .exm "ParseError" "DuplicateName" false, .exm "ParseError" "WrongSort" false, .exm "ParseError" "CapacityExceeded" false, .exm "ParseError" "InvalidLimit" false, .exm "ParseError" "InvalidCommand" false, .exm "ParseError" "InUse" false, .exm "ParseError" "UnknownName" false, .exm "ParseError" "NothingLeft" false, .str "DIGITS" "0123456789", .int "MOST_DIGITS" 30]
def tf : List He.Defn := [("law", none)]
def ex (K : PySem.W.Frag) : Bool := errB K "ParseError" (some "at") "/claim/cut.py" && (true)
def fs : List (Str × Str) := [("ParseError", "__init__")]
def vs := [stVal "ParseError.__init__" s_ParseError_init]
def loose0 : List PySem.Str := ["TailError", "Missing", "InvalidRatio", "InvalidTerm", "Mismatch", "NoLead", "ParseError", "InvalidLetters", "InvalidBegin", "InvalidMode", "InvalidGuard", "UnknownLetter"]
def loose1 : List PySem.Str := ["LettersDiffer", "InvalidRecoding", "NoText", "InvalidDegree", "Fails", "InvalidName", "DuplicateName", "WrongSort", "CapacityExceeded", "InvalidLimit", "InvalidCommand", "InUse"]
def loose2 : List PySem.Str := ["UnknownName", "NothingLeft", "DIGITS", "MOST_DIGITS", "greatest_common", "is_ratio", "negated", "ratio_text", "is_number", "read_ratio", "_law_feed", "_law_take"]
def loose3 : List PySem.Str := ["_law_gcd", "_law_low", "_law_number", "_law_pick", "_law_ratio_text", "_law_same", "_law_figures", "_law_ratio_of", "_law_why"]
abbrev R : PySem.W.OpenRow := PySem.W.OpenLaw.row PySem.Challenge.rw_copytail_k03_texts_of_fractions
abbrev hk : PySem.W.Hook := hookC 6 fa fn tf ex fs vs
def ob (s : PySem.W.SharedT) := obsC 6 fa fn tf ex fs (HandSHeadRun.getT s)
theorem ob_eq (s : PySem.W.SharedT) : ob s = hk.obs s.abs := obsC_eq (vs := vs) (HandSHeadRun.getT_eq s)
def loose : List PySem.Str := loose0 ++ loose1 ++ loose2 ++ loose3
theorem run (w : World) : HandSHeadRun.RunEq R (PySem.W.view R.prog [48]) hk ob 9000 loose w := by
  intro os
  kernel_rfl
/-! ### _law_why -/
theorem gives_why {X : Cx} {g : Addr} {cdg : Value} {q : Str} {R : List (Str × Option Str)} (gE : ∀ m ∈ whyNames, X.mg m = some (.ref (ga X.K m))) (hR : ∀ n x, (n, x) ∈ R → WhyC X.K n x ∧ (∀ c ∈ whyCl, n ∈ c.1 → c.2 = x) ∧ ∃ c ∈ whyCl, n ∈ c.1) :
    GivesS X n_law_why "_law_why" (defScope s_law_why) g cdg (defBody s_law_why) "_law_ask" q (TWhy X.K R) := by
  intro f c' s H Q tl act hc h
  refine ⟨_, pss_cons (ps_set (i := 1) sc_law_why.nd rfl (.inl rfl) (pe_tup (pa_cons pe_str (pa_cons pe_non pa_nil))))
      (pss_cons (ps_try_manyAs (i := 2) (n := "e") (l := whyL X.K whyCl) (tb := fun W D σ H => tSeq (tDrop (fun σ H Q => σ[0]? = some (some (.ref f)) ∧ H c' = some (LamX.CodeO c' q) ∧ ∃ E : XK, (∀ cls d H', E cls d H' → W cls d σ H') ∧ tl E H Q)) tNext D σ H)
        rfl rfl sc_law_why.nd rfl rfl L2.takes0 (fun W pn xe tk _ => pss_one (ps_expr (act W pn xe _ _ tk)))
        (HdsAs.cons (ClTest.tup (NamesL.cons ⟨rfl, by decide, .inl (gE "InvalidRatio" (by decide +kernel))⟩ (NamesL.cons ⟨rfl, by decide, .inl (gE "InvalidDegree" (by decide +kernel))⟩ (NamesL.cons ⟨rfl, by decide, .inl (gE "InvalidLimit" (by decide +kernel))⟩ NamesL.nil))) (by show 3 ≤ 100; decide)) (fun a oe cls d pn hz hf => pss_one (ps_set (i := 1) sc_law_why.nd rfl (.inl rfl) (pe_tup (pa_cons (pe_xg hz hf (pv 2)) (pa_cons (pe_xg hz hf (pv 2)) pa_nil))))) (HdsAs.cons (ClTest.tup (NamesL.cons ⟨rfl, by decide, .inl (gE "InvalidTerm" (by decide +kernel))⟩ (NamesL.cons ⟨rfl, by decide, .inl (gE "ParseError" (by decide +kernel))⟩ (NamesL.cons ⟨rfl, by decide, .inl (gE "InvalidLetters" (by decide +kernel))⟩ (NamesL.cons ⟨rfl, by decide, .inl (gE "InvalidBegin" (by decide +kernel))⟩ (NamesL.cons ⟨rfl, by decide, .inl (gE "InvalidMode" (by decide +kernel))⟩ NamesL.nil))))) (by show 5 ≤ 100; decide)) (fun a oe cls d pn hz hf => pss_one (ps_set (i := 1) sc_law_why.nd rfl (.inl rfl) (pe_tup (pa_cons (pe_xg hz hf (pv 2)) (pa_cons (pe_xg hz hf (pv 2)) pa_nil))))) (HdsAs.cons (ClTest.tup (NamesL.cons ⟨rfl, by decide, .inl (gE "InvalidGuard" (by decide +kernel))⟩ (NamesL.cons ⟨rfl, by decide, .inl (gE "UnknownLetter" (by decide +kernel))⟩ (NamesL.cons ⟨rfl, by decide, .inl (gE "InvalidRecoding" (by decide +kernel))⟩ NamesL.nil))) (by show 3 ≤ 100; decide)) (fun a oe cls d pn hz hf => pss_one (ps_set (i := 1) sc_law_why.nd rfl (.inl rfl) (pe_tup (pa_cons (pe_xg hz hf (pv 2)) (pa_cons (pe_xg hz hf (pv 2)) pa_nil))))) (HdsAs.cons (ClTest.one ⟨rfl, by decide, .inl (gE "Mismatch" (by decide +kernel))⟩) (fun a oe cls d pn hz hf => pss_one (ps_set (i := 1) sc_law_why.nd rfl (.inl rfl) (pe_tup (pa_cons (pe_xg hz hf (pv 2)) (pa_cons (pe_xg hz hf (pv 2)) pa_nil))))) (HdsAs.cons (ClTest.tup (NamesL.cons ⟨rfl, by decide, .inl (gE "InvalidName" (by decide +kernel))⟩ (NamesL.cons ⟨rfl, by decide, .inl (gE "DuplicateName" (by decide +kernel))⟩ (NamesL.cons ⟨rfl, by decide, .inl (gE "WrongSort" (by decide +kernel))⟩ (NamesL.cons ⟨rfl, by decide, .inl (gE "UnknownName" (by decide +kernel))⟩ NamesL.nil)))) (by show 4 ≤ 100; decide)) (fun a oe cls d pn hz hf => pss_one (ps_set (i := 1) sc_law_why.nd rfl (.inl rfl) (pe_tup (pa_cons (pe_xg hz hf (pv 2)) (pa_cons (pe_xg hz hf (pv 2)) pa_nil))))) (HdsAs.cons (ClTest.one ⟨rfl, by decide, .inl (gE "CapacityExceeded" (by decide +kernel))⟩) (fun a oe cls d pn hz hf => pss_one (ps_set (i := 1) sc_law_why.nd rfl (.inl rfl) (pe_tup (pa_cons (pe_xg hz hf (pv 2)) (pa_cons (pe_xg hz hf (pv 2)) pa_nil))))) (HdsAs.cons (ClTest.one ⟨rfl, by decide, .inl (gE "InvalidCommand" (by decide +kernel))⟩) (fun a oe cls d pn hz hf => pss_one (ps_set (i := 1) sc_law_why.nd rfl (.inl rfl) (pe_tup (pa_cons (pe_xg hz hf (pv 2)) (pa_cons (pe_xg hz hf (pv 2)) pa_nil))))) (HdsAs.cons (ClTest.one ⟨rfl, by decide, .inl (gE "InUse" (by decide +kernel))⟩) (fun a oe cls d pn hz hf => pss_one (ps_set (i := 1) sc_law_why.nd rfl (.inl rfl) (pe_tup (pa_cons (pe_xg hz hf (pv 2)) (pa_cons (pe_xg hz hf (pv 2)) pa_nil))))) (HdsAs.cons (ClTest.one ⟨rfl, by decide, .inl (gE "Fails" (by decide +kernel))⟩) (fun a oe cls d pn hz hf => pss_one (ps_set (i := 1) sc_law_why.nd rfl (.inl rfl) (pe_tup (pa_cons (pe_xg hz hf (pv 2)) (pa_cons (pe_xg hz hf (pv 2)) pa_nil))))) (HdsAs.cons (ClTest.tup (NamesL.cons ⟨rfl, by decide, .inl (gE "NoLead" (by decide +kernel))⟩ (NamesL.cons ⟨rfl, by decide, .inl (gE "LettersDiffer" (by decide +kernel))⟩ (NamesL.cons ⟨rfl, by decide, .inl (gE "NoText" (by decide +kernel))⟩ (NamesL.cons ⟨rfl, by decide, .inl (gE "NothingLeft" (by decide +kernel))⟩ NamesL.nil)))) (by show 4 ≤ 100; decide)) (fun a oe cls d pn hz hf => pss_one (ps_set (i := 1) sc_law_why.nd rfl (.inl rfl) (pe_tup (pa_cons (pe_xg hz hf (pv 2)) (pa_cons pe_non pa_nil))))) HdsAs.nil)))))))))))
      (pss_one (ps_ret (pv 1)))), ?_⟩
  refine ⟨by decide, fun p hp => ⟨rfl, ?_, _, fun cls d H' he => ?_, h p _ hp (same_new hp) upd_same _ _ (fun v H' hq => ⟨_, rfl, hq⟩) fun cls d H' he => he⟩⟩
  · rw [upd_ne (ne_of_none hc hp)]
    exact hc
  · obtain ⟨n, x, v, hm, ht, hv, hq⟩ := he
    obtain ⟨C, h1, h2⟩ := hR n x hm
    refine why_reads C ht hv ?_ whyCl why_all h1 h2
    exact fun p hp => ⟨_, rfl, hq p _ hp (same_new hp) upd_same⟩
/-- _law_why(lambda: body) -/
theorem pe_why {X : Cx} {R : List (Str × Option Str)} {T : List (Addr × Str)} {c P : Addr} {k : Nat} {params : Arguments} {body : Expr} {scope : Scope} {t : XK → TE} {p lpos pos : Pos} (D : Dn X.K X.mg "_law_why" s_law_why [])
    (gE : ∀ m ∈ whyNames, X.mg m = some (.ref (ga X.K m))) (hR : ∀ n x, (n, x) ∈ R → WhyC X.K n x ∧ (∀ c ∈ whyCl, n ∈ c.1 → c.2 = x) ∧ ∃ c ∈ whyCl, n ∈ c.1)
    (TB : LamX.TabB X.base X.mg c P) (hcode : X.env.code = .ref c) (hmT : (P, X.env.qual ++ "<lambda>") ∈ T) (hu : ∀ p ∈ T, p.1 = P → p.2 = X.env.qual ++ "<lambda>") (hr : Room (k + 2) X.A) (L : LamX.LamS X.env.scope scope) (hdef : defaultsOf params X.env = ([], []))
    (hbind : ∀ (q : Str) (cl : List (Str × Addr)) (pm cv ctv : Value), bindArgs (PySem.W.kla_fn "<lambda>" q params body scope cl pm cv ctv) ⟨[], []⟩ = pure [])
    (hbody : ∀ (A : Around) (outer : List Env) (s : Shared) (H : Hp) (E : XK) (f c' : Addr), Room k (A.deeper (LamX.lamEnv X scope s.heap.objs.size f c')) → PE (LamX.lamCx X A outer s H E scope f c') body (t E)) (hg : Gl X "_law_why" := by rfl) :
    PE X (.Call (.Name "_law_why" p) [.Lambda params body scope lpos] [] pos) (LamX.tLam T (TWhy X.K R) t) := by
  obtain ⟨fd, F⟩ := D.f
  have kp := F.kp
  have b := F.bindsN (ps := ["_law_ask"]) (fun _ _ _ _ _ _ us hl => match us, hl with | [_], _ => rfl)
  obtain ⟨oc, od, dV, kV, doc, pm, an, cdv, ct, osl, rfl, lk, hcd, _, _⟩ := F.ex
  exact pe_lamcallS (k := k) hg D.g kp lk hcd b sc_law_why rfl (.inl rfl) (gives_why gE hR) TB hcode hmT hu hr L hdef hbind hbody

/-! ### _law_gcd, _law_low -/
def spGcd : Sp := fun vs H Q _ => ∃ a b : Int, vs = [.int a, .int b] ∧ Big a ∧ Big b ∧ Q (.int (Int.gcd a b)) H
def spLow : Sp := fun vs H Q _ => ∃ t u : Int, vs = [.int t, .int u] ∧ Big t ∧ Big u ∧ u ≠ 0 ∧ ∀ p H', H p = none → Same H H' → H' p = some (.tup [.int (fracT t u), .int (fracU t u)]) → Q (.ref p) H'
section
variable {P : Program} {w : World} {K : PySem.W.Frag} {mg : Str → Option Value} {base : Heap}
theorem ok_law_gcd (D : Dn K mg "_law_gcd" s_law_gcd []) (m_abs : mg "abs" = none) (m_int : mg "int" = none) : FOk P w K mg base 1 "_law_gcd" ["_law_one", "_law_two"] spGcd := by
  refine D.ok sc_law_gcd (fun _ _ _ _ _ _ us hl => match us, hl with | [_, _], _ => rfl) (fun vs H Q E h => ?_) (fun cdv A outer s H vs Q E hr h => ?_)
  · obtain ⟨a, b, rfl, _⟩ := h
    rfl
  · obtain ⟨a, b, rfl, ha, hb, hq⟩ := h
    refine ⟨_, (pss_cons 
    (ps_par (i := 0) (j := 1) (by rfl) sc_law_gcd.nd rfl rfl (by decide) rfl rfl (pa_cons (pe_callB call_abs (by rfl) m_abs (by decide +kernel) (pa_cons (pv 0) pa_nil)) (pa_cons (pe_callB call_abs (by rfl) m_abs (by decide +kernel) (pa_cons (pv 1) pa_nil)) pa_nil)) (by rfl)) (pss_cons 
    (ps_while PassesOwn.never (pt_cmpR op_ne (pv 1) pe_int (nomark _)) (pss_one 
      (ps_par (i := 0) (j := 1) (by rfl) sc_law_gcd.nd rfl rfl (by decide) rfl rfl (pa_cons (pv 1) (pa_cons (pe_op op_modN (pe_callTy call_int1 (by rfl) m_int (by decide +kernel) (pa_cons (pv 0) pa_nil)) (pv 1)) pa_nil)) (by rfl)))) (pss_one 
    (ps_ret (pv 0))))), ?_⟩
    refine ⟨_, rfl, _, rfl, _, rfl, _, rfl, _, _, rfl, ?_⟩
    refine while_by (fun σ H1 => ∃ x y : Int, σ = [some (.int x), some (.int y)] ∧ 0 ≤ x ∧ 0 ≤ y ∧ Big x ∧ Big y ∧ Int.gcd x y = Int.gcd a b ∧ H1 = H) (fun σ _ => match σ with | [_, some (.int y)] => y.toNat | _ => 0)
      ⟨_, _, rfl, by split <;> omega, by split <;> omega, ha.abs, hb.abs, gcd_abs a b, rfl⟩ (fun σ H1 hp => ?_) (fun σ H Q Q' hq ⟨v, h1, h2, k, h3, h4⟩ => ⟨v, h1, h2, k, h3, hq _ _ h4⟩)
    obtain ⟨x, y, rfl, hx, hy, hx2, hy2, hg, rfl⟩ := hp
    refine ⟨_, rfl, rfl, _, rfl, ?_⟩
    by_cases h0 : y = 0
    · subst h0
      refine iteNS rfl ⟨_, rfl, ?_⟩
      have e := gcd_end x hx
      rw [hg] at e
      rw [← e]
      exact hq
    · have h1 : decide (V.int y = V.int 0) = false := decide_eq_false fun z => h0 (V.int.inj z)
      rw [h1]
      have em : x.fmod y = x % y := Int.fmod_eq_emod_of_nonneg x hy
      have l1 : x % y < y := Int.emod_lt_of_pos x (by omega)
      have l0 : 0 ≤ x % y := Int.emod_nonneg x h0
      refine iteT ⟨_, rfl, _, rfl, .inl ⟨_, rfl, _, rfl, _, _, rfl, rfl, h0, _, _, rfl, ⟨y, x.fmod y, rfl, hy, by omega, hy2, hy2.le (by omega), ?_, rfl⟩, ?_⟩⟩
      · rw [em, gcd_step x y, hg]
      · show (x.fmod y).toNat < y.toNat
        omega
theorem ok_law_low (D : Dn K mg "_law_low" s_law_low []) (h_law_gcd : FOk P w K mg base 1 "_law_gcd" ["_law_one", "_law_two"] spGcd) : FOk P w K mg base 2 "_law_low" ["_law_top", "_law_under"] spLow := by
  refine D.ok sc_law_low (fun _ _ _ _ _ _ us hl => match us, hl with | [_, _], _ => rfl) (fun vs H Q E h => ?_) (fun cdv A outer s H vs Q E hr h => ?_)
  · obtain ⟨a, b, rfl, _⟩ := h
    rfl
  · obtain ⟨t, u, rfl, ht, hu, h0, hq⟩ := h
    refine ⟨_, (pss_cons 
    (ps_set (i := 2) sc_law_low.nd rfl (Or.inl rfl) (pe_callF h_law_gcd (hr.mono (by first | decide | omega)) (pa_cons (pv 0) (pa_cons (pv 1) pa_nil)))) (pss_cons 
    (ps_if (pt_cmpR op_lt (pv 1) pe_int (nomark _)) (pss_one 
      (ps_set (i := 2) sc_law_low.nd rfl (Or.inl rfl) (pe_un un_neg (pv 2)))) pss_nil) (pss_one 
    (ps_ret (pe_tup (pa_cons (pe_op op_fdivZ (pv 0) (pv 2)) (pa_cons (pe_op op_fdivZ (pv 1) (pv 2)) pa_nil))))))), ?_⟩
    refine ⟨_, rfl, _, rfl, t, u, rfl, ht, hu, _, rfl, _, _, rfl, rfl, _, rfl, ?_⟩
    have hg0 : (Int.gcd t u : Int) ≠ 0 := gcd_ne h0
    have hg1 : Big (Int.gcd t u : Int) := big_gcd2 hu h0
    by_cases hn : u < 0
    · refine itT (decide_eq_true hn) ⟨_, rfl, _, rfl, _, rfl, _, rfl, _, _, rfl, rfl, hg1.neg.div (by omega), _, rfl, _, rfl, _, _, rfl, rfl, hg1.neg.div (by omega), sl 2, fun p hp => ?_⟩
      refine hq p _ hp (same_new hp) ?_
      unfold fracT fracU den
      rw [if_pos hn]
      exact upd_same
    · refine itF (decide_eq_false hn) ⟨_, rfl, _, rfl, _, _, rfl, rfl, hg1.div (by omega), _, rfl, _, rfl, _, _, rfl, rfl, hg1.div (by omega), sl 2, fun p hp => ?_⟩
      refine hq p _ hp (same_new hp) ?_
      unfold fracT fracU den
      rw [if_neg hn]
      exact upd_same
end

/-! ### the draws: _law_feed, _law_take, _law_pick -/
/-- the feed at p over the cells ns at c -/
def Feed (H : Hp) (p c : Addr) (ns : List Int) : Prop := ∃ pos big mark : Int, H p = some (.lst [.ref c, .int pos, .int big, .int mark]) ∧ H c = some (.lst (ns.map V.int)) ∧ 0 ≤ pos ∧ ns.length ≤ 63 ∧ pos ≤ (ns.length : Int) ∧ 0 ≤ big ∧ 0 ≤ mark ∧ mark < 2147483648
theorem Feed.ne {H : Hp} {p c : Addr} {ns : List Int} (h : Feed H p c ns) : c ≠ p := by
  obtain ⟨pos, big, mark, h1, h2, _⟩ := h
  refine ne_of h2 h1 fun z => ?_
  have z := HO.lst.inj z
  cases ns with
  | nil => cases z
  | cons n r =>
    have z1 := (List.cons.inj z).1
    cases z1
theorem Feed.keep {H H' : Hp} {p c : Addr} {ns : List Int} (h : Feed H p c ns) (e : Same H H') : Feed H' p c ns := by
  obtain ⟨pos, big, mark, h1, h2, h3⟩ := h
  exact ⟨pos, big, mark, e _ _ h1, e _ _ h2, h3⟩
/-- the same but the feed -/
def But (p : Addr) (H H' : Hp) : Prop := ∀ b o, b ≠ p → H b = some o → H' b = some o
def spFeed (K : PySem.W.Frag) : Sp := fun vs H Q _ => ∃ (a : Addr) (ns : List Int), vs = [.ref a] ∧ SqL K H a (ns.map V.int) ∧ ns.length ≤ 63 ∧ ∀ H' p c, Same H H' → H p = none → H c = none → Feed H' p c ns → Q (.ref p) H'
def spTake : Sp := fun vs H Q _ => ∃ (p c : Addr) (ns : List Int) (m : Int), vs = [.ref p, .int m] ∧ Feed H p c ns ∧ 0 < m ∧ Big m ∧ ∀ r x, 0 ≤ r → r < m → Feed (upd H p x) p c ns → Q (.int r) (upd H p x)
def spPick (K : PySem.W.Frag) : Sp := fun vs H Q _ => ∃ (p c l : Addr) (ns : List Int) (xs : List V), vs = [.ref p, .ref l] ∧ Feed H p c ns ∧ l ≠ p ∧ SqL K H l xs ∧ 0 < xs.length ∧ xs.length ≤ 1000 ∧ ∀ v x, v ∈ xs → Feed (upd H p x) p c ns → Q v (upd H p x)
theorem sqL_but {K : PySem.W.Frag} {H : Hp} {p l : Addr} {x : HO} {xs : List V} (h : SqL K H l xs) (hn : l ≠ p) : SqL K (upd H p x) l xs := by
  rcases h with (h | ⟨o, h⟩) | h
  · exact .inl (.inl (by rw [upd_ne hn]; exact h))
  · exact .inl (.inr ⟨o, by rw [upd_ne hn]; exact h⟩)
  · exact .inr h
theorem cut63 {ns : List Int} (h : ns.length ≤ 63) : cutV (ns.map V.int) none (some 63) = ns.map V.int := by
  unfold cutV
  rw [HT.sIx_none, show HT.sIx (ns.map V.int).length (ns.map V.int).length (some 63) = min 63 (ns.map V.int).length from HT.sIx_nat _ _ 63, List.length_map, Nat.min_eq_right h]
  show ((ns.map V.int).drop 0).take (ns.length - 0) = ns.map V.int
  rw [List.drop_zero, Nat.sub_zero]
  exact List.take_of_length_le (by rw [List.length_map]; exact Nat.le_refl _)
theorem fmod_in {a m : Int} (h : 0 < m) : 0 ≤ a.fmod m ∧ a.fmod m < m := ⟨Int.fmod_nonneg_of_pos a h, Int.fmod_lt_of_pos a h⟩
section
variable {P : Program} {w : World} {K : PySem.W.Frag} {mg : Str → Option Value} {base : Heap}
theorem ok_law_feed (D : Dn K mg "_law_feed" s_law_feed []) (m_list : mg "list" = none) (m_len : mg "len" = none) (m_int : mg "int" = none) : FOk P w K mg base 1 "_law_feed" ["_law_script"] (spFeed K) := by
  refine D.ok sc_law_feed (fun _ _ _ _ _ _ us hl => match us, hl with | [_], _ => rfl) (fun vs H Q E h => ?_) (fun cdv A outer s H vs Q E hr h => ?_)
  · obtain ⟨a, ns, rfl, _⟩ := h
    rfl
  · obtain ⟨a, ns, rfl, hs, hl, hq⟩ := h
    refine ⟨_, (pss_cons 
    (ps_set (i := 1) sc_law_feed.nd rfl (Or.inl rfl) (pe_callTy call_list_of (by rfl) m_list (by decide +kernel) (pa_cons (pe_slice sl_list (pv 0) po_none (po_some pe_int)) pa_nil))) (pss_cons 
    (ps_set (i := 2) sc_law_feed.nd rfl (Or.inl rfl) (pe_op op_add pe_int (pe_op op_mulW pe_int (pe_callB call_len_seq (by rfl) m_len (by decide +kernel) (pa_cons (pv 1) pa_nil))))) (pss_cons 
    (ps_for PassesOwn.never rfl (pi_list (pv 1)) (pg_name (i := 3) sc_law_feed.nd rfl (Or.inl rfl)) (pss_one 
      (ps_set (i := 2) sc_law_feed.nd rfl (Or.inl rfl) (pe_op op_modN (pe_callTy call_int1 (by rfl) m_int (by decide +kernel) (pa_cons (pe_op op_add (pe_op op_add (pe_op op_mulW (pv 2) pe_int) (pe_op op_modN (pe_callTy call_int1 (by rfl) m_int (by decide +kernel) (pa_cons (pv 3) pa_nil)) pe_int)) pe_int) pa_nil)) pe_int)))) (pss_one 
    (ps_ret (pe_lst (pa_cons (pv 1) (pa_cons pe_int (pa_cons pe_int (pa_cons (pv 2) pa_nil)))))))))), ?_⟩
    refine ⟨_, rfl, 63, rfl, a, _, rfl, hs, fun q hq1 => ⟨q, _, rfl, .inl (.of upd_same), fun c hc => ?_⟩⟩
    rw [cut63 hl]
    have hcq : c ≠ q := fun z => by rw [z, upd_same] at hc; cases hc
    have hc0 : H c = none := by rw [upd_ne hcq] at hc; exact hc
    obtain ⟨H1, e1⟩ : ∃ H1, H1 = upd (upd H q (.lst (ns.map V.int))) c (.lst (ns.map V.int)) := ⟨_, rfl⟩
    have sm : Same H H1 := fun b o e => by rw [e1, upd_ne (ne_of_none e hc0), upd_ne (ne_of_none e hq1)]; exact e
    have hc1 : H1 c = some (.lst (ns.map V.int)) := by rw [e1, upd_same]
    rw [← e1]
    refine ⟨_, rfl, c, _, rfl, .inl (.of hc1), 11, _, rfl, rfl, wide_mul (a := 4) (b := 64) (by decide) (by rw [List.length_map]; omega) (by decide) (by decide) (by decide), _, _, rfl, rfl, ?_⟩
    refine ⟨_, rfl, c, rfl, ⟨_, .of hc1⟩, for_list (xs := ns.map V.int) (fun i σ H2 => ∃ m x : _, σ = [some (.ref a), some (.ref c), some (.int m), x] ∧ 0 ≤ m ∧ m < 2147483648 ∧ H2 = H1) ⟨_, none, rfl, by rw [List.length_map]; omega, by rw [List.length_map]; omega, rfl⟩ (fun i σ H2 _ h => ?_) (fun i x σ H2 hx h => ?_) (fun σ H2 h => ?_)⟩
    · obtain ⟨_, _, _, _, _, rfl⟩ := h
      exact .of hc1
    · obtain ⟨m, y, rfl, h0, h1, rfl⟩ := h
      rw [List.getElem?_map] at hx
      obtain ⟨n, _, rfl⟩ := Option.map_eq_some_iff.mp hx
      have b1 := fmod_in (a := n) (m := 1000003) (by decide)
      have b2 := fmod_in (a := m * 16807 + n.fmod 1000003 + 7) (m := 2147483629) (by decide)
      refine ⟨_, rfl, _, _, rfl, rfl, wide_mul (a := 32) (b := 16) (by omega) (by decide) (by decide) (by decide) (by decide), _, rfl, .inl ⟨_, rfl, _, _, rfl, rfl, nz 1000003, _, _, rfl, rfl, _, _, rfl, rfl, .inl ⟨_, rfl, _, _, rfl, rfl, nz 2147483629, _, _, rfl, b2.1, by omega, rfl⟩⟩⟩
    · obtain ⟨m, y, rfl, h0, h1, rfl⟩ := h
      refine ⟨_, rfl, _, rfl, sl 4, fun p hp => ?_⟩
      have hp0 : H p = none := sm.free hp
      refine hq _ p c (fun b o e => ?_) hp0 hc0 ⟨0, 0, m, upd_same, ?_, Int.le_refl _, hl, by omega, Int.le_refl _, h0, h1⟩
      · rw [upd_ne (ne_of_none e hp0)]
        exact sm _ _ e
      · rw [upd_ne (ne_of_none hc1 hp)]
        exact hc1
end

section
variable {P : Program} {w : World} {K : PySem.W.Frag} {mg : Str → Option Value} {base : Heap}
theorem ok_law_take (D : Dn K mg "_law_take" s_law_take []) (m_len : mg "len" = none) (m_int : mg "int" = none) : FOk P w K mg base 1 "_law_take" ["_law_feed_here", "_law_many"] spTake := by
  refine D.ok sc_law_take (fun _ _ _ _ _ _ us hl => match us, hl with | [_, _], _ => rfl) (fun vs H Q E h => ?_) (fun cdv A outer s H vs Q E hr h => ?_)
  · obtain ⟨a, c, ns, m, rfl, _⟩ := h
    rfl
  · obtain ⟨p, c, ns, m, rfl, hf, hm0, hmb, hq⟩ := h
    refine ⟨_, (pss_cut 
    (ps_if (PW.pt (pw_and (pt_cmpR op_eq (pe_ix ix_list (pv 0) pe_int (fun _ _ => rfl)) pe_int (nomark _)) (pw_and1 (pt_cmpR op_lt (pe_ix ix_list (pv 0) pe_int (fun _ _ => rfl)) (pe_callB call_len_seq (by rfl) m_len (by decide +kernel) (pa_cons (pe_ix ix_list (pv 0) pe_int (fun _ _ => rfl)) pa_nil)) (nomark _))))) (pss_cons 
      (ps_set (i := 2) sc_law_take.nd rfl (Or.inl rfl) (pe_ix ix_list (pe_ix ix_list (pv 0) pe_int (fun _ _ => rfl)) (pe_ix ix_list (pv 0) pe_int (fun _ _ => rfl)) (fun _ _ => rfl))) (pss_cons 
      (ps_asg (pe_op op_add (pe_ix ix_list (pv 0) pe_int (fun _ _ => rfl)) pe_int) (pg_sub (pv 0) pe_int set_list)) (pss_one 
      (ps_if (pt_cmpR op_ge (pv 2) (pe_op op_pow pe_int pe_int) (nomark _)) (pss_one 
        (ps_asg (pv 2) (pg_sub (pv 0) pe_int set_list))) (pss_cons 
        (ps_set (i := 3) sc_law_take.nd rfl (Or.inl rfl) (pe_op op_add (pe_op op_mulW (pe_ix ix_list (pv 0) pe_int (fun _ _ => rfl)) pe_int) (pe_op op_modN (pe_callTy call_int1 (by rfl) m_int (by decide +kernel) (pa_cons (pv 2) pa_nil)) pe_int))) (pss_one 
        (ps_asg (pe_op op_modN (pe_callTy call_int1 (by rfl) m_int (by decide +kernel) (pa_cons (pe_op op_add (pv 3) (pe_op op_mulW (pe_ix ix_list (pv 0) pe_int (fun _ _ => rfl)) pe_int)) pa_nil)) pe_int) (pg_sub (pv 0) pe_int set_list)))))))) pss_nil) (pss_cons 
    (ps_if (pt_cmpR op_gt (pe_ix ix_list (pv 0) pe_int (fun _ _ => rfl)) pe_int (nomark _)) (pss_cons 
      (ps_set (i := 4) sc_law_take.nd rfl (Or.inl rfl) (pe_op op_modN (pe_callTy call_int1 (by rfl) m_int (by decide +kernel) (pa_cons (pe_ix ix_list (pv 0) pe_int (fun _ _ => rfl)) pa_nil)) (pv 1))) (pss_cons 
      (ps_asg (pe_op op_fdivW (pe_ix ix_list (pv 0) pe_int (fun _ _ => rfl)) (pv 1)) (pg_sub (pv 0) pe_int set_list)) (pss_one 
      (ps_ret (pv 4))))) pss_nil) (pss_cons 
    (ps_asg (pe_op op_modN (pe_callTy call_int1 (by rfl) m_int (by decide +kernel) (pa_cons (pe_op op_add (pe_op op_mulW (pe_ix ix_list (pv 0) pe_int (fun _ _ => rfl)) pe_int) pe_int) pa_nil)) pe_int) (pg_sub (pv 0) pe_int set_list)) (pss_one 
    (ps_ret (pe_op op_modN (pe_callTy call_int1 (by rfl) m_int (by decide +kernel) (pa_cons (pe_op op_fdivW (pe_op op_modN (pe_callTy call_int1 (by rfl) m_int (by decide +kernel) (pa_cons (pe_op op_mulW (pe_ix ix_list (pv 0) pe_int (fun _ _ => rfl)) (pe_ix ix_list (pv 0) pe_int (fun _ _ => rfl))) pa_nil)) pe_int) pe_int) pa_nil)) (pv 1))))))), ?_⟩
    have hne := hf.ne
    obtain ⟨pos, big, mark, h1, h2, hp0, hl, hp1, hb0, hk0, hk1⟩ := hf
    have fd : ∀ pos big mark : Int, 0 ≤ pos → pos ≤ (ns.length : Int) → 0 ≤ big → 0 ≤ mark → mark < 2147483648 → Feed (upd H p (.lst [.ref c, .int pos, .int big, .int mark])) p c ns := fun pos big mark a1 a2 a3 a4 a5 =>
      ⟨pos, big, mark, upd_same, by rw [upd_ne hne]; exact h2, a1, hl, a2, a3, a4, a5⟩
    -- behind the first test
    refine ⟨fun σ H' => ∃ (x2 x3 : Option V) (pos big mark : Int), σ = [some (.ref p), some (.int m), x2, x3, none] ∧ H' = upd H p (.lst [.ref c, .int pos, .int big, .int mark]) ∧ 0 ≤ pos ∧ pos ≤ (ns.length : Int) ∧ 0 ≤ big ∧ 0 ≤ mark ∧ mark < 2147483648, ?_, fun σ H' hw => ?_⟩
    · have same : H = upd H p (.lst [.ref c, .int pos, .int big, .int mark]) := by
        funext b
        by_cases e : b = p
        · rw [e, upd_same, h1]
        · rw [upd_ne e]
      refine ⟨_, rfl, p, _, 2, .int big, rfl, rfl, .of h1, rfl, rfl, _, rfl, ?_⟩
      refine it2 (fun e1 => ?_) (fun e1 => ?_)
      · have eb : big = 0 := V.int.inj (of_decide_eq_true e1)
        subst eb
        refine ⟨_, rfl, p, _, 1, .int pos, rfl, rfl, .of h1, rfl, _, rfl, p, _, 0, .ref c, rfl, rfl, .of h1, rfl, c, _, rfl, .inl (.of h2), _, _, rfl, rfl, _, rfl, itD (fun e2 => ?_) (fun e2 => ?_)⟩
        · have hlt : pos.toNat < ns.length := by
            rw [List.length_map] at e2
            omega
          have ep : pos = (pos.toNat : Int) := by omega
          obtain ⟨z, hz⟩ : ∃ z, ns[pos.toNat]? = some z := ⟨_, List.getElem?_eq_getElem hlt⟩
          have ha : atI (ns.map V.int) pos = some (.int z) := by
            rw [ep]
            exact atI_nat (by rw [List.getElem?_map, hz]; rfl)
          refine ⟨_, rfl, p, _, 0, .ref c, rfl, rfl, .of h1, rfl, _, rfl, p, _, 1, .int pos, rfl, rfl, .of h1, rfl, c, _, pos, .int z, rfl, rfl, .of h2, ha, ?_⟩
          refine ⟨_, rfl, p, _, 1, .int pos, rfl, rfl, .of h1, rfl, _, _, rfl, rfl, _, rfl, p, _, 1, 1, rfl, rfl, h1, rfl, ?_⟩
          refine ⟨_, rfl, 10, 18, rfl, rfl, ⟨by decide, by decide, by decide⟩, _, _, rfl, rfl, _, rfl, itD (fun e3 => ?_) (fun e3 => ?_)⟩
          · refine ⟨_, rfl, _, rfl, p, _, 2, 2, rfl, rfl, upd_same, rfl, some (.int z), none, pos + 1, z, mark, rfl, by rw [upd_upd]; rfl, by omega, by omega, ?_, hk0, hk1⟩
            exact Int.le_trans (by decide) e3
          · have b0 := fmod_in (a := z) (m := 2147483563) (by decide)
            refine ⟨_, rfl, p, _, 3, .int mark, rfl, rfl, .of upd_same, rfl, _, _, rfl, rfl, wide_mul (a := 32) (b := 17) (by omega) (by decide) (by decide) (by decide) (by decide), _, rfl, .inl ⟨_, rfl, _, _, rfl, rfl, nz 2147483563, _, _, rfl, rfl, ?_⟩⟩
            have b1 := fmod_in (a := mark * 48271 + z.fmod 2147483563 + (pos + 1) * 907) (m := 2147483647) (by decide)
            refine ⟨_, rfl, _, rfl, p, _, 1, .int (pos + 1), rfl, rfl, .of upd_same, rfl, _, _, rfl, rfl, wide_mul (a := 8) (b := 10) (by omega) (by decide) (by decide) (by decide) (by decide), _, _, rfl, rfl, .inl ⟨_, rfl, _, _, rfl, rfl, nz 2147483647, _, rfl, p, _, 3, 3, rfl, rfl, upd_same, rfl, ?_⟩⟩
            exact ⟨some (.int z), some (.int (mark * 48271 + z.fmod 2147483563)), pos + 1, 0, _, rfl, by rw [upd_upd]; rfl, by omega, by omega, by decide, b1.1, by omega⟩
        · exact ⟨none, none, pos, 0, mark, rfl, same, hp0, hp1, hb0, hk0, hk1⟩
      · refine itF rfl ?_
        exact ⟨none, none, pos, big, mark, rfl, same, hp0, hp1, hb0, hk0, hk1⟩
    · obtain ⟨x2, x3, pos, big, mark, rfl, rfl, a1, a2, a3, a4, a5⟩ := hw
      have u1 : (upd H p (.lst [.ref c, .int pos, .int big, .int mark])) p = some (.lst [.ref c, .int pos, .int big, .int mark]) := upd_same
      refine ⟨_, rfl, p, _, 2, .int big, rfl, rfl, .of u1, rfl, _, _, rfl, rfl, _, rfl, itD (fun e2 => ?_) (fun e2 => ?_)⟩
      · have b1 := fmod_in (a := big) hm0
        refine ⟨_, rfl, p, _, 2, .int big, rfl, rfl, .of u1, rfl, .inl ⟨_, rfl, _, rfl, _, _, rfl, rfl, by omega, ?_⟩⟩
        refine ⟨_, rfl, p, _, 2, .int big, rfl, rfl, .of u1, rfl, _, rfl, _, _, rfl, rfl, hmb.divW hm0, _, rfl, p, _, 2, 2, rfl, rfl, u1, rfl, _, rfl, ?_⟩
        rw [upd_upd]
        exact hq _ _ b1.1 b1.2 (fd pos (big / m) mark a1 a2 (Int.ediv_nonneg a3 (by omega)) a4 a5)
      · have b1 := fmod_in (a := mark * 69621 + 17) (m := 2147483647) (by decide)
        refine ⟨_, rfl, p, _, 3, .int mark, rfl, rfl, .of u1, rfl, _, _, rfl, rfl, wide_mul (a := 32) (b := 18) (by omega) (by decide) (by decide) (by decide) (by decide), _, _, rfl, rfl, .inl ⟨_, rfl, _, _, rfl, rfl, nz 2147483647, _, rfl, p, _, 3, 3, rfl, rfl, u1, rfl, ?_⟩⟩
        rw [upd_upd]
        have b2 := fmod_in (a := ((mark * 69621 + 17).fmod 2147483647) * ((mark * 69621 + 17).fmod 2147483647)) (m := 998244353) (by decide)
        have b3 := fmod_in (a := (((mark * 69621 + 17).fmod 2147483647) * ((mark * 69621 + 17).fmod 2147483647)).fmod 998244353 / 19) hm0
        have hf2 := fd pos big ((mark * 69621 + 17).fmod 2147483647) a1 a2 a3 b1.1 (by omega)
        refine ⟨_, rfl, p, _, 3, .int ((mark * 69621 + 17).fmod 2147483647), rfl, rfl, .of upd_same, rfl, _, rfl, p, _, 3, .int ((mark * 69621 + 17).fmod 2147483647), rfl, rfl, .of upd_same, rfl, _, _, rfl, rfl, wide_mul (a := 32) (b := 32) (by omega) (by omega) (by decide) (by decide) (by decide), .inl ⟨_, rfl, _, _, rfl, rfl, nz 998244353, _, _, rfl, rfl,
          wide_div (b := 5) (by decide) (by decide) (by decide) (by decide), .inl ⟨_, rfl, _, rfl, _, _, rfl, rfl, by omega, ?_⟩⟩⟩
        have := hq _ _ b3.1 b3.2 hf2
        exact this
theorem ok_law_pick (D : Dn K mg "_law_pick" s_law_pick []) (h_law_take : FOk P w K mg base 1 "_law_take" ["_law_feed_here", "_law_many"] spTake) (m_len : mg "len" = none) : FOk P w K mg base 2 "_law_pick" ["_law_feed_here", "_law_things"] (spPick K) := by
  refine D.ok sc_law_pick (fun _ _ _ _ _ _ us hl => match us, hl with | [_, _], _ => rfl) (fun vs H Q E h => ?_) (fun cdv A outer s H vs Q E hr h => ?_)
  · obtain ⟨_, _, _, _, _, rfl, _⟩ := h
    rfl
  · obtain ⟨p, c, l, ns, xs, rfl, hf, hne, hs, h0, h1, hq⟩ := h
    refine ⟨_, (pss_one 
    (ps_ret (pe_ix ix_list (pv 1) (pe_callF h_law_take (hr.mono (by first | decide | omega)) (pa_cons (pv 0) (pa_cons (pe_callB call_len_seq (by rfl) m_len (by decide +kernel) (pa_cons (pv 1) pa_nil)) pa_nil))) (fun _ _ => rfl)))), ?_⟩
    refine ⟨_, rfl, _, rfl, _, rfl, l, xs, rfl, .inl hs, p, c, ns, _, rfl, hf, by omega, big_small (n := 64) (by omega) (by decide), fun r x r0 r1 hf2 => ?_⟩
    obtain ⟨k, rfl⟩ : ∃ k : Nat, r = k := ⟨r.toNat, by omega⟩
    have hr2 : k < xs.length := by omega
    exact ⟨l, xs, k, xs[k], rfl, rfl, sqL_but hs hne, atI_nat (List.getElem?_eq_getElem hr2), hq _ _ (List.getElem_mem hr2) hf2⟩
end
/-! ### what stays -/
theorem Feed.lst {H : Hp} {p c : Addr} {ns : List Int} (h : Feed H p c ns) : ∃ xs, H p = some (.lst xs) := by
  obtain ⟨_, _, _, h, _⟩ := h
  exact ⟨_, h⟩
theorem Feed.new {H : Hp} {p c l : Addr} {ns : List Int} {o : HO} (h : Feed H p c ns) (hl : H l = none) : Feed (upd H l o) p c ns := h.keep (same_new hl)
theorem Feed.far {H : Hp} {p c l : Addr} {ns : List Int} (h : Feed H p c ns) (hl : H l = none) : l ≠ p := by
  obtain ⟨xs, e⟩ := h.lst
  exact (ne_of_none e hl).symm
theorem tabs_new {T : List (Addr × Str)} {H : Hp} {l : Addr} {o : HO} (t : LamX.Tabs T H) (hl : H l = none) : LamX.Tabs T (upd H l o) := t.ext (same_new hl)
theorem tabs_draw {T : List (Addr × Str)} {H : Hp} {p c : Addr} {ns : List Int} {x : HO} (t : LamX.Tabs T H) (h : Feed H p c ns) : LamX.Tabs T (upd H p x) := by
  obtain ⟨xs, e⟩ := h.lst
  exact Tabs.but t e but_upd
/-- the heap behind a draw -/
structure Nxt (p c : Addr) (ns : List Int) (H H' : Hp) : Prop where
  f : Feed H' p c ns
  but : ∀ b o, b ≠ p → H b = some o → H' b = some o
theorem Nxt.tabs {T : List (Addr × Str)} {H H' : Hp} {p c : Addr} {ns : List Int} (n : Nxt p c ns H H') (h : Feed H p c ns) (t : LamX.Tabs T H) : LamX.Tabs T H' := by
  obtain ⟨xs, e⟩ := h.lst
  exact Tabs.but t e n.but
theorem Nxt.at {H H' : Hp} {p c b : Addr} {o : HO} {ns : List Int} (n : Nxt p c ns H H') (hn : b ≠ p) (h : H b = some o) : H' b = some o := n.but _ _ hn h
def spTakeA : Sp := fun vs H Q _ => ∃ (p c : Addr) (ns : List Int) (m : Int), vs = [.ref p, .int m] ∧ Feed H p c ns ∧ 0 < m ∧ Big m ∧ ∀ r H', 0 ≤ r → r < m → Nxt p c ns H H' → Q (.int r) H'
def spPickA (K : PySem.W.Frag) : Sp := fun vs H Q _ => ∃ (p c l : Addr) (ns : List Int) (xs : List V), vs = [.ref p, .ref l] ∧ Feed H p c ns ∧ l ≠ p ∧ SqL K H l xs ∧ 0 < xs.length ∧ xs.length ≤ 1000 ∧ ∀ v H', v ∈ xs → Nxt p c ns H H' → Q v H'
theorem FOkX.takeA {P : Program} {w : World} {K : PySem.W.Frag} {mg : Str → Option Value} {base : Heap} {k : Nat} {n : Str} {ps : List Str} (F : FOk P w K mg base k n ps spTake) : FOk P w K mg base k n ps spTakeA :=
  F.imp fun vs H Q E ⟨p, c, ns, m, e, h1, h2, h3, h4⟩ => ⟨p, c, ns, m, e, h1, h2, h3, fun r x a b f => h4 r _ a b ⟨f, but_upd⟩⟩
theorem FOkX.pickA {P : Program} {w : World} {K : PySem.W.Frag} {mg : Str → Option Value} {base : Heap} {k : Nat} {n : Str} {ps : List Str} (F : FOk P w K mg base k n ps (spPick K)) : FOk P w K mg base k n ps (spPickA K) :=
  F.imp fun vs H Q E ⟨p, c, l, ns, xs, e, h1, h2, h3, h4, h5, h6⟩ => ⟨p, c, l, ns, xs, e, h1, h2, h3, h4, h5, fun v x a f => h6 v _ a ⟨f, but_upd⟩⟩
theorem Feed.extN {H H' : Hp} {p c : Addr} {ns : List Int} (h : Feed H p c ns) (e : LamX.ExtN H H') : Feed H' p c ns := by
  obtain ⟨pos, big, mark, h1, h2, h3⟩ := h
  exact ⟨pos, big, mark, e _ _ h1 (fun _ z => by cases z), e _ _ h2 (fun _ z => by cases z), h3⟩
theorem Nxt.trans {H H1 H2 : Hp} {p c : Addr} {ns : List Int} (a : Nxt p c ns H H1) (b : Nxt p c ns H1 H2) : Nxt p c ns H H2 := ⟨b.f, fun x o hx e => b.but _ _ hx (a.but _ _ hx e)⟩
theorem Nxt.same {H H1 H2 : Hp} {p c : Addr} {ns : List Int} (a : Nxt p c ns H H1) (s : Same H1 H2) : Nxt p c ns H H2 := ⟨a.f.keep s, fun x o hx e => s _ _ (a.but _ _ hx e)⟩
theorem Feed.tup_ne {H : Hp} {p c r : Addr} {ns : List Int} {xs : List V} (h : Feed H p c ns) (e : H r = some (.tup xs)) : r ≠ p := by
  obtain ⟨ys, q⟩ := h.lst
  exact ne_of e q fun z => by cases z
theorem sqL_nxt {K : PySem.W.Frag} {H H' : Hp} {p c l : Addr} {ns : List Int} {xs : List V} (n : Nxt p c ns H H') (hn : l ≠ p) (h : SqL K H l xs) : SqL K H' l xs := by
  rcases h with (h | ⟨o, h⟩) | h
  · exact .inl (.inl (n.at hn h))
  · exact .inl (.inr ⟨o, n.at hn h⟩)
  · exact .inr h
theorem Feed.off {H : Hp} {p c l : Addr} {ns : List Int} {o : HO} (h : Feed H p c ns) (hp : p ≠ l) (hc : c ≠ l) : Feed (upd H l o) p c ns := by
  obtain ⟨pos, big, mark, h1, h2, h3⟩ := h
  exact ⟨pos, big, mark, by rw [upd_ne hp]; exact h1, by rw [upd_ne hc]; exact h2, h3⟩
theorem Feed.offs {H : Hp} {p c l : Addr} {ns : List Int} (h : Feed H p c ns) (hl : H l = none) : p ≠ l ∧ c ≠ l := by
  obtain ⟨pos, big, mark, h1, h2, h3⟩ := h
  exact ⟨ne_of_none h1 hl, ne_of_none h2 hl⟩

/-! ### _law_same of equal data -/
def spSame (K : PySem.W.Frag) : Nat → Sp
  | 0 => fun _ _ _ _ => False
  | n + 1 => fun vs H Q _ => ∃ x y, vs = [x, y] ∧ EqD K H n x y ∧ ∀ H', Same H H' → Q (.bl true) H'
theorem tyx_t {K : PySem.W.Frag} {H : Hp} {a : Addr} {xs : List V} (h : SqT K H a xs) : TyX K H (.ref a) (.type "tuple") := by
  rcases h with (h | ⟨o, h⟩) | ⟨o, its, n, h, c, _⟩
  · exact .base (.tup h)
  · exact .fTuple h
  · exact .kTuple h c
theorem tyx_l {K : PySem.W.Frag} {H : Hp} {a : Addr} {xs : List V} (h : SqL K H a xs) : TyX K H (.ref a) (.type "list") := by
  rcases h with (h | ⟨o, h⟩) | ⟨o, its, n, h, c, _⟩
  · exact .base (.lst h)
  · exact .base (.frz h)
  · exact .kList h c
theorem kit_is {K : PySem.W.Frag} {t : String} {b1 b2 : Bool} (e1 : kitB t "int" = some b1) (e2 : kitB t "str" = some b2) : PySem.W.kitAny K (.type t) [.type "int", .type "str"] = some (b1 || b2) := by
  refine kitAny_cons (kit_ty e1) (fun h => kitAny_cons (r := b1 || b2) (kit_ty e2) (fun h2 => ?_) fun h2 => ?_) fun h => ?_
  · rw [h, h2]
    rfl
  · rw [h2, Bool.or_true]
  · rw [h]
    rfl
theorem walk_zipT {K : PySem.W.Frag} {a b : Addr} {xs ys : List V} {n : Nat} (hn : n = min xs.length ys.length) : Walk (RZ.ItzT K a b) n (fun H => SqT K H a xs ∧ SqT K H b ys) (YPair (fun i => xs[i]?) (fun i => ys[i]?)) := by
  subst hn
  refine ⟨fun i _ hi q => ?_, fun _ q => ⟨xs, ys, q.1, q.2, by omega⟩, fun i H v H' _ q y => ?_⟩
  · have h1 : i < xs.length := by omega
    have h2 : i < ys.length := by omega
    exact ⟨xs, ys, xs[i], ys[i], q.1, q.2, by simp [h1], by simp [h2]⟩
  · obtain ⟨T, x, z, h1, h2, h3, h4, h5⟩ := y
    exact ⟨T, x, z, h1, h2, h3, h4 xs q.1, h5 ys q.2⟩
section
variable {P : Program} {w : World} {K : PySem.W.Frag} {mg : Str → Option Value} {base : Heap}
theorem ok_law_same (D : Dn K mg "_law_same" s_law_same []) (m_isinstance : mg "isinstance" = none) (m_bool : mg "bool" = none) (m_int : mg "int" = none) (m_str : mg "str" = none) (m_tuple : mg "tuple" = none) (m_list : mg "list" = none) (m_len : mg "len" = none) (m_all : mg "all" = none) (m_zip : mg "zip" = none) :
    ∀ n : Nat, FOk P w K mg base n "_law_same" ["_law_found", "_law_due"] (spSame K n)
  | 0 => by
    obtain ⟨fd, F⟩ := D.f
    exact ⟨D.g, F.kp, fd, ⟨fun _ _ _ _ h => h.elim, fun _ _ _ _ _ _ _ _ _ _ _ _ _ h => h.elim⟩, F.bindsN (fun _ _ _ _ _ _ us hl => match us, hl with | [_, _], _ => rfl)⟩
  | n + 1 => by
    have h_law_same := ok_law_same D m_isinstance m_bool m_int m_str m_tuple m_list m_len m_all m_zip n
    refine D.ok sc_law_same (fun _ _ _ _ _ _ us hl => match us, hl with | [_, _], _ => rfl) (fun vs H Q E h => ?_) (fun cdv A outer s H vs Q E hr h => ?_)
    · obtain ⟨_, _, rfl, _⟩ := h
      rfl
    · obtain ⟨x, y, rfl, hd, hq⟩ := h
      refine ⟨_, (pss_cons 
    (ps_if (pt_cmpR op_isN (pv 1) pe_non (nomark _)) (pss_one 
      (ps_ret (pe_cmpR op_isN (pv 0) pe_non (nomark _)))) pss_nil) (pss_cons 
    (ps_if (PW.pt (pw_or (pt_val (pe_callB call_isi (by rfl) m_isinstance (by decide +kernel) (pa_cons (pv 1) (pa_cons (pe_bty (T := "bool") m_bool) pa_nil)))) (pw_or1 (pt_val (pe_callB call_isi (by rfl) m_isinstance (by decide +kernel) (pa_cons (pv 0) (pa_cons (pe_bty (T := "bool") m_bool) pa_nil))))))) (pss_one 
      (ps_ret (pe_and (pe_callB call_isi (by rfl) m_isinstance (by decide +kernel) (pa_cons (pv 1) (pa_cons (pe_bty (T := "bool") m_bool) pa_nil))) (pe_and (pe_callB call_isi (by rfl) m_isinstance (by decide +kernel) (pa_cons (pv 0) (pa_cons (pe_bty (T := "bool") m_bool) pa_nil))) (pe_one (pe_cmpR op_eq (pv 0) (pv 1) (nomark _))))))) pss_nil) (pss_cons 
    (ps_if (pt_val (pe_callB call_isiT (by rfl) m_isinstance (by decide +kernel) (pa_cons (pv 1) (pa_cons (pe_tup (pa_cons (pe_bty (T := "int") m_int) (pa_cons (pe_bty (T := "str") m_str) pa_nil))) pa_nil)))) (pss_one 
      (ps_ret (pe_and (pe_callB call_isiT (by rfl) m_isinstance (by decide +kernel) (pa_cons (pv 0) (pa_cons (pe_tup (pa_cons (pe_bty (T := "int") m_int) (pa_cons (pe_bty (T := "str") m_str) pa_nil))) pa_nil))) (pe_and (pe_cmpR op_eq (pe_callB call_isi (by rfl) m_isinstance (by decide +kernel) (pa_cons (pv 0) (pa_cons (pe_bty (T := "int") m_int) pa_nil))) (pe_callB call_isi (by rfl) m_isinstance (by decide +kernel) (pa_cons (pv 1) (pa_cons (pe_bty (T := "int") m_int) pa_nil))) (nomark _)) (pe_one (pe_cmpR op_eq (pv 0) (pv 1) (nomark _))))))) pss_nil) (pss_cons 
    (ps_if (PW.pt (pw_or (pt_cmpR op_ne (pe_callB call_isi (by rfl) m_isinstance (by decide +kernel) (pa_cons (pv 1) (pa_cons (pe_bty (T := "tuple") m_tuple) pa_nil))) (pe_callB call_isi (by rfl) m_isinstance (by decide +kernel) (pa_cons (pv 0) (pa_cons (pe_bty (T := "tuple") m_tuple) pa_nil))) (nomark _)) (pw_or1 (pt_cmpR op_ne (pe_callB call_isi (by rfl) m_isinstance (by decide +kernel) (pa_cons (pv 1) (pa_cons (pe_bty (T := "list") m_list) pa_nil))) (pe_callB call_isi (by rfl) m_isinstance (by decide +kernel) (pa_cons (pv 0) (pa_cons (pe_bty (T := "list") m_list) pa_nil))) (nomark _))))) (pss_one 
      (ps_ret pe_bl)) pss_nil) (pss_one 
    (ps_ret (pe_and (pe_cmpR op_eq (pe_callB call_len_seq (by rfl) m_len (by decide +kernel) (pa_cons (pv 0) pa_nil)) (pe_callB call_len_seq (by rfl) m_len (by decide +kernel) (pa_cons (pv 1) pa_nil)) (nomark _)) (pe_one (pe_callB (cr_all rfl) (by rfl) m_all (by decide +kernel) (pa_cons (pe_lc (own := [("_law_one", 2), ("_law_two", 3)]) (g := (gTup K 2 (gCons (gName 2) (gCons (gName 3) gNil)))) (tt := tYes) (by rfl) sc_law_same.nd (RZ.pi_zipA (by rfl) m_zip (pa_cons (pv 0) (pa_cons (pv 1) pa_nil))) (blkOk_by (own := [("_law_one", 2), ("_law_two", 3)]) (N := n_law_same) (sc := defScope s_law_same) (by decide +kernel)) (fun _ _ _ _ _ => (pg_tup (by rfl) (pgs_cons (pg_name (i := 2) sc_law_same.nd rfl (Or.inl rfl)) (pgs_cons (pg_name (i := 3) sc_law_same.nd rfl (Or.inl rfl)) pgs_nil)))) (fun _ _ _ _ _ => pts_nil) (fun _ _ _ _ _ => (pe_callF h_law_same (hr.mono (by first | decide | omega)) (pa_cons (pv 2) (pa_cons (pv 3) pa_nil))))) pa_nil)))))))))), ?_⟩
      have key : (x = y ∧ flat x = true) ∨ ∃ (a b : Addr) (xs ys : List V), x = .ref a ∧ y = .ref b ∧ ((SqT K H a xs ∧ SqT K H b ys) ∨ (SqL K H a xs ∧ SqL K H b ys)) ∧ xs.length = ys.length ∧ xs.length ≤ 10000 ∧ ∀ (i : Nat) (x y : V), xs[i]? = some x → ys[i]? = some y → spSame K n = spSame K (n - 1 + 1) ∧ EqD K H (n - 1) x y := by
        cases n with
        | zero => exact .inl hd
        | succ m =>
          rcases hd with h | ⟨a, b, xs, ys, h1, h2, h3, h4, h5, h6⟩
          · exact .inl h
          · exact .inr ⟨a, b, xs, ys, h1, h2, h3, h4, h5, fun i x y q1 q2 => ⟨rfl, h6 i x y q1 q2⟩⟩
      have q0 := hq H (Same.refl H)
      rcases key with ⟨rfl, hfl⟩ | ⟨a, b, xs, ys, rfl, rfl, h3, h4, h5, h6⟩
      · cases x with
        | non => exact ⟨_, rfl, rfl, _, rfl, itT rfl ⟨_, rfl, rfl, q0⟩⟩
        | bl c =>
          refine ⟨_, rfl, rfl, _, rfl, itF rfl ?_⟩
          refine ⟨_, rfl, ⟨_, _, _, _, true, rfl, .ty _, .base (.bl c), kit_ty (by decide +kernel), ⟨_, rfl, itT rfl (itT rfl ?_)⟩⟩⟩
          refine ⟨_, rfl, ⟨_, _, _, _, true, rfl, .ty _, .base (.bl c), kit_ty (by decide +kernel), ⟨_, rfl, itT rfl ⟨_, rfl, ⟨_, _, _, _, true, rfl, .ty _, .base (.bl c), kit_ty (by decide +kernel), ⟨_, rfl, itT rfl ⟨_, rfl, _, rfl, rfl, ?_⟩⟩⟩⟩⟩⟩⟩
          rw [decide_eq_true rfl]
          exact q0
        | int c =>
          refine ⟨_, rfl, rfl, _, rfl, itF rfl ?_⟩
          refine ⟨_, rfl, ⟨_, _, _, _, false, rfl, .ty _, .base (.int c), kit_ty (by decide +kernel), ⟨_, rfl, itF rfl ⟨_, rfl, ⟨_, _, _, _, false, rfl, .ty _, .base (.int c), kit_ty (by decide +kernel), ⟨_, rfl, itF rfl ?_⟩⟩⟩⟩⟩⟩
          refine ⟨_, rfl, sl 2, fun t1 ht1 => ⟨_, _, _, _, [.type "int", .type "str"], (true || false), rfl, upd_same, .cons (.ty _) (.cons (.ty _) .nil), (.base (.int c)), kit_is (by decide +kernel) (by decide +kernel), ⟨_, rfl, itT rfl ?_⟩⟩⟩
          refine ⟨_, rfl, sl 2, fun t2 ht2 => ⟨_, _, _, _, [.type "int", .type "str"], (true || false), rfl, upd_same, .cons (.ty _) (.cons (.ty _) .nil), (.base (.int c)), kit_is (by decide +kernel) (by decide +kernel), ⟨_, rfl, itT rfl ?_⟩⟩⟩
          refine ⟨_, rfl, ⟨_, _, _, _, true, rfl, .ty _, .base (.int c), kit_ty (by decide +kernel), ⟨_, rfl, ⟨_, _, _, _, true, rfl, .ty _, .base (.int c), kit_ty (by decide +kernel), ⟨rfl, _, rfl, itT rfl ⟨_, rfl, _, rfl, rfl, ?_⟩⟩⟩⟩⟩⟩
          rw [decide_eq_true rfl]
          exact hq _ ((same_new ht1).trans (same_new ht2))
        | str c =>
          refine ⟨_, rfl, rfl, _, rfl, itF rfl ?_⟩
          refine ⟨_, rfl, ⟨_, _, _, _, false, rfl, .ty _, .base (.str c), kit_ty (by decide +kernel), ⟨_, rfl, itF rfl ⟨_, rfl, ⟨_, _, _, _, false, rfl, .ty _, .base (.str c), kit_ty (by decide +kernel), ⟨_, rfl, itF rfl ?_⟩⟩⟩⟩⟩⟩
          refine ⟨_, rfl, sl 2, fun t1 ht1 => ⟨_, _, _, _, [.type "int", .type "str"], (false || true), rfl, upd_same, .cons (.ty _) (.cons (.ty _) .nil), (.base (.str c)), kit_is (by decide +kernel) (by decide +kernel), ⟨_, rfl, itT rfl ?_⟩⟩⟩
          refine ⟨_, rfl, sl 2, fun t2 ht2 => ⟨_, _, _, _, [.type "int", .type "str"], (false || true), rfl, upd_same, .cons (.ty _) (.cons (.ty _) .nil), (.base (.str c)), kit_is (by decide +kernel) (by decide +kernel), ⟨_, rfl, itT rfl ?_⟩⟩⟩
          refine ⟨_, rfl, ⟨_, _, _, _, false, rfl, .ty _, .base (.str c), kit_ty (by decide +kernel), ⟨_, rfl, ⟨_, _, _, _, false, rfl, .ty _, .base (.str c), kit_ty (by decide +kernel), ⟨rfl, _, rfl, itT rfl ⟨_, rfl, _, rfl, rfl, ?_⟩⟩⟩⟩⟩⟩
          rw [decide_eq_true rfl]
          exact hq _ ((same_new ht1).trans (same_new ht2))
        | _ => cases hfl
      · rcases h3 with ⟨k1, k2⟩ | ⟨k1, k2⟩
        · refine ⟨_, rfl, rfl, _, rfl, itF rfl ?_⟩
          refine ⟨_, rfl, ⟨_, _, _, _, false, rfl, .ty _, tyx_t k2, kit_ty (by decide +kernel), ⟨_, rfl, itF rfl ⟨_, rfl, ⟨_, _, _, _, false, rfl, .ty _, tyx_t k1, kit_ty (by decide +kernel), ⟨_, rfl, itF rfl ?_⟩⟩⟩⟩⟩⟩
          refine ⟨_, rfl, sl 2, fun t1 ht1 => ?_⟩
          have s1 := same_new (o := .tup [.ty "int", .ty "str"]) ht1
          refine ⟨_, _, _, _, [.type "int", .type "str"], (false || false), rfl, upd_same, .cons (.ty _) (.cons (.ty _) .nil), (tyx_t (sqT_same s1 k2)), kit_is (by decide +kernel) (by decide +kernel), ⟨_, rfl, itF rfl ?_⟩⟩
          generalize hH1 : upd H t1 (.tup [.ty "int", .ty "str"]) = H1 at s1
          have j1 := sqT_same s1 k1
          have j2 := sqT_same s1 k2
          refine ⟨_, rfl, ⟨_, _, _, _, true, rfl, .ty _, tyx_t j2, kit_ty (by decide +kernel), ⟨_, rfl, ⟨_, _, _, _, true, rfl, .ty _, tyx_t j1, kit_ty (by decide +kernel), ⟨rfl, _, rfl, itF rfl ?_⟩⟩⟩⟩⟩
          refine ⟨_, rfl, ⟨_, _, _, _, false, rfl, .ty _, tyx_t j2, kit_ty (by decide +kernel), ⟨_, rfl, ⟨_, _, _, _, false, rfl, .ty _, tyx_t j1, kit_ty (by decide +kernel), ⟨rfl, _, rfl, itF rfl ?_⟩⟩⟩⟩⟩
          refine ⟨_, rfl, a, xs, rfl, .inr j1, _, rfl, b, ys, rfl, .inr j2, rfl, _, rfl, itT (by rw [h4]; exact decide_eq_true rfl) ?_⟩
          refine ⟨_, rfl, _, rfl, a, b, xs, ys, rfl, .inr ⟨j1, j2, fun L hL => ?_⟩⟩
          refine lc_it (walk_zipT (n := xs.length) (by omega)) (fun i H' => Same H1 H' ∧ H' L = some (.lst ((List.replicate i true).map V.bl))) ⟨same_new hL, upd_same⟩ (fun i H' _ hp => ⟨sqT_same hp.1 j1, sqT_same hp.1 j2⟩) (fun i v H2 H' hi hp hy => ?_) (fun H' hp => ?_)
          · obtain ⟨T, x, y, rfl, hT, rfl, q1, q2⟩ := hy
            obtain ⟨e1, e2⟩ := h6 i x y q1 q2
            have s3 := same_new (o := .tup [x, y]) hT
            refine ⟨T, _, rfl, .of upd_same, rfl, _, _, rfl, _, _, rfl, rfl, rfl, ?_⟩
            refine ⟨_, rfl, _, rfl, ?_⟩
            rw [e1]
            refine ⟨x, y, rfl, e2.same (s1.trans (hp.1.trans s3)), fun H5 s5 => ⟨_, s5 _ _ (s3 _ _ hp.2), ?_, fun bb o e => ?_, ?_⟩⟩
            · rw [List.length_map, List.length_replicate]
              exact slt' (by omega)
            · rw [upd_ne (ne_of_none e hL)]
              exact s5 _ _ (s3 _ _ (hp.1 _ _ e))
            · rw [upd_same, List.replicate_succ', List.map_append]
              rfl
          · refine ⟨L, _, rfl, .of hp.2, ?_⟩
            rw [all_rep]
            exact hq _ (s1.trans hp.1)
        · refine ⟨_, rfl, rfl, _, rfl, itF rfl ?_⟩
          refine ⟨_, rfl, ⟨_, _, _, _, false, rfl, .ty _, tyx_l k2, kit_ty (by decide +kernel), ⟨_, rfl, itF rfl ⟨_, rfl, ⟨_, _, _, _, false, rfl, .ty _, tyx_l k1, kit_ty (by decide +kernel), ⟨_, rfl, itF rfl ?_⟩⟩⟩⟩⟩⟩
          refine ⟨_, rfl, sl 2, fun t1 ht1 => ?_⟩
          have s1 := same_new (o := .tup [.ty "int", .ty "str"]) ht1
          refine ⟨_, _, _, _, [.type "int", .type "str"], (false || false), rfl, upd_same, .cons (.ty _) (.cons (.ty _) .nil), (tyx_l (sqL_same s1 k2)), kit_is (by decide +kernel) (by decide +kernel), ⟨_, rfl, itF rfl ?_⟩⟩
          generalize hH1 : upd H t1 (.tup [.ty "int", .ty "str"]) = H1 at s1
          have j1 := sqL_same s1 k1
          have j2 := sqL_same s1 k2
          refine ⟨_, rfl, ⟨_, _, _, _, false, rfl, .ty _, tyx_l j2, kit_ty (by decide +kernel), ⟨_, rfl, ⟨_, _, _, _, false, rfl, .ty _, tyx_l j1, kit_ty (by decide +kernel), ⟨rfl, _, rfl, itF rfl ?_⟩⟩⟩⟩⟩
          refine ⟨_, rfl, ⟨_, _, _, _, true, rfl, .ty _, tyx_l j2, kit_ty (by decide +kernel), ⟨_, rfl, ⟨_, _, _, _, true, rfl, .ty _, tyx_l j1, kit_ty (by decide +kernel), ⟨rfl, _, rfl, itF rfl ?_⟩⟩⟩⟩⟩
          refine ⟨_, rfl, a, xs, rfl, .inl j1, _, rfl, b, ys, rfl, .inl j2, rfl, _, rfl, itT (by rw [h4]; exact decide_eq_true rfl) ?_⟩
          refine ⟨_, rfl, _, rfl, a, b, xs, ys, rfl, .inl ⟨j1, j2, fun L hL => ?_⟩⟩
          refine lc_it (walk_zip (n := xs.length) (by omega)) (fun i H' => Same H1 H' ∧ H' L = some (.lst ((List.replicate i true).map V.bl))) ⟨same_new hL, upd_same⟩ (fun i H' _ hp => ⟨sqL_same hp.1 j1, sqL_same hp.1 j2⟩) (fun i v H2 H' hi hp hy => ?_) (fun H' hp => ?_)
          · obtain ⟨T, x, y, rfl, hT, rfl, q1, q2⟩ := hy
            obtain ⟨e1, e2⟩ := h6 i x y q1 q2
            have s3 := same_new (o := .tup [x, y]) hT
            refine ⟨T, _, rfl, .of upd_same, rfl, _, _, rfl, _, _, rfl, rfl, rfl, ?_⟩
            refine ⟨_, rfl, _, rfl, ?_⟩
            rw [e1]
            refine ⟨x, y, rfl, e2.same (s1.trans (hp.1.trans s3)), fun H5 s5 => ⟨_, s5 _ _ (s3 _ _ hp.2), ?_, fun bb o e => ?_, ?_⟩⟩
            · rw [List.length_map, List.length_replicate]
              exact slt' (by omega)
            · rw [upd_ne (ne_of_none e hL)]
              exact s5 _ _ (s3 _ _ (hp.1 _ _ e))
            · rw [upd_same, List.replicate_succ', List.map_append]
              rfl
          · refine ⟨L, _, rfl, .of hp.2, ?_⟩
            rw [all_rep]
            exact hq _ (s1.trans hp.1)
end

/-! ### the law's own fractions -/
def spNumber : Sp := fun vs H Q _ => ∃ (p c : Addr) (ns : List Int) (sz : Int), vs = [.ref p, .int sz] ∧ Feed H p c ns ∧ 0 < sz ∧ sz < 2 ^ 100 ∧ ∀ r H' t u, Nxt p c ns H H' → H' r = some (.tup [.int t, .int u]) → 0 < u → t.natAbs ≤ sz.natAbs → u.natAbs ≤ sz.natAbs → Int.gcd t u = 1 → Q (.ref r) H'
section
variable {P : Program} {w : World} {K : PySem.W.Frag} {mg : Str → Option Value} {base : Heap}
theorem ok_law_number (D : Dn K mg "_law_number" s_law_number []) (h_law_take : FOk P w K mg base 1 "_law_take" ["_law_feed_here", "_law_many"] spTakeA) (h_law_low : FOk P w K mg base 2 "_law_low" ["_law_top", "_law_under"] spLow) : FOk P w K mg base 3 "_law_number" ["_law_feed_here", "_law_size"] spNumber := by
  refine D.ok sc_law_number (fun _ _ _ _ _ _ us hl => match us, hl with | [_, _], _ => rfl) (fun vs H Q E h => ?_) (fun cdv A outer s H vs Q E hr h => ?_)
  · obtain ⟨_, _, _, _, rfl, _⟩ := h
    rfl
  · obtain ⟨p, c, ns, sz, rfl, hF, z0, z1, hQ⟩ := h
    refine ⟨_, (pss_cons 
    (ps_set (i := 2) sc_law_number.nd rfl (Or.inl rfl) (pe_op op_sub (pe_callF h_law_take (hr.mono (by first | decide | omega)) (pa_cons (pv 0) (pa_cons (pe_op op_add (pe_op op_mulW pe_int (pv 1)) pe_int) pa_nil))) (pv 1))) (pss_cons 
    (ps_set (i := 3) sc_law_number.nd rfl (Or.inl rfl) (pe_ifExp (pt_cmpR op_eq (pe_callF h_law_take (hr.mono (by first | decide | omega)) (pa_cons (pv 0) (pa_cons pe_int pa_nil))) pe_int (nomark _)) pe_int (pe_op op_add pe_int (pe_callF h_law_take (hr.mono (by first | decide | omega)) (pa_cons (pv 0) (pa_cons (pv 1) pa_nil)))))) (pss_one 
    (ps_ret (pe_callF h_law_low (hr.mono (by first | decide | omega)) (pa_cons (pv 2) (pa_cons (pv 3) pa_nil))))))), ?_⟩
    have bsz : Big sz := big_of (by omega)
    refine ⟨_, rfl, _, rfl, _, _, rfl, rfl, (big_of (by decide)).mulW bsz, _, _, rfl, rfl, p, c, ns, _, rfl, hF, by omega, big_of (by omega), fun r1 H1 a1 b1 n1 => ?_⟩
    refine ⟨_, rfl, _, _, rfl, rfl, _, rfl, p, c, ns, 3, rfl, n1.f, by decide, big_of (by decide), fun r2 H2 a2 b2 n2 => ?_⟩
    have fin : ∀ (u : Int) (H3 : Hp), 0 < u → u ≤ sz → Nxt p c ns H H3 → ∀ (r : Addr) (H4 : Hp), Same H3 H4 → H4 r = some (.tup [.int (fracT (r1 - sz) u), .int (fracU (r1 - sz) u)]) → Q (.ref r) H4 := fun u H3 hu hs n r H4 sm e => by
      have l := frac_le (t := r1 - sz) (u := u) (by omega)
      have l1 := l.1
      have l2 := l.2
      exact hQ r H4 _ _ (n.same sm) e (frac_pos (by omega)) (by omega) (by omega) (frac_gcd (by omega))
    refine ⟨rfl, _, rfl, it2 (fun e => ?_) (fun e => ?_)⟩
    · exact ⟨_, rfl, _, rfl, _, _, rfl, big_of (by omega), big_of (by decide), by decide, fun r H4 _ sm e => fin 1 _ (by decide) (by omega) (n1.trans n2) r H4 sm e⟩
    · refine ⟨_, rfl, _, rfl, p, c, ns, _, rfl, n2.f, z0, bsz, fun r3 H3 a3 b3 n3 => ?_⟩
      exact ⟨_, _, rfl, rfl, _, rfl, _, rfl, _, _, rfl, big_of (by omega), big_of (by omega), by omega, fun r H4 _ sm e => fin (1 + r3) _ (by omega) (by omega) ((n1.trans n2).trans n3) r H4 sm e⟩
end

section
variable {P : Program} {w : World} {K : PySem.W.Frag} {mg : Str → Option Value} {base : Heap}
theorem ok_greatest_common (D : Dn K mg "greatest_common" s_greatest_common []) (m_abs : mg "abs" = none) : FOk P w K mg base 1 "greatest_common" ["one", "other"] spGcd := by
  refine D.ok sc_greatest_common (fun _ _ _ _ _ _ us hl => match us, hl with | [_, _], _ => rfl) (fun vs H Q E h => ?_) (fun cdv A outer s H vs Q E hr h => ?_)
  · obtain ⟨a, b, rfl, _⟩ := h
    rfl
  · obtain ⟨a, b, rfl, ha, hb, hq⟩ := h
    refine ⟨_, (pss_cons 
    (ps_par (i := 0) (j := 1) (by rfl) sc_greatest_common.nd rfl rfl (by decide) rfl rfl (pa_cons (pe_callB call_abs (by rfl) m_abs (by decide +kernel) (pa_cons (pv 0) pa_nil)) (pa_cons (pe_callB call_abs (by rfl) m_abs (by decide +kernel) (pa_cons (pv 1) pa_nil)) pa_nil)) (by rfl)) (pss_cons 
    (ps_while PassesOwn.never (pt_cmpR op_ne (pv 1) pe_int (nomark _)) (pss_one 
      (ps_par (i := 0) (j := 1) (by rfl) sc_greatest_common.nd rfl rfl (by decide) rfl rfl (pa_cons (pv 1) (pa_cons (pe_op op_sub (pv 0) (pe_op op_mulW (pe_op op_fdivW (pv 0) (pv 1)) (pv 1))) pa_nil)) (by rfl)))) (pss_one 
    (ps_ret (pv 0))))), ?_⟩
    refine ⟨_, rfl, _, rfl, _, rfl, _, rfl, _, _, rfl, ?_⟩
    refine while_by (fun σ H1 => ∃ x y : Int, σ = [some (.int x), some (.int y)] ∧ 0 ≤ x ∧ 0 ≤ y ∧ Big x ∧ Big y ∧ Int.gcd x y = Int.gcd a b ∧ H1 = H) (fun σ _ => match σ with | [_, some (.int y)] => y.toNat | _ => 0)
      ⟨_, _, rfl, by split <;> omega, by split <;> omega, ha.abs, hb.abs, gcd_abs a b, rfl⟩ (fun σ H1 hp => ?_) (fun σ H Q Q' hq ⟨v, h1, h2, k, h3, h4⟩ => ⟨v, h1, h2, k, h3, hq _ _ h4⟩)
    obtain ⟨x, y, rfl, hx, hy, hx2, hy2, hg, rfl⟩ := hp
    refine ⟨_, rfl, rfl, _, rfl, ?_⟩
    by_cases h0 : y = 0
    · subst h0
      refine iteNS rfl ⟨_, rfl, ?_⟩
      have e := gcd_end x hx
      rw [hg] at e
      rw [← e]
      exact hq
    · have h1 : decide (V.int y = V.int 0) = false := decide_eq_false fun z => h0 (V.int.inj z)
      rw [h1]
      have hq0 : 0 ≤ x / y := Int.ediv_nonneg hx hy
      have hqx : x / y ≤ x := Int.ediv_le_self _ hx
      have em : x - x / y * y = x % y := fdiv_rest
      have l1 : x % y < y := Int.emod_lt_of_pos x (by omega)
      have l0 : 0 ≤ x % y := Int.emod_nonneg x h0
      refine iteT ⟨_, rfl, _, rfl, _, rfl, _, rfl, _, _, rfl, rfl, hy2.divW (by omega), _, rfl, _, _, rfl, rfl, (hx2.le (by omega)).mulW hy2, _, _, rfl, rfl, _, _, rfl, ⟨y, x - x / y * y, rfl, hy, by omega, hy2, hy2.le (by omega), ?_, rfl⟩, ?_⟩
      · rw [em, gcd_step x y, hg]
      · show (x - x / y * y).toNat < y.toNat
        omega
end

def spIsRatio (K : PySem.W.Frag) : Sp := fun vs H Q _ => ∃ (p : Addr) (a b : Int), vs = [.ref p] ∧ SqT K H p [.int a, .int b] ∧ Big a ∧ Big b ∧ Q (.bl (decide (0 < b) && decide (Int.gcd a b = 1))) H
section
variable {P : Program} {w : World} {K : PySem.W.Frag} {mg : Str → Option Value} {base : Heap}
theorem ok_is_ratio (D : Dn K mg "is_ratio" s_is_ratio []) (h_greatest_common : FOk P w K mg base 1 "greatest_common" ["one", "other"] spGcd) : FOk P w K mg base 2 "is_ratio" ["pair"] (spIsRatio K) := by
  refine D.ok sc_is_ratio (fun _ _ _ _ _ _ us hl => match us, hl with | [_], _ => rfl) (fun vs H Q E h => ?_) (fun cdv A outer s H vs Q E hr h => ?_)
  · obtain ⟨_, _, _, rfl, _⟩ := h
    rfl
  · obtain ⟨p, a, b, rfl, hs, ha, hb, hq⟩ := h
    refine ⟨_, (pss_one 
    (ps_ret (pe_and (pe_cmpR op_gt (pe_ix ix_tup (pv 0) pe_int (fun _ _ => rfl)) pe_int (nomark _)) (pe_one (pe_cmpR op_eq (pe_callF h_greatest_common (hr.mono (by first | decide | omega)) (pa_cons (pe_ix ix_tup (pv 0) pe_int (fun _ _ => rfl)) (pa_cons (pe_ix ix_tup (pv 0) pe_int (fun _ _ => rfl)) pa_nil))) pe_int (nomark _)))))), ?_⟩
    refine ⟨_, rfl, p, _, 1, .int b, rfl, rfl, hs, rfl, _, _, rfl, rfl, _, rfl, it2 (fun e => ?_) (fun e => ?_)⟩
    · refine ⟨_, rfl, p, _, 0, .int a, rfl, rfl, hs, rfl, _, rfl, p, _, 1, .int b, rfl, rfl, hs, rfl, a, b, rfl, ha, hb, rfl, ?_⟩
      rw [e] at hq
      have e2 : decide (V.int (Int.gcd a b : Int) = V.int 1) = decide (Int.gcd a b = 1) := by
        rw [decide_eq_decide]
        exact ⟨fun z => by have := V.int.inj z; omega, fun z => by rw [z]; rfl⟩
      rw [e2]
      exact hq
    · rw [e] at hq
      exact hq
end

def spNegated (K : PySem.W.Frag) : Sp := fun vs H Q _ => ∃ (p : Addr) (a b : Int), vs = [.ref p] ∧ SqT K H p [.int a, .int b] ∧ ∀ r H', Same H H' → H' r = some (.tup [.int (0 - a), .int b]) → Q (.ref r) H'
section
variable {P : Program} {w : World} {K : PySem.W.Frag} {mg : Str → Option Value} {base : Heap}
theorem ok_negated (D : Dn K mg "negated" s_negated []) : FOk P w K mg base 1 "negated" ["one"] (spNegated K) := by
  refine D.ok sc_negated (fun _ _ _ _ _ _ us hl => match us, hl with | [_], _ => rfl) (fun vs H Q E h => ?_) (fun cdv A outer s H vs Q E hr h => ?_)
  · obtain ⟨_, _, _, rfl, _⟩ := h
    rfl
  · obtain ⟨p, a, b, rfl, hp, hQ⟩ := h
    refine ⟨_, (pss_one 
    (ps_ret (pe_tupA (pa_cons (pe_op op_sub pe_int (pe_ix ix_tup (pv 0) pe_int (fun _ _ => rfl))) (pa_cons (pe_ix ix_tup (pv 0) pe_int (fun _ _ => rfl)) pa_nil))))), ?_⟩
    exact ⟨_, rfl, p, _, 0, .int a, rfl, rfl, hp, rfl, _, _, rfl, rfl, _, rfl, p, _, 1, .int b, rfl, rfl, hp, rfl, sl 2, fun r Hr _ sm e => hQ r Hr sm e⟩
end

/-! ### texts of numbers -/
section
variable {P : Program} {w : World} {K : PySem.W.Frag} {mg : Str → Option Value} {base : Heap}
theorem ok_is_number (D : Dn K mg "is_number" s_is_number []) (m_len : mg "len" = none) (m_all : mg "all" = none) (g_DIGITS : ∃ u, mg "DIGITS" = some u ∧ RelV (.str "0123456789") u) (g_MOST_DIGITS : ∃ u, mg "MOST_DIGITS" = some u ∧ RelV (.int 30) u) :
    FOk P w K mg base 1 "is_number" ["text"] spIsNum := by
  refine D.ok sc_is_number (fun _ _ _ _ _ _ us hl => match us, hl with | [_], _ => rfl) (fun vs H Q E h => ?_) (fun cdv A outer s H vs Q E hr h => ?_)
  · obtain ⟨_, rfl, _⟩ := h
    rfl
  · obtain ⟨l, rfl, hl, hQ⟩ := h
    refine ⟨_, (pss_cons 
    (ps_if (PW.pt (pw_or (pt_not (pt_chain op_le op_le pe_int (pe_callB call_len_str (by rfl) m_len (by decide +kernel) (pa_cons (pv 0) pa_nil)) (pe_gl g_MOST_DIGITS))) (pw_or1 (pt_not (pt_val (pe_callB (cr_all rfl) (by rfl) m_all (by decide +kernel) (pa_cons (pe_lc (own := [("sign", 1)]) (g := (gName 1)) (tt := tYes) (by rfl) sc_is_number.nd (pi_str (pv 0)) (blkOk_by (own := [("sign", 1)]) (N := n_is_number) (sc := defScope s_is_number) (by decide +kernel)) (fun _ _ _ _ _ => (pg_name (i := 1) sc_is_number.nd rfl (Or.inl rfl))) (fun _ _ _ _ _ => pts_nil) (fun _ _ _ _ _ => (pe_cmpR op_in_sign (pv 1) (pe_gl g_DIGITS) rfl))) pa_nil))))))) (pss_one 
      (ps_ret pe_bl)) pss_nil) (pss_one 
    (ps_ret (pe_or (pe_cmpR op_eq (pv 0) pe_str (nomark _)) (pe_one (pe_cmpR op_ne (pe_ix ix_str (pv 0) pe_int (fun _ _ => rfl)) pe_str (nomark _))))))), ?_⟩
    have hlen : (S l).length ≤ sizeLine := by rw [S_len]; exact CT.sl _ (by omega)
    refine ⟨_, rfl, S l, rfl, hlen, _, _, rfl, rfl, _, rfl, ?_⟩
    have no : isNum l = false → Q (.bl false) H := fun e => by
      rw [← e]
      exact hQ H (Same.refl H)
    refine it2 (fun c1 => ?_) (fun c1 => ?_)
    · have n1 : (1 : Int) ≤ ((S l).length : Int) := of_decide_eq_true c1
      rw [S_len] at n1
      refine ⟨_, _, rfl, rfl, _, rfl, it2 (fun c2 => no (isNum_long fun h => ?_)) (fun c2 => ?_)⟩
      · have c3 : decide (((S l).length : Int) ≤ 30) = false := by simpa using c2
        have n2 := of_decide_eq_false c3
        rw [S_len] at n2
        omega
      · have c3 : decide (((S l).length : Int) ≤ 30) = true := by simpa using c2
        have n2 := of_decide_eq_true c3
        rw [S_len] at n2
        have n3 : 1 ≤ l.length ∧ l.length ≤ 30 := by omega
        refine ⟨_, rfl, S l, rfl, fun L hL => lc_it walk_str (fun k H' => H' L = some (.lst (((l.take k).map isDig).map V.bl)) ∧ Same H H') ⟨upd_same, same_new hL⟩ (fun _ _ _ _ => trivial) (fun k x H' H'' hk hp hy => ?_) (fun H' hp => ?_)⟩
        · obtain ⟨e6, s6⟩ := hp
          obtain ⟨rfl, c, hc, rfl⟩ := hy
          have hc2 : l[k]? = some c := by
            have e : (S l).cps[k]? = l[k]? := List.getElem?_toArray
            rw [← e]
            exact hc
          refine ⟨rfl, _, rfl, c, _, rfl, rfl, _, e6, ?_, ?_, fun bb o e => ?_⟩
          · rw [List.length_map, List.length_map, List.length_take]
            exact slt' (by omega)
          · rw [upd_same, take_snoc hc2, List.map_append, List.map_append]
            rfl
          · rw [upd_ne (ne_of_none e hL)]
            exact s6 _ _ e
        · obtain ⟨e6, s6⟩ := hp
          have ez : (S l).cps.size = l.length := rfl
          rw [ez, List.take_length] at e6
          refine ⟨L, _, rfl, .of e6, _, rfl, ?_⟩
          have ea : (l.map isDig).all id = l.all isDig := by
            rw [List.all_map]
            rfl
          have no' : isNum l = false → Q (.bl false) H' := fun e => by
            rw [← e]
            exact hQ H' s6
          refine it2 (fun c4 => no' (isNum_sign ?_)) (fun c4 => ?_)
          · have c5 : (!(l.map isDig).all id) = true := c4
            rw [ea] at c5
            simpa using c5
          · have c5 : (!(l.map isDig).all id) = false := c4
            rw [ea] at c5
            have c6 : l.all isDig = true := by simpa using c5
            refine ⟨_, rfl, rfl, _, rfl, it2 (fun c7 => ?_) (fun c7 => ?_)⟩
            · have e := of_decide_eq_true (show decide (V.str (S l) = V.str (S [48])) = true from c7)
              have e2 : l = [48] := SX.S_inj (V.str.inj e)
              have q := hQ H' s6
              rw [isNum_zero n3 c6 e2] at q
              exact q
            · have e := of_decide_eq_false (show decide (V.str (S l) = V.str (S [48])) = false from c7)
              have e2 : ¬ l = [48] := fun z => e (by rw [z])
              cases l with
              | nil => exact absurd n3.1 (by decide)
              | cons c r =>
                refine ⟨_, rfl, S (c :: r), 0, c, rfl, rfl, hlen, atI_nat (xs := c :: r) (j := 0) rfl, rfl, ?_⟩
                show Q (.bl (!decide (V.str (S [c]) = V.str (S [48])))) H'
                have e3 : decide (V.str (S [c]) = V.str (S [48])) = decide (c = 48) := by
                  rw [str_dec, decide_eq_decide]
                  exact ⟨fun z => (List.cons.inj z).1, fun z => by rw [z]⟩
                rw [e3, ← isNum_head n3 c6 e2]
                exact hQ H' s6
    · refine ⟨_, rfl, itT rfl (no (isNum_long fun h => ?_))⟩
      have n1 := of_decide_eq_false (show decide ((1 : Int) ≤ ((S l).length : Int)) = false from c1)
      rw [S_len] at n1
      omega
theorem ok_law_figures (D : Dn K mg "_law_figures" s_law_figures []) (m_len : mg "len" = none) (m_all : mg "all" = none) : FOk P w K mg base 1 "_law_figures" ["_law_text"] spIsNum := by
  refine D.ok sc_law_figures (fun _ _ _ _ _ _ us hl => match us, hl with | [_], _ => rfl) (fun vs H Q E h => ?_) (fun cdv A outer s H vs Q E hr h => ?_)
  · obtain ⟨_, rfl, _⟩ := h
    rfl
  · obtain ⟨l, rfl, hl, hQ⟩ := h
    refine ⟨_, (pss_cons 
    (ps_if (PW.pt (pw_or (pt_not (pt_chain op_lt op_lt pe_int (pe_callB call_len_str (by rfl) m_len (by decide +kernel) (pa_cons (pv 0) pa_nil)) pe_int)) (pw_or1 (pt_not (pt_val (pe_callB (cr_all rfl) (by rfl) m_all (by decide +kernel) (pa_cons (pe_lc (own := [("_law_sign", 1)]) (g := (gName 1)) (tt := tYes) (by rfl) sc_law_figures.nd (pi_str (pv 0)) (blkOk_by (own := [("_law_sign", 1)]) (N := n_law_figures) (sc := defScope s_law_figures) (by decide +kernel)) (fun _ _ _ _ _ => (pg_name (i := 1) sc_law_figures.nd rfl (Or.inl rfl))) (fun _ _ _ _ _ => pts_nil) (fun _ _ _ _ _ => (pe_cmpR op_in_sign (pv 1) pe_str rfl))) pa_nil))))))) (pss_one 
      (ps_ret pe_bl)) pss_nil) (pss_one 
    (ps_ret (pe_or (pe_cmpR op_ne (pe_ix ix_str (pv 0) pe_int (fun _ _ => rfl)) pe_str (nomark _)) (pe_one (pe_cmpR op_eq (pv 0) pe_str (nomark _))))))), ?_⟩
    have hlen : (S l).length ≤ sizeLine := by rw [S_len]; exact CT.sl _ (by omega)
    refine ⟨_, rfl, S l, rfl, hlen, _, _, rfl, rfl, _, rfl, ?_⟩
    have no : isNum l = false → Q (.bl false) H := fun e => by
      rw [← e]
      exact hQ H (Same.refl H)
    refine it2 (fun c1 => ?_) (fun c1 => ?_)
    · have n1 : (0 : Int) < ((S l).length : Int) := of_decide_eq_true c1
      rw [S_len] at n1
      refine ⟨_, _, rfl, rfl, _, rfl, it2 (fun c2 => no (isNum_long fun h => ?_)) (fun c2 => ?_)⟩
      · have c3 : decide (((S l).length : Int) < 31) = false := by simpa using c2
        have n2 := of_decide_eq_false c3
        rw [S_len] at n2
        omega
      · have c3 : decide (((S l).length : Int) < 31) = true := by simpa using c2
        have n2 := of_decide_eq_true c3
        rw [S_len] at n2
        have n3 : 1 ≤ l.length ∧ l.length ≤ 30 := by omega
        refine ⟨_, rfl, S l, rfl, fun L hL => lc_it walk_str (fun k H' => H' L = some (.lst (((l.take k).map isDig).map V.bl)) ∧ Same H H') ⟨upd_same, same_new hL⟩ (fun _ _ _ _ => trivial) (fun k x H' H'' hk hp hy => ?_) (fun H' hp => ?_)⟩
        · obtain ⟨e6, s6⟩ := hp
          obtain ⟨rfl, c, hc, rfl⟩ := hy
          have hc2 : l[k]? = some c := by
            have e : (S l).cps[k]? = l[k]? := List.getElem?_toArray
            rw [← e]
            exact hc
          refine ⟨rfl, _, rfl, c, _, rfl, rfl, _, e6, ?_, ?_, fun bb o e => ?_⟩
          · rw [List.length_map, List.length_map, List.length_take]
            exact slt' (by omega)
          · rw [upd_same, take_snoc hc2, List.map_append, List.map_append]
            rfl
          · rw [upd_ne (ne_of_none e hL)]
            exact s6 _ _ e
        · obtain ⟨e6, s6⟩ := hp
          have ez : (S l).cps.size = l.length := rfl
          rw [ez, List.take_length] at e6
          refine ⟨L, _, rfl, .of e6, _, rfl, ?_⟩
          have ea : (l.map isDig).all id = l.all isDig := by
            rw [List.all_map]
            rfl
          have no' : isNum l = false → Q (.bl false) H' := fun e => by
            rw [← e]
            exact hQ H' s6
          refine it2 (fun c4 => no' (isNum_sign ?_)) (fun c4 => ?_)
          · have c5 : (!(l.map isDig).all id) = true := c4
            rw [ea] at c5
            simpa using c5
          · have c5 : (!(l.map isDig).all id) = false := c4
            rw [ea] at c5
            have c6 : l.all isDig = true := by simpa using c5
            cases l with
            | nil => exact absurd n3.1 (by decide)
            | cons c r =>
              have e3 : decide (V.str (S [c]) = V.str (S [48])) = decide (c = 48) := by
                rw [str_dec, decide_eq_decide]
                exact ⟨fun z => (List.cons.inj z).1, fun z => by rw [z]⟩
              have q := hQ H' s6
              refine ⟨_, rfl, S (c :: r), 0, c, rfl, rfl, hlen, atI_nat (xs := c :: r) (j := 0) rfl, rfl, _, rfl, it2 (fun c7 => ?_) (fun c7 => ?_)⟩
              · have c8 : (!decide (V.str (S [c]) = V.str (S [48]))) = true := c7
                rw [e3] at c8
                have c9 : ¬ c = 48 := by simpa using c8
                have e2 : ¬ c :: r = [48] := fun z => c9 (List.cons.inj z).1
                rw [isNum_head n3 c6 e2, decide_eq_false c9] at q
                exact q
              · have c8 : (!decide (V.str (S [c]) = V.str (S [48]))) = false := c7
                rw [e3] at c8
                have c9 : c = 48 := by simpa using c8
                refine ⟨_, rfl, rfl, ?_⟩
                show Q (.bl (decide (V.str (S (c :: r)) = V.str (S [48])))) H'
                rw [str_dec]
                by_cases e2 : c :: r = [48]
                · rw [decide_eq_true e2]
                  rw [isNum_zero n3 c6 e2] at q
                  exact q
                · rw [decide_eq_false e2]
                  rw [isNum_head n3 c6 e2, decide_eq_true c9] at q
                  exact q
    · refine ⟨_, rfl, itT rfl (no (isNum_long fun h => ?_))⟩
      have n1 := of_decide_eq_false (show decide ((0 : Int) < ((S l).length : Int)) = false from c1)
      rw [S_len] at n1
      omega
end

/-! ### read_ratio -/
def BadText (K : PySem.W.Frag) (H : Hp) (E : XK) : Prop := ∀ e H', H e = none → Same H H' → H' e = some (.xd [("tag", .str "ParseError"), ("at", .int 0)]) → E (.ref (ga K "ParseError")) (some e) H'
def spRead (K : PySem.W.Frag) : Sp := fun vs H Q E => ∃ l : List Nat, vs = [.str (S l)] ∧ l.length ≤ 500 ∧ (∀ z, readF l = some z → ∀ r H', Same H H' → H' r = some (.tup [.int z.1, .int z.2]) → Q (.ref r) H') ∧ (readF l = none → BadText K H E)
section
variable {P : Program} {w : World} {K : PySem.W.Frag} {mg : Str → Option Value} {base : Heap}
theorem ok_read_ratio (D : Dn K mg "read_ratio" s_read_ratio []) (m_int : mg "int" = none) (e_ParseError : ErrC K "ParseError" (some "at") "/claim/cut.py")
    (x_ParseError : ∃ fd, FnOk P w K mg base CX0 1 (ma K (ga K "ParseError") "__init__") fd ["self", "at"] (spInit1 (ga K "ParseError") "at" "ParseError") ∧ Binds K fd ["self", "at"] [])
    (g_ParseError : mg "ParseError" = some (.ref (ga K "ParseError"))) (h_is_number : FOk P w K mg base 1 "is_number" ["text"] spIsNum) (h_is_ratio : FOk P w K mg base 2 "is_ratio" ["pair"] (spIsRatio K)) (h_negated : FOk P w K mg base 1 "negated" ["one"] (spNegated K)) :
    FOkX (L2.CX P w) P w K mg base 3 "read_ratio" ["text"] (spRead K) := by
  refine D.okX sc_read_ratio (fun _ _ _ _ _ _ us hl => match us, hl with | [_], _ => rfl) (fun vs H Q E h => ?_) (fun cdv A outer s H vs Q E hr h => ?_)
  · obtain ⟨_, rfl, _⟩ := h
    rfl
  · obtain ⟨l, rfl, hl, hQ, hE⟩ := h
    refine ⟨_, (pss_cons 
    (ps_set (i := 1) sc_read_ratio.nd rfl (Or.inl rfl) (pe_m1 PySem.F.slot_str_removeprefix PySem.F.type_str_removeprefix mt_removeprefix (pv 0) pe_str)) (pss_cut 
    (ps_asg (pe_partition (pv 1) pe_str) (pg_tup (by rfl) (pgs_cons (pg_name (i := 2) sc_read_ratio.nd rfl (Or.inl rfl)) (pgs_cons (pg_name (i := 3) sc_read_ratio.nd rfl (Or.inl rfl)) (pgs_cons (pg_name (i := 4) sc_read_ratio.nd rfl (Or.inl rfl)) pgs_nil))))) (pss_cut 
    (ps_if (PW.pt (pw_or (pt_not (pt_val (pe_callF h_is_number (hr.mono (by first | decide | omega)) (pa_cons (pv 2) pa_nil)))) (pw_or1 (PW.pt (pw_and (pt_cmpR op_eq (pv 3) pe_str (nomark _)) (pw_and1 (pt_not (pt_val (pe_callF h_is_number (hr.mono (by first | decide | omega)) (pa_cons (pv 4) pa_nil)))))))))) (pss_one 
      (ps_raise rfl (takes_of rfl rfl rfl rfl) (pmk_err1 e_ParseError x_ParseError (hr.mono (by first | decide | omega)) (by rfl) g_ParseError pe_int))) pss_nil) (pss_cut 
    (ps_set (i := 5) sc_read_ratio.nd rfl (Or.inl rfl) (pe_tupA (pa_cons (pe_callTy call_int_str (by rfl) m_int (by decide +kernel) (pa_cons (pv 2) pa_nil)) (pa_cons (pe_ifExp (pt_cmpR op_eq (pv 3) pe_str (nomark _)) (pe_callTy call_int_str (by rfl) m_int (by decide +kernel) (pa_cons (pv 4) pa_nil)) pe_int) pa_nil)))) (pss_cut 
    (ps_if (PW.pt (pw_or (pt_not (pt_val (pe_callF h_is_ratio (hr.mono (by first | decide | omega)) (pa_cons (pv 5) pa_nil)))) (pw_or1 (PW.pt (pw_and (pt_cmpR op_eq (pv 3) pe_str (nomark _)) (pw_and1 (pt_cmpR op_eq (pe_ix ix_tup (pv 5) pe_int (fun _ _ => rfl)) pe_int (nomark _)))))))) (pss_one 
      (ps_raise rfl (takes_of rfl rfl rfl rfl) (pmk_err1 e_ParseError x_ParseError (hr.mono (by first | decide | omega)) (by rfl) g_ParseError pe_int))) pss_nil) (pss_cons 
    (ps_if (pt_cmpR op_ne (pv 1) (pv 0) (nomark _)) (pss_cons 
      (ps_if (pt_cmpR op_eq (pe_ix ix_tup (pv 5) pe_int (fun _ _ => rfl)) pe_int (nomark _)) (pss_one 
        (ps_raise rfl (takes_of rfl rfl rfl rfl) (pmk_err1 e_ParseError x_ParseError (hr.mono (by first | decide | omega)) (by rfl) g_ParseError pe_int))) pss_nil) (pss_one 
      (ps_ret (pe_callF h_negated (hr.mono (by first | decide | omega)) (pa_cons (pv 5) pa_nil))))) pss_nil) (pss_one 
    (ps_ret (pv 5))))))))), ?_⟩
    have hb := body_len l
    obtain ⟨hp1, hq1⟩ := parts_len l
    have hrd := read_parts l
    have hpt := part_S l
    obtain ⟨st, est⟩ : ∃ st, st = (partsOf l).1 := ⟨_, rfl⟩
    obtain ⟨p, ep⟩ : ∃ p, p = (partsOf l).2.1 := ⟨_, rfl⟩
    obtain ⟨q, eq⟩ : ∃ q, q = (partsOf l).2.2 := ⟨_, rfl⟩
    rw [← est, ← ep, ← eq] at hrd hpt
    rw [← ep] at hp1
    rw [← eq] at hq1
    refine ⟨_, rfl, ⟨_, rfl⟩, _, _, rfl, rfl, by rw [S_len]; exact CT.sl _ (by omega), ?_⟩
    have e1 : Txt.removeprefix (S l) (Str.ofString "-") = S (bodyOf l) := removeprefix_S l
    rw [e1]
    refine ⟨fun σ H' => σ = [some (.str (S l)), some (.str (S (bodyOf l))), some (.str (S p)), some (.str (S (if st = true then [47] else []))), some (.str (S q)), none] ∧ Same H H', ?_, fun σ H1 hm => ?_⟩
    · refine ⟨_, rfl, ⟨_, rfl⟩, _, _, rfl, rfl, rfl, by rw [S_len]; exact CT.sl _ (by omega), fun tp ht => ?_⟩
      have e2 : Txt.partition (S (bodyOf l)) (Str.ofString "/") = (S p, S (if st = true then [47] else []), S q) := hpt
      rw [e2]
      exact ⟨tp, _, rfl, .of upd_same, rfl, _, _, rfl, _, _, rfl, _, _, rfl, rfl, rfl, same_new ht⟩
    · obtain ⟨rfl, s1⟩ := hm
      have bad : ∀ {H2 : Hp}, Same H H2 → readF l = none → ∀ e, H2 e = none → E (.ref (ga K "ParseError")) (some e) (upd H2 e (.xd [("tag", .str "ParseError"), ("at", .int 0)])) := fun sm hn e he => hE hn e _ (sm.free he) (sm.trans (same_new he)) upd_same
      refine ⟨fun σ H' => σ = [some (.str (S l)), some (.str (S (bodyOf l))), some (.str (S p)), some (.str (S (if st = true then [47] else []))), some (.str (S q)), none] ∧ Same H H' ∧ isNum p = true ∧ (st = true → isNum q = true), ?_, fun σ H2 hm => ?_⟩
      · refine ⟨_, rfl, p, rfl, by omega, fun H2 s2 => ⟨_, rfl, ?_⟩⟩
        have nn : ∀ {H3 : Hp}, Same H1 H3 → isNum p = true → (st = true → isNum q = true) → Same H H3 ∧ isNum p = true ∧ (st = true → isNum q = true) := fun s3 a b => ⟨s1.trans s3, a, b⟩
        refine it2 (fun c1 => err_read (bad (s1.trans s2) ?_)) (fun c1 => ?_)
        · have c2 : ¬ isNum p = true := by simpa using (show (!isNum p) = true from c1)
          rw [hrd]
          unfold readP
          rw [if_neg fun z => c2 z.1]
        · have c2 : isNum p = true := by simpa using (show (!isNum p) = false from c1)
          refine ⟨_, rfl, rfl, _, rfl, it2 (fun c3 => ?_) (fun c3 => ?_)⟩
          · have c4 : st = true := by
              rw [← stroke_dec st]
              exact c3
            refine ⟨_, rfl, q, rfl, by omega, fun H3 s3 => ⟨_, rfl, it2 (fun c5 => err_read (bad (s1.trans (s2.trans s3)) ?_)) (fun c5 => ?_)⟩⟩
            · have c6 : ¬ isNum q = true := by simpa using (show (!isNum q) = true from c5)
              rw [hrd]
              unfold readP
              rw [if_neg fun z => c6 (z.2 c4)]
            · have c6 : isNum q = true := by simpa using (show (!isNum q) = false from c5)
              exact ⟨rfl, s1.trans (s2.trans s3), c2, fun _ => c6⟩
          · have c4 : st = false := by
              rw [← stroke_dec st]
              exact c3
            refine itF rfl ⟨rfl, s1.trans s2, c2, fun z => ?_⟩
            rw [c4] at z
            cases z
      · obtain ⟨rfl, s2, np, nq⟩ := hm
        have hrd2 : readF l = fitF st (decide (bodyOf l ≠ l)) (valN p) (if st = true then valN q else 1) := by
          rw [hrd]
          unfold readP
          rw [if_pos ⟨np, nq⟩]
        obtain ⟨i1, i2⟩ := int_of np
        obtain ⟨u, eu⟩ : ∃ u : Nat, u = (if st = true then valN q else 1) := ⟨_, rfl⟩
        rw [← eu] at hrd2
        have Bt : Big ((valN p : Nat) : Int) := big_nat (val_big np) (by decide)
        have Bu : Big ((u : Nat) : Int) := by
          cases st with
          | true =>
            rw [eu]
            exact big_nat (val_big (nq rfl)) (by decide)
          | false =>
            rw [eu]
            exact big_of (show ((1 : Nat) : Int).natAbs < 2 ^ 200 by decide)
        refine ⟨fun σ H' => ∃ fp : Addr, σ = [some (.str (S l)), some (.str (S (bodyOf l))), some (.str (S p)), some (.str (S (if st = true then [47] else []))), some (.str (S q)), some (.ref fp)] ∧ Same H H' ∧ H' fp = some (.tup [.int ((valN p : Nat) : Int), .int ((u : Nat) : Int)]), ?_, fun σ H3 hm => ?_⟩
        · refine ⟨_, rfl, S p, _, rfl, i1, i2, _, rfl, rfl, _, rfl, it2 (fun c3 => ?_) (fun c3 => ?_)⟩
          · have c4 : st = true := by
              rw [← stroke_dec st]
              exact c3
            obtain ⟨j1, j2⟩ := int_of (nq c4)
            rw [if_pos c4] at eu
            refine ⟨_, rfl, S q, _, rfl, j1, j2, sl 2, fun fp H3 _ s3 e3 => ⟨fp, rfl, s2.trans s3, ?_⟩⟩
            rw [eu]
            exact e3
          · have c4 : st = false := by
              rw [← stroke_dec st]
              exact c3
            rw [c4] at eu
            refine ⟨sl 2, fun fp H3 _ s3 e3 => ⟨fp, rfl, s2.trans s3, ?_⟩⟩
            rw [eu]
            exact e3
        · obtain ⟨fp, rfl, s3, e3⟩ := hm
          have T3 : SqT K H3 fp [.int ((valN p : Nat) : Int), .int ((u : Nat) : Int)] := .inl (.of e3)
          refine ⟨fun σ H' => σ = [some (.str (S l)), some (.str (S (bodyOf l))), some (.str (S p)), some (.str (S (if st = true then [47] else []))), some (.str (S q)), some (.ref fp)] ∧ H' = H3 ∧ 0 < u ∧ Int.gcd ((valN p : Nat) : Int) ((u : Nat) : Int) = 1 ∧ ¬ (st = true ∧ u = 1), ?_, fun σ H4 hm => ?_⟩
          · refine ⟨_, rfl, fp, _, _, rfl, T3, Bt, Bu, _, rfl, it2 (fun c1 => err_read (bad s3 ?_)) (fun c1 => ?_)⟩
            · have c2 : ¬ (0 < u ∧ Int.gcd ((valN p : Nat) : Int) ((u : Nat) : Int) = 1) := fun z => by
                have c2 : (!(decide ((0 : Int) < ((u : Nat) : Int)) && decide (Int.gcd ((valN p : Nat) : Int) ((u : Nat) : Int) = 1))) = true := c1
                rw [decide_eq_true (by omega : (0 : Int) < ((u : Nat) : Int)), decide_eq_true z.2] at c2
                cases c2
              rw [hrd2]
              unfold fitF
              rw [if_neg fun z => c2 ⟨z.1, z.2.1⟩]
            · have c2 : (!(decide ((0 : Int) < ((u : Nat) : Int)) && decide (Int.gcd ((valN p : Nat) : Int) ((u : Nat) : Int) = 1))) = false := c1
              have c5 : 0 < u ∧ Int.gcd ((valN p : Nat) : Int) ((u : Nat) : Int) = 1 := by
                simp only [Bool.not_eq_false', Bool.and_eq_true, decide_eq_true_eq] at c2
                exact ⟨by omega, c2.2⟩
              refine ⟨_, rfl, rfl, _, rfl, it2 (fun c3 => ?_) (fun c3 => ?_)⟩
              · have c4 : st = true := by
                  rw [← stroke_dec st]
                  exact c3
                refine ⟨_, rfl, fp, _, 1, _, rfl, rfl, T3, rfl, rfl, _, rfl, it2 (fun c6 => err_read (bad s3 ?_)) (fun c6 => ?_)⟩
                · have c7 : u = 1 := by
                    have := V.int.inj (of_decide_eq_true c6)
                    omega
                  rw [hrd2]
                  unfold fitF
                  rw [if_neg fun z => z.2.2.1 ⟨c4, c7⟩]
                · have c7 : ¬ u = 1 := fun z => (of_decide_eq_false c6) (by rw [z]; rfl)
                  exact ⟨rfl, rfl, c5.1, c5.2, fun z => c7 z.2⟩
              · have c4 : st = false := by
                  rw [← stroke_dec st]
                  exact c3
                refine itF rfl ⟨rfl, rfl, c5.1, c5.2, fun z => ?_⟩
                rw [c4] at z
                cases z.1
          · obtain ⟨rfl, rfl, g1, g2, g3⟩ := hm
            have hbd : decide (V.str (S (bodyOf l)) = V.str (S l)) = decide (bodyOf l = l) := str_dec _ _
            refine ⟨_, rfl, _, rfl, rfl, _, rfl, ?_⟩
            by_cases hbl : bodyOf l = l
            · refine itF (show (!decide (V.str (S (bodyOf l)) = V.str (S l))) = false by rw [hbd, decide_eq_true hbl]; rfl) ⟨_, rfl, ?_⟩
              have e : readF l = some (((valN p : Nat) : Int), ((u : Nat) : Int)) := by
                rw [hrd2]
                unfold fitF
                rw [if_pos ⟨g1, g2, g3, fun z => (of_decide_eq_true z.1) hbl⟩, decide_eq_false (fun z => z hbl)]
                rfl
              exact hQ _ e _ _ s3 e3
            · refine itT (show (!decide (V.str (S (bodyOf l)) = V.str (S l))) = true by rw [hbd, decide_eq_false hbl]; rfl) ⟨_, rfl, fp, _, 0, _, rfl, rfl, T3, rfl, rfl, _, rfl, it2 (fun c6 => err_read (bad s3 ?_)) (fun c6 => ?_)⟩
              · have c7 : valN p = 0 := by
                  have := V.int.inj (of_decide_eq_true c6)
                  omega
                rw [hrd2]
                unfold fitF
                rw [if_neg fun z => z.2.2.2 ⟨decide_eq_true hbl, c7⟩]
              · have c7 : ¬ valN p = 0 := fun z => (of_decide_eq_false c6) (by rw [z]; rfl)
                have e : readF l = some (0 - ((valN p : Nat) : Int), ((u : Nat) : Int)) := by
                  rw [hrd2]
                  unfold fitF
                  rw [if_pos ⟨g1, g2, g3, fun z => c7 z.2⟩, decide_eq_true hbl]
                  rfl
                exact ⟨_, rfl, fp, _, _, rfl, T3, fun r H5 s5 e5 => hQ _ e _ _ (s3.trans s5) e5⟩
end

/-! ### the law's own reading of a fraction -/
def spRatioOf : Sp := fun vs H Q _ => ∃ l : List Nat, vs = [.str (S l)] ∧ l.length ≤ 500 ∧ (∀ z, readF l = some z → ∀ r H', Same H H' → H' r = some (.tup [.int z.1, .int z.2]) → Q (.ref r) H') ∧ (readF l = none → ∀ H', Same H H' → Q .non H')
section
variable {P : Program} {w : World} {K : PySem.W.Frag} {mg : Str → Option Value} {base : Heap}
theorem ok_law_ratio_of (D : Dn K mg "_law_ratio_of" s_law_ratio_of []) (m_int : mg "int" = none) (h_law_figures : FOk P w K mg base 1 "_law_figures" ["_law_text"] spIsNum) (h_law_low : FOk P w K mg base 2 "_law_low" ["_law_top", "_law_under"] spLow) :
    FOk P w K mg base 3 "_law_ratio_of" ["_law_text"] spRatioOf := by
  refine D.ok sc_law_ratio_of (fun _ _ _ _ _ _ us hl => match us, hl with | [_], _ => rfl) (fun vs H Q E h => ?_) (fun cdv A outer s H vs Q E hr h => ?_)
  · obtain ⟨_, rfl, _⟩ := h
    rfl
  · obtain ⟨l, rfl, hl, hQ, hE⟩ := h
    refine ⟨_, (pss_cut 
    (ps_set (i := 1) sc_law_ratio_of.nd rfl (Or.inl rfl) (pe_ifExp (pt_cmpR op_eq (pe_slice sl_str (pv 0) po_none (po_some pe_int)) pe_str (nomark _)) (pe_slice sl_str (pv 0) (po_some pe_int) po_none) (pv 0))) (pss_cut 
    (ps_asg (pe_partition (pv 1) pe_str) (pg_tup (by rfl) (pgs_cons (pg_name (i := 2) sc_law_ratio_of.nd rfl (Or.inl rfl)) (pgs_cons (pg_name (i := 3) sc_law_ratio_of.nd rfl (Or.inl rfl)) (pgs_cons (pg_name (i := 4) sc_law_ratio_of.nd rfl (Or.inl rfl)) pgs_nil))))) (pss_cut 
    (ps_if (PW.pt (pw_or (pt_not (pt_val (pe_callF h_law_figures (hr.mono (by first | decide | omega)) (pa_cons (pv 2) pa_nil)))) (pw_or1 (PW.pt (pw_and (pt_cmpR op_eq (pv 3) pe_str (nomark _)) (pw_and1 (PW.pt (pw_or (pt_not (pt_val (pe_callF h_law_figures (hr.mono (by first | decide | omega)) (pa_cons (pv 4) pa_nil)))) (pw_or1 (pt_cmpR op_in_seq (pv 4) (pe_tupA (pa_cons pe_str (pa_cons pe_str pa_nil))) rfl)))))))))) (pss_one 
      (ps_ret pe_non)) pss_nil) (pss_cut 
    (ps_set (i := 5) sc_law_ratio_of.nd rfl (Or.inl rfl) (pe_tupA (pa_cons (pe_callTy call_int_str (by rfl) m_int (by decide +kernel) (pa_cons (pv 2) pa_nil)) (pa_cons (pe_ifExp (pt_cmpR op_eq (pv 3) pe_str (nomark _)) (pe_callTy call_int_str (by rfl) m_int (by decide +kernel) (pa_cons (pv 4) pa_nil)) pe_int) pa_nil)))) (pss_cut 
    (ps_if (PW.pt (pw_or (pt_cmpR (op_neD hr.units) (pe_callF h_law_low (hr.mono (by first | decide | omega)) (pa_cons (pe_ix ix_tup (pv 5) pe_int (fun _ _ => rfl)) (pa_cons (pe_ix ix_tup (pv 5) pe_int (fun _ _ => rfl)) pa_nil))) (pv 5) (nomark _)) (pw_or1 (PW.pt (pw_and (pt_cmpR op_ne (pv 1) (pv 0) (nomark _)) (pw_and1 (pt_cmpR op_eq (pe_ix ix_tup (pv 5) pe_int (fun _ _ => rfl)) pe_int (nomark _)))))))) (pss_one 
      (ps_ret pe_non)) pss_nil) (pss_one 
    (ps_ret (pe_ifExp (pt_cmpR op_eq (pv 1) (pv 0) (nomark _)) (pv 5) (pe_tupA (pa_cons (pe_un un_neg (pe_ix ix_tup (pv 5) pe_int (fun _ _ => rfl))) (pa_cons (pe_ix ix_tup (pv 5) pe_int (fun _ _ => rfl)) pa_nil))))))))))), ?_⟩
    have hlen : (S l).length ≤ sizeLine := by rw [S_len]; exact CT.sl _ (by omega)
    refine ⟨fun σ H' => σ = [some (.str (S l)), some (.str (S (bodyOf l))), none, none, none, none] ∧ H' = H, ?_, fun σ H1 hm => ?_⟩
    · have hmn : decide (V.str (cutS (S l) none (some 1)) = V.str (S [45])) = decide (l.head? = some 45) := by rw [cut_head, minus_dec]
      refine ⟨_, rfl, 1, rfl, S l, rfl, hlen, rfl, _, rfl, it2 (fun c1 => ?_) (fun c1 => ?_)⟩
      · have c2 : decide (l.head? = some 45) = true := by
          rw [← hmn]
          exact c1
        have eb : S (bodyOf l) = cutS (S l) (some 1) none := by
          unfold bodyOf
          rw [if_pos (of_decide_eq_true c2), cut_tail]
        refine ⟨_, rfl, 1, rfl, S l, rfl, hlen, ?_, rfl⟩
        rw [eb]
        rfl
      · have c2 : decide (l.head? = some 45) = false := by
          rw [← hmn]
          exact c1
        have eb : bodyOf l = l := by
          unfold bodyOf
          rw [if_neg (of_decide_eq_false c2)]
        refine ⟨_, rfl, ?_, rfl⟩
        rw [eb]
        rfl
    · obtain ⟨rfl, rfl⟩ := hm
      have hb := body_len l
      obtain ⟨hp1, hq1⟩ := parts_len l
      have hrd := read_parts l
      have hpt := part_S l
      obtain ⟨st, est⟩ : ∃ st, st = (partsOf l).1 := ⟨_, rfl⟩
      obtain ⟨p, ep⟩ : ∃ p, p = (partsOf l).2.1 := ⟨_, rfl⟩
      obtain ⟨q, eq⟩ : ∃ q, q = (partsOf l).2.2 := ⟨_, rfl⟩
      rw [← est, ← ep, ← eq] at hrd hpt
      rw [← ep] at hp1
      rw [← eq] at hq1
      refine ⟨fun σ H' => σ = [some (.str (S l)), some (.str (S (bodyOf l))), some (.str (S p)), some (.str (S (if st = true then [47] else []))), some (.str (S q)), none] ∧ Same H1 H', ?_, fun σ H2 hm => ?_⟩
      · refine ⟨_, rfl, ⟨_, rfl⟩, _, _, rfl, rfl, rfl, by rw [S_len]; exact CT.sl _ (by omega), fun tp ht => ?_⟩
        have e2 : Txt.partition (S (bodyOf l)) (Str.ofString "/") = (S p, S (if st = true then [47] else []), S q) := hpt
        rw [e2]
        exact ⟨tp, _, rfl, .of upd_same, rfl, _, _, rfl, _, _, rfl, _, _, rfl, rfl, rfl, same_new ht⟩
      · obtain ⟨rfl, s1⟩ := hm
        have hqd : ∀ z : List Nat, decide (V.str (S q) = V.str (S z)) = decide (q = z) := fun z => str_dec q z
        refine ⟨fun σ H' => σ = [some (.str (S l)), some (.str (S (bodyOf l))), some (.str (S p)), some (.str (S (if st = true then [47] else []))), some (.str (S q)), none] ∧ Same H1 H' ∧ isNum p = true ∧ (st = true → isNum q = true ∧ 2 ≤ valN q), ?_, fun σ H3 hm => ?_⟩
        · refine ⟨_, rfl, p, rfl, by omega, fun H3 s3 => ⟨_, rfl, it2 (fun c1 => hE ?_ _ (s1.trans s3)) (fun c1 => ?_)⟩⟩
          · have c2 : ¬ isNum p = true := by simpa using (show (!isNum p) = true from c1)
            rw [hrd]
            unfold readP
            rw [if_neg fun z => c2 z.1]
          · have c2 : isNum p = true := by simpa using (show (!isNum p) = false from c1)
            refine ⟨_, rfl, rfl, _, rfl, it2 (fun c3 => ?_) (fun c3 => ?_)⟩
            · have c4 : st = true := by
                rw [← stroke_dec st]
                exact c3
              refine ⟨_, rfl, q, rfl, by omega, fun H4 s4 => ⟨_, rfl, it2 (fun c5 => hE ?_ _ (s1.trans (s3.trans s4))) (fun c5 => ?_)⟩⟩
              · have c6 : ¬ isNum q = true := by simpa using (show (!isNum q) = true from c5)
                rw [hrd]
                unfold readP
                rw [if_neg fun z => c6 (z.2 c4)]
              · have c6 : isNum q = true := by simpa using (show (!isNum q) = false from c5)
                refine ⟨_, rfl, sl 2, fun t5 H5 _ s5 e5 => ⟨t5, _, rfl, .inr (.inl (.of e5)), rfl, rfl, _, rfl, it2 (fun c7 => hE ?_ _ (s1.trans (s3.trans (s4.trans s5)))) (fun c7 => ?_)⟩⟩
                · have c8 : decide (q = [48] ∨ q = [49]) = true := by
                    rw [← in_two]
                    exact c7
                  have c9 := of_decide_eq_true c8
                  rw [hrd]
                  unfold readP fitF
                  rw [if_pos ⟨c2, fun _ => c6⟩, if_pos c4, if_neg]
                  rintro ⟨z1, _, z3, _⟩
                  rcases c9 with e | e
                  · rw [e] at z1
                    exact absurd z1 (by decide)
                  · rw [e] at z3
                    exact z3 ⟨c4, by decide⟩
                · have c8 : decide (q = [48] ∨ q = [49]) = false := by
                    rw [← in_two]
                    exact c7
                  have c9 := of_decide_eq_false c8
                  exact ⟨rfl, s1.trans (s3.trans (s4.trans s5)), c2, fun _ => ⟨c6, val_two c6 (fun z => c9 (.inl z)) fun z => c9 (.inr z)⟩⟩
            · have c4 : st = false := by
                rw [← stroke_dec st]
                exact c3
              refine itF rfl ⟨rfl, s1.trans s3, c2, fun z => ?_⟩
              rw [c4] at z
              cases z
        · obtain ⟨rfl, s3, np, nq⟩ := hm
          obtain ⟨u, eu⟩ : ∃ u : Nat, u = (if st = true then valN q else 1) := ⟨_, rfl⟩
          have hrd2 : readF l = fitF st (decide (bodyOf l ≠ l)) (valN p) u := by
            rw [hrd, eu]
            unfold readP
            rw [if_pos ⟨np, fun z => (nq z).1⟩]
          have u0 : 0 < u ∧ ¬ (st = true ∧ u = 1) := by
            cases st with
            | true =>
              have := (nq rfl).2
              rw [if_pos rfl] at eu
              exact ⟨by omega, fun z => by omega⟩
            | false =>
              have : u = 1 := eu
              exact ⟨by omega, fun z => by cases z.1⟩
          have Bt : Big ((valN p : Nat) : Int) := big_nat (val_big np) (by decide)
          have Bu : Big ((u : Nat) : Int) := by
            cases st with
            | true =>
              rw [eu]
              exact big_nat (val_big (nq rfl).1) (by decide)
            | false =>
              rw [eu]
              exact big_of (show ((1 : Nat) : Int).natAbs < 2 ^ 200 by decide)
          obtain ⟨i1, i2⟩ := int_of np
          refine ⟨fun σ H' => ∃ fp : Addr, σ = [some (.str (S l)), some (.str (S (bodyOf l))), some (.str (S p)), some (.str (S (if st = true then [47] else []))), some (.str (S q)), some (.ref fp)] ∧ Same H1 H' ∧ H' fp = some (.tup [.int ((valN p : Nat) : Int), .int ((u : Nat) : Int)]), ?_, fun σ H4 hm => ?_⟩
          · refine ⟨_, rfl, S p, _, rfl, i1, i2, _, rfl, rfl, _, rfl, it2 (fun c3 => ?_) (fun c3 => ?_)⟩
            · have c4 : st = true := by
                rw [← stroke_dec st]
                exact c3
              obtain ⟨j1, j2⟩ := int_of (nq c4).1
              rw [if_pos c4] at eu
              refine ⟨_, rfl, S q, _, rfl, j1, j2, sl 2, fun fp H4 _ s4 e4 => ⟨fp, rfl, s3.trans s4, ?_⟩⟩
              rw [eu]
              exact e4
            · have c4 : st = false := by
                rw [← stroke_dec st]
                exact c3
              rw [c4] at eu
              refine ⟨sl 2, fun fp H4 _ s4 e4 => ⟨fp, rfl, s3.trans s4, ?_⟩⟩
              rw [eu]
              exact e4
          · obtain ⟨fp, rfl, s4, e4⟩ := hm
            have T4 : SqT K H4 fp [.int ((valN p : Nat) : Int), .int ((u : Nat) : Int)] := .inl (.of e4)
            have hbd : decide (V.str (S (bodyOf l)) = V.str (S l)) = decide (bodyOf l = l) := str_dec _ _
            refine ⟨fun σ H' => σ = [some (.str (S l)), some (.str (S (bodyOf l))), some (.str (S p)), some (.str (S (if st = true then [47] else []))), some (.str (S q)), some (.ref fp)] ∧ Same H1 H' ∧ SqT K H' fp [.int ((valN p : Nat) : Int), .int ((u : Nat) : Int)] ∧ H' fp = some (.tup [.int ((valN p : Nat) : Int), .int ((u : Nat) : Int)]) ∧ Int.gcd ((valN p : Nat) : Int) ((u : Nat) : Int) = 1 ∧ ¬ (bodyOf l ≠ l ∧ valN p = 0), ?_, fun σ H6 hm => ?_⟩
            · refine ⟨_, rfl, fp, _, 0, _, rfl, rfl, T4, rfl, _, rfl, fp, _, 1, _, rfl, rfl, T4, rfl, _, _, rfl, Bt, Bu, by omega, fun lp H5 _ s5 e5 => ?_⟩
              have T5 := sqT_same s5 T4
              refine ⟨_, rfl, ne_pair (.inl (.of e5)) T5 ⟨_, rfl, it2 (fun c1 => hE ?_ _ (s4.trans s5)) (fun c1 => ?_)⟩⟩
              · have c2 : ¬ (fracT ((valN p : Nat) : Int) ((u : Nat) : Int) = ((valN p : Nat) : Int) ∧ fracU ((valN p : Nat) : Int) ((u : Nat) : Int) = ((u : Nat) : Int)) := by
                  have c2 : (!decide (fracT ((valN p : Nat) : Int) ((u : Nat) : Int) = ((valN p : Nat) : Int) ∧ fracU ((valN p : Nat) : Int) ((u : Nat) : Int) = ((u : Nat) : Int))) = true := c1
                  intro z
                  rw [decide_eq_true z] at c2
                  cases c2
                rw [frac_same (by omega)] at c2
                rw [hrd2]
                unfold fitF
                rw [if_neg fun z => c2 z.2.1]
              · have c2 : fracT ((valN p : Nat) : Int) ((u : Nat) : Int) = ((valN p : Nat) : Int) ∧ fracU ((valN p : Nat) : Int) ((u : Nat) : Int) = ((u : Nat) : Int) := by
                  have c2 : (!decide (fracT ((valN p : Nat) : Int) ((u : Nat) : Int) = ((valN p : Nat) : Int) ∧ fracU ((valN p : Nat) : Int) ((u : Nat) : Int) = ((u : Nat) : Int))) = false := c1
                  exact of_decide_eq_true (by rw [← Bool.not_not (decide _), c2]; rfl)
                rw [frac_same (by omega)] at c2
                refine ⟨_, rfl, _, rfl, rfl, _, rfl, ?_⟩
                by_cases hbl : bodyOf l = l
                · exact itF (show (!decide (V.str (S (bodyOf l)) = V.str (S l))) = false by rw [hbd, decide_eq_true hbl]; rfl) (itF rfl ⟨rfl, s4.trans s5, T5, s5 _ _ e4, c2, fun z => z.1 hbl⟩)
                · refine itT (show (!decide (V.str (S (bodyOf l)) = V.str (S l))) = true by rw [hbd, decide_eq_false hbl]; rfl) ⟨_, rfl, fp, _, 0, _, rfl, rfl, T5, rfl, rfl, _, rfl, it2 (fun c6 => hE ?_ _ (s4.trans s5)) (fun c6 => ?_)⟩
                  · have c7 : valN p = 0 := by
                      have := V.int.inj (of_decide_eq_true c6)
                      omega
                    rw [hrd2]
                    unfold fitF
                    rw [if_neg fun z => z.2.2.2 ⟨decide_eq_true hbl, c7⟩]
                  · have c7 : ¬ valN p = 0 := fun z => (of_decide_eq_false c6) (by rw [z]; rfl)
                    exact ⟨rfl, s4.trans s5, T5, s5 _ _ e4, c2, fun z => c7 z.2⟩
            · obtain ⟨rfl, s6, T6, e6, g1, g2⟩ := hm
              refine ⟨_, rfl, _, rfl, rfl, _, rfl, ?_⟩
              by_cases hbl : bodyOf l = l
              · refine itT (show decide (V.str (S (bodyOf l)) = V.str (S l)) = true by rw [hbd, decide_eq_true hbl]) ⟨_, rfl, ?_⟩
                have e : readF l = some (((valN p : Nat) : Int), ((u : Nat) : Int)) := by
                  rw [hrd2]
                  unfold fitF
                  rw [if_pos ⟨u0.1, g1, u0.2, fun z => (of_decide_eq_true z.1) hbl⟩, decide_eq_false (fun z => z hbl)]
                  rfl
                exact hQ _ e _ _ s6 e6
              · refine itF (show decide (V.str (S (bodyOf l)) = V.str (S l)) = false by rw [hbd, decide_eq_false hbl]) ?_
                have e : readF l = some (0 - ((valN p : Nat) : Int), ((u : Nat) : Int)) := by
                  rw [hrd2]
                  unfold fitF
                  rw [if_pos ⟨u0.1, g1, u0.2, fun z => g2 ⟨hbl, z.2⟩⟩, decide_eq_true hbl]
                  rfl
                refine ⟨_, rfl, fp, _, 0, _, rfl, rfl, T6, rfl, _, rfl, _, rfl, fp, _, 1, _, rfl, rfl, T6, rfl, sl 2, fun r H7 _ s7 e7 => hQ _ e _ _ (s6.trans s7) ?_⟩
                rw [e7]
                show some (HO.tup [V.int (-((valN p : Nat) : Int)), V.int ((u : Nat) : Int)]) = some (HO.tup [V.int (0 - ((valN p : Nat) : Int)), V.int ((u : Nat) : Int)])
                rw [Int.zero_sub]
end

/-! ### a fraction's text -/
def spRText (K : PySem.W.Frag) : Sp := fun vs H Q _ => ∃ (p : Addr) (t u : Int), vs = [.ref p] ∧ SqT K H p [.int t, .int u] ∧ t.natAbs < 10 ^ 30 ∧ u.natAbs < 10 ^ 30 ∧ Q (.str (S (textF t u))) H
section
variable {P : Program} {w : World} {K : PySem.W.Frag} {mg : Str → Option Value} {base : Heap}
theorem ok_law_ratio_text (D : Dn K mg "_law_ratio_text" s_law_ratio_text []) (m_str : mg "str" = none) : FOk P w K mg base 1 "_law_ratio_text" ["_law_one"] (spRText K) := by
  refine D.ok sc_law_ratio_text (fun _ _ _ _ _ _ us hl => match us, hl with | [_], _ => rfl) (fun vs H Q E h => ?_) (fun cdv A outer s H vs Q E hr h => ?_)
  · obtain ⟨_, _, _, rfl, _⟩ := h
    rfl
  · obtain ⟨p, t, u, rfl, hp, ht, hu, hQ⟩ := h
    refine ⟨_, (pss_one 
    (ps_ret (pe_ifExp (pt_cmpR op_eq (pe_ix ix_tup (pv 0) pe_int (fun _ _ => rfl)) pe_int (nomark _)) (pe_callTy call_str_int (by rfl) m_str (by decide +kernel) (pa_cons (pe_ix ix_tup (pv 0) pe_int (fun _ _ => rfl)) pa_nil)) (pe_op op_add_str (pe_op op_add_str (pe_callTy call_str_int (by rfl) m_str (by decide +kernel) (pa_cons (pe_ix ix_tup (pv 0) pe_int (fun _ _ => rfl)) pa_nil)) pe_str) (pe_callTy call_str_int (by rfl) m_str (by decide +kernel) (pa_cons (pe_ix ix_tup (pv 0) pe_int (fun _ _ => rfl)) pa_nil)))))), ?_⟩
    refine ⟨_, rfl, p, _, 1, _, rfl, rfl, hp, rfl, rfl, _, rfl, ?_⟩
    by_cases h1 : u = 1
    · subst h1
      refine itT (decide_eq_true rfl) ⟨_, rfl, p, _, 0, _, rfl, rfl, hp, rfl, t, rfl, dec_log ht, ?_⟩
      rw [text_one] at hQ
      exact hQ
    · refine itF (decide_eq_false fun z => h1 (V.int.inj z)) ⟨_, rfl, p, _, 0, _, rfl, rfl, hp, rfl, t, rfl, dec_log ht, _, _, rfl, rfl, ?_, _, rfl, p, _, 1, _, rfl, rfl, hp, rfl, u, rfl, dec_log hu, _, _, rfl, rfl, ?_, ?_⟩
      · show (Str.ofString (toString t)).length + 1 ≤ sizeLine
        rw [dec_S, S_len]
        have := dec_len ht
        exact CT.sl _ (by omega)
      · show (Str.ofString (toString t) ++ S [47]).length + (Str.ofString (toString u)).length ≤ sizeLine
        rw [dec_S, dec_S, cat_S, S_len, S_len, List.length_append]
        have := dec_len ht
        have := dec_len hu
        exact CT.sl _ (by show (decL t).length + 1 + (decL u).length ≤ 100000; omega)
      · rw [text_two h1] at hQ
        exact hQ
theorem ok_ratio_text (D : Dn K mg "ratio_text" s_ratio_text []) (m_str : mg "str" = none) : FOk P w K mg base 1 "ratio_text" ["one"] (spRText K) := by
  refine D.ok sc_ratio_text (fun _ _ _ _ _ _ us hl => match us, hl with | [_], _ => rfl) (fun vs H Q E h => ?_) (fun cdv A outer s H vs Q E hr h => ?_)
  · obtain ⟨_, _, _, rfl, _⟩ := h
    rfl
  · obtain ⟨p, t, u, rfl, hp, ht, hu, hQ⟩ := h
    refine ⟨_, (pss_one 
    (ps_ret (pe_ifExp (pt_cmpR op_eq (pe_ix ix_tup (pv 0) pe_int (fun _ _ => rfl)) pe_int (nomark _)) (pe_callTy call_str_int (by rfl) m_str (by decide +kernel) (pa_cons (pe_ix ix_tup (pv 0) pe_int (fun _ _ => rfl)) pa_nil)) (pe_joined (PJ.cons (pe_fmt (pe_ix ix_tup (pv 0) pe_int (fun _ _ => rfl))) (PJ.cons pe_str (PJ.cons (pe_fmt (pe_ix ix_tup (pv 0) pe_int (fun _ _ => rfl))) PJ.nil))))))), ?_⟩
    refine ⟨_, rfl, p, _, 1, _, rfl, rfl, hp, rfl, rfl, _, rfl, ?_⟩
    by_cases h1 : u = 1
    · subst h1
      refine itT (decide_eq_true rfl) ⟨_, rfl, p, _, 0, _, rfl, rfl, hp, rfl, t, rfl, dec_log ht, ?_⟩
      rw [text_one] at hQ
      exact hQ
    · refine itF (decide_eq_false fun z => h1 (V.int.inj z)) ⟨_, rfl, p, _, 0, _, rfl, rfl, hp, rfl, .inr ⟨t, rfl, dec_log ht, _, rfl, ?_, _, rfl, ?_, _, rfl, p, _, 1, _, rfl, rfl, hp, rfl, .inr ⟨u, rfl, dec_log hu, _, rfl, ?_, ?_⟩⟩⟩
      · show (Str.empty ++ Str.ofString (toString t)).length ≤ sizeLine
        rw [emp_cat, dec_S, S_len]
        have := dec_len ht
        exact CT.sl _ (by omega)
      · show (Str.empty ++ Str.ofString (toString t) ++ S [47]).length ≤ sizeLine
        rw [emp_cat, dec_S, cat_S, S_len, List.length_append]
        have := dec_len ht
        exact CT.sl _ (by show (decL t).length + 1 ≤ 100000; omega)
      · show (Str.empty ++ Str.ofString (toString t) ++ S [47] ++ Str.ofString (toString u)).length ≤ sizeLine
        rw [emp_cat, dec_S, dec_S, cat_S, cat_S, S_len, List.length_append, List.length_append]
        have := dec_len ht
        have := dec_len hu
        exact CT.sl _ (by show (decL t).length + 1 + (decL u).length ≤ 100000; omega)
      · show Q (.str (Str.empty ++ Str.ofString (toString t) ++ S [47] ++ Str.ofString (toString u))) H
        rw [emp_cat]
        rw [text_two h1] at hQ
        exact hQ
end

/-! ### the law -/
def oddL : List (List Nat) := [[], [45], [47], [49, 47], [47, 50], [50, 47, 52], [51, 47, 49], [48, 48], [45, 48], [49, 47, 48], [45, 45, 49], [49, 47, 45, 50], [48, 47, 49], List.replicate 31 57, 49 :: 47 :: List.replicate 31 55, [49, 46, 53], [49, 10], [10, 49], [49, 47, 50, 10]]
theorem odd_none : ∀ l ∈ oddL, readF l = none ∧ l.length ≤ 500 := by decide +kernel
def spLaw (K : PySem.W.Frag) (P : Addr) : Sp := fun vs H Q _ => ∃ (a : Addr) (ns : List Int), vs = [.ref a] ∧ SqL K H a (ns.map V.int) ∧ ns.length ≤ 63 ∧ H P = some (.tbl #[]) ∧ ∀ H', Q (.bl true) H'
section
variable {P : Program} {w : World} {K : PySem.W.Frag} {mg : Str → Option Value} {base : Heap}
/-- the law's lambdas -/
def lawT (K : PySem.W.Frag) : List (Addr × Str) := [((cT K ("law", none)).2, "law.<locals>.<lambda>")]
def why1 : List (Str × Option Str) := [("ParseError", some "at")]
theorem ok_law {fd : FuncData} (F : FunD K "law" "law" (defArgs s_law) (defBody s_law) (defScope s_law) [] [] (ga K "law") fd) (TB : LamX.TabB base mg (cT K ("law", none)).1 (cT K ("law", none)).2) (D_why : Dn K mg "_law_why" s_law_why []) (gE : ∀ m ∈ whyNames, mg m = some (.ref (ga K m)))
    (hR : ∀ n x, (n, x) ∈ why1 → WhyC K n x ∧ (∀ c ∈ whyCl, n ∈ c.1 → c.2 = x) ∧ ∃ c ∈ whyCl, n ∈ c.1)
    (h_law_feed : FOk P w K mg base 1 "_law_feed" ["_law_script"] (spFeed K)) (h_law_take : FOk P w K mg base 1 "_law_take" ["_law_feed_here", "_law_many"] spTakeA) (h_law_pick : FOk P w K mg base 2 "_law_pick" ["_law_feed_here", "_law_things"] (spPickA K)) (h_law_number : FOk P w K mg base 3 "_law_number" ["_law_feed_here", "_law_size"] spNumber)
    (h_law_ratio_text : FOk P w K mg base 1 "_law_ratio_text" ["_law_one"] (spRText K)) (h_law_ratio_of : FOk P w K mg base 3 "_law_ratio_of" ["_law_text"] spRatioOf) (h_law_same : FOk P w K mg base 3 "_law_same" ["_law_found", "_law_due"] (spSame K 3))
    (h_ratio_text : FOk P w K mg base 1 "ratio_text" ["one"] (spRText K)) (h_read_ratio : FOkX (L2.CX P w) P w K mg base 3 "read_ratio" ["text"] (spRead K)) (m_range : mg "range" = none) (m_len : mg "len" = none) :
    FnOk P w K mg base CX0 6 (ga K "law") fd ["_law_script"] (spLaw K (cT K ("law", none)).2) := by
  refine okC F sc_law (fun vs H Q E h => ?_) (fun A outer s H vs Q E hr h => ?_)
  · obtain ⟨_, _, rfl, _⟩ := h
    rfl
  · obtain ⟨a, ns, rfl, hs, hl, hP, hq⟩ := h
    refine ⟨_, (pss_cons 
    (ps_set (i := 1) sc_law.nd rfl (Or.inl rfl) (pe_callF h_law_feed (hr.mono (by first | decide | omega)) (pa_cons (pv 0) pa_nil))) (pss_cons 
    (ps_for PassesOwn.never rfl (pi_range1 (by rfl) m_range (pa_cons pe_int pa_nil)) (pg_name (i := 2) sc_law.nd rfl (Or.inl rfl)) (pss_cons 
      (ps_set (i := 3) sc_law.nd rfl (Or.inl rfl) (pe_callF h_law_number (hr.mono (by first | decide | omega)) (pa_cons (pv 1) (pa_cons (pe_callF h_law_pick (hr.mono (by first | decide | omega)) (pa_cons (pv 1) (pa_cons (pe_lstA (pa_cons pe_int (pa_cons pe_int (pa_cons (pe_op op_pow pe_int pe_int) (pa_cons (pe_op op_pow pe_int pe_int) pa_nil))))) pa_nil))) pa_nil)))) (pss_cons 
      (ps_set (i := 4) sc_law.nd rfl (Or.inl rfl) (pe_callF h_law_ratio_text (hr.mono (by first | decide | omega)) (pa_cons (pv 3) pa_nil))) (pss_cons 
      (ps_if (pt_not (pt_val (pe_callF h_law_same (hr.mono (by first | decide | omega)) (pa_cons (pe_lstA (pa_cons (pe_callF h_ratio_text (hr.mono (by first | decide | omega)) (pa_cons (pv 3) pa_nil)) (pa_cons (pe_callE h_read_ratio passL (hr.mono (by first | decide | omega)) (pa_cons (pv 4) pa_nil)) pa_nil))) (pa_cons (pe_lstA (pa_cons (pv 4) (pa_cons (pv 3) pa_nil))) pa_nil))))) (pss_one 
        (ps_ret pe_bl)) pss_nil) (pss_cons 
      (ps_par (i := 5) (j := 6) (by rfl) sc_law.nd rfl rfl (by decide) rfl rfl (pa_cons (pe_callF h_law_take (hr.mono (by first | decide | omega)) (pa_cons (pv 1) (pa_cons (pe_op op_add (pe_callB call_len_str (by rfl) m_len (by decide +kernel) (pa_cons (pv 4) pa_nil)) pe_int) pa_nil))) (pa_cons (pe_callF h_law_pick (hr.mono (by first | decide | omega)) (pa_cons (pv 1) (pa_cons (pe_lstA (pa_cons pe_str (pa_cons pe_str (pa_cons pe_str (pa_cons pe_str (pa_cons pe_str (pa_cons pe_str (pa_cons pe_str pa_nil)))))))) pa_nil))) pa_nil)) (by rfl)) (pss_cut 
      (ps_set (i := 7) sc_law.nd rfl (Or.inr rfl) (pe_op op_add_str (pe_op op_add_str (pe_slice sl_str (pv 4) po_none (po_some (pv 5))) (pv 6)) (pe_slice sl_str (pv 4) (po_some (pe_op op_add (pv 5) (pe_callF h_law_take (hr.mono (by first | decide | omega)) (pa_cons (pv 1) (pa_cons pe_int pa_nil))))) po_none))) (pss_cut 
      (ps_if (pt_cmpR op_eq (pe_callF h_law_take (hr.mono (by first | decide | omega)) (pa_cons (pv 1) (pa_cons pe_int pa_nil))) pe_int (nomark _)) (pss_one 
        (ps_set (i := 7) sc_law.nd rfl (Or.inr rfl) (pe_op op_add_str (pe_slice sl_str (pv 4) po_none (po_some (pv 5))) (pe_slice sl_str (pv 4) (po_some (pe_op op_add (pv 5) pe_int)) po_none)))) pss_nil) (pss_cons 
      (ps_set (i := 8) sc_law.nd rfl (Or.inl rfl) (pe_callF h_law_ratio_of (hr.mono (by first | decide | omega)) (pa_cons (pv 7) pa_nil))) (pss_one 
      (ps_if (pt_cmpR op_isN (pv 8) pe_non (nomark _)) (pss_one 
        (ps_if (pt_cmpR (op_neD hr.units) (pe_why (k := 3) (T := lawT K) D_why gE hR TB rfl (List.Mem.head _) (fun p hp _ => congrArg Prod.snd (List.mem_singleton.mp hp)) hr (LamX.lamS_by (sc := defScope s_law) (by decide +kernel)) rfl (fun _ _ _ _ _ => rfl) (fun A outer s H E f c hr2 => (pe_callE h_read_ratio pass_lam (hr2.mono (by first | decide | omega)) (pa_cons (pv 7) pa_nil)))) (pe_tupA (pa_cons pe_str (pa_cons pe_int pa_nil))) (nomark _)) (pss_one 
          (ps_ret pe_bl)) pss_nil)) (pss_one 
        (ps_if (pt_not (pt_val (pe_callF h_law_same (hr.mono (by first | decide | omega)) (pa_cons (pe_callE h_read_ratio passL (hr.mono (by first | decide | omega)) (pa_cons (pv 7) pa_nil)) (pa_cons (pv 8) pa_nil))))) (pss_one 
          (ps_ret pe_bl)) pss_nil)))))))))))) (pss_cons 
    (ps_set (i := 9) sc_law.nd rfl (Or.inl rfl) (pe_lstA (pa_cons pe_str (pa_cons pe_str (pa_cons pe_str (pa_cons pe_str (pa_cons pe_str (pa_cons pe_str (pa_cons pe_str (pa_cons pe_str (pa_cons pe_str (pa_cons pe_str (pa_cons pe_str (pa_cons pe_str (pa_cons pe_str (pa_cons (pe_op op_repS pe_str pe_int) (pa_cons (pe_op op_add_str pe_str (pe_op op_repS pe_str pe_int)) (pa_cons pe_str (pa_cons pe_str (pa_cons pe_str (pa_cons pe_str pa_nil))))))))))))))))))))) (pss_one 
    (ps_ret (pe_cmpR (op_eqD hr.units) (pe_lc (own := [("_law_text", 4)]) (g := (gName 4)) (tt := tYes) (te := (LamX.tLam (lawT K) (TWhy K why1) fun E => tCall (spRead K) [] E (tCons (tVar 4) tNil))) (by rfl) sc_law.nd (pi_list (pv 9)) (blkOk_by (own := [("_law_text", 4)]) (N := n_law) (sc := defScope s_law) (by decide +kernel)) (fun _ _ _ _ _ => (pg_name (i := 4) sc_law.nd rfl (Or.inr rfl))) (fun _ _ _ _ _ => pts_nil) (fun _ _ _ _ _ => (by exact (pe_why (k := 3) (T := lawT K) D_why gE hR TB rfl (List.Mem.head _) (fun p hp _ => congrArg Prod.snd (List.mem_singleton.mp hp)) hr (LamX.lamS_by (by rfl)) rfl (fun _ _ _ _ _ => rfl) (fun A outer s H E f c hr2 => (pe_callE h_read_ratio pass_lam (hr2.mono (by first | decide | omega)) (pa_cons (pv 4) pa_nil))))))) (pe_op op_rep (pe_lstA (pa_cons (pe_tupA (pa_cons pe_str (pa_cons pe_int pa_nil))) pa_nil)) (pe_callB call_len_seq (by rfl) m_len (by decide +kernel) (pa_cons (pv 9) pa_nil))) (nomark _))))))), ?_⟩
    refine ⟨_, rfl, a, ns, rfl, hs, hl, fun H1 p c sm hp hc hF => ?_⟩
    have hP1 : H1 (cT K ("law", none)).2 = some (.tbl #[]) := sm _ _ hP
    have ht1 : LamX.Tabs (lawT K) H1 := fun q hq => by
      rw [List.mem_singleton.mp hq]
      exact LamX.TabS.nil hP1
    refine ⟨8, rfl, by decide, by decide, for_range (fun i σ H' => ∃ x2 x3 x4 x5 x6 x7 x8 x9 : Option V, σ = [some (.ref a), some (.ref p), x2, x3, x4, x5, x6, x7, x8, x9] ∧ Feed H' p c ns ∧ LamX.Tabs (lawT K) H') ⟨_, _, _, _, _, _, _, _, rfl, hF, ht1⟩ (fun i σ H2 _ hp => ?_) (fun σ H2 hp => ?_)⟩
    · obtain ⟨x2, x3, x4, x5, x6, x7, x8, x9, rfl, hF, ht⟩ := hp
      refine ⟨_, rfl, _, rfl, 10, 9, rfl, rfl, ⟨by decide, by decide, by decide⟩, 10, 29, rfl, rfl, ⟨by decide, by decide, by decide⟩, sl 4, fun l Ha hl sm2 hla => ?_⟩
      have hFa := hF.keep sm2
      have hta := ht.ext sm2
      refine ⟨p, c, l, ns, _, rfl, hFa, hF.far hl, .inl (.of hla), by decide, by decide, fun v Hb hv nb => ?_⟩
      obtain ⟨sz, rfl, z0, z1⟩ : ∃ sz : Int, v = .int sz ∧ 0 < sz ∧ sz ≤ 10 ^ 29 := by
        simp only [List.mem_cons, List.not_mem_nil, or_false] at hv
        rcases hv with e | e | e | e
        all_goals exact ⟨_, e, by decide, by decide⟩
      have htb := nb.tabs hFa hta
      have hFb := nb.f
      clear hF ht hFa hta sm2 hla hv nb hl
      refine ⟨p, c, ns, sz, rfl, hFb, z0, by omega, fun r1 Hc t u nc e1 u0 bt bu hg => ?_⟩
      have htc := nc.tabs hFb htb
      have hFc := nc.f
      have bt2 : t.natAbs < 10 ^ 30 := by omega
      have bu2 : u.natAbs < 10 ^ 30 := by omega
      clear hFb htb nc
      refine ⟨_, rfl, r1, t, u, rfl, .inl (.of e1), bt2, bu2, ?_⟩
      have hlen : (textF t u).length ≤ 70 := by
        unfold textF
        rw [List.length_append]
        have := dec_len bt2
        have := dec_len bu2
        split
        · simp; omega
        · simp; omega
      refine ⟨_, rfl, r1, t, u, rfl, .inl (.of e1), bt2, bu2, _, rfl, textF t u, rfl, by omega, fun z hz r2 Hd sd ed => ?_, fun hn => ?_⟩
      · rw [read_text u0 hg bt2 bu2] at hz
        cases hz
        refine ⟨sl 2, fun l1 He _ se ee => ⟨_, rfl, _, rfl, sl 2, fun l2 Hf _ sf ef => ?_⟩⟩
        have s1 := sd.trans (se.trans sf)
        refine ⟨_, _, rfl, eqL2 (sf _ _ ee) ef ⟨eqS rfl, eqT2 ((se.trans sf) _ _ ed) (s1 _ _ e1) ⟨eqI rfl, eqI rfl, trivial⟩, trivial⟩, fun Hg sg => ?_⟩
        have hFg := hFc.keep (s1.trans sg)
        have htg := htc.ext (s1.trans sg)
        clear hFc htc e1 sd ed se ee sf ef s1 sg
        refine ⟨_, rfl, itF rfl ?_⟩
        refine ⟨_, rfl, _, rfl, S (textF t u), rfl, by rw [S_len]; exact CT.sl _ (by omega), _, _, rfl, rfl, p, c, ns, _, rfl, hFg, by omega, big_of (by rw [S_len]; omega), fun at1 Hh a1 b1 nh => ?_⟩
        have hth := nh.tabs hFg htg
        have hFh := nh.f
        refine ⟨_, rfl, sl 7, fun l3 Hi hl3 si ei => ⟨p, c, l3, ns, _, rfl, hFh.keep si, hFh.far hl3, .inl (.of ei), by decide, by decide, fun v Hj hv nj => ?_⟩⟩
        obtain ⟨sg1, rfl, hsg⟩ : ∃ k : Nat, v = .str (S [k]) ∧ k < 128 := by
          simp only [List.mem_cons, List.not_mem_nil, or_false] at hv
          rcases hv with e | e | e | e | e | e | e
          all_goals exact ⟨_, e, by decide⟩
        have hFj := nj.f
        have htj := nj.tabs (hFh.keep si) (hth.ext si)
        clear hFg htg nh hth hFh si hl3 ei hv nj
        refine ⟨_, _, rfl, ?_⟩
        obtain ⟨A1, rfl⟩ : ∃ k : Nat, at1 = k := ⟨at1.toNat, by omega⟩
        have hTx : (S (textF t u)).length ≤ sizeLine := by rw [S_len]; exact CT.sl _ (by omega)
        have htk : ∀ k : Nat, ((textF t u).take k).length ≤ 70 := fun k => by rw [List.length_take]; omega
        have hdr : ∀ k : Nat, ((textF t u).drop k).length ≤ 70 := fun k => by rw [List.length_drop]; omega
        refine ⟨fun σ H' => ∃ lb : List Nat, σ = [some (.ref a), some (.ref p), some (.int (0 + (i : Int))), some (.ref r1), some (.str (S (textF t u))), some (.int (A1 : Int)), some (.str (S [sg1])), some (.str (S lb)), x8, x9] ∧ lb.length ≤ 200 ∧ Feed H' p c ns ∧ LamX.Tabs (lawT K) H', ?_, fun σ Hk hm => ?_⟩
        · refine ⟨_, rfl, _, rfl, _, rfl, S (textF t u), rfl, hTx, _, rfl, _, _, rfl, rfl, ?_, ?_⟩
          · rw [cut_to, S_len]
            have := htk A1
            exact CT.sl _ (by show _ + 1 ≤ 100000; omega)
          refine ⟨_, rfl, _, rfl, _, rfl, p, c, ns, 2, rfl, hFj, by decide, big_of (by decide), fun rd Hk a2 b2 nk => ?_⟩
          obtain ⟨A2, rfl⟩ : ∃ k : Nat, rd = k := ⟨rd.toNat, by omega⟩
          refine ⟨_, _, rfl, rfl, ((A1 + A2 : Nat) : Int), rfl, S (textF t u), rfl, hTx, _, _, rfl, rfl, ?_, ?_⟩
          · rw [cut_to, cut_from, cat_S, S_len, S_len, List.length_append]
            have := htk A1
            have := hdr (A1 + A2)
            exact CT.sl _ (by show _ + 1 + _ ≤ 100000; omega)
          · refine ⟨(textF t u).take A1 ++ [sg1] ++ (textF t u).drop (A1 + A2), ?_, ?_, nk.f, nk.tabs hFj htj⟩
            · rw [cut_to, cut_from, cat_S, cat_S]
              rfl
            · rw [List.length_append, List.length_append]
              have := htk A1
              have := hdr (A1 + A2)
              show _ + 1 + _ ≤ 200
              omega
        · obtain ⟨lb, rfl, hlb, hFk, htk2⟩ := hm
          clear hFj htj
          refine ⟨fun σ H' => ∃ lb : List Nat, σ = [some (.ref a), some (.ref p), some (.int (0 + (i : Int))), some (.ref r1), some (.str (S (textF t u))), some (.int (A1 : Int)), some (.str (S [sg1])), some (.str (S lb)), x8, x9] ∧ lb.length ≤ 200 ∧ Feed H' p c ns ∧ LamX.Tabs (lawT K) H', ?_, fun σ Hm hm => ?_⟩
          · refine ⟨_, rfl, p, c, ns, 4, rfl, hFk, by decide, big_of (by decide), fun rd Hl a2 b2 nl => ?_⟩
            refine ⟨rfl, _, rfl, it2 (fun _ => ?_) (fun _ => ⟨lb, rfl, hlb, nl.f, nl.tabs hFk htk2⟩)⟩
            refine ⟨_, rfl, _, rfl, _, rfl, S (textF t u), rfl, hTx, _, rfl, _, rfl, _, _, rfl, rfl, ((A1 + 1 : Nat) : Int), rfl, S (textF t u), rfl, hTx, _, _, rfl, rfl, ?_, ?_⟩
            · rw [cut_to, cut_from, S_len, S_len]
              have := htk A1
              have := hdr (A1 + 1)
              exact CT.sl _ (by omega)
            · refine ⟨(textF t u).take A1 ++ (textF t u).drop (A1 + 1), ?_, ?_, nl.f, nl.tabs hFk htk2⟩
              · rw [cut_to, cut_from, cat_S]
                rfl
              · rw [List.length_append]
                have := htk A1
                have := hdr (A1 + 1)
                omega
          · obtain ⟨lb, rfl, hlb, hFm, htm⟩ := hm
            clear hFk htk2
            refine ⟨_, rfl, lb, rfl, by omega, fun z hz r3 Hn sn en => ?_, fun hn Hn sn => ?_⟩
            · refine ⟨_, rfl, rfl, _, rfl, itF rfl ?_⟩
              have hFn := hFm.keep sn
              have htn := htm.ext sn
              refine ⟨_, rfl, lb, rfl, by omega, fun z2 hz2 r4 Ho so eo => ?_, fun hn => ?_⟩
              · rw [hz] at hz2
                cases hz2
                refine ⟨_, rfl, _, _, rfl, eqT2 eo (so _ _ en) ⟨eqI rfl, eqI rfl, trivial⟩, fun Hp sp => ?_⟩
                exact ⟨_, rfl, itF rfl ⟨_, _, _, _, _, _, _, _, rfl, (hFn.keep so).keep sp, (htn.ext so).ext sp⟩⟩
              · rw [hz] at hn
                cases hn
            · refine ⟨_, rfl, rfl, _, rfl, itT rfl ?_⟩
              have hFn := hFm.keep sn
              have htn := htm.ext sn
              refine ⟨htn, fun Hh eN hth tp0 Hw hw1 smw hwe QQ EE hQ hE => ?_⟩
              refine ⟨_, rfl, lb, rfl, by omega, fun z hz => ?_, fun _ d H' h1 sm hd => ?_⟩
              · rw [hn] at hz
                cases hz
              · refine hE _ _ _ ⟨"ParseError", some "at", .int 0, List.Mem.head _, ⟨rfl, d, _, rfl, hd, rfl, fun y e => by cases e; rfl⟩, (fun e => nomatch e), fun q H2 hq1 sm2 hq2 => ?_⟩
                refine ⟨sl 2, fun tq Hq hq3 sm3 hq4 => ?_⟩
                refine ne_told (.inl (.of (sm3 _ _ hq2))) (.inl (.of hq4)) (by decide +kernel) rfl ?_
                exact ⟨_, rfl, itF rfl ⟨_, _, _, _, _, _, _, _, rfl, ((((hFn.extN eN).keep smw).keep sm).keep sm2).keep sm3, (((hth.ext smw).ext sm).ext sm2).ext sm3⟩⟩
      · rw [read_text u0 hg bt2 bu2] at hn
        cases hn
    · obtain ⟨x2, x3, x4, x5, x6, x7, x8, x9, rfl, hF, ht⟩ := hp
      refine ⟨_, 31, rfl, rfl, mulOk_small (by decide) (by decide) (by decide), _, 31, rfl, rfl, mulOk_small (by decide) (by decide) (by decide), _, _, rfl, rfl, CT.sl _ (by decide +kernel), sl 19, fun lo Ho hlo so eo => ?_⟩
      have hto := ht.ext so
      have eo2 : Ho lo = some (.lst (oddL.map fun l => V.str (S l))) := by
        rw [eo]
        refine congrArg (fun z => some (HO.lst z)) ?_
        decide +kernel
      clear eo
      refine ⟨_, rfl, lo, rfl, ⟨_, .inl (.of eo2)⟩, fun L hL => ?_⟩
      refine lc_it (walk_list (xs := oddL.map fun l => V.str (S l))) (fun k H' => ∃ as : List Addr, H' L = some (.lst (as.map V.ref)) ∧ ToldL K H' as (List.replicate k ("ParseError", .int 0)) ∧ as.length = k ∧ H' lo = some (.lst (oddL.map fun l => V.str (S l))) ∧ LamX.Tabs (lawT K) H')
        ⟨[], upd_same, trivial, rfl, same_new hL _ _ eo2, hto.ext (same_new hL)⟩ (fun k H' _ hp => ?_) (fun k x H' H'' hk hp hy => ?_) (fun H' hp => ?_)
      · obtain ⟨_, _, _, _, s6, _⟩ := hp
        exact .inl (.of s6)
      · obtain ⟨as, h1, h2, h3, s6, h4⟩ := hp
        obtain ⟨rfl, hx⟩ := hy
        rw [List.getElem?_map] at hx
        obtain ⟨lt, hl1, rfl⟩ := Option.map_eq_some_iff.mp hx
        obtain ⟨n1, n2⟩ := odd_none lt (List.mem_of_getElem? hl1)
        refine ⟨rfl, ?_⟩
        refine ⟨h4, fun Hh eN hth tp0 Hw hw1 smw hwe QQ EE hQ hE => ?_⟩
        refine ⟨_, rfl, lt, rfl, by omega, fun z hz => ?_, fun _ d H2 hd1 sm hd => ?_⟩
        · rw [n1] at hz
          cases hz
        · refine hE _ _ _ ⟨"ParseError", some "at", .int 0, List.Mem.head _, ⟨rfl, d, _, rfl, hd, rfl, fun y e => by cases e; rfl⟩, (fun e => nomatch e), fun q H3 hq1 sm2 hq2 => ?_⟩
          have hL3 : H3 L = some (.lst (as.map V.ref)) := sm2 _ _ (sm _ _ (smw _ _ (eN _ _ h1 fun _ z => by cases z)))
          have nq : ∀ b xs, SqT K H'' b xs → SqT K (upd H3 L (.lst (as.map V.ref ++ [V.ref q]))) b xs := fun b xs h => by
            have h3 := sqT_same sm2 (sqT_same sm (sqT_same smw (sqT_ext eN h)))
            rcases h3 with (h | ⟨o, h⟩) | h
            · exact .inl (.inl (by rw [upd_ne (ne_of h hL3 fun z => by cases z)]; exact h))
            · exact .inl (.inr ⟨o, by rw [upd_ne (ne_of h hL3 fun z => by cases z)]; exact h⟩)
            · exact .inr h
          refine ⟨_, hL3, ?_, as ++ [q], ?_, ?_, ?_, ?_, ?_⟩
          · rw [List.length_map, h3]
            exact slt' (by have : k < 19 := hk; omega)
          · rw [upd_same, List.map_append]
            rfl
          · rw [List.replicate_succ']
            refine (h2.but nq).app ⟨.inl (.of ?_), by decide +kernel, trivial⟩
            rw [upd_ne (ne_of hq2 hL3 fun z => by cases z)]
            exact hq2
          · rw [List.length_append, h3]
            rfl
          · rw [upd_ne (ne_of_none eo2 hL)]
            exact sm2 _ _ (sm _ _ (smw _ _ (eN _ _ s6 fun _ z => by cases z)))
          · exact Tabs.but (((hth.ext smw).ext sm).ext sm2) hL3 but_upd
      · obtain ⟨as, h1, h2, h3, s6, h4⟩ := hp
        refine ⟨sl 2, fun t1 Ht _ st et => ⟨sl 1, fun l1 Hu _ su eu => ?_⟩⟩
        refine ⟨_, rfl, lo, _, rfl, .inl (.of (su _ _ (st _ _ s6))), ?_⟩
        refine ⟨l1, 19, _, rfl, rfl, eu, by decide, by decide, CT.sl 19, fun l2 hl2 => ?_⟩
        have s3 := same_new (o := .lst (List.replicate (Int.toNat 19) [V.ref t1]).flatten) hl2
        have s4 := st.trans (su.trans s3)
        refine eq_tolds (ts := List.replicate 19 ("ParseError", V.int 0)) (as := as) (bs := List.replicate 19 t1) (.inl (.of (s4 _ _ h1))) (.inl (.of upd_same)) (h2.same s4) ?_ (hq _)
        exact ToldL.rep (.inl (.of (s3 _ _ (su _ _ et)))) (by decide +kernel) 19
end

/-! ### the end -/
theorem law_at {K : PySem.W.Frag} {w : World} {mg : Str → Option Value} {f : Addr} {h : Heap} (KX : K.In h) (G : h.Ns mainGlobals mg) (hmg : mg "law" = some (.ref f)) (c : SaysC fa fn tf ex fs vs h K) : LamX.LawAtS PySem.Challenge.rw_copytail_k03_texts_of_fractions w K CX0 6 63 "_law_script" mg f h := by
  have D_greatest_common : Dn K mg "greatest_common" s_greatest_common [] := ⟨c.d.def_ 0 (d := dd_greatest_common) rfl, glo_ok KX G (c.d.fact 0 (f := .glo "greatest_common") rfl)⟩
  have D_is_ratio : Dn K mg "is_ratio" s_is_ratio [] := ⟨c.d.def_ 1 (d := dd_is_ratio) rfl, glo_ok KX G (c.d.fact 1 (f := .glo "is_ratio") rfl)⟩
  have D_negated : Dn K mg "negated" s_negated [] := ⟨c.d.def_ 2 (d := dd_negated) rfl, glo_ok KX G (c.d.fact 2 (f := .glo "negated") rfl)⟩
  have D_ratio_text : Dn K mg "ratio_text" s_ratio_text [] := ⟨c.d.def_ 3 (d := dd_ratio_text) rfl, glo_ok KX G (c.d.fact 3 (f := .glo "ratio_text") rfl)⟩
  have D_is_number : Dn K mg "is_number" s_is_number [] := ⟨c.d.def_ 4 (d := dd_is_number) rfl, glo_ok KX G (c.d.fact 4 (f := .glo "is_number") rfl)⟩
  have D_read_ratio : Dn K mg "read_ratio" s_read_ratio [] := ⟨c.d.def_ 5 (d := dd_read_ratio) rfl, glo_ok KX G (c.d.fact 5 (f := .glo "read_ratio") rfl)⟩
  have D_law_feed : Dn K mg "_law_feed" s_law_feed [] := ⟨c.d.def_ 6 (d := dd_law_feed) rfl, glo_ok KX G (c.d.fact 6 (f := .glo "_law_feed") rfl)⟩
  have D_law_take : Dn K mg "_law_take" s_law_take [] := ⟨c.d.def_ 7 (d := dd_law_take) rfl, glo_ok KX G (c.d.fact 7 (f := .glo "_law_take") rfl)⟩
  have D_law_gcd : Dn K mg "_law_gcd" s_law_gcd [] := ⟨c.d.def_ 8 (d := dd_law_gcd) rfl, glo_ok KX G (c.d.fact 8 (f := .glo "_law_gcd") rfl)⟩
  have D_law_low : Dn K mg "_law_low" s_law_low [] := ⟨c.d.def_ 9 (d := dd_law_low) rfl, glo_ok KX G (c.d.fact 9 (f := .glo "_law_low") rfl)⟩
  have D_law_number : Dn K mg "_law_number" s_law_number [] := ⟨c.d.def_ 10 (d := dd_law_number) rfl, glo_ok KX G (c.d.fact 10 (f := .glo "_law_number") rfl)⟩
  have D_law_pick : Dn K mg "_law_pick" s_law_pick [] := ⟨c.d.def_ 11 (d := dd_law_pick) rfl, glo_ok KX G (c.d.fact 11 (f := .glo "_law_pick") rfl)⟩
  have D_law_ratio_text : Dn K mg "_law_ratio_text" s_law_ratio_text [] := ⟨c.d.def_ 12 (d := dd_law_ratio_text) rfl, glo_ok KX G (c.d.fact 12 (f := .glo "_law_ratio_text") rfl)⟩
  have D_law_same : Dn K mg "_law_same" s_law_same [] := ⟨c.d.def_ 13 (d := dd_law_same) rfl, glo_ok KX G (c.d.fact 13 (f := .glo "_law_same") rfl)⟩
  have D_law_figures : Dn K mg "_law_figures" s_law_figures [] := ⟨c.d.def_ 14 (d := dd_law_figures) rfl, glo_ok KX G (c.d.fact 14 (f := .glo "_law_figures") rfl)⟩
  have D_law_ratio_of : Dn K mg "_law_ratio_of" s_law_ratio_of [] := ⟨c.d.def_ 15 (d := dd_law_ratio_of) rfl, glo_ok KX G (c.d.fact 15 (f := .glo "_law_ratio_of") rfl)⟩
  have D_law_why : Dn K mg "_law_why" s_law_why [] := ⟨c.d.def_ 16 (d := dd_law_why) rfl, glo_ok KX G (c.d.fact 16 (f := .glo "_law_why") rfl)⟩
  have D_law : Dn K mg "law" s_law [] := ⟨c.d.def_ 17 (d := dd_law) rfl, glo_ok KX G (c.d.fact 17 (f := .glo "law") rfl)⟩
  have m_ValueError : mg "ValueError" = none := free_ok KX G (c.d.fact 42 (f := .free "ValueError") rfl)
  have m_LookupError : mg "LookupError" = none := free_ok KX G (c.d.fact 43 (f := .free "LookupError") rfl)
  have m_IndexError : mg "IndexError" = none := free_ok KX G (c.d.fact 44 (f := .free "IndexError") rfl)
  have m_list : mg "list" = none := free_ok KX G (c.d.fact 45 (f := .free "list") rfl)
  have m_isinstance : mg "isinstance" = none := free_ok KX G (c.d.fact 46 (f := .free "isinstance") rfl)
  have m_range : mg "range" = none := free_ok KX G (c.d.fact 47 (f := .free "range") rfl)
  have m_abs : mg "abs" = none := free_ok KX G (c.d.fact 48 (f := .free "abs") rfl)
  have m_str : mg "str" = none := free_ok KX G (c.d.fact 49 (f := .free "str") rfl)
  have m_int : mg "int" = none := free_ok KX G (c.d.fact 50 (f := .free "int") rfl)
  have m_bool : mg "bool" = none := free_ok KX G (c.d.fact 51 (f := .free "bool") rfl)
  have m_all : mg "all" = none := free_ok KX G (c.d.fact 52 (f := .free "all") rfl)
  have m_len : mg "len" = none := free_ok KX G (c.d.fact 53 (f := .free "len") rfl)
  have m_tuple : mg "tuple" = none := free_ok KX G (c.d.fact 54 (f := .free "tuple") rfl)
  have m_super : mg "super" = none := free_ok KX G (c.d.fact 55 (f := .free "super") rfl)
  have m_zip : mg "zip" = none := free_ok KX G (c.d.fact 56 (f := .free "zip") rfl)
  have g_DIGITS : ∃ u, mg "DIGITS" = some u ∧ RelV (.str "0123456789") u := relS (str_ok KX G (c.d.fact 81 (f := .str "DIGITS" "0123456789") rfl))
  have g_MOST_DIGITS : ∃ u, mg "MOST_DIGITS" = some u ∧ RelV (.int 30) u := relI (int_ok KX G (c.d.fact 82 (f := .int "MOST_DIGITS" 30) rfl))
  have gE : ∀ m ∈ whyNames, mg m = some (.ref (ga K m)) := (List.forall_mem_cons.mpr ⟨glo_ok KX G (c.d.fact 18 (f := .glo "InvalidRatio") rfl), (List.forall_mem_cons.mpr ⟨glo_ok KX G (c.d.fact 31 (f := .glo "InvalidDegree") rfl), (List.forall_mem_cons.mpr ⟨glo_ok KX G (c.d.fact 37 (f := .glo "InvalidLimit") rfl), (List.forall_mem_cons.mpr ⟨glo_ok KX G (c.d.fact 19 (f := .glo "InvalidTerm") rfl), (List.forall_mem_cons.mpr ⟨glo_ok KX G (c.d.fact 22 (f := .glo "ParseError") rfl), (List.forall_mem_cons.mpr ⟨glo_ok KX G (c.d.fact 23 (f := .glo "InvalidLetters") rfl), (List.forall_mem_cons.mpr ⟨glo_ok KX G (c.d.fact 24 (f := .glo "InvalidBegin") rfl), (List.forall_mem_cons.mpr ⟨glo_ok KX G (c.d.fact 25 (f := .glo "InvalidMode") rfl), (List.forall_mem_cons.mpr ⟨glo_ok KX G (c.d.fact 26 (f := .glo "InvalidGuard") rfl), (List.forall_mem_cons.mpr ⟨glo_ok KX G (c.d.fact 27 (f := .glo "UnknownLetter") rfl), (List.forall_mem_cons.mpr ⟨glo_ok KX G (c.d.fact 29 (f := .glo "InvalidRecoding") rfl), (List.forall_mem_cons.mpr ⟨glo_ok KX G (c.d.fact 20 (f := .glo "Mismatch") rfl), (List.forall_mem_cons.mpr ⟨glo_ok KX G (c.d.fact 33 (f := .glo "InvalidName") rfl), (List.forall_mem_cons.mpr ⟨glo_ok KX G (c.d.fact 34 (f := .glo "DuplicateName") rfl), (List.forall_mem_cons.mpr ⟨glo_ok KX G (c.d.fact 35 (f := .glo "WrongSort") rfl), (List.forall_mem_cons.mpr ⟨glo_ok KX G (c.d.fact 40 (f := .glo "UnknownName") rfl), (List.forall_mem_cons.mpr ⟨glo_ok KX G (c.d.fact 36 (f := .glo "CapacityExceeded") rfl), (List.forall_mem_cons.mpr ⟨glo_ok KX G (c.d.fact 38 (f := .glo "InvalidCommand") rfl), (List.forall_mem_cons.mpr ⟨glo_ok KX G (c.d.fact 39 (f := .glo "InUse") rfl), (List.forall_mem_cons.mpr ⟨glo_ok KX G (c.d.fact 32 (f := .glo "Fails") rfl), (List.forall_mem_cons.mpr ⟨glo_ok KX G (c.d.fact 21 (f := .glo "NoLead") rfl), (List.forall_mem_cons.mpr ⟨glo_ok KX G (c.d.fact 28 (f := .glo "LettersDiffer") rfl), (List.forall_mem_cons.mpr ⟨glo_ok KX G (c.d.fact 30 (f := .glo "NoText") rfl), (List.forall_mem_cons.mpr ⟨glo_ok KX G (c.d.fact 41 (f := .glo "NothingLeft") rfl), fun _ z => nomatch z⟩)⟩)⟩)⟩)⟩)⟩)⟩)⟩)⟩)⟩)⟩)⟩)⟩)⟩)⟩)⟩)⟩)⟩)⟩)⟩)⟩)⟩)⟩)⟩)
  have e_ParseError : ErrC K "ParseError" (some "at") "/claim/cut.py" := errB_ok (ba (c.more)).1
  have g_ParseError : mg "ParseError" = some (.ref (ga K "ParseError")) := glo_ok KX G (c.d.fact 22 (f := .glo "ParseError") rfl)
  have w_ParseError : WhyC K "ParseError" (some "at") := whyC_of e_ParseError (List.forall_mem_cons.mpr ⟨exm_at (c.d.fact 57 (f := .exm "ParseError" "InvalidRatio" false) rfl), (List.forall_mem_cons.mpr ⟨exm_at (c.d.fact 70 (f := .exm "ParseError" "InvalidDegree" false) rfl), (List.forall_mem_cons.mpr ⟨exm_at (c.d.fact 76 (f := .exm "ParseError" "InvalidLimit" false) rfl), (List.forall_mem_cons.mpr ⟨exm_at (c.d.fact 58 (f := .exm "ParseError" "InvalidTerm" false) rfl), (List.forall_mem_cons.mpr ⟨exm_at (c.d.fact 61 (f := .exm "ParseError" "ParseError" true) rfl), (List.forall_mem_cons.mpr ⟨exm_at (c.d.fact 62 (f := .exm "ParseError" "InvalidLetters" false) rfl), (List.forall_mem_cons.mpr ⟨exm_at (c.d.fact 63 (f := .exm "ParseError" "InvalidBegin" false) rfl), (List.forall_mem_cons.mpr ⟨exm_at (c.d.fact 64 (f := .exm "ParseError" "InvalidMode" false) rfl), (List.forall_mem_cons.mpr ⟨exm_at (c.d.fact 65 (f := .exm "ParseError" "InvalidGuard" false) rfl), (List.forall_mem_cons.mpr ⟨exm_at (c.d.fact 66 (f := .exm "ParseError" "UnknownLetter" false) rfl), (List.forall_mem_cons.mpr ⟨exm_at (c.d.fact 68 (f := .exm "ParseError" "InvalidRecoding" false) rfl), (List.forall_mem_cons.mpr ⟨exm_at (c.d.fact 59 (f := .exm "ParseError" "Mismatch" false) rfl), (List.forall_mem_cons.mpr ⟨exm_at (c.d.fact 72 (f := .exm "ParseError" "InvalidName" false) rfl), (List.forall_mem_cons.mpr ⟨exm_at (c.d.fact 73 (f := .exm "ParseError" "DuplicateName" false) rfl), (List.forall_mem_cons.mpr ⟨exm_at (c.d.fact 74 (f := .exm "ParseError" "WrongSort" false) rfl), (List.forall_mem_cons.mpr ⟨exm_at (c.d.fact 79 (f := .exm "ParseError" "UnknownName" false) rfl), (List.forall_mem_cons.mpr ⟨exm_at (c.d.fact 75 (f := .exm "ParseError" "CapacityExceeded" false) rfl), (List.forall_mem_cons.mpr ⟨exm_at (c.d.fact 77 (f := .exm "ParseError" "InvalidCommand" false) rfl), (List.forall_mem_cons.mpr ⟨exm_at (c.d.fact 78 (f := .exm "ParseError" "InUse" false) rfl), (List.forall_mem_cons.mpr ⟨exm_at (c.d.fact 71 (f := .exm "ParseError" "Fails" false) rfl), (List.forall_mem_cons.mpr ⟨exm_at (c.d.fact 60 (f := .exm "ParseError" "NoLead" false) rfl), (List.forall_mem_cons.mpr ⟨exm_at (c.d.fact 67 (f := .exm "ParseError" "LettersDiffer" false) rfl), (List.forall_mem_cons.mpr ⟨exm_at (c.d.fact 69 (f := .exm "ParseError" "NoText" false) rfl), (List.forall_mem_cons.mpr ⟨exm_at (c.d.fact 80 (f := .exm "ParseError" "NothingLeft" false) rfl), fun _ z => nomatch z⟩)⟩)⟩)⟩)⟩)⟩)⟩)⟩)⟩)⟩)⟩)⟩)⟩)⟩)⟩)⟩)⟩)⟩)⟩)⟩)⟩)⟩)⟩)⟩)
  have hR0 : ∀ q ∈ why1, WhyC K q.1 q.2 ∧ (∀ c ∈ whyCl, q.1 ∈ c.1 → c.2 = q.2) ∧ ∃ c ∈ whyCl, q.1 ∈ c.1 := (List.forall_mem_cons.mpr ⟨⟨w_ParseError, by decide +kernel, by decide +kernel⟩, fun _ z => nomatch z⟩)
  have hR : ∀ n x, (n, x) ∈ why1 → WhyC K n x ∧ (∀ c ∈ whyCl, n ∈ c.1 → c.2 = x) ∧ ∃ c ∈ whyCl, n ∈ c.1 := fun n x z => hR0 (n, x) z
  have e := hmg.symm.trans D_law.g
  cases e
  obtain ⟨fd, F⟩ := D_law.f
  refine ⟨fd, tf.map (cT K), spLaw K (cT K ("law", none)).2, fun p hp => ?_, fun p hp => ?_, fun p hp => ?_, fun s u => F.bindsA (ps := ["_law_script"]) (fun _ _ _ _ _ _ us hl => match us, hl with | [_], _ => rfl) s [u] rfl, fun H a ns hl _ hH hS => ⟨a, ns, rfl, hS, hl, hH _ (List.Mem.head _), fun _ => rfl⟩, fun base KB GB TB => ?_⟩
  · obtain ⟨q, hq, rfl⟩ := List.mem_map.mp hp
    exact c.empty q hq
  · obtain ⟨q, hq, rfl⟩ := List.mem_map.mp hp
    exact c.out q hq
  · obtain ⟨q, hq, rfl⟩ := List.mem_map.mp hp
    exact PySem.W.codeHd_of_K KX (c.hd q hq)
  have x_ParseError := err_fn1 (P := PySem.Challenge.pw_copytail_k03_texts_of_fractions) (w := w) (mg := mg) (base := base) e_ParseError es_ParseError (c.fn 0) (by rfl) (by decide +kernel) m_super
  have h_take := ok_law_take (P := PySem.Challenge.pw_copytail_k03_texts_of_fractions) (w := w) (base := base) D_law_take m_len m_int
  have h_gcd := ok_law_gcd (P := PySem.Challenge.pw_copytail_k03_texts_of_fractions) (w := w) (base := base) D_law_gcd m_abs m_int
  have h_low := ok_law_low (P := PySem.Challenge.pw_copytail_k03_texts_of_fractions) (w := w) (base := base) D_law_low h_gcd
  have h_common := ok_greatest_common (P := PySem.Challenge.pw_copytail_k03_texts_of_fractions) (w := w) (base := base) D_greatest_common m_abs
  exact ok_law F (TB _ (List.Mem.head _)) D_law_why gE hR (ok_law_feed D_law_feed m_list m_len m_int) h_take.takeA (ok_law_pick D_law_pick h_take m_len).pickA (ok_law_number D_law_number h_take.takeA h_low) (ok_law_ratio_text D_law_ratio_text m_str)
    (ok_law_ratio_of D_law_ratio_of m_int (ok_law_figures D_law_figures m_len m_all) h_low) (ok_law_same D_law_same m_isinstance m_bool m_int m_str m_tuple m_list m_len m_all m_zip 3) (ok_ratio_text D_ratio_text m_str)
    (ok_read_ratio D_read_ratio m_int e_ParseError x_ParseError g_ParseError (ok_is_number D_is_number m_len m_all g_DIGITS g_MOST_DIGITS) (ok_is_ratio D_is_ratio h_common) (ok_negated D_negated)) m_range m_len

end CT
open PySem PySem.W PySem.Calls PyProof.Rows
theorem PySem.Challenge.cw_copytail_k03_texts_of_fractions_holds : PySem.Challenge.rw_copytail_k03_texts_of_fractions.Holds := by
  w_on; o_law
  refine HandSHeadRun.head_any (r := OpenLaw.row PySem.Challenge.rw_copytail_k03_texts_of_fractions) (q := view (OpenLaw.row PySem.Challenge.rw_copytail_k03_texts_of_fractions).prog [48]) (H := CT.hk) (ob := CT.ob) (M := 9000) (loose := CT.loose) (d := HandSHeadRun.topDef (OpenLaw.row PySem.Challenge.rw_copytail_k03_texts_of_fractions).prog 48) (kwd := []) CT.ob_eq
    (by kernel_rfl) (fun s => by kernel_rfl) CT.run (by kernel_rfl) (by kernel_rfl) (by kernel_rfl) (by rfl) (by first | assumption | decide +kernel) (by decide +kernel) ⟨rfl, rfl, rfl, rfl, rfl, by decide +kernel⟩ ?hw ?hc
  case hw => w_witness2
  case hc =>
    refine LamX.walk_ofTsE (l := PySem.Challenge.rw_copytail_k03_texts_of_fractions) (n := 63) (k := 6) (x := "_law_script") (CX := fun _ => L2.CX0) rfl (by decide) (by kernel_rfl) ⟨rfl, by decide, by decide⟩ ?F (fun _ _ _ _ _ z => z)
    intro w mg fa h Y G hmg0
    obtain ⟨K, KX, c⟩ := Y
    have hmg : mg ("law" : PySem.Str) = some (.ref fa) := by
      have e : (HandSHeadRun.topDef (OpenLaw.row PySem.Challenge.rw_copytail_k03_texts_of_fractions).prog 48).name = ("law" : PySem.Str) := by kernel_rfl
      rw [← e]
      exact hmg0
    exact ⟨K, KX, CT.law_at KX G hmg c⟩
