import PyProof.Rows.All
import Wide.All
import OpenK.AllK
import Wide.FinOn
import KE.KExcSuper
import HandS.Base
import HandS.Call
import HandS.List
import HandS.Exc
import HandS.ExcInit
import KE.KTryMore
import HandS.ForMost
import HandS.ExcField
import HandS.HeadHook1
import HandS.HeadHook2
import KE.KStateDown
import HandS.Defaults
import HandS.Head0
import HandS.Head1
import HandS.Head2
import HandS.HeadHook4
import HandS.HeadWalk
import HandS.HeadNt
import HandS.Property
import HandS.ClsMeth
import HandS.Wide
import HandS.Lambda
import HandS.WordsExc
import HandS.Style
import HandS.Text
import HandS.Iter
import KE.KRevSl
import HandS.Codes
import HandS.StrMore
import HandS.FStr
import PyProof.Rows.StrDigitsNeg
import PyProof.Rows.ReprOcc
import PyProof.Rows.StrMul
import PyProof.StrBlock2
import HandS.Walk
import HandS.DictTup
import HandS.DictComp
import HandS.Zip
import HandS.ListItems
import HandS.OwnEq
import HandS.Conv
import PyProof.Rows.TupDisplay
import KE.KEqDict
import KE.SortKeyHeap
import HandS.SortKw
import HandS.SlotsOwn
import HandS.Records
import HandS.TupLen
import HandS.Small
import HandS.Deep
import HandS.TupAny
import HandS.TupMul
import KE.GoesMore
import PyProof.EnumMake
import PyProof.Rows.Range3
import KE.DatumOrd
import KE.DataMinKey
import KE.DataCmp
import KE.KDictKeyed
import KE.GoesEnum
import HandS.IsInst
import HandS.Replace
import PyProof.Walks
import HandS.NoneIn
import KE.KEqNest
import HandS.MakeKwOnly
import HandS.TryOnly
import HandS.Star
import HandS.More
import HandS.ExcInitHot
import Lean
import PySem.Challenge.RW_copytail_k39_guards
set_option Elab.async false
set_option linter.all false
set_option maxRecDepth 100000
set_option maxHeartbeats 0
namespace CT
open PySem PySem.Spec PySem.Calls PyProof.Rows L2
section
open PySem.W
variable {prog : Program} {w : World} {A : Around} {E : Value → Shared → Prop} {h : Heap} {g : Array GenState} {d : Drawn} {t : Nat} {os : OsState}
variable {nm q : Str} {C N : Addr} {bs bm : List Value} {hdct : Bool} {sn : List Str} {sub : List Value} {ab : Bool} {col : Option Bool} {dd : Option Addr} {k0 k1 k2 k3 k5 : Option Value}
theorem call_mw {u e t0 : Addr} {rest : List Value} {Q : Value → Shared → Prop}
    (hC : h.get? C = some (excClassObj nm q C N bs bm hdct sn sub ab col dd k0 k1 k2 k3 k5 "ValueError.__new__")) (he : h.get? e = some (HandSPX.excO C t0)) (hu : h.get? u = some (kxs_mw "ValueError.__init__" e)) (hrest : rest.length ≤ sizeLine)
    (hq : ∀ h' t1, (∀ b o, b ≠ e → h.get? b = some o → h'.get? b = some o) → h'.get? e = some (HandSPX.excO C t1) → Q .none ⟨h', g, d, t, os⟩) :
    wpAny (model prog w) A (call (.ref u) rest) Q E ⟨h, g, d, t, os⟩ := by
  refine wpAny_call (codeAny_of_tree ?_)
  show wpAny _ A.in1 (callAny (.ref u) ⟨rest, []⟩) _ _ _
  simp only [callAny]
  refine wpAny_bind (wpAny_load hu ?_)
  simp only [kxs_mw, show (Value.type "method-wrapper" == Value.type "method" || Value.type "method-wrapper" == Value.type "builtin_function_or_method" || Value.type "method-wrapper" == Value.type "method-wrapper") = true by decide, if_true]
  refine W.KFB.if_so (by decide) ?_
  refine wpAny_bind (check_bound_init F.excBase_ValueError.toExcCallFacts hC he rfl ?_)
  refine wpAny_bind (wpAny_pure (wpAny_pure ?_))
  refine ⟨Code.quiet_builtin _ (by decide +kernel), codeAny_builtin F.excBase_ValueError.initEntry ?_⟩
  rw [Around.under_plainId F.excBase_ValueError.init.plain _]
  wp_walk
  refine hq _ h.objs.size (fun b o hb ho => ?_) ?_
  · rw [Heap.get?_update_other _ _ (Ne.symm hb)]
    exact Heap.get?_push_of_some _ ho
  · rw [Heap.get?_update_self _ (Heap.get?_push_of_some _ he) rfl]
    rfl
end
theorem callWith_mw {M : Model} {A : Around} {E : Value → Shared → Prop} {s : Shared} {i : String} {pos : Pos} {u x : Addr} {first : List Value} {env : Env} {e : Expr} {rest : List Expr} {Q : Value → Shared → Prop}
    (he : starEach (e :: rest) env = (false, eval e env) :: starEach rest env) (hpl : (backTo pos (starEach rest env)).any (·.1) = false)
    (h : wpAny M A (spliced (backTo pos (starEach (e :: rest) env))) (fun vs s₁ => PySem.W.KxsAt i u x s₁.heap ∧ wpAny M A (call (.ref u) (first ++ vs)) Q E s₁) E s) :
    wpAny M A (callWith pos (.ref u) first (backTo pos (starEach (e :: rest) env)) []) Q E s := by
  rw [he] at h ⊢
  refine PySem.W.kxs_callWith (i := i) (x := x) (by show (false || (backTo pos (starEach rest env)).any (·.1)) = false; rw [hpl]; rfl) ?_
  exact evalArgs_plain h
abbrev envS (qual : Str) (scope : Scope) (L f cda cc : Addr) : Env := PySem.W.ksEnv qual scope L f (.ref cda) cc
def cxS (CX : CXT) (P : Program) (w : World) (K : PySem.W.Frag) (mg : Str → Option Value) (base : Heap) (N : List Str) (qual : Str) (scope : Scope) (f cda cc : Addr) (A : Around) (outer : List Env) (s : Shared) (H : Hp) (E : XK) : Cx where
  prog := P
  w := w
  K := K
  mg := mg
  base := base
  A := A.deeper (envS qual scope s.heap.objs.size f cda cc)
  N := N
  s_0 := s
  H_0 := H
  env := envS qual scope s.heap.objs.size f cda cc
  outer := outer
  stack := envS qual scope s.heap.objs.size f cda cc :: outer
  ex := []
  calm := true
  fn := fun _ => false
  pn := []
  xe := fun e s' => wpAny (model P w) (A.deeper (envS qual scope s.heap.objs.size f cda cc)) (leaving (envS qual scope s.heap.objs.size f cda cc) e) (fun _ s'' => CX outer H s E e s'') (fun e' s'' => CX outer H s E e' s'') s'
/-- the names of such a def: its parameters, super, and the free __class__ -/
structure ScS (ps : List Str) (sc : Scope) : Prop where
  kind : sc.kind = .function
  co : sc.isCoroutine = false
  gen : sc.isGenerator = false
  nd : ps.Nodup
  par : ∀ x ∈ ps, sc.names.lookup x = some .local
  nocell : ∀ y ∈ sc.names, y.2 ≠ .cell
  free : ∀ y ∈ sc.names, y.2 = .free → y.1 = ("__class__" : Str)
  sup : sc.names.lookup ("super" : Str) = some .globalImplicit
  cls : sc.names.lookup ("__class__" : Str) = some .free
theorem lookup_zip_rev : ∀ {ps : List Str} {us : List Value} {i : Nat} {x : Str} {u : Value}, ps.Nodup → ps[i]? = some x → us[i]? = some u → (ps.zip us).reverse.lookup x = some u
  | [], _, _, _, _, _, h, _ => by simp at h
  | _ :: _, [], _, _, _, _, _, h => by simp at h
  | p :: ps, v :: us, 0, x, u, nd, h1, h2 => by
    simp at h1 h2
    subst h1; subst h2
    have hn : (ps.zip us).reverse.lookup p = none := by
      cases e : (ps.zip us).reverse.lookup p with
      | none => rfl
      | some z =>
        have m := PySem.mem_of_lookup e
        exact absurd (List.of_mem_zip (List.mem_reverse.mp m)).1 (List.nodup_cons.mp nd).1
    rw [List.zip_cons_cons, List.reverse_cons, List.lookup_append, hn]
    simp
  | p :: ps, v :: us, i + 1, x, u, nd, h1, h2 => by
    rw [List.zip_cons_cons, List.reverse_cons, List.lookup_append, lookup_zip_rev (i := i) (List.nodup_cons.mp nd).2 (by simpa using h1) (by simpa using h2)]
    rfl
theorem one_cell {cc c : Addr} {x : Str} (h : ([("__class__", cc)] : List (Str × Addr)).lookup x = some c) : x = ("__class__" : Str) ∧ c = cc := by
  have m := PySem.mem_of_lookup h
  simp at m
  exact m
theorem inv_startS {CX : CXT} {P : Program} {w : World} {K : PySem.W.Frag} {mg : Str → Option Value} {base : Heap} {ps : List Str} {qual : Str} {scope : Scope} {f cda cc : Addr} {A : Around} {outer : List Env} {s : Shared} {H : Hp} {E : XK} {us : List Value} {vs : List V} {h₁ : Heap} {tk : Nat}
    (S : ScS ps scope) (hd : A.handled = none) (e0 : Env0 P w K mg base A outer s H) (hl : vs.length = ps.length) (r : Vals vs us)
    (hns : h₁.Ns s.heap.objs.size (fun x => (ps.zip us).reverse.lookup x)) (kp : ∀ b o, s.heap.get? b = some o → h₁.get? b = some o) (hcc : ∃ o v, base.get? cc = some o ∧ o.data = .cell v) :
    Inv (cxS CX P w K mg base ps qual scope f cda cc A outer s H E) [] (L2.start ps vs) H { s with heap := h₁, toks := tk } := by
  have noA : ∀ b : Addr, b ∉ (cxS CX P w K mg base ps qual scope f cda cc A outer s H E).ex := fun b z => absurd (show b ∈ ([] : List Addr) from z) (by simp)
  obtain ⟨oc, vc, hc1, hc2⟩ := hcc
  have hfull : L2.start ps vs = vs.map some := by
    unfold L2.start
    rw [hl, Nat.sub_self]
    simp
  refine ⟨⟨e0.mod, S.kind, rfl, rfl, Nat.le_refl _, fun y z c h1 h2 => ?_, fun y hy => ?_, fun y c h _ => ?_, fun _ => hd, Around.frames_deeper e0.frames, .inr ⟨rfl, rfl⟩, fun b z => absurd z (noA b), e0.bs, e0.bsz, fun b _ _ => noA b, fun b z => absurd z (noA b), e0.funs, e0.frf⟩,
    rfl, e0.bare, Un.kept kp, ⟨_, hns, fun i y v h1 h2 h3 => ?_⟩, fun y c h => ?_, e0.hok.fresh (Nat.le_refl _), fun y c h => ?_, fun p hp => absurd (show p ∈ ([] : List (Addr × Obj)) from hp) (by simp), e0.hok.kept kp, ?_⟩
  · rw [(one_cell h1).1, (one_cell h2).1]
  · have hy : scope.names.lookup y = some .cell ∨ scope.names.lookup y = some .free := hy
    rcases hy with hy | hy
    · exact absurd rfl (S.nocell _ (PySem.mem_of_lookup hy))
    · have e := S.free _ (PySem.mem_of_lookup hy) rfl
      have e : y = ("__class__" : Str) := e
      subst e
      exact ⟨cc, rfl⟩
  · have h : false = true := h
    cases h
  · rw [hfull, List.getElem?_map] at h2
    obtain ⟨v', hv', e⟩ := Option.map_eq_some_iff.mp h2
    cases e
    obtain ⟨u, hu, rv⟩ := r.get hv'
    have hp : ps[i]? = some y := h1
    exact ⟨u, rv, .inl ⟨S.par y (List.mem_of_getElem? hp), lookup_zip_rev S.nd hp hu⟩⟩
  · obtain ⟨_, rfl⟩ := one_cell h
    exact ⟨vc, oc, kp _ _ (e0.bs _ _ hc1).1, hc2⟩
  · obtain ⟨_, rfl⟩ := one_cell h
    exact (e0.bs _ _ hc1).2
  · rw [hfull, List.length_map]
    exact hl
section
open PySem.W
variable {CX : CXT} {P : Program} {w : World} {K : PySem.W.Frag} {mg : Str → Option Value} {base : Heap} {k : Nat} {f C cc cda : Addr} {name qual : Str} {params : Arguments} {rest : List Stmt} {scope : Scope} {dV kV doc pm ct oc : Value} {an od : Option Addr}
  {osl : Array (Option Value)} {ps : List Str} {sp : Sp} {e : Expr} {p0 p1 p2 p3 p4 : Pos} {ar : Arg} {ccl cl : Value} {cdd cld : Option Addr} {ccs csl : Array (Option Value)} {vsc : Array Value} {file : Str} {tf : Tok}
abbrev bodyS (e : Expr) (rest : List Stmt) (p0 p1 p2 p3 p4 : Pos) : List Stmt := .Expr (.Call (.Attribute (.Call (.Name "super" p0) [] [] p1) "__init__" p2) [e] [] p3) p4 :: rest
/-- a def that begins with super().__init__(e), run upon a new error of the class at C -/
theorem fn_super (lk : K.lookup f = some ⟨oc, od, .func (ksFn name qual params (bodyS e rest p0 p1 p2 p3 p4) scope dV kV doc pm an (.ref cda) ct cc), osl⟩) (hcd : codeIn K (.ref cda) qual = true) (S : ScS ps scope)
    (hp : (params.posonlyargs ++ params.args).head? = some ar) (hps : ps[0]? = some ar.arg)
    (hcell : K.lookup cc = some ⟨cl, cld, .cell (some (.ref C)), csl⟩) (hcode : K.lookup cda = some ⟨ccl, cdd, .fields vsc, ccs⟩) (hvs : vsc[2]? = some (.str file tf)) (hfile : ((P.main.file : Str) == file) = true)
    (htop : (P.main.scope.names.lookup ("super" : Str)).isSome = false) (msup : mg "super" = none) (T : OexC K C) (hop : nsIn K cStatics "thirdparty.any" = some none)
    (hm : ks_superIn K C C "__init__" = some (some (.builtin "ValueError.__init__"))) (hB : subIn K (.ref C) (.type "ValueError") = some true)
    (len : ∀ vs H Q E, sp vs H Q E → vs.length = ps.length)
    (hstar : ∀ env : Env, starEach [e] env = (false, eval e env) :: starEach [] env)
    (hsw : ∀ env : Env, swapsWith (.Call (.Attribute (.Call (.Name "super" p0) [] [] p1) "__init__" p2) [e] [] p3) none p4.line env = pure false)
    (hev : ∀ env : Env, ∃ pl : Sem Bool, eval (.Call (.Attribute (.Call (.Name "super" p0) [] [] p1) "__init__" p2) [e] [] p3) env = (do
      let ov ← attributeBase (.Call (.Name "super" p0) [] [] p1) "__init__" env (eval (.Call (.Name "super" p0) [] [] p1) env)
      standAt p2.atName
      let (f, first) ← holding [ov] (getMethod ov "__init__" pl)
      callWith p3 f first (backTo p3 (starEach [e] env)) []))
    (hbody : ∀ (A : Around) (outer : List Env) (s : Shared) (H : Hp) (vs : List V) (Q : VK) (E : XK), Room k (A.deeper (envS qual scope s.heap.objs.size f cda cc)) → sp vs H Q E →
      ∃ (a : Addr) (ta : TA), vs[0]? = some (.ref a) ∧ H a = some (exo a C none) ∧ PA (cxS CX P w K mg base ps qual scope f cda cc A outer s H E) [e] ta ∧
        ta (L2.start ps vs) H fun ws H1 => ws.length ≤ 1000 ∧ H1 a = some (exo a C none) ∧ ∃ t, PSs (cxS CX P w K mg base ps qual scope f cda cc A outer s H E) rest t ∧ t { nx := fun _ H' => Q .non H', rt := Q } (L2.start ps vs) H1) :
    FnOk P w K mg base CX (k + 1) f (ksFn name qual params (bodyS e rest p0 p1 p2 p3 p4) scope dV kV doc pm an (.ref cda) ct cc) ps sp := by
  refine ⟨len, fun A outer s H args us vs Q E hr e0 hb r hsp => ?_⟩
  have hl := len _ _ _ _ hsp
  have KX : K.In s.heap := e0.mod.kin.keeps fun b o e => (e0.bs b o e).1
  have lim : s.heap.NoLimit := e0.mod.nolimit.keeps fun b o e => (e0.bs b o e).1
  obtain ⟨a, ta, hv0, ea, ha, hq⟩ := hbody A outer s H vs Q E (hr.deeper _) hsp
  obtain ⟨u0, hu0, ru0⟩ := r.get hv0
  obtain rfl : u0 = Value.ref a := ru0
  refine ks_codeAny_call_defAt (fd := ksFn name qual params (bodyS e rest p0 p1 p2 p3 p4) scope dV kV doc pm an (.ref cda) ct cc) (body := bodyS e rest p0 p1 p2 p3 p4) (binds := ps.zip us) hr.depth (KX _ _ lk) rfl lim (codeRec_of KX hcd) rfl hb S.nocell
    (fun y hy => S.par y.1 (List.of_mem_zip hy).1) (fun h₁ hns hk₁ => ?_) S.co S.gen S.kind
  have I := inv_startS (CX := CX) (qual := qual) (f := f) (cda := cda) (cc := cc) (E := E) (tk := s.toks + (ps.zip us).length) S hr.hd e0 hl r hns hk₁ ⟨_, _, e0.mod.kin _ _ hcell, rfl⟩
  show _root_.PySem.wpAt (model P w) (A.deeper (envS qual scope s.heap.objs.size f cda cc)) (.func (bodyS e rest p0 p1 p2 p3 p4) (envS qual scope s.heap.objs.size f cda cc)) (execs (bodyS e rest p0 p1 p2 p3 p4) (envS qual scope s.heap.objs.size f cda cc)) _ _ _
  obtain ⟨X, hX⟩ : ∃ X, X = cxS CX P w K mg base ps qual scope f cda cc A outer s H E := ⟨_, rfl⟩
  have KX1 : K.In h₁ := KX.keeps hk₁
  obtain ⟨nm, q, N, bs, bm, sn, sub, ab, col, dd, k0, k1, k2, k3, k5, hC, hbm⟩ := id T.cls
  have hcl : clsIn K C = some { name := nm, bases := bs, mro := .ref C :: bm, ns := N, qualname := q, hasDict := true, slotNames := sn, subclasses := sub, abstract := ab, collection := col, hasDel := false } := by unfold clsIn; rw [hC] <;> rfl
  obtain ⟨t1, hxo⟩ := exo_at I.hok ea
  have hxC : a ≠ C := fun z => by
    have y := KX1 _ _ hC
    rw [← z, hxo] at y
    cases y
  obtain ⟨pl, hpl⟩ := hev (envS qual scope s.heap.objs.size f cda cc)
  refine ks_wpAt_execs_cons (ks_wpAt_Expr_any (ks_wpAt_MethodCall (pl := pl) (o := .Call (.Name "super" p0) [] [] p1) (name := "__init__") ?_ hpl) I.quiet (hsw _))
  refine ks_wpAt_super_base (env := envS qual scope s.heap.objs.size f cda cc) S.sup S.cls (by decide) rfl (KX1 _ _ lk) rfl hp rfl (KX1 _ _ hcode) rfl hvs hfile htop ?_
  obtain ⟨mb, hb1, hb2⟩ := e0.mod.blt
  have bk : ∀ b o, base.get? b = some o → h₁.get? b = some o := fun b o z => hk₁ b o (e0.bs b o z).1
  refine ks_loadName_global S.kind S.sup (loadGlobal_builtin (env := envS qual scope s.heap.objs.size f cda cc) (e0.mod.glob.keeps bk) msup (hb1.keeps bk) ((hb2 _ (by decide)).trans (by decide +kernel : bootBuiltins "super" = some (.type "super"))) ⟨rfl, ?_⟩)
  refine wpAny_loadName_free S.kind S.cls rfl ⟨_, KX1 _ _ hcell, rfl⟩ ?_
  refine wpAny_loadName_local S.kind (S.par _ (List.mem_of_getElem? hps)) hns (lookup_zip_rev S.nd hps hu0) ?_
  refine ks_wpAny_isType_cls (KX1 _ _ hC) rfl ⟨rfl, ?_⟩
  refine ks_wpAny_call_super (KX1 _ _ hC) rfl hxo rfl (fun c z => by cases z) (looks_mroIn KX1 (by unfold mroIn; rw [hcl]; simp)) (fun h2 eso k2' => ?_)
  have I2 := I.kept (h' := h2) (t' := s.toks + (ps.zip us).length) k2'
  have KX2 : K.In h2 := KX1.keeps k2'
  have hx2 : h2.get? a = some (HandSPX.excO C t1) := k2' _ _ hxo
  have hI2 : Looks (model P w) h2 (isInstance (.ref a) (.type "ValueError")) true := InstAt.type (ox := HandSPX.excO C t1) (od := none) ⟨hx2, rfl, rfl, trivial⟩ |>.andThen (looks_subIn KX2 hB)
  have hm' : alongIn K "__init__" (((.ref C :: bm : List Value).dropWhile (· != .ref C)).drop 1) = some (some (.builtin "ValueError.__init__")) := by
    have z := hm
    unfold ks_superIn at z
    rw [hcl] at z
    exact z
  refine kxs_getMethod kxs_ValueError eso (looks_opaque KX2 hop) (l₀ := .ref C :: bm) ((looks_clsIn KX2 hcl).andThen .now) rfl KX2 hm' hI2 hxC (by decide) ?_
  have k3' : ∀ b o, h2.get? b = some o → (h2.push (kxs_mw "ValueError.__init__" a)).get? b = some o := fun b o z => Heap.get?_push_of_some _ z
  have I3 := I2.kept (h' := h2.push (kxs_mw "ValueError.__init__" a)) (t' := s.toks + (ps.zip us).length + 1) k3'
  have hu3 : (h2.push (kxs_mw "ValueError.__init__" a)).get? h2.objs.size = some (kxs_mw "ValueError.__init__" a) := Heap.get?_push_size _ rfl
  have hL2 := I2.lt
  have I4 := I3.pins_of (pins' := [(h2.objs.size, kxs_mw "ValueError.__init__" a)]) fun p hp => by
    have e : p = (h2.objs.size, kxs_mw "ValueError.__init__" a) := by simpa using hp
    subst e
    exact ⟨hu3, I2.hok.fresh (Nat.le_refl _), Nat.ne_of_gt hL2, I2.nofs (Nat.le_refl _), fun v z => by cases z⟩
  refine callWith_mw (i := "ValueError.__init__") (x := a) (hstar _) rfl ?_
  refine thn (ha.run p3 _ _ _ _ _ I4 hq) fun ws s4 hw => ?_
  obtain ⟨zs, H4, I5, r4, hz4, ea4, t, ht, hq4⟩ := hw
  have hu4 := (I5.pin (h2.objs.size, kxs_mw "ValueError.__init__" a) (List.mem_append_right _ (by simp))).1
  refine ⟨hu4, ?_⟩
  obtain ⟨t4, ho4⟩ := exo_at I5.hok ea4
  have KX4 := I5.kIn
  obtain ⟨hp4, g4, d4, tk4, os4⟩ := s4
  have hws : ws.length ≤ sizeLine := by
    rw [← r4.length, sizeLine_eq]
    omega
  refine call_mw (KX4 _ _ hC) ho4 hu4 hws fun h' t5 k5 hx5 => ?_
  have J := I5.write (t' := tk4) (x := a) (e := a) (o := exo a C none) (by rw [ea4]; exact True.intro) (.inl rfl) k5 ⟨_, hx5⟩ (exo_ok hx5)
  have eu : upd H4 a (exo a C none) = H4 := by
    funext b
    by_cases hb : b = a
    · rw [hb, upd_same, ea4]
    · rw [upd_ne hb]
  rw [eu] at J
  have J0 := J.pins_of (pins' := []) fun p hp => absurd hp (by simp)
  refine wpAt_of_wpAny (wpAny_mono (ht.run [] _ _ _ _ J0 hq4) (fun fl s' hs => ?_) fun e s' hs => hs)
  have fin : ∀ {σ' : L2.St} {H' : Hp} {v : V} {u : Value}, Inv (cxS CX P w K mg base ps qual scope f cda cc A outer s H E) [] σ' H' s' → RelV v u → Q v H' → CE outer P w H s Q u s' :=
    fun {σ' H' v u} J rv q => ⟨v, H', J.os, J.bare, J.base, J.hok, rv, q⟩
  cases fl with
  | ret u =>
    obtain ⟨v, σ', H', J, rv, q⟩ := hs
    exact fin J rv q
  | next =>
    obtain ⟨σ', H', J, q⟩ := hs
    exact fin (v := V.non) (u := Value.none) J rfl q
  | brk =>
    obtain ⟨_, _, _, q⟩ := hs
    exact False.elim q
  | cont =>
    obtain ⟨_, _, _, q⟩ := hs
    exact False.elim q
end
end CT
namespace CT
open PySem PySem.Spec PySem.Calls PyProof.Rows L2
section
open PySem.W
variable {M : Model} {K : Frag}
theorem loop1 {A : Around} {E : Value → Shared → Prop} {s : Shared} {cls : Value} (X : K.In s.heap) : ∀ {cs : List Value} {b : Bool}, exmAny K cls cs = some b → ∀ {Q : PUnit → Shared → Prop}, Q PUnit.unit s →
    wpAny M A (forIn cs PUnit.unit fun c (__s : PUnit) => do
      let __do_lift ← isExcClass c
      if (!__do_lift) = true then do
          rule "try.except-non-exception-class"
          raiseErrorWords "TypeError" "catching classes that do not inherit from BaseException is not allowed"
          pure (ForInStep.yield PUnit.unit)
        else pure (ForInStep.yield PUnit.unit)) Q E s
  | [], _, _, _, q => wpAny_pure q
  | c :: r, b, hx, Q, q => by
    obtain ⟨b1, d1, x1, y1, _⟩ := exmAny_cons hx
    obtain ⟨e1, _⟩ := exm_cls (M := M) X x1
    rw [List.forIn_cons]
    refine wpAny_bind (wpAny_bind (e1.here ?_))
    rw [if_neg (show ¬ ((!true) = true) from Bool.false_ne_true)]
    exact wpAny_pure (loop1 X y1 q)
theorem loop2 {A : Around} {E : Value → Shared → Prop} {s : Shared} {cls : Value} (X : K.In s.heap) : ∀ {cs : List Value} {b : Bool}, exmAny K cls cs = some b → ∀ {Q : Option Bool × Unit → Shared → Prop}, Q (if b then some true else none, ()) s →
    wpAny M A (forIn cs ((none, ()) : Option Bool × Unit) fun c (__s : Option Bool × Unit) => do
      let __do_lift ← isSubtype cls c
      if __do_lift = true then pure (ForInStep.done (some true, ())) else pure (ForInStep.yield (none, ()))) Q E s
  | [], b, hx, Q, q => by
    have e : some false = some b := hx
    cases e
    exact wpAny_pure q
  | c :: r, b, hx, Q, q => by
    obtain ⟨b1, d1, x1, y1, z1⟩ := exmAny_cons hx
    obtain ⟨_, S1⟩ := exm_cls (M := M) X x1
    rw [List.forIn_cons]
    refine wpAny_bind (wpAny_bind (S1.here ?_))
    cases b1 with
    | true =>
      rw [if_pos rfl]
      subst z1
      exact wpAny_pure (wpAny_pure q)
    | false =>
      rw [if_neg Bool.false_ne_true]
      have z2 : b = d1 := by rw [z1]; rfl
      subst z2
      exact wpAny_pure (loop2 X y1 q)
theorem exm_tupN {cs : List Value} {cls : Value} {tp e : Addr} {b : Bool} {h : Heap} (X : K.In h) (LT : Looks M h (typeOf (.ref e)) cls) (hp : h.get? tp = some { cls := .type "tuple", data := .seq cs.toArray }) (hx : exmAny K cls cs = some b) :
    Looks M h (excMatches (.ref e) (.ref tp)) b := by
  intro A Q E s k₀ q
  obtain ⟨hh, g, d, tk, os⟩ := s
  have k : ∀ b o, h.get? b = some o → hh.get? b = some o := k₀
  have LT0 : Looks M h (isInstance (.ref tp) (.type "tuple")) true := ((Looks.ld hp).andThen .now).andThen (Looks.of_pure isSubtype_tuple_tuple)
  have LT := LT.keeps k
  have LT0 := LT0.keeps k
  have X' := X.keeps k
  have hp' := k _ _ hp
  unfold excMatches
  refine wpAny_bind (LT0.at ?_)
  dsimp only
  rw [if_pos rfl]
  first
    | refine wpAny_bind (wpAny_seqItems hp' rfl ?_)
    | refine wpAny_bind (wpAny_bind (wpAny_seqItems hp' rfl (wpAny_pure ?_)))
  dsimp only [Option.getD_some, Option.getD]
  refine wpAny_bind (wpAny_pure ?_)
  refine wpAny_bind (loop1 (s := ⟨hh, g, d, tk, os⟩) X' hx ?_)
  refine wpAny_bind (LT.at ?_)
  refine wpAny_bind (loop2 (s := ⟨hh, g, d, tk, os⟩) X' hx ?_)
  cases b
  · exact wpAny_pure q
  · exact wpAny_pure q
end
inductive NamesL (X : Cx) : List Expr → List Value → Prop
  | nil : NamesL X [] []
  | cons {x : Str} {c : Value} {np : Pos} {es : List Expr} {cs : List Value} (h : Names X x c) (r : NamesL X es cs) : NamesL X (.Name x np :: es) (c :: cs)
inductive ClTest (X : Cx) : Expr → List Value → Prop
  | one {x : Str} {c : Value} {np : Pos} (h : Names X x c) : ClTest X (.Name x np) [c]
  | tup {es : List Expr} {cs : List Value} {k : Nat} {tp : Pos} (h : NamesL X es cs) (hl : cs.length ≤ 100) : ClTest X (.Tuple es k tp) cs
section
variable {X : Cx} {pins : List (Addr × Obj)} {σ : L2.St} {H : Hp} {s : Shared}
theorem names_eval {x : Str} {c : Value} {np : Pos} {Q E : Value → Shared → Prop} (hc : Names X x c) (S : Inv X pins σ H s) (q : Q c s) : wpAny (model X.prog X.w) X.A (eval (.Name x np) X.env) Q E s := by
  obtain ⟨hg, hdbg, hm | ⟨hm, hv, hnn⟩⟩ := hc
  · exact ld_glob S hg hm q hdbg
  · exact ld_blt S hg hm hv q hnn hdbg
theorem namesL_eval {E : Value → Shared → Prop} {pos : Pos} : ∀ {es : List Expr} {cs : List Value}, NamesL X es cs → Inv X pins σ H s → ∀ {Q : List Value → Shared → Prop}, Q cs s → wpAny (model X.prog X.w) X.A (spliced (backTo pos (starEach es X.env))) Q E s
  | _, _, .nil, _, _, q => wpAny_items_nil q
  | _, _, .cons h r, S, Q, q => wpAny_items_cons (names_eval h S (namesL_eval r S q))
theorem NamesL.suite {a : Addr} {pn : List (Addr × Obj)} : ∀ {es : List Expr} {cs : List Value}, NamesL X es cs → NamesL (X.suite a pn) es cs
  | _, _, .nil => .nil
  | _, _, .cons h r => .cons h r.suite
theorem cl_test {te : Expr} {cs : List Value} {a : Addr} {pn : List (Addr × Obj)} {cls : Value} {b : Bool} (hcl : ClTest X te cs) (S : Inv (X.suite a pn) pins σ H s) (LT : PySem.W.Looks (model X.prog X.w) s.heap (typeOf (.ref a)) cls)
    (hx : PySem.W.exmAny X.K cls cs = some b) {Q : Bool → Shared → Prop} {E : Value → Shared → Prop} (q : ∀ h', (∀ b o, s.heap.get? b = some o → h'.get? b = some o) → Q b { s with heap := h' }) :
    wpAny (model X.prog X.w) (X.A.mark (some (.ref a))) (eval te X.env) (fun c s₁ => wpAny (model X.prog X.w) (X.A.mark (some (.ref a))) (excMatches (.ref a) c) Q E s₁) E s := by
  have KX : X.K.In s.heap := S.kIn
  cases hcl with
  | one h =>
    obtain ⟨b1, d1, x1, y1, z1⟩ := PySem.W.exmAny_cons hx
    have e1 : some false = some d1 := y1
    cases e1
    rw [Bool.or_false] at z1
    subst z1
    exact names_eval (X := X.suite a pn) h S ((PySem.W.exm_one KX LT x1).here (q s.heap fun _ _ z => z))
  | tup h hl =>
    refine wpAny_Tuple (namesL_eval (X := X.suite a pn) h.suite S ⟨Nat.le_trans hl (by decide), ?_⟩)
    have kp : ∀ q o, s.heap.get? q = some o → (s.heap.push { cls := .type "tuple", data := .seq cs.toArray }).get? q = some o := fun _ _ z => Heap.get?_push_of_some _ z
    exact (exm_tupN (KX.keeps kp) (LT.keeps kp) (Heap.get?_push_size s.heap rfl) hx).here (q _ kp)
theorem flying_keep {base h h' : Heap} {l : List Env} {e : Addr} {Z : Obj → Prop} (fl : HandSPX.FlyingZ base l e Z h) (k : ∀ b o, h.get? b = some o → h'.get? b = some o) : HandSPX.FlyingZ base l e Z h' := by
  obtain ⟨k1, k2, k3, oe, vs, T, oT, ts, he, hz, hd, h1, h2, h3, h4, h5, h6⟩ := fl
  exact ⟨fun b o z => k b o (k1 b o z), k2, Heap.FunFrames.of_keeps (fun b o e _ => ⟨o, k b o e, rfl⟩) k3, oe, vs, T, oT, ts, k _ _ he, hz, hd, h1, h2, h3, k _ _ h4, h5, h6⟩
end
/-- what the clauses wish of an exception of the body, one after the other; slot i holds the error within a suite -/
def wManyAs (K : PySem.W.Frag) (i : Nat) (Wout : WX) (D : Ends) : List (List Value × (Addr → Value → Option Addr → TS)) → WX
  | [] => Wout
  | (cs, ts) :: r => fun cls d σ H => ∃ b, PySem.W.exmAny K cls cs = some b ∧ (b = true → ∀ a, H a = none → ts a cls d { nx := fun σ' H' => D.nx (σ'.set i none) H', rt := D.rt, bk := fun σ' H' => D.bk (σ'.set i none) H', ct := fun σ' H' => D.ct (σ'.set i none) H' } (σ.set i (some (.ref a))) H) ∧
      (b = false → wManyAs K i Wout D r cls d σ H)
inductive HdsAs (X : Cx) (n : Str) : List ExceptHandler → List (List Value × (Addr → Value → Option Addr → TS)) → Prop
  | nil : HdsAs X n [] []
  | cons {te : Expr} {cs : List Value} {ts : Addr → Value → Option Addr → TS} {b₀ : Stmt} {suite : List Stmt} {pos' : Pos} {hds : List ExceptHandler} {l : List (List Value × (Addr → Value → Option Addr → TS))} (hc : ClTest X te cs)
      (hsu : ∀ (a : Addr) (oe : Obj) (cls : Value) (d : Option Addr) (pn : List (Addr × Obj)), Zc cls d oe → (∃ vs, oe.data = .fields vs) → PSs (X.suite a ((a, oe) :: pn)) (b₀ :: suite) (ts a cls d)) (r : HdsAs X n hds l) :
      HdsAs X n (.ExceptHandler (some te) (some n) (b₀ :: suite) pos' :: hds) ((cs, ts) :: l)
section
variable {X : Cx} {body : List Stmt} {h₀ : ExceptHandler} {hds : List ExceptHandler} {l : List (List Value × (Addr → Value → Option Addr → TS))} {pos : Pos} {tb : WX → TS} {Wout : WX} {n : Str} {i : Nat}
theorem ps_try_manyAs (hs : X.stack = X.env :: X.outer) (hf : X.env.frame = some X.env.locals) (hN : X.N.Nodup) (hi : X.N[i]? = some n) (hln : X.env.kindOf n = some .local) (tk : Takes X Wout)
    (hb : ∀ (W : WX) (pn : List (Addr × Obj)) (xe : Value → Shared → Prop), Takes (X.tr pn xe) W → PassesOwn (model X.prog X.w) X.A X.env xe → PSs (X.tr pn xe) body (tb W))
    (hh : HdsAs X n (h₀ :: hds) l) : PS X (.Try body (h₀ :: hds) [] [] pos) (fun D σ H => tb (wManyAs X.K i Wout D l) D σ H) := by
  refine ⟨fun pins s σ H D I h => ?_⟩
  have ok := I.ok
  have hfr : X.A.frames = some (X.env :: X.outer) := by rw [ok.frames, hs]
  have hloc : Loc X.env.scope n := .inl hln
  refine wpAny_Try_except ?_
  refine wpAny_mono ((hb (wManyAs X.K i Wout D l) (X.pn ++ pins) (fun e s₁ => wpAny (model X.prog X.w) X.A (noteFrame e X.env) (fun _ s₂ => wpAny (model X.prog X.w) X.A (setFlight e none) (fun _ s₃ =>
    wpAny (model X.prog X.w) X.A (handleBy e X.env (h₀ :: hds)) (SP X pins D) X.xe s₃) X.xe s₂) X.xe s₁) (fun u s' xx => ?_) PassesOwn.looking).run [] s σ H D (I.toTry _) h) (fun f s1 hsp => ?_) (fun e s1 he => he)
  · obtain ⟨a, B, sI, pins', σ', H', cls, d, rfl, J', nb, up, sky, na, os, ag, w⟩ := xx
    have J : Inv X pins σ' H' sI := J'.ofTry ok
    have sky' : Sky B (X.env :: X.outer) a (Zc cls d) X.env.locals s'.heap := by rw [← hs]; exact sky
    show wpAny (model X.prog X.w) X.A (noteFrame (.ref a) X.env) _ _ _
    refine Sky.land Zc.steady hfr hf sky' fun h3 fl3 up3 => ?_
    have notFr : ∀ {h : Heap} {o : Obj} {vs : Array Value}, h.FunFrames B (X.env :: X.outer) → h.get? a = some o → o.data = .fields vs → a ∉ frs (X.env :: X.outer) := fun {h o vs} ff e dd hm => by
      obtain ⟨_, o', e', hnf⟩ := ff.mem hm
      rw [e] at e'; cases e'
      exact hnf _ dd
    obtain ⟨oe3, vs3, he3, hz3, hd3⟩ := fl3.there
    have nfr := notFr fl3.2.2.1 he3 hd3
    have nL : a ≠ X.env.locals := fun z => nfr (List.mem_filterMap.mpr ⟨X.env, List.mem_cons_self, by rw [hf, z]⟩)
    have nF : a ∉ X.fs := fun hm => by
      obtain ⟨e, he, q⟩ := List.mem_filterMap.mp hm
      exact nfr (List.mem_filterMap.mpr ⟨e, List.mem_cons_of_mem _ he, q⟩)
    have go : ∀ {hds' : List ExceptHandler} {l' : List (List Value × (Addr → Value → Option Addr → TS))}, HdsAs X n hds' l' → wManyAs X.K i Wout D l' cls d σ' H' → ∀ h5 : Heap, HandSPX.FlyingZ B (X.env :: X.outer) a (Zc cls d) h5 → sI.heap.UpToSlots h5 →
        wpAny (model X.prog X.w) X.A (handleBy (.ref a) X.env hds') (SP X pins D) X.xe { s' with heap := h5 } := by
      intro hds' l' hk
      induction hk with
      | nil =>
        intro w h5 fl5 up5
        refine wpAny_handleBy_nil ?_
        obtain ⟨k1, k2, k3, oe, vs, T, oT, ts', he, hz, hd, h1, hr⟩ := id fl5
        unfold PySem.passOn
        refine wpAny_bind (wpAny_field he hd h1 ?_)
        rw [if_neg (show ¬ ((Value.ref T == Value.none) = true) from by simp)]
        have fin : wpAny (model X.prog X.w) X.A (setFlight (.ref a) X.env.frame) (fun _ s4 => wpAny (model X.prog X.w) X.A (throw (.ref a) : Sem Flow) (SP X pins D) X.xe s4) X.xe { s' with heap := h5 } := by
          rw [hf]
          refine HandSPX.setFlight_upZ fl5 fun h4 hh4 up4 => wpAny_throw (tk _ _ ?_)
          exact ⟨a, B, sI, pins, σ', H', cls, d, rfl, J, nb, up5.trans up4, .inr (.inr (by rw [hs]; exact hh4)), na, os, ag, w⟩
        first
          | exact wpAny_bind (wpAny_pure (wpAny_bind fin))
          | exact wpAny_bind fin
      | @cons te cs ts b₀ suite pos' hds2 l2 hc hsu r ih =>
        intro w h5 fl5 up5
        obtain ⟨b, hb1, hyes, hno⟩ := w
        obtain ⟨oe5, vs5, he5, hz5, hd5⟩ := fl5.there
        have J5 : Inv X pins σ' H' { s' with heap := h5 } := J.landed nb fl5.1 up5 os ag
        have S5 := J5.suite he5 hd5 na nL nF
        refine wpAny_handleBy_cons (codeAny_handlers_test ?_) (by intro q; cases q)
        have LT : PySem.W.Looks (model X.prog X.w) h5 (typeOf (.ref a)) cls := fun A Q E s k q => wpAny_typeOf_ref (k _ _ he5) (by rw [hz5.1]; exact q)
        refine cl_test hc S5 LT hb1 fun h6 k6 => ?_
        have fl6 := flying_keep fl5 k6
        have up6 : sI.heap.UpToSlots h6 := up5.trans (Heap.UpToSlots.of_keeps k6)
        cases b with
        | true =>
          refine codeAny_handlers_suite_as ?_
          refine HandSPX.lands_againZ fl6 fun h4 fl4 up4 => ?_
          have J4 : Inv X pins σ' H' { s' with heap := h4 } := J.landed nb fl4.1 (up6.trans up4) os ag
          obtain ⟨oe4, vs4, he4, hz4, hd4⟩ := fl4.there
          have S4 := J4.suite he4 hd4 na nL nF
          refine store_ok (X := X.suite a ((a, oe4) :: (X.pn ++ pins))) (v := .ref a) S4 hN hi hloc rfl (fun s5 S5 => ?_) (.inr hln)
          refine wpAny_mono ((hsu a oe4 cls d (X.pn ++ pins) hz4 ⟨_, hd4⟩).run [] s5 _ H' _ S5 (hyes rfl a na)) (fun f s6 hsp => ?_) (fun _ _ z => False.elim z)
          have end_ : ∀ {σ6 : L2.St} {H6 : Hp} {Q : Shared → Prop}, Inv (X.suite a ((a, oe4) :: (X.pn ++ pins))) [] σ6 H6 s6 → (∀ s7, Inv X pins (σ6.set i none) H6 s7 → Q s7) →
              wpAny (model X.prog X.w) X.A (do bindName X.env n .none; unbindBehindTheSuite X.env n pos') (fun _ s7 => Q s7) X.xe s6 := fun {σ6 H6 Q} S6 hq => gone_ok (S6.unsuite ok) hN hi hln hq
          cases f with
          | next =>
            obtain ⟨σ6, H6, S6, q6⟩ := hsp
            exact end_ S6 fun s7 J7 => ⟨_, _, J7, q6⟩
          | brk =>
            obtain ⟨σ6, H6, S6, q6⟩ := hsp
            exact end_ S6 fun s7 J7 => ⟨_, _, J7, q6⟩
          | cont =>
            obtain ⟨σ6, H6, S6, q6⟩ := hsp
            exact end_ S6 fun s7 J7 => ⟨_, _, J7, q6⟩
          | ret u =>
            obtain ⟨v6, σ6, H6, S6, r6, q6⟩ := hsp
            exact end_ S6 fun s7 J7 => ⟨_, _, _, J7, r6, q6⟩
        | false =>
          show wpAny _ X.A (handleBy (.ref a) X.env hds2) _ _ _
          exact ih (hno rfl) h6 fl6 up6
    exact go hh w h3 fl3 (up.trans up3)
  · cases f with
    | next =>
      obtain ⟨σ', H', J', q⟩ := hsp
      exact wpAny_execs_nil ⟨σ', H', J'.ofTry ok, q⟩
    | brk =>
      obtain ⟨σ', H', J', q⟩ := hsp
      exact ⟨σ', H', J'.ofTry ok, q⟩
    | cont =>
      obtain ⟨σ', H', J', q⟩ := hsp
      exact ⟨σ', H', J'.ofTry ok, q⟩
    | ret u =>
      obtain ⟨v, σ', H', J', r, q⟩ := hsp
      exact ⟨v, σ', H', J'.ofTry ok, r, q⟩
end
end CT
namespace CT
open PySem PySem.Spec PySem.Calls PyProof.Rows L2 He
def oexB (K : PySem.W.Frag) (C : Addr) : Bool := (match K.lookup C with
  | some ⟨.type t, _, .cls cd, sl⟩ => (match cd.mro, sl.toList with
    | .ref C' :: bm, [_, _, _, _, some (.builtin n), _] => decide (t = "type") && (decide (C' = C) && (decide (n = "ValueError.__new__") && (!cd.hasDel && (cd.hasDict && PySem.HandSPX.refsVE bm))))
    | _, _ => false)
  | _ => false) && (eqO (PySem.W.findIn K (.ref C) "__setattr__") (some (some (.builtin "object.__setattr__"))) && (decide (PySem.W.subIn K (.ref C) (.type "BaseException") = some true) &&
    (decide (PySem.W.typeIn K (.ref C) = some (.type "type")) && PySem.W.keepIn K (.ref C))))
theorem oexB_ok {K : PySem.W.Frag} {C : Addr} (h : oexB K C = true) : OexC K C := by
  obtain ⟨h1, h⟩ := ba h
  obtain ⟨h2, h⟩ := ba h
  obtain ⟨h3, h⟩ := ba h
  obtain ⟨h4, h5⟩ := ba h
  refine ⟨?_, eqO_ok h2, of_decide_eq_true h3, of_decide_eq_true h4, h5⟩
  split at h1
  · rename_i t dd cd sl ho
    split at h1
    · rename_i C' bm k0 k1 k2 k3 n k5 hm hs
      simp only [Bool.and_eq_true, decide_eq_true_eq, Bool.not_eq_true'] at h1
      obtain ⟨rfl, rfl, rfl, hdel, hdict, hr⟩ := h1
      obtain ⟨nm, bs, mro, ns, qn, hd, sn, sub, ab, col, del⟩ := cd
      dsimp only at hm hdel hdict
      subst hm hdel hdict
      have hsl : sl = #[k0, k1, k2, k3, some (.builtin "ValueError.__new__"), k5] := by
        obtain ⟨l⟩ := sl
        simp only at hs
        rw [hs]
      subst hsl
      exact ⟨nm, qn, ns, bs, bm, sn, sub, ab, col, dd, k0, k1, k2, k3, k5, ho, hr⟩
    · cases h1
  · cases h1
def noDfl : Value → Bool
  | .none => true
  | _ => false
theorem noDfl_ok {v : Value} (h : noDfl v = true) : v = .none := by
  cases v with
  | none => rfl
  | _ => cases h
/-- the cell of __class__ of the def at f holds C, its code object knows the text -/
def closB (K : PySem.W.Frag) (f C : Addr) (file : Str) : Bool := match K.lookup f with
  | some ⟨_, _, .func fd, _⟩ => (match fd.closure, fd.code with
    | [(_, cc)], .ref cda => (match K.lookup cc with
      | some ⟨_, _, .cell (some (.ref C')), _⟩ => decide (C' = C)
      | _ => false) && ((match K.lookup cda with
      | some ⟨_, _, .fields vs, _⟩ => (match (vs[2]? : Option Value) with
        | some (.str z _) => decide (z = file)
        | _ => false)
      | _ => false) && (PySem.W.codeIn K (.ref cda) fd.qualname && noDfl fd.defaults))
    | _, _ => false)
  | _ => false
/-- a class of errors with its own __init__, x the attribute it stores besides its tag (none: no parameter) -/
def errB (K : PySem.W.Frag) (n : Str) (x : Option Str) (file : Str) : Bool := oexB K (ga K n) && (xfB K (ga K n) && (eqO (PySem.W.findIn K (.ref (ga K n)) "__init__") (some (some (.ref (ma K (ga K n) "__init__")))) &&
  (decide (PySem.W.typeIn K (.ref (ma K (ga K n) "__init__")) = some (.type "function")) && (eqO (PySem.W.ks_superIn K (ga K n) (ga K n) "__init__") (some (some (.builtin "ValueError.__init__"))) &&
  (decide (PySem.W.subIn K (.ref (ga K n)) (.type "ValueError") = some true) && (eqO (PySem.W.findIn K (.ref (ga K n)) "tag") (some none) && ((match x with
    | some x => eqO (PySem.W.findIn K (.ref (ga K n)) x) (some none)
    | none => true) && (closB K (ma K (ga K n) "__init__") (ga K n) file && eqO (PySem.W.nsIn K cStatics "thirdparty.any") (some none)))))))))
structure ErrC (K : PySem.W.Frag) (n : Str) (x : Option Str) (file : Str) : Prop where
  o : OexC K (ga K n)
  xf : XfC K (ga K n)
  init : PySem.W.findIn K (.ref (ga K n)) "__init__" = some (some (.ref (ma K (ga K n) "__init__")))
  ty : PySem.W.typeIn K (.ref (ma K (ga K n) "__init__")) = some (.type "function")
  sup : PySem.W.ks_superIn K (ga K n) (ga K n) "__init__" = some (some (.builtin "ValueError.__init__"))
  ve : PySem.W.subIn K (.ref (ga K n)) (.type "ValueError") = some true
  tag : PySem.W.findIn K (.ref (ga K n)) "tag" = some none
  fld : ∀ y, x = some y → PySem.W.findIn K (.ref (ga K n)) y = some none
  clos : closB K (ma K (ga K n) "__init__") (ga K n) file = true
  third : PySem.W.nsIn K cStatics "thirdparty.any" = some none
theorem errB_ok {K : PySem.W.Frag} {n : Str} {x : Option Str} {file : Str} (h : errB K n x file = true) : ErrC K n x file := by
  obtain ⟨h1, h⟩ := ba h
  obtain ⟨h2, h⟩ := ba h
  obtain ⟨h3, h⟩ := ba h
  obtain ⟨h4, h⟩ := ba h
  obtain ⟨h5, h⟩ := ba h
  obtain ⟨h6, h⟩ := ba h
  obtain ⟨h7, h⟩ := ba h
  obtain ⟨h8, h⟩ := ba h
  obtain ⟨h9, h10⟩ := ba h
  refine ⟨oexB_ok h1, xfB_ok h2, eqO_ok h3, of_decide_eq_true h4, eqO_ok h5, of_decide_eq_true h6, eqO_ok h7, fun y e => ?_, h9, eqO_ok h10⟩
  subst e
  exact eqO_ok h8
def fnS (K : PySem.W.Frag) (f : Addr) : Option (Str × Str × Arguments × FuncBody × Scope × Addr × List Str × Addr) := match K.lookup f with
  | some ⟨_, _, .func fd, _⟩ => some (fd.name, fd.qualname, fd.params, fd.body, fd.scope, fd.globals, fd.closure.map (·.1), fd.builtins)
  | _ => none
/-- name, qualified name, parameters, body, scope of the statement -/
def stVal (q : Str) (st : Stmt) : Option (Str × Str × Arguments × FuncBody × Scope × Addr × List Str × Addr) := some ("__init__", q, defArgs st, .stmts (defBody st), defScope st, mainGlobals, ["__class__"], builtinsNs)
theorem fnS_ok {K : PySem.W.Frag} {f C : Addr} {file q : Str} {st : Stmt} (e : fnS K f = stVal q st) (c : closB K f C file = true) :
    ∃ (oc : Value) (od : Option Addr) (osl : Array (Option Value)) (kV doc pm ct : Value) (an : Option Addr) (cc cda : Addr) (cl : Value) (cld : Option Addr) (csl : Array (Option Value)) (ccl : Value) (cdd : Option Addr) (ccs : Array (Option Value)) (vs : Array Value) (tf : Tok),
      K.lookup f = some ⟨oc, od, .func (PySem.W.ksFn "__init__" q (defArgs st) (defBody st) (defScope st) .none kV doc pm an (.ref cda) ct cc), osl⟩ ∧ PySem.W.codeIn K (.ref cda) q = true ∧
      K.lookup cc = some ⟨cl, cld, .cell (some (.ref C)), csl⟩ ∧ K.lookup cda = some ⟨ccl, cdd, .fields vs, ccs⟩ ∧ vs[2]? = some (.str file tf) := by
  unfold fnS stVal at e
  unfold closB at c
  split at e
  · rename_i oc od fd osl lk
    rw [lk] at c
    dsimp only at c
    split at c
    · rename_i x cc cda hcl hcd
      obtain ⟨c1, c2⟩ := ba c
      obtain ⟨c3, c4⟩ := ba c2
      obtain ⟨c6, c7⟩ := ba c4
      have c5 := noDfl_ok c7
      clear c4 c7 c2
      split at c1
      · rename_i cl cld C' csl lcc
        have eC := of_decide_eq_true c1
        subst eC
        split at c3
        · rename_i ccl cdd vs ccs lcd
          split at c3
          · rename_i z tf hv
            have ez := of_decide_eq_true c3
            subst ez
            obtain ⟨n1, n2, n3, n4, n5, n6, n7, n8, n9, n10, n11, n12, n13, n14, n15⟩ := fd
            dsimp only at hcl hcd c6 c5 e
            subst hcl hcd c5
            simp only [Option.some.injEq, Prod.mk.injEq, List.map_cons, List.map_nil, List.cons.injEq, and_true] at e
            obtain ⟨h1, h2, h3, h4, h5, h6, h7, h8⟩ := e
            subst h1 h2 h3 h4 h5 h6 h7 h8
            exact ⟨oc, od, osl, n9, n10, n11, n14, n12, cc, cda, cl, cld, csl, ccl, cdd, ccs, vs, tf, lk, c6, lcc, lcd, hv⟩
          · cases c3
        · cases c3
      · cases c1
    · cases c
  · cases e
end CT
namespace CT
open PySem PySem.Spec PySem.Calls PyProof.Rows L2 He
abbrev supCall (p0 p1 p2 p3 : Pos) (e : Expr) : Expr := .Call (.Attribute (.Call (.Name "super" p0) [] [] p1) "__init__" p2) [e] [] p3
/-- def __init__(self, x): super().__init__(x); self.x = x; self.tag = T -/
structure ErrS (st : Stmt) (x T : Str) : Prop where
  body : ∃ (p0 p1 p2 p3 p4 p5 p6 p7 p8 p9 p10 p11 p12 p13 : Pos) (k : Nat), defBody st =
    [.Expr (supCall p0 p1 p2 p3 (.Name x p5)) p4, .Assign [.Attribute (.Name "self" p6) x p7] (.Name x p8) p9, .Assign [.Attribute (.Name "self" p10) "tag" p11] (.Constant (.str T) k p12) p13] ∧
    ∀ env : Env, ∃ pl : Sem Bool, eval (supCall p0 p1 p2 p3 (.Name x p5)) env = (do
      let ov ← attributeBase (.Call (.Name "super" p0) [] [] p1) "__init__" env (eval (.Call (.Name "super" p0) [] [] p1) env)
      standAt p2.atName
      let (f, first) ← holding [ov] (getMethod ov "__init__" pl)
      callWith p3 f first (backTo p3 (starEach [.Name x p5] env)) [])
  sc : ScS ["self", x] (defScope st)
  hd : ∃ ar : Arg, ((defArgs st).posonlyargs ++ (defArgs st).args).head? = some ar ∧ ar.arg = ("self" : Str)
  dbg : (x == ("__debug__" : Str)) = false
  dct : (x == ("__classdict__" : Str)) = false
  bind : ∀ (q : Str) (kV doc pm ct cdv : Value) (an : Option Addr) (cc : Addr) (us : List Value), us.length = 2 → bindArgs (PySem.W.ksFn "__init__" q (defArgs st) (defBody st) (defScope st) .none kV doc pm an cdv ct cc) ⟨us, []⟩ = pure ((["self", x] : List Str).zip us)
def spInit1 (C : Addr) (x T : Str) : Sp := fun vs H Q _ => ∃ (a : Addr) (v : V), vs = [.ref a, v] ∧ H a = some (exo a C none) ∧
  ∀ d, H d = none → d ≠ a → Q .non (upd (upd (upd H d (exd d [(x, v)])) a (exo a C (some d))) d (exd d [("tag", .str T), (x, v)]))
section
variable {P : Program} {w : World} {K : PySem.W.Frag} {mg : Str → Option Value} {base : Heap} {n x T q file : Str} {st : Stmt}
theorem err_fn1 (E : ErrC K n (some x) file) (S : ErrS st x T) (e : fnS K (ma K (ga K n) "__init__") = stVal q st)
    (hfile : ((P.main.file : Str) == file) = true) (htop : (P.main.scope.names.lookup ("super" : Str)).isSome = false) (msup : mg "super" = none) :
    ∃ fd, FnOk P w K mg base CX0 1 (ma K (ga K n) "__init__") fd ["self", x] (spInit1 (ga K n) x T) ∧ Binds K fd ["self", x] [] := by
  obtain ⟨oc, od, osl, kV, doc, pm, ct, an, cc, cda, cl, cld, csl, ccl, cdd, ccs, vs, tf, lk, hcd, lcc, lcd, hv⟩ := fnS_ok e E.clos
  obtain ⟨p0, p1, p2, p3, p4, p5, p6, p7, p8, p9, p10, p11, p12, p13, k, hb, hev⟩ := S.body
  obtain ⟨ar, har, har2⟩ := S.hd
  refine ⟨_, ?_, .all (S.bind q kV doc pm ct (.ref cda) an cc)⟩
  rw [hb] at lk ⊢
  refine fn_super (k := 0) (e := .Name x p5) lk hcd S.sc har (by rw [har2]; rfl) lcc lcd hv hfile htop msup E.o E.third E.sup E.ve (fun vs H Q E h => ?_) (fun env => rfl) (fun env => rfl) hev (fun A outer s H vs Q E' hr h => ?_)
  · obtain ⟨a, v, rfl, _⟩ := h
    rfl
  · obtain ⟨a, v, rfl, ha, hq⟩ := h
    have hx1 : (["self", x] : List Str)[1]? = some x := rfl
    refine ⟨a, tCons (tVar 1) tNil, rfl, ha, pa_cons (pv 1 rfl (.inl (S.sc.par x (by simp))) S.dbg S.dct) pa_nil, ?_⟩
    refine ⟨v, rfl, by show 1 ≤ 1000; decide, ha, _, pss_cons (ps_ost (pv 0 rfl (.inl (S.sc.par "self" (by simp)))) (pv 1 rfl (.inl (S.sc.par x (by simp))) S.dbg S.dct)) (pss_one (ps_ost (pv 0 rfl (.inl (S.sc.par "self" (by simp)))) pe_str)), ?_⟩
    refine ⟨v, rfl, .ref a, rfl, a, ga K n, rfl, E.o, E.fld x rfl, .inl ⟨ha, fun d hd hda => ?_⟩⟩
    refine ⟨.ref a, rfl, a, ga K n, rfl, E.o, E.tag, .inr ⟨d, [(x, v)], upd_same, ?_, by show 1 ≤ 900; decide, hq d hd hda⟩⟩
    rw [upd_ne hda, upd_same]
theorem err_read {C : Addr} {v : V} {H1 : Hp} {Q : XK} (h : ∀ d, H1 d = none → Q (.ref C) (some d) (upd H1 d (.xd [("tag", .str T), (x, v)]))) :
    ([v] : List V).length ≤ 1000 ∧ ∀ a, H1 a = none → spInit1 C x T (.ref a :: ([v] ++ [])) (upd H1 a (exo a C none))
      (fun v H2 => v = .non ∧ ∃ (d : Addr) (fs : List (Str × V)), H2 a = some (exo a C (some d)) ∧ H2 d = some (exd d fs) ∧ H1 d = none ∧ Q (.ref C) (some d) (upd (del H2 a) d (.xd fs))) (fun _ _ _ => False) := by
  refine ⟨by show 1 ≤ 1000; decide, fun a ha => ⟨a, v, rfl, upd_same, fun d hd hda => ⟨rfl, d, _, ?_, upd_same, ?_, ?_⟩⟩⟩
  · rw [upd_ne hda.symm, upd_same]
  · rw [upd_ne hda] at hd
    exact hd
  · have hd' : H1 d = none := by
      rw [upd_ne hda] at hd
      exact hd
    have e : upd (del (upd (upd (upd (upd H1 a (exo a C none)) d (exd d [(x, v)])) a (exo a C (some d))) d (exd d [("tag", .str T), (x, v)])) a) d (.xd [("tag", .str T), (x, v)]) = upd H1 d (.xd [("tag", .str T), (x, v)]) := by
      funext b
      by_cases hb : b = d
      · rw [hb, upd_same, upd_same]
      · rw [upd_ne hb, upd_ne hb]
        by_cases hba : b = a
        · rw [hba, del_same, ha]
        · rw [del_ne hba, upd_ne hb, upd_ne hba, upd_ne hb, upd_ne hba]
    rw [e]
    exact h d hd'
end
section
variable {X : Cx} {n x T file : Str} {e : Expr} {te : TE} {p pos : Pos}
theorem pmk_err1 (E : ErrC X.K n (some x) file) (F : ∃ fd, FnOk X.prog X.w X.K X.mg X.base CX0 1 (ma X.K (ga X.K n) "__init__") fd ["self", x] (spInit1 (ga X.K n) x T) ∧ Binds X.K fd ["self", x] []) (hr : Room 2 X.A) (hg : Gl X n) (hm : X.mg n = some (.ref (ga X.K n)))
    (ha : PE X e te) (hdb : (n == ("__debug__" : Str)) = false := by decide) (he : starEach [e] X.env = (false, eval e X.env) :: starEach [] X.env := by rfl) :
    PMk X (.Call (.Name n p) [e] [] pos) (tMkO (ga X.K n) (spInit1 (ga X.K n) x T) [] (tCons te tNil)) := by
  obtain ⟨fd, F, b⟩ := F
  exact pmk_oex E.o E.init E.ty F hr b .nil (fun _ _ _ _ _ _ _ h => h.elim) hg hm (pa_cons ha pa_nil he) hdb he rfl
end
end CT
namespace CT
open PySem PySem.Spec PySem.Calls PyProof.Rows L2 He
end CT
namespace CT
open PySem PySem.Spec PyProof.Rows L2 He
structure SaysC (fa : List Fa) (fn : List DefD) (tf : List Defn) (ex : PySem.W.Frag → Bool) (fs : List (Str × Str)) (vs : List (Option (Str × Str × Arguments × FuncBody × Scope × Addr × List Str × Addr))) (h : Heap) (K : PySem.W.Frag) : Prop where
  d : SaysD fa fn K
  more : ex K = true
  fns : (fs.map fun p => fnS K (ma K (ga K p.1) p.2)) = vs
  hd : ∀ p ∈ tf, PySem.W.codeHdIn K (cT K p).1 (cT K p).2 = true
  out : ∀ p ∈ tf, K.lookup (cT K p).2 = none
  empty : ∀ p ∈ tf, h.get? (cT K p).2 = some { cls := .none, data := .fields #[] }
theorem SaysC.fn {fa : List Fa} {fn : List DefD} {tf : List Defn} {ex : PySem.W.Frag → Bool} {fs : List (Str × Str)} {vs : List (Option (Str × Str × Arguments × FuncBody × Scope × Addr × List Str × Addr))} {h : Heap} {K : PySem.W.Frag} (c : SaysC fa fn tf ex fs vs h K) (i : Nat) {p : Str × Str} {v : Option (Str × Str × Arguments × FuncBody × Scope × Addr × List Str × Addr)} (h1 : fs[i]? = some p := by rfl) (h2 : vs[i]? = some v := by rfl) : fnS K (ma K (ga K p.1) p.2) = v := by
  have e := congrArg (fun l : List _ => l[i]?) c.fns
  have e2 : (fs.map fun p => fnS K (ma K (ga K p.1) p.2))[i]? = vs[i]? := e
  rw [List.getElem?_map, h1, h2] at e2
  exact Option.some.inj e2
end CT
namespace CT
open PySem PySem.Spec PyProof.Rows L2 He
def valW (fn : List He5.DefA) (vs : List (Option (Str × Str × Arguments × FuncBody × Scope × Addr × List Str × Addr))) : AlD × Bool × List (Option (Str × Str × Arguments × FuncBody × Scope × Addr × List Str × Addr)) := (He5.valA fn, true, vs)
structure SaysW (fa : List Fa) (fn : List He5.DefA) (tf : List Defn) (ex : PySem.W.Frag → Bool) (fs : List (Str × Str)) (vs : List (Option (Str × Str × Arguments × FuncBody × Scope × Addr × List Str × Addr))) (h : Heap) (K : PySem.W.Frag) : Prop where
  d : He5.SaysA fa fn K
  more : ex K = true
  fns : (fs.map fun p => fnS K (ma K (ga K p.1) p.2)) = vs
  hd : ∀ p ∈ tf, PySem.W.codeHdIn K (cT K p).1 (cT K p).2 = true
  out : ∀ p ∈ tf, K.lookup (cT K p).2 = none
  empty : ∀ p ∈ tf, h.get? (cT K p).2 = some { cls := .none, data := .fields #[] }
theorem SaysW.fn {fa : List Fa} {fn : List He5.DefA} {tf : List Defn} {ex : PySem.W.Frag → Bool} {fs : List (Str × Str)} {vs : List (Option (Str × Str × Arguments × FuncBody × Scope × Addr × List Str × Addr))} {h : Heap} {K : PySem.W.Frag} (c : SaysW fa fn tf ex fs vs h K) (i : Nat) {p : Str × Str} {v : Option (Str × Str × Arguments × FuncBody × Scope × Addr × List Str × Addr)} (h1 : fs[i]? = some p := by rfl) (h2 : vs[i]? = some v := by rfl) : fnS K (ma K (ga K p.1) p.2) = v := by
  have e := congrArg (fun l : List _ => l[i]?) c.fns
  have e2 : (fs.map fun p => fnS K (ma K (ga K p.1) p.2))[i]? = vs[i]? := e
  rw [List.getElem?_map, h1, h2] at e2
  exact Option.some.inj e2
end CT
namespace CT
open PySem PySem.Spec PyProof.Rows L2 He
def obsL (as : List Addr) (fa : List Fa) (fn : List He5.DefA) (tf : List Defn) (ex : PySem.W.Frag → Bool) (fs : List (Str × Str)) (g : Addr → Option Obj) : AlD × Bool × List (Option (Str × Str × Arguments × FuncBody × Scope × Addr × List Str × Addr)) :=
  (fun K => (He5.obsA fa fn K, ex K && tabsB g tf K, fs.map fun p => fnS K (ma K (ga K p.1) p.2))) (frT g as)
theorem saysL_of {as : List Addr} {fa : List Fa} {fn : List He5.DefA} {tf : List Defn} {ex : PySem.W.Frag → Bool} {fs : List (Str × Str)} {vs : List (Option (Str × Str × Arguments × FuncBody × Scope × Addr × List Str × Addr))} {h : Heap} (e : obsL as fa fn tf ex fs h.get? = valW fn vs) : SaysW fa fn tf ex fs vs h (frT h.get? as) := by
  have e1 : He5.obsA fa fn (frT h.get? as) = He5.valA fn := congrArg (fun z => z.1) e
  have e2 : (ex (frT h.get? as) && tabsB h.get? tf (frT h.get? as)) = true := congrArg (fun z => z.2.1) e
  have e3 : (fs.map fun p => fnS (frT h.get? as) (ma (frT h.get? as) (ga (frT h.get? as) p.1) p.2)) = vs := congrArg (fun z => z.2.2) e
  generalize hK : frT h.get? as = K at e1 e2 e3 ⊢
  obtain ⟨h1, h2⟩ := ba e2
  have key : ∀ p ∈ tf, PySem.W.codeHdIn K (cT K p).1 (cT K p).2 = true ∧ ∃ o, h.get? (cT K p).2 = some o ∧ emptyTab o = true := fun p hp => by
    obtain ⟨h3, h4⟩ := ba (List.all_eq_true.mp h2 p hp)
    refine ⟨h3, ?_⟩
    cases q : h.get? (cT K p).2 with
    | none =>
      rw [q] at h4
      cases h4
    | some o =>
      rw [q] at h4
      exact ⟨o, rfl, h4⟩
  exact ⟨e1, h1, e3, fun p hp => (key p hp).1, fun p hp => by
    obtain ⟨_, o, q, z⟩ := key p hp
    have y := frT_none (as := as) q z
    rw [hK] at y
    exact y, fun p hp => by
    obtain ⟨_, o, q, z⟩ := key p hp
    rw [q, emptyTab_eq z]⟩
def hookL (as : List Addr) (fa : List Fa) (fn : List He5.DefA) (tf : List Defn) (ex : PySem.W.Frag → Bool) (fs : List (Str × Str)) (vs : List (Option (Str × Str × Arguments × FuncBody × Scope × Addr × List Str × Addr))) : PySem.W.Hook where
  α := AlD × Bool × List (Option (Str × Str × Arguments × FuncBody × Scope × Addr × List Str × Addr))
  obs := fun s => obsL as fa fn tf ex fs s.heap.get?
  val := fun _ => valW fn vs
  says := fun _ h => ∃ K : PySem.W.Frag, K.In h ∧ SaysW fa fn tf ex fs vs h K
  of := fun _ _ e => ⟨_, frT_in, saysL_of e⟩
  keeps := fun _ _ _ ⟨K, hK, c⟩ k => ⟨K, PySem.W.Frag.In.keeps hK k, ⟨c.d, c.more, c.fns, c.hd, c.out, fun p hp => k _ _ (c.empty p hp)⟩⟩
theorem obsL_eq {as : List Addr} {fa : List Fa} {fn : List He5.DefA} {tf : List Defn} {ex : PySem.W.Frag → Bool} {fs : List (Str × Str)} {vs : List (Option (Str × Str × Arguments × FuncBody × Scope × Addr × List Str × Addr))} {g : Addr → Option Obj} {s : Shared} (h : ∀ a, g a = s.heap.get? a) :
    obsL as fa fn tf ex fs g = (hookL as fa fn tf ex fs vs).obs s := by
  have e : g = s.heap.get? := funext h
  rw [e] <;> rfl
end CT
namespace CT
open PySem PySem.W PySem.Calls PyProof.Rows HandSHeadRun L2 He
/-- where the run ends -/
noncomputable abbrev RunE (r : OpenRow) (M : Nat) (w : World) (os : OsState) : Option SharedT := endF (stepQ (denQ tabQ) r.prog w) M r.prog w os
/-- what the head looks at itself -/
noncomputable abbrev topOb (r : OpenRow) (q : Program) (loose : List PySem.Str) (w : World) (s : SharedT) := (looksF r.prog (boot_heap w.params) s.abs, seenQ q loose (importedModules r.prog.main.body) (fun s => xlAt q [] s && recOk r.toRowW.records s) s.abs)
def RunOb {α : Type} (r : OpenRow) (M : Nat) (w : World) (ob : SharedT → α) (v : α) : Prop := ∀ os : OsState, (RunE r M w os).map ob = some v
/-- in two parts: the top and what is looked at last; the rest -/
theorem run_three {as : List Addr} {fa : List He.Fa} {fn : List He5.DefA} {tf : List He.Defn} {ex : Frag → Bool} {fs : List (Str × Str)} {vs : List (Option (Str × Str × Arguments × FuncBody × Scope × Addr × List Str × Addr))} {r : OpenRow} {q : Program} {ob : SharedT → AlD × Bool × List (Option (Str × Str × Arguments × FuncBody × Scope × Addr × List Str × Addr))} {M : Nat} {loose : List PySem.Str} {w : World}
    (h0 : RunOb r M w (fun s => topOb r q loose w s) (true, openGood q loose))
    (h1 : RunOb r M w (fun s => (ob s).1) (He5.valA fn)) (h2 : RunOb r M w (fun s => (ob s).2) (true, vs)) : RunEq r q (hookL as fa fn tf ex fs vs) ob M loose w := by
  intro os
  have a := h0 os
  have b := h1 os
  have c := h2 os
  unfold RunE at a b c
  cases e : endF (stepQ (denQ tabQ) r.prog w) M r.prog w os with
  | none => rw [e] at a; cases a
  | some s =>
    rw [e] at a b c
    have a := Option.some.inj a
    have b := Option.some.inj b
    have c := Option.some.inj c
    show some _ = some _
    congr 1
    have a1 := congrArg (fun z => z.1) a
    have a2 := congrArg (fun z => z.2) a
    exact Prod.ext a1 (Prod.ext a2 (Prod.ext b c))
end CT
namespace CT
open PySem PySem.Spec PySem.Calls PyProof.Rows L2 He
/-- types that are no own class -/
def otherTs : List String := ["NoneType", "bool", "int", "str", "list", "tuple"]
structure ClsF (K : PySem.W.Frag) (C : Addr) : Prop where
  sf : PySem.W.selfFirst K C = true
  rd : PySem.W.readsIn K C (.type "type") = true
  kp : PySem.W.keepIn K (.ref C) = true
  ca : PySem.W.findIn K (.ref C) "__class__" = some (some (.builtin "object.__class__"))
  cg : PySem.W.specialIn K (.builtin "object.__class__") "__get__" = some (some (.builtin "getset_descriptor.__get__"))
  ct : PySem.W.takesIn K (.builtin "object.__class__") = some true
  ob : PySem.W.mroIn K C (.type "object") = some true
  ne : PySem.W.findIn K (.ref C) "__ne__" = some (some (.builtin "object.__ne__"))
  no : ∀ t ∈ otherTs, PySem.W.kitOne K (.type t) (.ref C) = some false ∧ PySem.W.subIn K (.type t) (.ref C) = some false
def clsB (K : PySem.W.Frag) (C : Addr) : Bool := PySem.W.selfFirst K C && (PySem.W.readsIn K C (.type "type") && (PySem.W.keepIn K (.ref C) && (eqO (PySem.W.findIn K (.ref C) "__class__") (some (some (.builtin "object.__class__"))) && (eqO (PySem.W.specialIn K (.builtin "object.__class__") "__get__") (some (some (.builtin "getset_descriptor.__get__"))) &&
  (decide (PySem.W.takesIn K (.builtin "object.__class__") = some true) && (decide (PySem.W.mroIn K C (.type "object") = some true) && (eqO (PySem.W.findIn K (.ref C) "__ne__") (some (some (.builtin "object.__ne__"))) &&
  otherTs.all fun t => decide (PySem.W.kitOne K (.type t) (.ref C) = some false) && decide (PySem.W.subIn K (.type t) (.ref C) = some false))))))))
theorem clsB_ok {K : PySem.W.Frag} {C : Addr} (h : clsB K C = true) : ClsF K C := by
  obtain ⟨h1, h⟩ := ba h
  obtain ⟨h2, h⟩ := ba h
  obtain ⟨h3, h⟩ := ba h
  obtain ⟨h4, h⟩ := ba h
  obtain ⟨h5, h⟩ := ba h
  obtain ⟨h6, h⟩ := ba h
  obtain ⟨h7, h⟩ := ba h
  obtain ⟨h8, h9⟩ := ba h
  exact ⟨h1, h2, h3, eqO_ok h4, eqO_ok h5, of_decide_eq_true h6, of_decide_eq_true h7, eqO_ok h8, fun t ht => by
    obtain ⟨a, b⟩ := ba (List.all_eq_true.mp h9 t ht)
    exact ⟨of_decide_eq_true a, of_decide_eq_true b⟩⟩
def propB (K : PySem.W.Frag) (C : Addr) (f : Str) : Bool := eqO (PySem.W.findIn K (.ref C) f) (some (some (.ref (ma K C f)))) && (eqO (PySem.W.specialIn K (.ref (ma K C f)) "__get__") (some (some (.builtin "property.__get__"))) &&
  (decide (PySem.W.takesIn K (.ref (ma K C f)) = some true) && (match PySem.W.recIn K (ma K C f) "property" with | some (.ref _ :: _) => true | _ => false)))
theorem propB_ok {K : PySem.W.Frag} {C : Addr} {f : Str} (h : propB K C f = true) : PropOf K C f (ma K C f) (He5.wf K C "property" f) := by
  obtain ⟨h1, h⟩ := ba h
  obtain ⟨h2, h⟩ := ba h
  obtain ⟨h3, h4⟩ := ba h
  refine ⟨eqO_ok h1, eqO_ok h2, of_decide_eq_true h3, ?_⟩
  unfold He5.wf
  split at h4
  · rename_i g r e
    exact ⟨r, by rw [e]⟩
  · cases h4
end CT
namespace CT
open PySem PySem.Spec PySem.Calls PyProof.Rows L2 He
def top (i : Nat) : Stmt := PySem.Challenge.pw_copytail_k39_guards.main.body.getD i (.Pass ⟨0, 0, 0, 0⟩)
abbrev s_check_letters : Stmt := top 31
abbrev n_check_letters : List Str := ["letters", "most", "at", "letter"]
theorem sc_check_letters : FnScope ["letters", "most", "at", "letter"] ["letters", "most"] (defScope s_check_letters) := ⟨rfl, rfl, rfl, by decide +kernel, rfl, by decide +kernel, by decide +kernel⟩
abbrev s_law_feed : Stmt := top 36
abbrev n_law_feed : List Str := ["_law_script", "_law_cells", "_law_mark", "_law_cell"]
theorem sc_law_feed : FnScope ["_law_script", "_law_cells", "_law_mark", "_law_cell"] ["_law_script"] (defScope s_law_feed) := ⟨rfl, rfl, rfl, by decide +kernel, rfl, by decide +kernel, by decide +kernel⟩
abbrev s_law_take : Stmt := top 37
abbrev n_law_take : List Str := ["_law_feed_here", "_law_many", "_law_cell", "_law_mixed", "_law_found"]
theorem sc_law_take : FnScope ["_law_feed_here", "_law_many", "_law_cell", "_law_mixed", "_law_found"] ["_law_feed_here", "_law_many"] (defScope s_law_take) := ⟨rfl, rfl, rfl, by decide +kernel, rfl, by decide +kernel, by decide +kernel⟩
abbrev s_law_letters : Stmt := top 38
abbrev n_law_letters : List Str := ["_law_feed_here", "_law_first", "_law_k"]
theorem sc_law_letters : FnScope ["_law_feed_here", "_law_first", "_law_k"] ["_law_feed_here"] (defScope s_law_letters) := ⟨rfl, rfl, rfl, by decide +kernel, rfl, by decide +kernel, by decide +kernel⟩
abbrev s_law_rooms : Stmt := top 39
abbrev n_law_rooms : List Str := ["_law_feed_here", "_law_letters_here", "_law_many", "_law_rows", "_law_letter", "_law_k"]
theorem sc_law_rooms : FnScope ["_law_feed_here", "_law_letters_here", "_law_many", "_law_rows", "_law_letter", "_law_k"] ["_law_feed_here"] (defScope s_law_rooms) := ⟨rfl, rfl, rfl, by decide +kernel, rfl, by decide +kernel, by decide +kernel⟩
abbrev s_law_pick : Stmt := top 40
abbrev n_law_pick : List Str := ["_law_feed_here", "_law_things"]
theorem sc_law_pick : FnScope ["_law_feed_here", "_law_things"] ["_law_feed_here", "_law_things"] (defScope s_law_pick) := ⟨rfl, rfl, rfl, by decide +kernel, rfl, by decide +kernel, by decide +kernel⟩
abbrev s_law_word : Stmt := top 41
abbrev n_law_word : List Str := ["_law_feed_here", "_law_letters_here", "_law_most", "_law_k"]
theorem sc_law_word : FnScope ["_law_feed_here", "_law_letters_here", "_law_most", "_law_k"] ["_law_feed_here", "_law_letters_here", "_law_most"] (defScope s_law_word) := ⟨rfl, rfl, rfl, by decide +kernel, rfl, by decide +kernel, by decide +kernel⟩
abbrev s_law_same : Stmt := top 42
abbrev n_law_same : List Str := ["_law_found", "_law_due", "_law_one", "_law_two"]
theorem sc_law_same : FnScope ["_law_found", "_law_due", "_law_one", "_law_two"] ["_law_found", "_law_due"] (defScope s_law_same) := ⟨rfl, rfl, rfl, by decide +kernel, rfl, by decide +kernel, by decide +kernel⟩
abbrev s_law_room : Stmt := top 43
abbrev n_law_room : List Str := ["_law_letters_here", "_law_rows", "_law_word_here", "_law_room_here", "_law_letter"]
theorem sc_law_room : FnScope ["_law_letters_here", "_law_rows", "_law_word_here", "_law_room_here", "_law_letter"] ["_law_letters_here", "_law_rows", "_law_word_here"] (defScope s_law_room) := ⟨rfl, rfl, rfl, by decide +kernel, rfl, by decide +kernel, by decide +kernel⟩
abbrev s_law_why : Stmt := top 44
abbrev n_law_why : List Str := ["_law_ask", "_law_told", "e"]
theorem sc_law_why : FnScope ["_law_ask", "_law_told", "e"] ["_law_ask"] (defScope s_law_why) := ⟨rfl, rfl, rfl, by decide +kernel, rfl, by decide +kernel, by decide +kernel⟩
abbrev s_law : Stmt := top 45
abbrev n_law : List Str := ["_law_script", "_law_feed_here", "_law_turn", "_law_letters_here", "_law_rows", "_law_good", "_law_handed", "_law_ends", "_law_row", "_law_made", "_law_again", "_law_word_here", "_law_told", "_law_part", "_law_at", "_law_odd", "_law_bent", "_law_asks", "_law_due", "_law_ask"]
theorem sc_law : FnScope ["_law_script", "_law_feed_here", "_law_turn", "_law_letters_here", "_law_rows", "_law_good", "_law_handed", "_law_ends", "_law_row", "_law_made", "_law_again", "_law_word_here", "_law_told", "_law_part", "_law_at", "_law_odd", "_law_bent", "_law_asks", "_law_due", "_law_ask"] ["_law_script"] (defScope s_law) := ⟨rfl, rfl, rfl, by decide +kernel, rfl, by decide +kernel, by decide +kernel⟩
abbrev s_Guard_init : Stmt := inClass (top 34) 0
abbrev n_Guard_init : List Str := ["self", "letters", "rows", "good", "at", "row", "fits", "later"]
theorem sc_Guard_init : FnScope ["self", "letters", "rows", "good", "at", "row", "fits", "later"] ["self", "letters", "rows", "good"] (defScope s_Guard_init) := ⟨rfl, rfl, rfl, by decide +kernel, rfl, by decide +kernel, by decide +kernel⟩
abbrev s_Guard_len : Stmt := inClass (top 34) 1
abbrev n_Guard_len : List Str := ["self"]
theorem sc_Guard_len : FnScope ["self"] ["self"] (defScope s_Guard_len) := ⟨rfl, rfl, rfl, by decide +kernel, rfl, by decide +kernel, by decide +kernel⟩
abbrev s_Guard_letters : Stmt := inClass (top 34) 2
abbrev n_Guard_letters : List Str := ["self"]
theorem sc_Guard_letters : FnScope ["self"] ["self"] (defScope s_Guard_letters) := ⟨rfl, rfl, rfl, by decide +kernel, rfl, by decide +kernel, by decide +kernel⟩
abbrev s_Guard_later : Stmt := inClass (top 34) 3
abbrev n_Guard_later : List Str := ["self", "room", "letter"]
theorem sc_Guard_later : FnScope ["self", "room", "letter"] ["self", "room", "letter"] (defScope s_Guard_later) := ⟨rfl, rfl, rfl, by decide +kernel, rfl, by decide +kernel, by decide +kernel⟩
abbrev s_Guard_accepts : Stmt := inClass (top 34) 5
abbrev n_Guard_accepts : List Str := ["self", "word", "room", "at", "letter"]
theorem sc_Guard_accepts : FnScope ["self", "word", "room", "at", "letter"] ["self", "word"] (defScope s_Guard_accepts) := ⟨rfl, rfl, rfl, by decide +kernel, rfl, by decide +kernel, by decide +kernel⟩
abbrev s_InvalidLetters_init : Stmt := inClass (top 9) 0
theorem es_InvalidLetters : ErrS s_InvalidLetters_init "at" "InvalidLetters" := ⟨⟨_, _, _, _, _, _, _, _, _, _, _, _, _, _, _, rfl, fun env => ⟨_, rfl⟩⟩, ⟨rfl, rfl, rfl, by decide +kernel, by decide +kernel, by decide +kernel, by decide +kernel, rfl, rfl⟩, ⟨_, rfl, rfl⟩, by decide, by decide, fun _ _ _ _ _ _ _ _ us hl => match us, hl with | [_, _], _ => rfl⟩
abbrev s_InvalidGuard_init : Stmt := inClass (top 12) 0
theorem es_InvalidGuard : ErrS s_InvalidGuard_init "at" "InvalidGuard" := ⟨⟨_, _, _, _, _, _, _, _, _, _, _, _, _, _, _, rfl, fun env => ⟨_, rfl⟩⟩, ⟨rfl, rfl, rfl, by decide +kernel, by decide +kernel, by decide +kernel, by decide +kernel, rfl, rfl⟩, ⟨_, rfl, rfl⟩, by decide, by decide, fun _ _ _ _ _ _ _ _ us hl => match us, hl with | [_, _], _ => rfl⟩
abbrev s_UnknownLetter_init : Stmt := inClass (top 13) 0
theorem es_UnknownLetter : ErrS s_UnknownLetter_init "at" "UnknownLetter" := ⟨⟨_, _, _, _, _, _, _, _, _, _, _, _, _, _, _, rfl, fun env => ⟨_, rfl⟩⟩, ⟨rfl, rfl, rfl, by decide +kernel, by decide +kernel, by decide +kernel, by decide +kernel, rfl, rfl⟩, ⟨_, rfl, rfl⟩, by decide, by decide, fun _ _ _ _ _ _ _ _ us hl => match us, hl with | [_, _], _ => rfl⟩
def dd_check_letters : He5.DefA := ⟨fun K => fAd K ("check_letters", none), "check_letters", "check_letters", defArgs s_check_letters, defBody s_check_letters, defScope s_check_letters, [], []⟩
def dd_law_feed : He5.DefA := ⟨fun K => fAd K ("_law_feed", none), "_law_feed", "_law_feed", defArgs s_law_feed, defBody s_law_feed, defScope s_law_feed, [], []⟩
def dd_law_take : He5.DefA := ⟨fun K => fAd K ("_law_take", none), "_law_take", "_law_take", defArgs s_law_take, defBody s_law_take, defScope s_law_take, [], []⟩
def dd_law_letters : He5.DefA := ⟨fun K => fAd K ("_law_letters", none), "_law_letters", "_law_letters", defArgs s_law_letters, defBody s_law_letters, defScope s_law_letters, [], []⟩
def dd_law_rooms : He5.DefA := ⟨fun K => fAd K ("_law_rooms", none), "_law_rooms", "_law_rooms", defArgs s_law_rooms, defBody s_law_rooms, defScope s_law_rooms, [], []⟩
def dd_law_pick : He5.DefA := ⟨fun K => fAd K ("_law_pick", none), "_law_pick", "_law_pick", defArgs s_law_pick, defBody s_law_pick, defScope s_law_pick, [], []⟩
def dd_law_word : He5.DefA := ⟨fun K => fAd K ("_law_word", none), "_law_word", "_law_word", defArgs s_law_word, defBody s_law_word, defScope s_law_word, [], []⟩
def dd_law_same : He5.DefA := ⟨fun K => fAd K ("_law_same", none), "_law_same", "_law_same", defArgs s_law_same, defBody s_law_same, defScope s_law_same, [], []⟩
def dd_law_room : He5.DefA := ⟨fun K => fAd K ("_law_room", none), "_law_room", "_law_room", defArgs s_law_room, defBody s_law_room, defScope s_law_room, [], []⟩
def dd_law_why : He5.DefA := ⟨fun K => fAd K ("_law_why", none), "_law_why", "_law_why", defArgs s_law_why, defBody s_law_why, defScope s_law_why, [], []⟩
def dd_law : He5.DefA := ⟨fun K => fAd K ("law", none), "law", "law", defArgs s_law, defBody s_law, defScope s_law, [], []⟩
def dd_Guard_init : He5.DefA := ⟨fun K => fAd K ("Guard", some "__init__"), "__init__", "Guard.__init__", defArgs s_Guard_init, defBody s_Guard_init, defScope s_Guard_init, [], []⟩
def dd_Guard_len : He5.DefA := ⟨fun K => fAd K ("Guard", some "__len__"), "__len__", "Guard.__len__", defArgs s_Guard_len, defBody s_Guard_len, defScope s_Guard_len, [], []⟩
def dd_Guard_letters : He5.DefA := ⟨fun K => He5.wf K (ga K "Guard") "property" "letters", "letters", "Guard.letters", defArgs s_Guard_letters, defBody s_Guard_letters, defScope s_Guard_letters, [], []⟩
def dd_Guard_later : He5.DefA := ⟨fun K => fAd K ("Guard", some "later"), "later", "Guard.later", defArgs s_Guard_later, defBody s_Guard_later, defScope s_Guard_later, [], []⟩
def dd_Guard_accepts : He5.DefA := ⟨fun K => fAd K ("Guard", some "accepts"), "accepts", "Guard.accepts", defArgs s_Guard_accepts, defBody s_Guard_accepts, defScope s_Guard_accepts, [], []⟩
def fn : List He5.DefA := [dd_check_letters, dd_law_feed, dd_law_take, dd_law_letters, dd_law_rooms, dd_law_pick, dd_law_word, dd_law_same, dd_law_room, dd_law_why, dd_law, dd_Guard_init, dd_Guard_len, dd_Guard_letters, dd_Guard_later, dd_Guard_accepts]
def fa : List He.Fa := [.glo "check_letters", .glo "_law_feed", .glo "_law_take", .glo "_law_letters", .glo "_law_rooms", .glo "_law_pick", .glo "_law_word", .glo "_law_same", .glo "_law_room", .glo "_law_why", .glo "law", .glo "InvalidRatio", .glo "InvalidTerm", .glo "Mismatch", .glo "NoLead", .glo "ParseError", .glo "InvalidLetters", .glo "InvalidBegin", .glo "InvalidMode", .glo "InvalidGuard", .glo "UnknownLetter", .glo "LettersDiffer", .glo "InvalidRecoding", .glo "NoText", .glo "InvalidDegree", .glo "Fails", .glo "InvalidName", .glo "DuplicateName", .glo "WrongSort", .glo "CapacityExceeded", .glo "InvalidLimit", .glo "InvalidCommand", .glo "InUse", .glo "UnknownName", .glo "NothingLeft", .free "ValueError", .free "LookupError", .free "IndexError", .free "property", .free "enumerate", .free "list", .free "isinstance", .free "range", .free "len", .free "int", .free "bool", .free "str", .free "all", .free "tuple", .free "super", .free "zip", .exm "InvalidLetters" "InvalidRatio" false, .exm "InvalidLetters" "InvalidTerm" false, .exm "InvalidLetters" "Mismatch" false, .exm "InvalidLetters" "NoLead" false, .exm "InvalidLetters" "ParseError" false, .exm "InvalidLetters" "InvalidLetters" true, .exm "InvalidLetters" "InvalidBegin" false, .exm "InvalidLetters" "InvalidMode" false, .exm "InvalidLetters" "InvalidGuard" false, .exm "InvalidLetters" "UnknownLetter" false, .exm "InvalidLetters" "LettersDiffer" false, .exm "InvalidLetters" "InvalidRecoding" false, .exm "InvalidLetters" "NoText" false, .exm "InvalidLetters" "InvalidDegree" false, .exm "InvalidLetters" "Fails" false, .exm "InvalidLetters" "InvalidName" false, .exm "InvalidLetters" "DuplicateName" false, .exm "InvalidLetters" "WrongSort" false, .exm "InvalidLetters" "CapacityExceeded" false, .exm "InvalidLetters" "InvalidLimit" false, .exm "InvalidLetters" "InvalidCommand" false, .exm "InvalidLetters" "InUse" false, .exm "InvalidLetters" "UnknownName" false, .exm "InvalidLetters" "NothingLeft" false, .exm "InvalidGuard" "InvalidRatio" false, .exm "InvalidGuard" "InvalidTerm" false, .exm "InvalidGuard" "Mismatch" false, .exm "InvalidGuard" "NoLead" false, .exm "InvalidGuard" "ParseError" false, .exm "InvalidGuard" "InvalidLetters" false, .exm "InvalidGuard" "InvalidBegin" false, .exm "InvalidGuard" "InvalidMode" false, .exm "InvalidGuard" "InvalidGuard" true, .exm "InvalidGuard" "UnknownLetter" false, .exm "InvalidGuard" "LettersDiffer" false, .exm "InvalidGuard" "InvalidRecoding" false, .exm "InvalidGuard" "NoText" false, .exm "InvalidGuard" "InvalidDegree" false, .exm "InvalidGuard" "Fails" false, .exm "InvalidGuard" "InvalidName" false, .exm "InvalidGuard" "DuplicateName" false, .exm "InvalidGuard" "WrongSort" false, .exm "InvalidGuard" "CapacityExceeded" false, .exm "InvalidGuard" "InvalidLimit" false, .exm "InvalidGuard" "InvalidCommand" false, .exm "InvalidGuard" "InUse" false, .exm "InvalidGuard" "UnknownName" false, .exm "InvalidGuard" "NothingLeft" false, .exm "UnknownLetter" "InvalidRatio" false, .exm "UnknownLetter" "InvalidTerm" false, .exm "UnknownLetter" "Mismatch" false, .exm "UnknownLetter" "NoLead" false, .exm "UnknownLetter" "ParseError" false, .exm "UnknownLetter" "InvalidLetters" false, .exm "UnknownLetter" "InvalidBegin" false, .exm "UnknownLetter" "InvalidMode" false, .exm "UnknownLetter" "InvalidGuard" false, .exm "UnknownLetter" "UnknownLetter" true, .exm "UnknownLetter" "LettersDiffer" false, .exm "UnknownLetter" "InvalidRecoding" false, .exm "UnknownLetter" "NoText" false, .exm "UnknownLetter" "InvalidDegree" false, .exm "UnknownLetter" "Fails" false, .exm "UnknownLetter" "InvalidName" false, .exm "UnknownLetter" "DuplicateName" false, .exm "UnknownLetter" "WrongSort" false, .exm "UnknownLetter" "CapacityExceeded" false, .exm "UnknownLetter" "InvalidLimit" false, .exm "UnknownLetter" "InvalidCommand" false, .exm "UnknownLetter" "InUse" false, .exm "UnknownLetter" "UnknownName" false, .exm "UnknownLetter" "NothingLeft" false, .str "SMALL" "abcdefghijklmnopqrstuvwxyz", .int "MOST_LETTERS" 3, .int "MOST_ROOMS" 4, .glo "Guard", .cls "Guard", .mkr "Guard", .meth "Guard" "__init__", .meth "Guard" "__len__", .meth "Guard" "later", .meth "Guard" "accepts", .noat "Guard" "signs", .noat "Guard" "rows", .noat "Guard" "ends"]
def tf : List He.Defn := [("law", none)]
def ex (K : PySem.W.Frag) : Bool := errB K "InvalidLetters" (some "at") "/claim/cut.py" && (errB K "InvalidGuard" (some "at") "/claim/cut.py" && (errB K "UnknownLetter" (some "at") "/claim/cut.py" && (clsB K (ga K "Guard") && (propB K (ga K "Guard") "letters" && (true)))))
def fs : List (Str × Str) := [("InvalidLetters", "__init__"), ("InvalidGuard", "__init__"), ("UnknownLetter", "__init__")]
def vs := [stVal "InvalidLetters.__init__" s_InvalidLetters_init, stVal "InvalidGuard.__init__" s_InvalidGuard_init, stVal "UnknownLetter.__init__" s_UnknownLetter_init]
def loose0 : List PySem.Str := ["TailError", "Missing", "InvalidRatio", "InvalidTerm", "Mismatch", "NoLead", "ParseError", "InvalidLetters", "InvalidBegin", "InvalidMode", "InvalidGuard", "UnknownLetter"]
def loose1 : List PySem.Str := ["LettersDiffer", "InvalidRecoding", "NoText", "InvalidDegree", "Fails", "InvalidName", "DuplicateName", "WrongSort", "CapacityExceeded", "InvalidLimit", "InvalidCommand", "InUse"]
def loose2 : List PySem.Str := ["UnknownName", "NothingLeft", "Guard", "SMALL", "MOST_LETTERS", "MOST_ROOMS", "_wall", "check_letters", "_law_feed", "_law_take", "_law_letters", "_law_rooms"]
def loose3 : List PySem.Str := ["_law_pick", "_law_word", "_law_same", "_law_room", "_law_why"]
abbrev R : PySem.W.OpenRow := PySem.W.OpenLaw.row PySem.Challenge.rw_copytail_k39_guards
def ads : List Addr := [2, 3, 31, 66, 87, 108, 129, 150, 171, 192, 213, 234, 255, 276, 297, 318, 339, 360, 381, 402, 423, 444, 465, 486, 507, 528, 549, 559, 610, 621, 628, 633, 638, 645, 650, 655, 662, 669, 674, 30, 170, 233, 254, 558, 609, 620, 627, 632, 637, 644, 649, 654, 661, 668, 673, 168, 231, 252, 571, 578, 586, 593, 607, 167, 156, 230, 219, 251, 240, 570, 577, 585, 592, 606, 584]
abbrev hk : PySem.W.Hook := hookL ads fa fn tf ex fs vs
def ob (s : PySem.W.SharedT) := obsL ads fa fn tf ex fs (HandSHeadRun.getT s)
theorem ob_eq (s : PySem.W.SharedT) : ob s = hk.obs s.abs := obsL_eq (vs := vs) (HandSHeadRun.getT_eq s)
def loose : List PySem.Str := loose0 ++ loose1 ++ loose2 ++ loose3
theorem hdT (w : World) : RunOb R 8000 w (fun s => topOb R (PySem.W.view R.prog [45]) loose w s) (true, PySem.W.openGood (PySem.W.view R.prog [45]) loose) := by
  intro os
  kernel_rfl
theorem hdA (w : World) : RunOb R 8000 w (fun s => (ob s).1) (He5.valA fn) := by
  intro os
  kernel_rfl
theorem hdB (w : World) : RunOb R 8000 w (fun s => (ob s).2) (true, vs) := by
  intro os
  kernel_rfl
theorem run (w : World) : HandSHeadRun.RunEq R (PySem.W.view R.prog [45]) hk ob 8000 loose w := run_three (hdT w) (hdA w) (hdB w)
end CT
namespace CT
open PySem PySem.Spec PySem.Calls PyProof.Rows L2 He
abbrev TopF : Prop := ∀ (K : PySem.W.Frag) (w : World) (mg : Str → Option Value) (f : Addr) (h : Heap), K.In h → h.Ns mainGlobals mg → mg "law" = some (.ref f) → SaysW fa fn tf ex fs vs h K → LamX.LawAtS PySem.Challenge.rw_copytail_k39_guards w K CX0 9 63 "_law_script" mg f h
end CT
section
open PySem PySem.W PySem.Calls PyProof.Rows
theorem CT.headed (F : CT.TopF) : PySem.Challenge.rw_copytail_k39_guards.Holds := by
  w_on; o_law
  refine HandSHeadRun.head_any (r := OpenLaw.row PySem.Challenge.rw_copytail_k39_guards) (q := view (OpenLaw.row PySem.Challenge.rw_copytail_k39_guards).prog [45]) (H := CT.hk) (ob := CT.ob) (M := 8000) (loose := CT.loose) (d := HandSHeadRun.topDef (OpenLaw.row PySem.Challenge.rw_copytail_k39_guards).prog 45) (kwd := []) CT.ob_eq
    (by kernel_rfl) (fun s => by kernel_rfl) CT.run (by kernel_rfl) (by kernel_rfl) (by kernel_rfl) (by rfl) (by first | assumption | decide +kernel) (by decide +kernel) ⟨rfl, rfl, rfl, rfl, rfl, by decide +kernel⟩ ?hw ?hc
  case hw => w_witness2
  case hc =>
    refine LamX.walk_ofTsE (l := PySem.Challenge.rw_copytail_k39_guards) (n := 63) (k := 9) (x := "_law_script") (CX := fun _ => L2.CX0) rfl (by decide) (by kernel_rfl) ⟨rfl, by decide, by decide⟩ ?F (fun _ _ _ _ _ z => z)
    intro w mg fa h Y G hmg0
    obtain ⟨K, KX, c⟩ := Y
    have hmg : mg ("law" : PySem.Str) = some (.ref fa) := by
      have e : (HandSHeadRun.topDef (OpenLaw.row PySem.Challenge.rw_copytail_k39_guards).prog 45).name = ("law" : PySem.Str) := by kernel_rfl
      rw [← e]
      exact hmg0
    exact ⟨K, KX, F K w mg fa h KX G hmg c⟩
end
namespace CT
open PySem PySem.Spec PySem.Calls PyProof.Rows L2 He
/-- the def named n stands behind the top and keeps sp -/
def FOkX (CX : CXT) (P : Program) (w : World) (K : PySem.W.Frag) (mg : Str → Option Value) (base : Heap) (k : Nat) (n : Str) (ps : List Str) (sp : Sp) : Prop :=
  mg n = some (.ref (ga K n)) ∧ PySem.W.keepIn K (.ref (ga K n)) = true ∧ ∃ fd, FnOk P w K mg base CX k (ga K n) fd ps sp ∧ Binds K fd ps []
abbrev FOk (P : Program) (w : World) (K : PySem.W.Frag) (mg : Str → Option Value) (base : Heap) (k : Nat) (n : Str) (ps : List Str) (sp : Sp) : Prop := FOkX CX0 P w K mg base k n ps sp
/-- the def named n is the statement st -/
structure Dn (K : PySem.W.Frag) (mg : Str → Option Value) (n : Str) (st : Stmt) (dvs : List V) : Prop where
  f : ∃ fd, FunD K n n (defArgs st) (defBody st) (defScope st) dvs [] (ga K n) fd
  g : mg n = some (.ref (ga K n))
section
variable {P : Program} {w : World} {K : PySem.W.Frag} {mg : Str → Option Value} {base : Heap} {n : Str} {st : Stmt} {CX : CXT} {N ps : List Str} {k : Nat} {sp : Sp}
theorem Dn.okX (D : Dn K mg n st []) (S : FnScope N ps (defScope st)) (bind : ∀ (kV doc pm : Value) (an : Option Addr) (cdv ct : Value) (us : List Value), us.length = ps.length → bindArgs (PySem.W.fnOf n n (defArgs st) (defBody st) (defScope st) .none kV doc pm an cdv ct) ⟨us, []⟩ = pure (ps.zip us))
    (len : ∀ vs H Q E, sp vs H Q E → vs.length = ps.length)
    (hbody : ∀ (cdv : Value) (A : Around) (outer : List Env) (s : Shared) (H : Hp) (vs : List V) (Q : VK) (E : XK), Room k (A.deeper (envOfC n (defScope st) s.heap.objs.size (ga K n) cdv)) → sp vs H Q E →
      ∃ t, PSs (cxOf CX P w K mg base N n (defScope st) (ga K n) cdv A outer s H E) (defBody st) t ∧ t { nx := fun _ H' => Q .non H', rt := Q } (L2.start N vs) H) : FOkX CX P w K mg base (k + 1) n ps sp := by
  obtain ⟨fd, F⟩ := D.f
  exact ⟨D.g, F.kp, fd, F.ok S len hbody, F.bindsN bind⟩
theorem Dn.ok (D : Dn K mg n st []) (S : FnScope N ps (defScope st)) (bind : ∀ (kV doc pm : Value) (an : Option Addr) (cdv ct : Value) (us : List Value), us.length = ps.length → bindArgs (PySem.W.fnOf n n (defArgs st) (defBody st) (defScope st) .none kV doc pm an cdv ct) ⟨us, []⟩ = pure (ps.zip us))
    (len : ∀ vs H Q E, sp vs H Q E → vs.length = ps.length)
    (hbody : ∀ (cdv : Value) (A : Around) (outer : List Env) (s : Shared) (H : Hp) (vs : List V) (Q : VK) (E : XK), Room k (A.deeper (envOfC n (defScope st) s.heap.objs.size (ga K n) cdv)) → sp vs H Q E →
      ∃ t, PSs (cxOf CX0 P w K mg base N n (defScope st) (ga K n) cdv A outer s H E).nox (defBody st) t ∧ t { nx := fun _ H' => Q .non H', rt := Q } (L2.start N vs) H) : FOk P w K mg base (k + 1) n ps sp :=
  D.okX S bind len fun cdv A outer s H vs Q E hr h => by
    obtain ⟨t, ht, hq⟩ := hbody cdv A outer s H vs Q E hr h
    exact ⟨t, ht.nox, hq⟩
theorem FOkX.mono {j : Nat} (F : FOkX CX P w K mg base j n ps sp) (h : j ≤ k) : FOkX CX P w K mg base k n ps sp := by
  obtain ⟨a, b, fd, F, B⟩ := F
  exact ⟨a, b, fd, F.mono h, B⟩
theorem FOkX.imp {sp' : Sp} (F : FOkX CX P w K mg base k n ps sp) (h : ∀ vs H Q E, sp' vs H Q E → sp vs H Q E) : FOkX CX P w K mg base k n ps sp' := by
  obtain ⟨a, b, fd, F, B⟩ := F
  exact ⟨a, b, fd, F.imp h, B⟩
end
section
variable {X : Cx} {n : Str} {ps : List Str} {sp : Sp} {k : Nat} {p pos : Pos} {e : Expr} {es : List Expr} {t : TA} {u : Value} {v : V}
/-- f(e, ..), f lets nothing out -/
theorem pe_callF (F : FOk X.prog X.w X.K X.mg X.base k n ps sp) (hr : Room k X.A) (ha : PA X (e :: es) t) (hg : Gl X n := by rfl) (hdb : (n == ("__debug__" : Str)) = false := by decide)
    (he : starEach (e :: es) X.env = (false, eval e X.env) :: starEach es X.env := by rfl) (hpl : (backTo pos (starEach es X.env)).any (·.1) = false := by rfl) : PE X (.Call (.Name n p) (e :: es) [] pos) (tCall sp [] E0 t) := by
  obtain ⟨g, kp, fd, F, b⟩ := F
  exact pe_call F hr hg g kp b .nil pass0 ha hdb he hpl
/-- f(e, ..), f may let something out: tk tells what is wished -/
theorem pe_callE {CX : CXT} {E : XK} (F : FOkX CX X.prog X.w X.K X.mg X.base k n ps sp) (hx : Passes CX X E) (hr : Room k X.A) (ha : PA X (e :: es) t) (hg : Gl X n := by rfl) (hdb : (n == ("__debug__" : Str)) = false := by decide)
    (he : starEach (e :: es) X.env = (false, eval e X.env) :: starEach es X.env := by rfl) (hpl : (backTo pos (starEach es X.env)).any (·.1) = false := by rfl) : PE X (.Call (.Name n p) (e :: es) [] pos) (tCall sp [] E t) := by
  obtain ⟨g, kp, fd, F, b⟩ := F
  exact pe_call F hr hg g kp b .nil hx ha hdb he hpl
/-- a built-in class as a value -/
theorem pe_bty {T : String} {x : Str} (hm : X.mg x = none) (hg : Gl X x := by rfl) (hv : bootBuiltins x = some (.type T) := by decide +kernel) (hn : x ≠ "__name__" := by decide) (hd : (x == ("__debug__" : Str)) = false := by decide) : PE X (.Name x pos) (tC (.ty T)) :=
  pe_bltn hg hm hv rfl hn hd
/-- a module's constant -/
theorem pe_gl {x : Str} (h : ∃ u, X.mg x = some u ∧ RelV v u) (hg : Gl X x := by rfl) (hd : (x == ("__debug__" : Str)) = false := by decide) : PE X (.Name x pos) (tC v) := by
  obtain ⟨u, h1, h2⟩ := h
  exact pe_glob hg h1 h2 hd
/-- // by a divisor of either sign -/
def CDivZ (_ j : Int) : Prop := j ≠ 0 ∧ j.natAbs.log2 < 9000
theorem op_fdivZ : OpR X (binaryOp .FloorDiv) (rI CDivZ fun i j => .int (i.fdiv j)) := opI fun i j _ _ _ _ _ hc q => floordiv_int hc.1 q (.inl (PyProof.noPylong_of_log2 hc.2))
end
end CT
namespace CT
theorem itT {c : Bool} {A B : Prop} (hc : c = true) (h : A) : if c = true then A else B := by
  rw [if_pos hc]
  exact h
theorem itF {c : Bool} {A B : Prop} (hc : c = false) (h : B) : if c = true then A else B := by
  rw [if_neg (by rw [hc]; decide)]
  exact h
end CT
namespace CT
open PySem
theorem sl (n : Nat) (h : n ≤ 100000 := by decide) : n ≤ sizeLine := Nat.le_trans h (by decide)
end CT
namespace CT
open PySem PySem.Spec PySem.Calls PyProof.Rows L2
end CT
namespace CT
open PySem PySem.Spec PySem.Calls PyProof.Rows L2
def flat : V → Bool
  | .non | .bl _ | .int _ | .str _ => true
  | _ => false
/-- x and y hold equal data, at most n lists or tuples deep -/
def EqD (K : PySem.W.Frag) (H : Hp) : Nat → V → V → Prop
  | 0, x, y => x = y ∧ flat x = true
  | n + 1, x, y => (x = y ∧ flat x = true) ∨ ∃ (a b : Addr) (xs ys : List V), x = .ref a ∧ y = .ref b ∧ ((SqT K H a xs ∧ SqT K H b ys) ∨ (SqL K H a xs ∧ SqL K H b ys)) ∧ xs.length = ys.length ∧ xs.length ≤ 10000 ∧ ∀ (i : Nat) (x y : V), xs[i]? = some x → ys[i]? = some y → EqD K H n x y
theorem sqL_same {K : PySem.W.Frag} {H H' : Hp} {a : Addr} {xs : List V} (e : Same H H') (h : SqL K H a xs) : SqL K H' a xs := e.seq h
theorem sqT_same {K : PySem.W.Frag} {H H' : Hp} {a : Addr} {xs : List V} (e : Same H H') (h : SqT K H a xs) : SqT K H' a xs := by
  rcases h with (h | ⟨o, h⟩) | h
  · exact .inl (.inl (e _ _ h))
  · exact .inl (.inr ⟨o, e _ _ h⟩)
  · exact .inr h
theorem EqD.same {K : PySem.W.Frag} {H H' : Hp} (e : Same H H') : ∀ {n : Nat} {x y : V}, EqD K H n x y → EqD K H' n x y
  | 0, _, _, h => h
  | n + 1, x, y, h => by
    rcases h with h | ⟨a, b, xs, ys, h1, h2, h3, h4, h5, h6⟩
    · exact .inl h
    · refine .inr ⟨a, b, xs, ys, h1, h2, ?_, h4, h5, fun i x y q1 q2 => EqD.same e (h6 i x y q1 q2)⟩
      rcases h3 with ⟨q1, q2⟩ | ⟨q1, q2⟩
      · exact .inl ⟨sqT_same e q1, sqT_same e q2⟩
      · exact .inr ⟨sqL_same e q1, sqL_same e q2⟩
theorem EqD.flat {K : PySem.W.Frag} {H : Hp} {x : V} (h : flat x = true) : ∀ {n : Nat}, EqD K H n x x
  | 0 => ⟨rfl, h⟩
  | _ + 1 => .inl ⟨rfl, h⟩
theorem same_new {H : Hp} {p : Addr} {o : HO} (h : H p = none) : Same H (upd H p o) := fun b x e => by
  rw [upd_ne (ne_of_none e h)]
  exact e
end CT
namespace CT
open PySem
theorem slt' {n : Nat} (h : n ≤ 20000) : n < sizeLine := Nat.lt_of_le_of_lt h (by decide)
theorem all_rep (n : Nat) : (List.replicate n true).all id = true := by
  rw [List.all_eq_true]
  intro x hx
  exact (List.eq_of_mem_replicate hx)
end CT
namespace CT
open PySem PySem.Spec PySem.Calls PyProof.Rows L2
end CT
namespace CT
open PySem PySem.Spec PySem.Calls PyProof.Rows L2
end CT
namespace CT
open PySem PySem.Spec PySem.Calls PyProof.Rows L2
def EqA (K : PySem.W.Frag) (H : Hp) (n : Nat) : List V → List V → Prop
  | [], [] => True
  | x :: xs, y :: ys => EqD K H n x y ∧ EqA K H n xs ys
  | _, _ => False
theorem EqA.len {K : PySem.W.Frag} {H : Hp} {n : Nat} : ∀ {xs ys : List V}, EqA K H n xs ys → xs.length = ys.length
  | [], [], _ => rfl
  | _ :: xs, _ :: ys, h => congrArg Nat.succ (EqA.len h.2)
theorem EqA.get {K : PySem.W.Frag} {H : Hp} {n : Nat} : ∀ {xs ys : List V}, EqA K H n xs ys → ∀ (i : Nat) (x y : V), xs[i]? = some x → ys[i]? = some y → EqD K H n x y
  | _ :: _, _ :: _, h, 0, _, _, q1, q2 => by
    cases q1
    cases q2
    exact h.1
  | _ :: xs, _ :: ys, h, i + 1, x, y, q1, q2 => EqA.get h.2 i x y q1 q2
theorem eqB {K : PySem.W.Frag} {H : Hp} {n : Nat} {i j : Bool} (h : i = j) : EqD K H n (.bl i) (.bl j) := by
  rw [h]
  exact EqD.flat rfl
end CT
namespace CT
open PySem PySem.Spec PySem.Calls PyProof.Rows L2 He LamX
def tXg (K : PySem.W.Frag) (a : Addr) (cls : Value) (d : Option Addr) (f : Str) (te : TE) : TE := fun σ H Q => te σ H fun x H1 => x = .ref a ∧ ∃ (C dd : Addr) (fs : List (Str × V)) (v : V), cls = .ref C ∧ XfC K C ∧ PySem.W.findIn K (.ref C) f = some none ∧ d = some dd ∧ H1 dd = some (.xd fs) ∧ fs.lookup f = some v ∧ Q v H1
theorem pe_xg {X : Cx} {a : Addr} {oe : Obj} {cls : Value} {d : Option Addr} {pn : List (Addr × Obj)} {e : Expr} {te : TE} {pos : Pos} {n : Str}
    (hz : Zc cls d oe) (hf : ∃ vs, oe.data = .fields vs) (he : PE (X.suite a ((a, oe) :: pn)) e te) (hb : attributeBase e n X.env (eval e X.env) = eval e X.env := by rfl) :
    PE (X.suite a ((a, oe) :: pn)) (.Attribute e n pos) (tXg X.K a cls d n te) := by
  refine ⟨fun pins s σ H Q I h => ?_⟩
  refine attr_of hb (thn (he.run pins s σ H _ I h) fun u s1 hh => ?_)
  obtain ⟨x, H1, I1, rx, ex, C, dd, fs, v, ec, T, hno, ed, ea, l, q⟩ := hh
  subst ex
  obtain rfl : u = Value.ref a := rx
  subst ec
  subst ed
  obtain ⟨ha, _⟩ := I1.pin (a, oe) (List.mem_append_left _ List.mem_cons_self)
  obtain ⟨vs, hd⟩ := hf
  have hx : ObjOk X.prog X.w H1 s1.heap dd (.xd fs) := I1.hok dd _ ea
  obtain ⟨mA, hns, hr⟩ := hx
  obtain ⟨od, ho, hl⟩ := lookIn_ns hns
  obtain ⟨u, hu, ru⟩ := RelO.some_of (v := v) (o := mA n) (by rw [← l]; exact hr n)
  have J : PySem.W.InstAt s1.heap a oe C (some od) := ⟨ha, hz.1, by unfold PySem.W.notCls; rw [hd] <;> rfl, by rw [hz.2]; exact ho⟩
  exact HandSPX.exc_get I1.kIn J T.ga T.gg T.exC (PySem.W.findObj_own T.hdC hno rfl (by rw [hl, hu])) (handed_of ru) ⟨v, H1, I1.tok _, ru, q⟩
section
variable {X : Cx} {pins : List (Addr × Obj)} {σ : L2.St} {H : Hp} {s s1 : Shared}
theorem pe_actS {CXg : CXT} {Eg : XK} {Ng : List Str} {qg : Str} {sg : Scope} {g f c' : Addr} {cdg pm ctv : Value} {params : Arguments} {body : Expr} {scope : Scope} {k i : Nat} {a : Str} {pn : List (Addr × Obj)} {xe : Value → Shared → Prop} {W : WX} {tb : XK → TE} {p1 p2 : Pos}
    (I : Inv X pins σ H s) (L : LamS X.env.scope scope) (hf : s.heap.get? f = some (PySem.W.kla_obj "<lambda>" (X.env.qual ++ "<lambda>") params body scope (cloFrom X.env.cells scope.names []) pm c' ctv)) (hfn : H f = none) (hfr : f ∉ frs X.stack)
    (hbind : bindArgs (PySem.W.kla_fn "<lambda>" (X.env.qual ++ "<lambda>") params body scope (cloFrom X.env.cells scope.names []) pm (.ref c') ctv) ⟨[], []⟩ = pure [])
    (tk : Takes ((cxOf CXg X.prog X.w X.K X.mg X.base Ng qg sg g cdg X.A X.stack s H Eg).tr pn xe) W) (hr : Room (k + 1) (X.A.deeper (envOfC qg sg s.heap.objs.size g cdg)))
    (hbody : ∀ (E : XK) (A : Around) (outer : List Env) (s : Shared) (H : Hp), Room k (A.deeper (lamEnv X scope s.heap.objs.size f c')) → PE (lamCx X A outer s H E scope f c') body (tb E))
    (hN : Ng[i]? = some a) (hv : Vis sg a) (hd : (a == ("__debug__" : Str)) = false := by decide) (hcd : (a == ("__classdict__" : Str)) = false := by decide) :
    PE ((cxOf CXg X.prog X.w X.K X.mg X.base Ng qg sg g cdg X.A X.stack s H Eg).tr pn xe) (.Call (.Name a p1) [] [] p2)
      (fun σZ HZ Q => σZ[i]? = some (some (.ref f)) ∧ HZ c' = some (CodeO c' (X.env.qual ++ "<lambda>")) ∧ ∃ E : XK, (∀ cls d H', E cls d H' → W cls d σZ H') ∧ tb E σ HZ Q) := by
  refine ⟨fun pinsZ sZ σZ HZ Q IZ h => ?_⟩
  obtain ⟨hs, hc, E, hW, ht⟩ := h
  refine wpAny_Call_Name_kw (thn ((pe_var (pos := p1) (i := i) hN hv hd hcd).run pinsZ sZ σZ HZ (fun v H1 => v = .ref f ∧ H1 = HZ) IZ ⟨.ref f, hs, rfl, rfl⟩) fun u s1 ⟨v, H1, I1, r1, q1⟩ => ?_)
  obtain ⟨ev, eH⟩ := q1
  subst ev
  rw [eH] at I1
  obtain rfl : u = Value.ref f := r1
  have of1 : s1.heap.get? f = some (PySem.W.kla_obj "<lambda>" (X.env.qual ++ "<lambda>") params body scope (cloFrom X.env.cells scope.names []) pm c' ctv) := I1.base.keep f _ hf hfn hfr (fun z => nomatch (show f ∈ ([] : List Addr) from z))
  refine PySem.W.callWith_F0 ⟨_, _, _, _, of1⟩ ?_
  have un : Un (frs X.stack) [] H HZ s.heap s1.heap := I1.base
  obtain ⟨⟨oc, vs, t, hoc, hdc, hvc⟩, _, _⟩ := I1.hok c' _ hc
  have rc : codeAny (model X.prog X.w) (X.A.deeper (envOfC qg sg s.heap.objs.size g cdg)) (.call (.ref f) ⟨[], []⟩) (CR (L2.CX X.prog X.w) (envOfC qg sg s.heap.objs.size g cdg :: X.stack) X.prog X.w HZ s1 Q E) s1 := by
    refine PySem.W.kla_callFunE hr.depth of1 rfl L.co L.gen rfl ⟨c', oc, vs, t, rfl, hoc, hdc, hvc⟩ ?_
    rw [hbind]
    refine wpAny_pure (wpAny_newFunctionEnv (fun y hy => (L.own y hy).2) (fun y hy => absurd hy (by simp)) (fun h₁ hns hsb => ⟨I1.nolimit.fresh _ hsb, ?_⟩) L.kind)
    show codeAny _ _ (.expr body (lamEnv X scope s1.heap.objs.size f c')) _ _
    have kp : ∀ b o, s1.heap.get? b = some o → h₁.get? b = some o := fun b o e => hsb.extBut b o (Nat.ne_of_lt (Heap.lt_size e)) (Heap.get?_push_of_some _ e)
    have J : Inv (lamCx X (X.A.deeper (envOfC qg sg s.heap.objs.size g cdg)) (envOfC qg sg s.heap.objs.size g cdg :: X.stack) s1 HZ E scope f c') [] σ HZ { s1 with heap := h₁, toks := s1.toks + ([] : List (Str × Value)).length } :=
      lam_start2 I L I1.env0 hr.hd un hns kp
    refine PySem.W.kla_codeExpr (wpAny_mono ((hbody E _ _ s1 HZ (hr.deeper _)).run [] _ _ HZ Q J ht) (fun v s' hq => ?_) fun e s' hq => hq)
    obtain ⟨w', H', J', rv, q⟩ := hq
    exact ⟨w', H', J'.os, J'.bare, J'.base, J'.hok, rv, q⟩
  refine wpAny_call (codeAny_mono rc fun r s' hq => ?_)
  cases r with
  | error e => exact tk e s' (XE.of_call I1 (fun cls d H' => hW cls d H') hq)
  | ok fl =>
    cases fl with
    | ret u => exact I1.after hq
    | next => exact False.elim hq
    | brk => exact False.elim hq
    | cont => exact False.elim hq
end
/-- the def that calls what it got: a calls it; TT: what it makes of the lambda's reading -/
def GivesS (X : Cx) (Ng : List Str) (x : Str) (sg : Scope) (g : Addr) (cdg : Value) (bg : List Stmt) (a : Str) (q : Str) (TT : (XK → Hp → VK → Prop) → Hp → VK → Prop) : Prop :=
  ∀ (f c' : Addr) (s : Shared) (H : Hp) (Q : VK) (tl : XK → Hp → VK → Prop),
    (∀ (W : WX) (pn : List (Addr × Obj)) (xe : Value → Shared → Prop) (p1 p2 : Pos), Takes ((cxOf CX0 X.prog X.w X.K X.mg X.base Ng x sg g cdg X.A X.stack s H E0).tr pn xe) W →
      PE ((cxOf CX0 X.prog X.w X.K X.mg X.base Ng x sg g cdg X.A X.stack s H E0).tr pn xe) (.Call (.Name a p1) [] [] p2) (fun σZ HZ Q => σZ[0]? = some (some (.ref f)) ∧ HZ c' = some (CodeO c' q) ∧ ∃ E : XK, (∀ cls d H', E cls d H' → W cls d σZ H') ∧ tl E HZ Q)) →
    H c' = some (CodeO c' q) → TT tl H Q →
    ∃ t, PSs (cxOf CX0 X.prog X.w X.K X.mg X.base Ng x sg g cdg X.A X.stack s H E0).nox bg t ∧ t { nx := fun _ H' => Q .non H', rt := Q } (L2.start Ng [.ref f]) H
section
variable {X : Cx}
/-- x(lambda: body) -/
theorem pe_lamcallS {T : List (Addr × Str)} {TT : (XK → Hp → VK → Prop) → Hp → VK → Prop} {x a : Str} {g c P : Addr} {k : Nat} {pg : Arguments} {bg : List Stmt} {sg : Scope} {dV kV doc pm cdv ct oc : Value} {an od : Option Addr} {osl : Array (Option Value)} {Ng : List Str}
    {params : Arguments} {body : Expr} {scope : Scope} {t : XK → TE} {p lpos pos : Pos} (hg : Gl X x) (hm : X.mg x = some (.ref g)) (hk : PySem.W.keepIn X.K (.ref g) = true)
    (lk : X.K.lookup g = some ⟨oc, od, .func (PySem.W.fnOf x x pg bg sg dV kV doc pm an cdv ct), osl⟩) (hcg : PySem.W.codeIn X.K cdv x = true) (hb : L2.Binds X.K (PySem.W.fnOf x x pg bg sg dV kV doc pm an cdv ct) [a] []) (Sg : FnScope Ng [a] sg) (hNg : Ng[0]? = some a) (hva : Vis sg a)
    (hG : GivesS X Ng x sg g cdv bg a (X.env.qual ++ "<lambda>") TT)
    (TB : TabB X.base X.mg c P) (hcode : X.env.code = .ref c) (hmT : (P, X.env.qual ++ "<lambda>") ∈ T) (hu : ∀ p ∈ T, p.1 = P → p.2 = X.env.qual ++ "<lambda>") (hr : Room (k + 2) X.A) (L : LamS X.env.scope scope) (hdef : defaultsOf params X.env = ([], []))
    (hbind : ∀ (q : Str) (cl : List (Str × Addr)) (pm cv ctv : Value), bindArgs (PySem.W.kla_fn "<lambda>" q params body scope cl pm cv ctv) ⟨[], []⟩ = pure [])
    (hbody : ∀ (A : Around) (outer : List Env) (s : Shared) (H : Hp) (E : XK) (f c' : Addr), Room k (A.deeper (lamEnv X scope s.heap.objs.size f c')) → PE (lamCx X A outer s H E scope f c') body (t E))
    (hdb : (x == ("__debug__" : Str)) = false := by decide) (hd : (a == ("__debug__" : Str)) = false := by decide) (hcd : (a == ("__classdict__" : Str)) = false := by decide) :
    PE X (.Call (.Name x p) [.Lambda params body scope lpos] [] pos) (tLam T TT t) := by
  refine ⟨fun pins s σ H Q I h => ?_⟩
  obtain ⟨hT, h⟩ := h
  refine wpAny_Call_Name_kw (ld_glob I hg hm ?_ hdb)
  refine PySem.W.callWith_K (h₀ := X.base) I.ok.mod.kin hk ?_ (by rfl) (by rfl)
  show wpAny _ _ (spliced ((false, eval (.Lambda params body scope lpos) X.env) :: backTo pos (starEach [] X.env))) _ _ s
  refine Calls.spliced_cons (lam_make2 I TB hcode hmT hu hT hdef (L.has I.ok) fun f c' pm' ctv H1 s' I1 eN T1 hf hfn hfr hco => ?_)
  refine Calls.spliced_nil ⟨I1.kIn, ?_⟩
  have rc : codeAny (model X.prog X.w) X.A (.call (.ref g) ⟨[.ref f], []⟩) (CR CX0 X.stack X.prog X.w H1 s' Q E0) s' := by
    refine run_ofS (N := Ng) (ps := [a]) (us := [.ref f]) (vs := [.ref f]) lk hcg Sg hr I1.env0 (hb s' [.ref f] I1.kIn rfl) (.cons rfl .nil) rfl fun hr' => ?_
    obtain ⟨t', ht', hq'⟩ := hG f c' s' H1 Q (fun E H' Q' => t E σ H' Q') (fun W pn xe p1 p2 tk => pe_actS (i := 0) I1 L hf hfn hfr (hbind _ _ _ _ _) tk hr' (fun E A outer s H hr2 => hbody A outer s H E f c' hr2) hNg hva hd hcd) hco (h H1 eN T1)
    exact ⟨t', ht'.nox, hq'⟩
  refine wpAny_call (codeAny_mono rc fun r s2 hq => ?_)
  cases r with
  | error e => exact (show False from hq).elim
  | ok fl =>
    cases fl with
    | ret u => exact I1.after hq
    | next => exact False.elim hq
    | brk => exact False.elim hq
    | cont => exact False.elim hq
end
/-- the clauses of _law_why: the classes, the field that is told -/
def whyCl : List (List Str × Option Str) := [(["InvalidRatio", "InvalidDegree", "InvalidLimit"], some "given"), (["InvalidTerm", "ParseError", "InvalidLetters", "InvalidBegin", "InvalidMode"], some "at"),
  (["InvalidGuard", "UnknownLetter", "InvalidRecoding"], some "at"), (["Mismatch"], some "wanted"), (["InvalidName", "DuplicateName", "WrongSort", "UnknownName"], some "name"), (["CapacityExceeded"], some "most"),
  (["InvalidCommand"], some "first"), (["InUse"], some "label"), (["Fails"], some "word"), (["NoLead", "LettersDiffer", "NoText", "NothingLeft"], none)]
def whyNames : List Str := (["InvalidRatio", "InvalidDegree", "InvalidLimit", "InvalidTerm", "ParseError", "InvalidLetters", "InvalidBegin", "InvalidMode", "InvalidGuard", "UnknownLetter", "InvalidRecoding", "Mismatch"] : List Str) ++ ((["InvalidName", "DuplicateName", "WrongSort", "UnknownName", "CapacityExceeded", "InvalidCommand", "InUse", "Fails", "NoLead", "LettersDiffer", "NoText", "NothingLeft"] : List Str))
def whyX (K : PySem.W.Frag) (a : Addr) (cls : Value) (d : Option Addr) : Option Str → TE
  | some y => tXg K a cls d y (tVar 2)
  | none => tC V.non
def whyTs (K : PySem.W.Frag) (x : Option Str) : Addr → Value → Option Addr → TS := fun a cls d => tSeq (tAsg (tTup (tCons (tXg K a cls d "tag" (tVar 2)) (tCons (whyX K a cls d x) tNil))) (gName 1)) tNext
def refs (K : PySem.W.Frag) (ns : List Str) : List Value := ns.map fun n => Value.ref (ga K n)
def whyL (K : PySem.W.Frag) (cl : List (List Str × Option Str)) : List (List Value × (Addr → Value → Option Addr → TS)) := cl.map fun c => (refs K c.1, whyTs K c.2)
/-- what is known of an error class that _law_why may meet -/
structure WhyC (K : PySem.W.Frag) (n : Str) (x : Option Str) : Prop where
  xf : XfC K (ga K n)
  tag : PySem.W.findIn K (.ref (ga K n)) "tag" = some none
  fld : ∀ y, x = some y → PySem.W.findIn K (.ref (ga K n)) y = some none
  exm : ∀ m ∈ whyNames, PySem.W.exmOne K (.ref (ga K n)) (.ref (ga K m)) = some (decide (n = m))
theorem exm_list {K : PySem.W.Frag} {n : Str} : ∀ {ns : List Str}, (∀ m ∈ ns, PySem.W.exmOne K (.ref (ga K n)) (.ref (ga K m)) = some (decide (n = m))) → PySem.W.exmAny K (.ref (ga K n)) (refs K ns) = some (ns.any fun m => decide (n = m))
  | [], _ => rfl
  | m :: r, h => by
    show PySem.W.exmAny K (.ref (ga K n)) (.ref (ga K m) :: refs K r) = _
    unfold PySem.W.exmAny
    rw [h m (by simp), exm_list fun z hz => h z (List.mem_cons_of_mem _ hz)]
    rfl
/-- an error as it is told: its tag, its field -/
def Told (K : PySem.W.Frag) (n : Str) (x : Option Str) (v : V) (cls : Value) (d : Option Addr) (H' : Hp) : Prop :=
  cls = .ref (ga K n) ∧ ∃ (dd : Addr) (fs : List (Str × V)), d = some dd ∧ H' dd = some (.xd fs) ∧ fs.lookup ("tag" : Str) = some (V.str n) ∧ ∀ y, x = some y → fs.lookup y = some v
theorem why_reads {K : PySem.W.Frag} {n : Str} {x : Option Str} {v : V} {cls : Value} {d : Option Addr} {H' : Hp} {u0 u1 : Option V} {D : Ends} {Wout : WX} (C : WhyC K n x) (ht : Told K n x v cls d H') (hv : x = none → v = V.non)
    (q : ∀ p, H' p = none → D.nx [u0, some (.ref p), none] (upd H' p (.tup [.str n, v]))) : ∀ cl : List (List Str × Option Str), (∀ c ∈ cl, ∀ m ∈ c.1, m ∈ whyNames) → (∀ c ∈ cl, n ∈ c.1 → c.2 = x) → (∃ c ∈ cl, n ∈ c.1) → wManyAs K 2 Wout D (whyL K cl) cls d [u0, u1, none] H'
  | [], _, _, h => by
    obtain ⟨c, hc, _⟩ := h
    cases hc
  | (ns, y) :: r, h1, h2, h3 => by
    obtain ⟨ec, dd, fs, ed, edd, hl, hf⟩ := ht
    have e := exm_list (K := K) (n := n) (ns := ns) fun m hm => C.exm m (h1 (ns, y) (by simp) m hm)
    refine ⟨ns.any fun m => decide (n = m), by rw [ec]; exact e, fun hb a ha => ?_, fun hb => ?_⟩
    · have hn : n ∈ ns := by
        obtain ⟨m, hm, e2⟩ := List.any_eq_true.mp hb
        rw [of_decide_eq_true e2]
        exact hm
      have ey : y = x := h2 (ns, y) (by simp) hn
      subst ey
      refine ⟨.ref a, rfl, rfl, ga K n, dd, fs, .str n, ec, C.xf, C.tag, ed, edd, hl, ?_⟩
      have fin : (2 : Nat) ≤ sizeLine ∧ ∀ p, H' p = none → D.nx (([u0, u1, some (V.ref a)].set 1 (some (.ref p))).set 2 none) (upd H' p (.tup [.str n, v])) := ⟨by decide, fun p hp => q p hp⟩
      cases y with
      | none =>
        rw [hv rfl] at fin
        exact fin
      | some y => exact ⟨.ref a, rfl, rfl, ga K n, dd, fs, v, ec, C.xf, C.fld y rfl, ed, edd, hf y rfl, fin⟩
    · have hn : n ∉ ns := fun hm => by
        have z : (ns.any fun m => decide (n = m)) = true := List.any_eq_true.mpr ⟨n, hm, decide_eq_true rfl⟩
        rw [hb] at z
        cases z
      refine why_reads C ⟨ec, dd, fs, ed, edd, hl, hf⟩ hv q r (fun c hc => h1 c (List.mem_cons_of_mem _ hc)) (fun c hc => h2 c (List.mem_cons_of_mem _ hc)) ?_
      obtain ⟨c, hc, hm⟩ := h3
      rcases List.mem_cons.mp hc with e | hc
      · subst e
        exact absurd hm hn
      · exact ⟨c, hc, hm⟩
/-- what _law_why hands back: told at a new tuple; R: the errors that may come, each with its field (none: None is told) -/
def TWhy (K : PySem.W.Frag) (R : List (Str × Option Str)) : (XK → Hp → VK → Prop) → Hp → VK → Prop := fun tl H Q => ∀ p H1, H p = none → Same H H1 → H1 p = some (.tup [.str "", .non]) → ∀ (QQ : VK) (EE : XK), (∀ v H', Q (.ref p) H' → QQ v H') →
  (∀ cls d H', (∃ n x v, (n, x) ∈ R ∧ Told K n x v cls d H' ∧ (x = none → v = V.non) ∧ ∀ q H2, H' q = none → Same H' H2 → H2 q = some (.tup [.str n, v]) → Q (.ref q) H2) → EE cls d H') → tl EE H1 QQ
theorem why_all : ∀ c ∈ whyCl, ∀ m ∈ c.1, m ∈ whyNames := by decide +kernel
end CT
namespace CT
open PySem PySem.Spec PySem.Calls PyProof.Rows L2 He LamX
section
variable {P : Program} {w : World} {K : PySem.W.Frag} {mg : Str → Option Value} {base : Heap} {n : Str} {st : Stmt} {CX : CXT} {N ps : List Str} {k : Nat} {sp : Sp}
/-- as FunD.ok, the code object known -/
theorem okC {fd : FuncData} (F : FunD K n n (defArgs st) (defBody st) (defScope st) [] [] (ga K n) fd) (S : FnScope N ps (defScope st))
    (len : ∀ vs H Q E, sp vs H Q E → vs.length = ps.length)
    (hbody : ∀ (A : Around) (outer : List Env) (s : Shared) (H : Hp) (vs : List V) (Q : VK) (E : XK), Room k (A.deeper (envOfC n (defScope st) s.heap.objs.size (ga K n) (.ref (codeOf K (n, none))))) → sp vs H Q E →
      ∃ t, PSs (cxOf CX0 P w K mg base N n (defScope st) (ga K n) (.ref (codeOf K (n, none))) A outer s H E).nox (defBody st) t ∧ t { nx := fun _ H' => Q .non H', rt := Q } (L2.start N vs) H) :
    FnOk P w K mg base CX0 (k + 1) (ga K n) fd ps sp := by
  obtain ⟨oc, od, dV, kV, doc, pm, an, cdv, ct, osl, rfl, lk, hcd, _, _⟩ := F.ex
  obtain ⟨c, ec⟩ := codeIn_ref hcd
  have e2 : codeOf K (n, none) = c := codeOf_eq (p := (n, none)) lk ec
  subst ec
  rw [e2] at hbody
  refine fn_of lk hcd S len fun A outer s H vs Q E hr hsp => ?_
  obtain ⟨t, ht, hq⟩ := hbody A outer s H vs Q E hr hsp
  exact ⟨t, ht.nox, hq⟩
end
theorem Tabs.but {T : List (Addr × Str)} {H H' : Hp} {p : Addr} {xs : List V} (t : Tabs T H) (hp : H p = some (.lst xs)) (e : ∀ b o, b ≠ p → H b = some o → H' b = some o) : Tabs T H' := fun q hq => by
  obtain ⟨ps, h1, h2, h3⟩ := t q hq
  refine ⟨ps, e _ _ (ne_of h1 hp fun z => by cases z) h1, h2, fun pos cv hc => ?_⟩
  obtain ⟨c, e1, e2⟩ := h3 pos cv hc
  refine ⟨c, e1, e _ _ (ne_of e2 hp fun z => ?_) e2⟩
  unfold CodeO at z
  cases z
theorem Tabs.same {T : List (Addr × Str)} {H H' : Hp} (t : Tabs T H) (e : Same H H') : Tabs T H' := t.ext e
/-- what the lambda's body lets out goes to what is wished -/
theorem pass_lam {X : Cx} {A : Around} {outer : List Env} {s : Shared} {H : Hp} {E : XK} {scope : Scope} {f c' : Addr} : Passes (L2.CX X.prog X.w) (lamCx X A outer s H E scope f c') E :=
  passes_call (W := fun cls d _ H => E cls d H) (takes_of rfl rfl rfl rfl) fun _ _ _ _ h => h
end CT
namespace CT
open PySem PySem.Spec PySem.Calls PyProof.Rows L2 He
def toData : V → PyData
  | .bl b => .bool b
  | .int i => .int i
  | .str x => .str x
  | _ => .none
def okData : V → Bool
  | .non | .bl _ | .int _ => true
  | .str x => (PyData.str x).canLay0
  | _ => false
theorem dp_flat {K : PySem.W.Frag} {H : Hp} : ∀ {v : V}, okData v = true → Dp K H v (toData v)
  | .non, _ => .non
  | .bl b, _ => .bl b
  | .int i, _ => .int i
  | .str x, _ => .str x
end CT
namespace CT
open PySem PySem.Spec PySem.Calls PyProof.Rows L2 He
theorem exm_at {K : PySem.W.Frag} {n m : Str} {b : Bool} (c : (Fa.exm n m b).ok K = true) (e : b = decide (n = m) := by decide +kernel) : PySem.W.exmOne K (.ref (ga K n)) (.ref (ga K m)) = some (decide (n = m)) := by
  rw [← e]
  exact exm_ok c
theorem whyC_of {K : PySem.W.Frag} {n file : Str} {x : Option Str} (E : ErrC K n x file) (h : ∀ m ∈ whyNames, PySem.W.exmOne K (.ref (ga K n)) (.ref (ga K m)) = some (decide (n = m))) : WhyC K n x := ⟨E.xf, E.tag, fun y e => E.fld y e, h⟩
end CT
namespace CT
open PySem PySem.Spec PySem.Calls PyProof.Rows L2 He
end CT
namespace CT
open PySem PySem.Spec PySem.Calls PyProof.Rows L2 He
theorem sqT_ext {K : PySem.W.Frag} {H H' : Hp} {a : Addr} {xs : List V} (e : LamX.ExtN H H') (h : SqT K H a xs) : SqT K H' a xs := by
  rcases h with (h | ⟨o, h⟩) | h
  · exact .inl (.inl (e _ _ h fun _ z => by cases z))
  · exact .inl (.inr ⟨o, e _ _ h fun _ z => by cases z⟩)
  · exact .inr h
end CT
namespace CT
open PySem PySem.Spec PySem.Calls PyProof.Rows L2 He LamX
/-- a lambda's text; df: its parameter with the default 0 -/
structure LamD where
  ps : Arguments
  body : Expr
  scope : Scope
  df : Option Str
/-- its function object -/
def lamFn (q : Str) (d : LamD) (clo : List (Str × Addr)) (dv pm cv ctv : Value) : FuncData :=
  { name := "<lambda>", qualname := q, params := d.ps, body := .expr d.body, scope := d.scope, globals := mainGlobals, closure := clo, defaults := dv, kwdefaults := .none, doc := .none, pyModule := pm, annotations := none, code := cv, closureTuple := ctv, builtins := builtinsNs }
def lamObj (q : Str) (d : LamD) (clo : List (Str × Addr)) (dv pm cv ctv : Value) : Obj := { cls := .type "function", data := .func (lamFn q d clo dv pm cv ctv) }
section
variable {M : Model} {A : Around} {E : Value → Shared → Prop} {s : Shared} {env : Env} {c P : Addr} {ps : Array Value} {pos : Pos} {mg : Str → Option Value} {clo : List (Str × Addr)} {Q : Value → Shared → Prop} {d : LamD} {dv : Value} {q : Str}
/-- the closure's tuple -/
theorem clo_tuple (h : ∀ (ctv : Value) (h' : Heap), (∀ b o, s.heap.get? b = some o → h'.get? b = some o) → s.heap.objs.size ≤ h'.objs.size → Q ctv { s with heap := h' }) :
    wpAny M A (if clo.isEmpty = true then pure Value.none else newTextTuple ((clo.mergeSort fun a b => a.1.cps.toList ≤ b.1.cps.toList).map (.ref ·.2))) Q E s := by
  cases clo with
  | nil => exact wpAny_pure (h .none s.heap (fun _ _ e => e) (Nat.le_refl _))
  | cons x r =>
    refine wpAny_newTextTuple (h _ _ (fun b o e => Heap.get?_push_of_some _ e) ?_)
    rw [Heap.size_push]
    exact Nat.le_succ _
theorem wp_both {b : Bool} {x y : Sem Value} {k : Value → Sem Value} (h : wpAny M A ((if b = true then x else y) >>= k) Q E s) : wpAny M A (if b = true then x >>= k else y >>= k) Q E s := by
  cases b <;> exact h
theorem lam_tail (hcl : closureFor d.scope env = pure clo) (hge : env.globals = mainGlobals) (hg : s.heap.Ns mainGlobals mg) (hcode : env.code = .ref c) (C : PySem.W.CodeHd s.heap c P) (hP : s.heap.get? P = some (PySem.W.tabObj ps)) (ht : TriplesOk ps.toList) (hgP : mainGlobals ≠ P) (hb : s.heap.BuiltinsAt mg P)
    (hit : ∀ (cv ctv : Value) (h' : Heap) (tk : Tok), codeAmong pos ps.toList = some cv → (∀ b o, s.heap.get? b = some o → h'.get? b = some o) → s.heap.objs.size ≤ h'.objs.size → Q (.ref h'.objs.size) { s with heap := h'.push (lamObj q d clo dv ((mg "__name__").getD .none) cv ctv), toks := tk })
    (miss : ∀ (c' : Addr) (ctv : Value) (h' : Heap) (tk : Tok), codeAmong pos ps.toList = none → Heap.ExtBut P s.heap h' → s.heap.objs.size ≤ c' → c' < h'.objs.size → h'.CodeRec (.ref c') q → h'.get? P = some (PySem.W.tabObj (ps ++ #[rawInt pos.line, rawInt pos.col, .ref c'])) →
      Q (.ref h'.objs.size) { s with heap := h'.push (lamObj q d clo dv ((mg "__name__").getD .none) (.ref c') ctv), toks := tk }) :
    wpAny M A (makeTail "<lambda>" q d.ps (.expr d.body) d.scope env dv .none none pos pos.line) Q E s := by
  obtain ⟨bm, ob, b1, b2, _, b3, b4, b5, b6, b7⟩ := hb
  unfold makeTail
  rw [hcl, hge]
  refine wpAny_bind (wpAny_pure (wp_both (wpAny_bind (clo_tuple fun ctv h1 kp sz => ?_))))
  have C1 := C.keeps kp
  have hP1 := kp _ _ hP
  have hg1 : h1.Ns mainGlobals mg := hg.keeps kp
  cases hc : codeAmong pos ps.toList with
  | some cv =>
    refine wpAny_bind (wpAny_functionCode_hit hcode (C1.code hP1 ht) hc (wpAny_bind (wpAny_builtinsFor hg1 b1 b2 (kp _ _ b4) b5 b6 b7 (wpAny_bind (wpAny_nsGet hg1 (wpAny_bind (wpAny_pure (wpAny_newObj_type ?_ (by size_fits)))))))))
    exact hit cv ctv h1 s.toks hc kp sz
  | none =>
    refine wpAny_bind (wpAny_functionCodeX hcode (C1.code hP1 ht) (C1.tab hP1) hc fun c' h' tk hx ge lt _ hrec htb _ => ?_)
    have hx2 : Heap.ExtBut P s.heap h' := fun b o n e => hx b o n (kp _ _ e)
    have hg2 := hg1.extBut hx hgP
    refine wpAny_bind (wpAny_builtinsFor hg2 b1 b2 (hx2 _ _ b3 b4) b5 b6 b7 (wpAny_bind (wpAny_nsGet hg2 (wpAny_bind (wpAny_pure (wpAny_newObj_type ?_ (by size_fits)))))))
    exact miss c' ctv h' tk hc hx2 (Nat.le_trans sz ge) lt hrec htb.2
end
/-- its names: captured ones, globals, a parameter that is no name of the maker's -/
structure LamS2 (N : List Str) (sc scope : Scope) : Prop where
  kind : scope.kind = .function
  co : scope.isCoroutine = false
  gen : scope.isGenerator = false
  own : ∀ y ∈ scope.names, y.2 ≠ .cell ∧ (y.2 = .local → y.1 ∉ N)
  free : ∀ y ∈ scope.names, y.2 = .free → sc.names.lookup y.1 = some .cell ∨ sc.names.lookup y.1 = some .free
def lamS2B (N : List Str) (sc scope : Scope) : Bool :=
  decide (scope.kind = .function) && (!scope.isCoroutine && (!scope.isGenerator && scope.names.all fun y => !decide (y.2 = .cell) && ((!decide (y.2 = .local) || decide (y.1 ∉ N)) && (!decide (y.2 = .free) || (decide (sc.names.lookup y.1 = some .cell) || decide (sc.names.lookup y.1 = some .free))))))
theorem lamS2_by {N : List Str} {sc scope : Scope} (h : lamS2B N sc scope = true) : LamS2 N sc scope := by
  unfold lamS2B at h
  simp only [Bool.and_eq_true, Bool.or_eq_true, Bool.not_eq_true', decide_eq_true_eq, decide_eq_false_iff_not, List.all_eq_true] at h
  obtain ⟨h1, h2, h3, h4⟩ := h
  refine ⟨h1, h2, h3, fun y hy => ⟨(h4 y hy).1, fun e => (h4 y hy).2.1.resolve_left fun z => z e⟩, fun y hy e => ?_⟩
  exact (h4 y hy).2.2.resolve_left fun z => z e
theorem LamS2.has {X : Cx} {scope : Scope} (L : LamS2 X.N X.env.scope scope) (ok : X.Ok) : ∀ y ∈ scope.names, y.2 = .free → ∃ c, X.env.cells.lookup y.1 = some c :=
  fun y hy e => (L.free y hy e).elim (fun k => ok.has _ (.inl k)) fun k => ok.has _ (.inr k)
def DefOk (env : Env) (d : LamD) : Prop := match d.df with
  | none => defaultsOf d.ps env = ([], [])
  | some _ => ∃ j p, defaultsOf d.ps env = ([eval (.Constant (.int 0) j p) env], [])
def BindOk (d : LamD) : Prop := match d.df with
  | none => ∀ (q : Str) (clo : List (Str × Addr)) (pm cv ctv : Value), bindArgs (lamFn q d clo .none pm cv ctv) ⟨[], []⟩ = pure []
  | some x => (∀ (q : Str) (clo : List (Str × Addr)) (td : Addr) (pm cv ctv v : Value), ∃ k, bindArgs (lamFn q d clo (.ref td) pm cv ctv) ⟨[], []⟩ = seqItems? (.ref td) >>= k ∧ k (some #[v]) = pure [(x, v)]) ∧ d.scope.names.lookup x = some .local
def LamO (env : Env) (d : LamD) (c' : Addr) (dv : Value) (f : Addr) : HO := .ext fun h => ∃ pm ctv, h.get? f = some (lamObj (env.qual ++ "<lambda>") d (cloFrom env.cells d.scope.names []) dv pm (.ref c') ctv)
theorem lamO_tbl {env : Env} {d : LamD} {c' f : Addr} {dv : Value} (ps : Array Value) : LamO env d c' dv f ≠ .tbl ps := fun z => by
  unfold LamO at z
  cases z
theorem lamO_lst {env : Env} {d : LamD} {c' f : Addr} {dv : Value} (xs : List V) : LamO env d c' dv f ≠ .lst xs := fun z => by
  unfold LamO at z
  cases z
def DfOk (H : Hp) : Option Str → Value → Prop
  | none, dv => dv = .none
  | some _, dv => ∃ td, dv = .ref td ∧ H td = some (.tup [.int 0])
/-- the lambda of the text d, made in env, at f -/
def LamAt (env : Env) (d : LamD) (f : Addr) (H : Hp) : Prop := ∃ (c' : Addr) (dv : Value), H f = some (LamO env d c' dv f) ∧ H c' = some (CodeO c' (env.qual ++ "<lambda>")) ∧ DfOk H d.df dv
theorem DfOk.keep {H H' : Hp} (e : ∀ b xs, H b = some (.tup xs) → H' b = some (.tup xs)) : ∀ {o : Option Str} {dv : Value}, DfOk H o dv → DfOk H' o dv
  | none, _, h => h
  | some _, _, ⟨td, h1, h2⟩ => ⟨td, h1, e _ _ h2⟩
theorem LamAt.ext {env : Env} {d : LamD} {f : Addr} {H H' : Hp} (h : LamAt env d f H) (e : ExtN H H') : LamAt env d f H' := by
  obtain ⟨c', dv, h1, h2, h3⟩ := h
  exact ⟨c', dv, e _ _ h1 lamO_tbl, e _ _ h2 codeO_ne, h3.keep fun b xs z => e _ _ z fun _ w => by cases w⟩
theorem LamAt.same {env : Env} {d : LamD} {f : Addr} {H H' : Hp} (h : LamAt env d f H) (e : Same H H') : LamAt env d f H' := h.ext (ExtN.of e)
theorem LamAt.but {env : Env} {d : LamD} {f p : Addr} {H H' : Hp} {xs : List V} (h : LamAt env d f H) (hp : H p = some (.lst xs)) (e : ∀ b o, b ≠ p → H b = some o → H' b = some o) : LamAt env d f H' := by
  obtain ⟨c', dv, h1, h2, h3⟩ := h
  refine ⟨c', dv, e _ _ (fun z => ?_) h1, e _ _ (fun z => ?_) h2, h3.keep fun b xs z => e _ _ (ne_of z hp fun w => by cases w) z⟩
  · rw [z, hp] at h1
    exact lamO_lst _ (Option.some.inj h1).symm
  · rw [z, hp] at h2
    unfold CodeO at h2
    cases h2
theorem none_of' {H H' : Hp} {a : Addr} (s : Same H H') (h : H' a = none) : H a = none := by
  rcases e : H a with _ | o
  · rfl
  · rw [s _ _ e] at h
    cases h
section
variable {X : Cx} {pins : List (Addr × Obj)} {σ : L2.St} {H : Hp} {s : Shared}
theorem lamO_laid {env : Env} {d : LamD} {c' : Addr} {dv pm ctv : Value} {h0 : Heap} {t' : Nat} (I : Inv X pins σ H { s with heap := h0, toks := t' }) :
    Inv X pins σ (upd H h0.objs.size (LamO env d c' dv h0.objs.size)) { s with heap := h0.push (lamObj (env.qual ++ "<lambda>") d (cloFrom env.cells d.scope.names []) dv pm (.ref c') ctv), toks := t' } := by
  refine I.laid (t' := t') (fun b o e => Heap.get?_push_of_some _ e) (Nat.le_refl _) ⟨⟨pm, ctv, Heap.get?_push_size _ rfl⟩, ⟨_, Heap.get?_push_size _ rfl⟩, fun h1 h2 ⟨pm', ctv', e⟩ k => ⟨pm', ctv', k _ e⟩⟩
/-- the lambda as a value -/
def tMkLam (T : List (Addr × Str)) (env : Env) (d : LamD) : TE := fun σ H Q => Tabs T H ∧ ∀ f H1, ExtN H H1 → Tabs T H1 → H f = none → LamAt env d f H1 → Q (.ref f) H1
theorem tabs_at {T : List (Addr × Str)} {c P : Addr} {q : Str} {ps : Array Value} {pos : Pos} {c' : Addr} {H H1 : Hp} (hu : ∀ p ∈ T, p.1 = P → p.2 = q) (hT : Tabs T H) (ht : TriplesOk ps.toList) (hP : H P = some (.tbl ps)) (e : ExtN H H1) (hk : ∀ b ps', b ≠ P → H b = some (.tbl ps') → H1 b = some (.tbl ps'))
    (h1 : H1 P = some (.tbl (ps ++ #[rawInt pos.line, rawInt pos.col, .ref c']))) (h2 : H1 c' = some (CodeO c' q)) : Tabs T H1 := fun p hp => by
  obtain ⟨ps0, a1, a2, a3⟩ := hT p hp
  by_cases hb : p.1 = P
  · rw [hb] at a1 ⊢
    rw [hP] at a1
    cases a1
    have eL : (ps ++ #[rawInt pos.line, rawInt pos.col, .ref c']).toList = ps.toList ++ [rawInt pos.line, rawInt pos.col, .ref c'] := by simp
    refine ⟨_, h1, by rw [eL]; exact PySem.TriplesOk_snoc _ _ _ _ a2, fun p' cv hcv => ?_⟩
    rw [eL] at hcv
    rcases among_app _ a2 hcv with z | z
    · obtain ⟨c0, e1, e2⟩ := a3 p' cv z
      exact ⟨c0, e1, e _ _ e2 codeO_ne⟩
    · rw [hu p hp hb]
      exact ⟨c', z, h2⟩
  · refine ⟨ps0, hk _ _ hb a1, a2, fun p' cv hcv => ?_⟩
    obtain ⟨c0, e1, e2⟩ := a3 p' cv hcv
    exact ⟨c0, e1, e _ _ e2 codeO_ne⟩
theorem lam_fin {T : List (Addr × Str)} {c P : Addr} {d : LamD} {dv : Value} {pos : Pos} {E : Value → Shared → Prop} {Q : Value → Shared → Prop} (I : Inv X pins σ H s) (TB : TabB X.base X.mg c P) (hcode : X.env.code = .ref c) (hm : (P, X.env.qual ++ "<lambda>") ∈ T) (hu : ∀ p ∈ T, p.1 = P → p.2 = X.env.qual ++ "<lambda>")
    (hT : Tabs T H) (L : LamS2 X.N X.env.scope d.scope) (hd : DfOk H d.df dv) (h : ∀ (f : Addr) (H1 : Hp) (s' : Shared), Inv X pins σ H1 s' → ExtN H H1 → Tabs T H1 → H f = none → LamAt X.env d f H1 → Q (.ref f) s') :
    wpAny (model X.prog X.w) X.A (makeTail "<lambda>" (X.env.qual ++ "<lambda>") d.ps (.expr d.body) d.scope X.env dv .none none pos pos.line) Q E s := by
  obtain ⟨ps, hP, ht, ha⟩ := hT _ hm
  have hP2 : s.heap.get? P = some { cls := .none, data := .fields ps } := I.hok P _ hP
  refine lam_tail (closure_ok (L.has I.ok)) I.ok.glob (I.mod.glob.keeps I.bk) hcode (TB.code.keeps I.bk) hP2 ht TB.gP (TB.bm.keeps I.bk) (fun cv ctv h' tk hc kp sz => ?_) (fun c' ctv h' tk hc hx ge lt hrec htb => ?_)
  · obtain ⟨c', e, hco⟩ := ha pos cv hc
    subst e
    have J : Inv X pins σ H { s with heap := h', toks := tk } := I.kept kp
    have nf : H h'.objs.size = none := I.hok.fresh sz
    have J2 := lamO_laid (env := X.env) (d := d) (c' := c') (dv := dv) (pm := (X.mg "__name__").getD .none) (ctv := ctv) J
    have sm := same_new (o := LamO X.env d c' dv h'.objs.size) nf
    exact h h'.objs.size _ _ J2 (ExtN.of sm) (hT.ext sm) nf ⟨c', dv, upd_same, sm _ _ hco, hd.keep fun b xs z => sm _ _ z⟩
  · obtain ⟨c2, oc, vs, t, e2, hoc, hdd, hv⟩ := hrec
    cases e2
    have nC : H c' = none := I.hok.fresh ge
    have nP : P ≠ c' := ne_of_none hP nC
    have J := inv_table (t' := tk) (q := X.env.qual ++ "<lambda>") (more := #[rawInt pos.line, rawInt pos.col, .ref c']) I hP hx htb ge ⟨oc, vs, t, hoc, hdd, hv⟩
    have J2 := lamO_laid (env := X.env) (d := d) (c' := c') (dv := dv) (pm := (X.mg "__name__").getD .none) (ctv := ctv) J
    obtain ⟨H2, eH2⟩ : ∃ H2, H2 = upd (upd H P (.tbl (ps ++ #[rawInt pos.line, rawInt pos.col, .ref c']))) c' (CodeO c' (X.env.qual ++ "<lambda>")) := ⟨_, rfl⟩
    rw [← eH2] at J2
    have n2 : H2 h'.objs.size = none := by
      rw [eH2, upd_ne (Nat.ne_of_gt lt), upd_ne (Nat.ne_of_gt (Nat.lt_of_lt_of_le (Heap.lt_size hP2) (Nat.le_of_lt (Nat.lt_of_le_of_lt ge lt))))]
      exact I.hok.fresh (Nat.le_of_lt (Nat.lt_of_le_of_lt ge lt))
    have sm := same_new (o := LamO X.env d c' dv h'.objs.size) n2
    have xE : ExtN H H2 := fun b o e n => by
      rw [eH2, upd_ne (ne_of_none e nC), upd_ne (fun z => n ps (Option.some.inj (e.symm.trans (by rw [z]; exact hP))))]
      exact e
    have hC2 : H2 c' = some (CodeO c' (X.env.qual ++ "<lambda>")) := by rw [eH2, upd_same]
    have hT2 : Tabs T H2 := tabs_at (c := c) hu hT ht hP xE (fun b ps' hb e => by rw [eH2, upd_ne (ne_of_none e nC), upd_ne hb]; exact e) (by rw [eH2, upd_ne nP, upd_same]) hC2
    refine h h'.objs.size _ _ J2 (xE.trans (ExtN.of sm)) (hT2.ext sm) (I.hok.fresh (Nat.le_of_lt (Nat.lt_of_le_of_lt ge lt))) ⟨c', dv, upd_same, sm _ _ hC2, hd.keep fun b xs z => ?_⟩
    exact sm _ _ (xE _ _ z fun _ w => by cases w)
theorem pe_lam {T : List (Addr × Str)} {c P : Addr} {d : LamD} {pos : Pos} (TB : TabB X.base X.mg c P) (hcode : X.env.code = .ref c) (hm : (P, X.env.qual ++ "<lambda>") ∈ T) (hu : ∀ p ∈ T, p.1 = P → p.2 = X.env.qual ++ "<lambda>")
    (L : LamS2 X.N X.env.scope d.scope) (hd : DefOk X.env d) : PE X (.Lambda d.ps d.body d.scope pos) (tMkLam T X.env d) := by
  refine ⟨fun pins s σ H Q I h => ?_⟩
  obtain ⟨hT, h⟩ := h
  obtain ⟨df, edf⟩ : ∃ df, df = d.df := ⟨_, rfl⟩
  have fin : ∀ (f : Addr) (H1 : Hp) (s' : Shared), Inv X pins σ H1 s' → ExtN H H1 → Tabs T H1 → H f = none → LamAt X.env d f H1 → EP X pins σ Q (.ref f) s' := fun f H1 s' I1 e t n l => ⟨.ref f, H1, I1, rfl, h f H1 e t n l⟩
  cases df with
  | none =>
    unfold DefOk at hd
    rw [← edf] at hd
    refine PySem.W.kla_eval hd ?_
    rw [makeFunction_eq]
    simp only [List.zip_nil_right, List.filterMap_nil, List.isEmpty_nil, if_true, pure_bind]
    exact lam_fin I TB hcode hm hu hT L (by rw [← edf]; rfl) fin
  | some x =>
    unfold DefOk at hd
    rw [← edf] at hd
    obtain ⟨j, p, hd⟩ := hd
    rw [arm_eval_Lambda, hd]
    refine wpAny_bind (wpAny_bind (thn (pe_int.run pins s σ H (fun v H1 => v = .int 0 ∧ H1 = H) I ⟨rfl, rfl⟩) fun u s1 ⟨v, H1, I1, r1, q1⟩ => wpAny_bind (wpAny_holding (wpAny_pure (wpAny_pure ?_)))))
    obtain ⟨ev, eH⟩ := q1
    subst ev
    rw [eH] at I1
    refine wpAny_bind (wpAny_holding (wpAny_pure ?_))
    rw [makeFunction_eq]
    simp only [List.zip_nil_right, List.filterMap_nil, List.isEmpty_nil, List.isEmpty_cons, Bool.false_eq_true, if_true, if_false, pure_bind]
    refine wpAny_bind (wpAny_newTextTuple ?_)
    have nT : H s1.heap.objs.size = none := I1.hok.fresh (Nat.le_refl _)
    have sm := same_new (o := .tup [.int 0]) nT
    have I2 : Inv X pins σ (upd H s1.heap.objs.size (.tup [.int 0])) { s1 with heap := s1.heap.push { cls := .type "tuple", data := .seq [u].toArray } } :=
      I1.laid (t' := s1.toks) (fun b o e => Heap.get?_push_of_some _ e) (Nat.le_refl _) ⟨by show 1 ≤ sizeLine; decide, [u], .cons r1 .nil, ⟨_, Heap.get?_push_size _ rfl, rfl, _, rfl⟩⟩
    exact lam_fin I2 TB hcode hm hu (hT.ext sm) L (by rw [← edf]; exact ⟨_, rfl, upd_same⟩) fun f H1 s' J e t n l => fin f H1 s' J ((ExtN.of sm).trans e) t (none_of' sm n) l
end
section
variable {X : Cx} {pins : List (Addr × Obj)} {σ : L2.St} {H HZ : Hp} {s s1 : Shared}
/-- the frame of the body: bs its own names -/
theorem lam_enter {A : Around} {outer : List Env} {E : XK} {scope : Scope} {f c' : Addr} {h1 : Heap} {tk : Nat} {bs : List (Str × Value)} (I : Inv X pins σ H s) (L : LamS2 X.N X.env.scope scope) (e0 : Env0 X.prog X.w X.K X.mg X.base A outer s1 HZ) (hA : A.handled = none)
    (un : Un (frs X.stack) [] H HZ s.heap s1.heap) (ns : h1.Ns s1.heap.objs.size fun y => bs.reverse.lookup y) (kp : ∀ b o, s1.heap.get? b = some o → h1.get? b = some o) :
    Inv (lamCx X A outer s1 HZ E scope f c') [] σ HZ { s1 with heap := h1, toks := tk } := by
  have up : ∀ {y c}, (cloFrom X.env.cells scope.names []).lookup y = some c → X.env.cells.lookup y = some c := fun {y c} e => by
    rcases cloFrom_mem (PySem.mem_of_lookup e) with z | ⟨z1, z2⟩
    · cases z
    · obtain ⟨c1, hc⟩ := L.has I.ok _ z1 rfl
      have hc : X.env.cells.lookup y = some c1 := hc
      rw [z2, hc]
      rfl
  have isC : ∀ {c : Addr} {v : Option Value}, H c = none → s.heap.IsCell c v → h1.IsCell c v := fun {c v} n ⟨o, ho, hv⟩ => by
    obtain ⟨sl, z⟩ := un.any ho n (by simp)
    exact ⟨_, kp _ _ z, hv⟩
  have noA : ∀ b : Addr, b ∉ (lamCx X A outer s1 HZ E scope f c').ex := fun b z => absurd (show b ∈ ([] : List Addr) from z) (by simp)
  have cap : ∀ {y}, scope.names.lookup y = some .free → ∃ c, (cloFrom X.env.cells scope.names []).lookup y = some c := fun {y} hl =>
    mem_lookup (cloFrom_has (cells := X.env.cells) (acc := []) (PySem.mem_of_lookup hl))
  have okL : (lamCx X A outer s1 HZ E scope f c').Ok := by
    refine ⟨e0.mod, L.kind, rfl, rfl, Nat.le_refl _, fun y z c a b => I.ok.inj y z c (up a) (up b), fun y hy => ?_, fun y c z _ => ?_, fun _ => hA, Around.frames_deeper e0.frames, .inr ⟨rfl, rfl⟩, fun b z => absurd z (noA b), e0.bs, e0.bsz, fun b _ _ => noA b, fun b z => absurd z (noA b), e0.funs, e0.frf⟩
    · rcases (show scope.names.lookup y = some .cell ∨ scope.names.lookup y = some .free from hy) with k | k
      · exact absurd rfl (L.own _ (PySem.mem_of_lookup k)).1
      · exact cap k
    · have z : false = true := z
      cases z
  refine ⟨okL, rfl, e0.bare, Un.kept kp, ⟨_, ns, fun i y v a b hv => ?_⟩, fun y c e => ?_, e0.hok.fresh (Nat.le_refl _), fun y c e => ?_, fun p hp => absurd (show p ∈ ([] : List (Addr × Obj)) ++ [] from hp) (by simp), e0.hok.kept kp, I.len⟩
  · rcases (show Vis scope y from hv) with k | k | k
    · exact absurd (List.mem_of_getElem? (show X.N[i]? = some y from a)) ((L.own _ (PySem.mem_of_lookup k)).2 rfl)
    · exact absurd rfl (L.own _ (PySem.mem_of_lookup k)).1
    · obtain ⟨m, _, hl⟩ := I.loc
      have vis : Vis X.env.scope y := (L.free _ (PySem.mem_of_lookup k) rfl).elim (fun z => .inr (.inl z)) fun z => .inr (.inr z)
      obtain ⟨u, r, q⟩ := hl i y v a b vis
      obtain ⟨c2, e2⟩ := cap k
      refine ⟨u, r, .inr ⟨.inr k, c2, e2, ?_⟩⟩
      have c1 := up e2
      rcases q with ⟨loc, _⟩ | ⟨_, c3, e3, z⟩
      · rcases L.free _ (PySem.mem_of_lookup k) rfl with k2 | k2 <;> rw [show X.env.scope.names.lookup y = some .local from loc] at k2 <;> cases k2
      · rw [c1] at e3
        cases e3
        exact isC (I.freeC y _ c1) z
  · obtain ⟨u, z⟩ := I.cell y c (up e)
    exact ⟨u, isC (I.freeC y c (up e)) z⟩
  · obtain ⟨v, o, ho, hv⟩ := I.cell y c (up e)
    exact un.free c o ho (I.freeC y c (up e)) (by simp)
/-- the names that the call binds -/
theorem lam_binds {M : Model} {A : Around} {E : Value → Shared → Prop} {Q : List (Str × Value) → Shared → Prop} {d : LamD} {q : Str} {clo : List (Str × Addr)} {dv pm cv ctv : Value} (hb : BindOk d) (hk : HOk X.prog X.w HZ s1.heap) (hd : DfOk HZ d.df dv)
    (h : ∀ bs, (∀ y ∈ bs, d.scope.names.lookup y.1 = some .local) → Q bs s1) : wpAny M A (bindArgs (lamFn q d clo dv pm cv ctv) ⟨[], []⟩) Q E s1 := by
  obtain ⟨df, edf⟩ : ∃ df, df = d.df := ⟨_, rfl⟩
  unfold BindOk at hb
  rw [← edf] at hb hd
  cases df with
  | none =>
    have hd : dv = .none := hd
    rw [hd, hb]
    exact wpAny_pure (h [] fun y hy => by cases hy)
  | some x =>
    obtain ⟨td, e1, e2⟩ := hd
    obtain ⟨z, its, r, o, ho, hc, n, hdat⟩ := hk td _ e2
    obtain ⟨v, rfl⟩ : ∃ v, its = [v] := by
      have := r.length
      match its, this with
      | [v], _ => exact ⟨v, rfl⟩
    obtain ⟨k, b1, b2⟩ := hb.1 q clo td pm cv ctv v
    rw [e1, b1]
    refine wpAny_bind (wpAny_seqItems ho hdat ?_)
    rw [b2]
    exact wpAny_pure (h _ fun y hy => by
      rw [List.mem_singleton.mp hy]
      exact hb.2)
theorem pe_actG {CXg : CXT} {Eg : XK} {Ng : List Str} {qg : Str} {sg : Scope} {g f : Addr} {cdg : Value} {d : LamD} {k i : Nat} {a : Str} {pn : List (Addr × Obj)} {xe : Value → Shared → Prop} {W : WX} {tb : XK → TE} {p1 p2 : Pos}
    (I : Inv X pins σ H s) (L : LamS2 X.N X.env.scope d.scope) (hbo : BindOk d)
    (tk : Takes ((cxOf CXg X.prog X.w X.K X.mg X.base Ng qg sg g cdg X.A X.stack s H Eg).tr pn xe) W) (hr : Room (k + 1) (X.A.deeper (envOfC qg sg s.heap.objs.size g cdg)))
    (hbody : ∀ (E : XK) (A : Around) (outer : List Env) (s : Shared) (H : Hp) (c' : Addr), Room k (A.deeper (lamEnv X d.scope s.heap.objs.size f c')) → PE (lamCx X A outer s H E d.scope f c') d.body (tb E))
    (hN : Ng[i]? = some a) (hv : Vis sg a) (hd : (a == ("__debug__" : Str)) = false := by decide) (hcd : (a == ("__classdict__" : Str)) = false := by decide) :
    PE ((cxOf CXg X.prog X.w X.K X.mg X.base Ng qg sg g cdg X.A X.stack s H Eg).tr pn xe) (.Call (.Name a p1) [] [] p2)
      (fun σZ HZ Q => σZ[i]? = some (some (.ref f)) ∧ LamAt X.env d f HZ ∧ ∃ E : XK, (∀ cls d H', E cls d H' → W cls d σZ H') ∧ tb E σ HZ Q) := by
  refine ⟨fun pinsZ sZ σZ HZ Q IZ h => ?_⟩
  obtain ⟨hs, ⟨c', dv, h1, h2, h3⟩, E, hW, ht⟩ := h
  refine wpAny_Call_Name_kw (thn ((pe_var (pos := p1) (i := i) hN hv hd hcd).run pinsZ sZ σZ HZ (fun v H1 => v = .ref f ∧ H1 = HZ) IZ ⟨.ref f, hs, rfl, rfl⟩) fun u s1 ⟨v, H1, I1, r1, q1⟩ => ?_)
  obtain ⟨ev, eH⟩ := q1
  subst ev
  rw [eH] at I1
  obtain rfl : u = Value.ref f := r1
  obtain ⟨⟨pm, ctv, of1⟩, _, _⟩ := I1.hok f _ h1
  obtain ⟨⟨oc, vs, t, hoc, hdc, hvc⟩, _, _⟩ := I1.hok c' _ h2
  refine PySem.W.callWith_F0 ⟨_, _, _, _, of1⟩ ?_
  have un : Un (frs X.stack) [] H HZ s.heap s1.heap := I1.base
  have rc : codeAny (model X.prog X.w) (X.A.deeper (envOfC qg sg s.heap.objs.size g cdg)) (.call (.ref f) ⟨[], []⟩) (CR (L2.CX X.prog X.w) (envOfC qg sg s.heap.objs.size g cdg :: X.stack) X.prog X.w HZ s1 Q E) s1 := by
    refine PySem.W.kla_callFunE hr.depth of1 rfl L.co L.gen rfl ⟨c', oc, vs, t, rfl, hoc, hdc, hvc⟩ ?_
    refine lam_binds hbo I1.hok h3 fun bs hbs => ?_
    refine wpAny_newFunctionEnv (fun y hy => (L.own y hy).1) hbs (fun h₁ hns hsb => ⟨I1.nolimit.fresh _ hsb, ?_⟩) L.kind
    show codeAny _ _ (.expr d.body (lamEnv X d.scope s1.heap.objs.size f c')) _ _
    have kp : ∀ b o, s1.heap.get? b = some o → h₁.get? b = some o := fun b o e =>
      hsb.extBut b o (Nat.ne_of_lt (Heap.lt_size e)) (Heap.get?_push_of_some _ e)
    have J : Inv (lamCx X (X.A.deeper (envOfC qg sg s.heap.objs.size g cdg)) (envOfC qg sg s.heap.objs.size g cdg :: X.stack) s1 HZ E d.scope f c') [] σ HZ { s1 with heap := h₁, toks := s1.toks + bs.length } :=
      lam_enter I L I1.env0 hr.hd un hns kp
    refine PySem.W.kla_codeExpr (wpAny_mono ((hbody E _ _ s1 HZ c' (hr.deeper _)).run [] _ _ HZ Q J ht) (fun v s' hq => ?_) fun e s' hq => hq)
    obtain ⟨w', H', J', rv, q⟩ := hq
    exact ⟨w', H', J'.os, J'.bare, J'.base, J'.hok, rv, q⟩
  refine wpAny_call (codeAny_mono rc fun r s' hq => ?_)
  cases r with
  | error e => exact tk e s' (XE.of_call I1 (fun cls d H' => hW cls d H') hq)
  | ok fl =>
    cases fl with
    | ret u => exact I1.after hq
    | next => exact False.elim hq
    | brk => exact False.elim hq
    | cont => exact False.elim hq
end
section
variable {X : Cx}
/-- what is known where the block starts -/
structure BlkAt (X : Cx) (pins : List (Addr × Obj)) (σ : L2.St) (H : Hp) (s : Shared) (fp : List Addr) : Prop where
  inv : Inv X pins σ H s
  fps : ∀ b ∈ fp, FpOk X pins H b ∧ b < s.heap.objs.size
theorem BlkAt.back {pins pins' : List (Addr × Obj)} {σ σ' : L2.St} {H H' : Hp} {s s' : Shared} {fp : List Addr} {scope : Scope} {ce : Env} (B : BlkAt X pins σ H s fp) (J : Inv (X.blk s H scope ce fp) pins' σ' H' s') : Inv X pins σ H' s' :=
  B.inv.call' (ch := fp) J.os J.base J.hok J.bare fun b hb => by
    obtain ⟨_, z1, _, z3, z4, z5⟩ := (B.fps b hb).1
    exact ⟨z3, z1, z4, z5⟩
def tLcI (wi : TI) (g : TG) (tt : TT) (te : L2.St → TE) (vs : List Nat) : TE := fun σ H Q => tLc wi g tt (te σ) vs σ H Q
theorem pe_lcI {elt tg iter : Expr} {ifs : List Expr} {scope : Scope} {own : List (Str × Nat)} {pos : Pos} {wi : TI} {g : TG} {tt : TT} {te : L2.St → TE} (hc : X.calm = true) (hN : X.N.Nodup) (hi : PI X tg iter wi) (ok : BlkOk X.N X.env.scope scope own)
    (hg : ∀ (s : Shared) (H : Hp) (C : Addr) (cl : List (Str × Addr)) (fp : List Addr), PG (X.blk s H scope (compEnvC scope cl C X.env) fp) tg g)
    (ht : ∀ (s : Shared) (H : Hp) (C : Addr) (cl : List (Str × Addr)) (fp : List Addr), PTs (X.blk s H scope (compEnvC scope cl C X.env) fp) ifs tt)
    (he : ∀ (s : Shared) (H : Hp) (C : Addr) (cl : List (Str × Addr)) (fp : List Addr) (pins : List (Addr × Obj)) (σ : L2.St), BlkAt X pins σ H s fp → PE (X.blk s H scope (compEnvC scope cl C X.env) fp) elt (te σ))
    (hs : ∀ x, foldedSetIterable iter X.env x = pure x := by intro _; rfl) :
    PE X (.ListComp elt [⟨tg, iter, ifs, 0⟩] scope pos) (tLcI wi g tt te (own.map (·.2))) := by
  refine ⟨fun pins s σ H Q I h => ?_⟩
  rw [eval_ListComp]
  have hfree : ∀ y ∈ scope.names, y.2 = .free → ∃ c, X.env.cells.lookup y.1 = some c := fun y hy e => (ok.free y hy e).elim (fun k => I.ok.has _ (.inl k)) fun k => I.ok.has _ (.inr k)
  refine wpAny_comprehension_free (use := none) rfl hs (closure_ok hfree) ok.kind (fun y hy e => by rw [ok.uniq y hy, e]) (thn (hi.run pins s σ H _ I h) fun xv s1 hx => thn hx fun itv s2 h2 => ?_)
  obtain ⟨it, fp, tn, J, H2, ei, I2, T, st2, f2, q⟩ := h2
  subst ei
  refine wpAny_newObj_type (newEnv_comp ?_) (by show 0 ≤ sizeLine; decide)
  obtain ⟨D, hD⟩ : ∃ D, D = s2.heap.objs.size := ⟨_, rfl⟩
  rw [← hD]
  obtain ⟨W, ⟨m0, w0⟩, turn⟩ := q D (I2.hok.fresh (Nat.le_of_eq hD.symm))
  -- the list is laid
  obtain ⟨s3, hs3⟩ : ∃ s3 : Shared, s3 = { s2 with heap := s2.heap.push { cls := .type "list", data := .seq ([] : List Value).toArray } } := ⟨_, rfl⟩
  have h3 : s3.heap = s2.heap.push { cls := .type "list", data := .seq ([] : List Value).toArray } := congrArg Shared.heap hs3
  have I3 : Inv X pins σ (upd H2 D (.lst [])) s3 := by
    rw [hs3, hD]
    exact I2.laid (t' := s2.toks) (fun b o e => Heap.get?_push_of_some _ e) (Nat.le_refl _) ⟨Nat.zero_le _, [], 0, .nil, Heap.get?_push_size _ rfl⟩
  have f3 : ∀ b ∈ fp, FpOk X pins (upd H2 D (.lst [])) b ∧ b < s3.heap.objs.size := fun b hb => by
    obtain ⟨o, eo, _⟩ := T.obj _ _ st2 b hb
    have lt : b < s2.heap.objs.size := Heap.lt_size eo
    refine ⟨⟨(upd_ne (Nat.ne_of_lt (hD ▸ lt))).trans (f2 b hb).1, (f2 b hb).2⟩, ?_⟩
    rw [h3, Heap.size_push]
    exact Nat.lt_succ_of_lt lt
  have st3 : tn 0 s3.heap := T.keep _ _ _ st2 fun b _ o e => h3 ▸ Heap.get?_push_of_some _ e
  have I4 := block_start I3 ok hN f3
  obtain ⟨H3, hH3⟩ : ∃ H3, H3 = upd H2 D (.lst []) := ⟨_, rfl⟩
  rw [← hH3] at I3 f3 I4 w0
  have B3 : BlkAt X pins σ H3 s3 fp := ⟨I3, f3⟩
  obtain ⟨cl, hcl⟩ : ∃ cl, cl = cellsFrom (s3.heap.objs.size + 1) scope.names (cloFrom X.env.cells scope.names []) := ⟨_, rfl⟩
  rw [← hcl] at I4
  have pg := hg s3 H3 s3.heap.objs.size cl fp
  have pt := ht s3 H3 s3.heap.objs.size cl fp
  have pe := he s3 H3 s3.heap.objs.size cl fp pins σ B3
  have goal0 : codeAny (model X.prog X.w) X.A (.compStart (.ListComp elt [⟨tg, iter, ifs, 0⟩] scope pos) 0 (.ref it) (.ref D) (compEnvC scope cl s3.heap.objs.size X.env)) (compPost (model X.prog X.w) X.A X.xe none (EP X pins σ Q) (.ref D) s3.heap.objs.size) { s3 with heap := pushCells (s3.heap.push { cls := .type "dict", data := .dict #[] }) scope.names } → _ := fun z => z
  rw [hcl, h3, hs3] at goal0
  refine goal0 ?_
  rw [← hs3, ← h3, ← hcl]
  have hnp : ∀ b ∈ fp, H3 b = none := fun b hb => (f3 b hb).1.1
  obtain ⟨ce, hce⟩ : ∃ ce, ce = compEnvC scope cl s3.heap.objs.size X.env := ⟨_, rfl⟩
  rw [← hce] at pg pt pe I4 ⊢
  have cL : ce.locals = s3.heap.objs.size := by
    rw [hce] <;> rfl
  obtain ⟨s4, hs4⟩ : ∃ s4 : Shared, s4 = { s3 with heap := pushCells (s3.heap.push { cls := .type "dict", data := .dict #[] }) scope.names } := ⟨_, rfl⟩
  rw [← hs4] at I4 ⊢
  have st4 : tn 0 s4.heap := T.keep _ _ _ st3 fun b _ o e => by
    rw [hs4]
    exact pushCells_keeps _ _ _ _ (Heap.get?_push_of_some _ e)
  have stat : ∀ {σ' : L2.St} {H' : Hp} {s' : Shared}, Inv (X.blk s3 H3 scope ce fp) [] σ' H' s' → (∀ b ∈ fp, H' b = none) → ∀ b ∈ fp, FpOk (X.blk s3 H3 scope ce fp) [] H' b := fun {σ' H' s'} J hn b hb =>
    ⟨hn b hb, (J.ok.exf b hb).1, J.ok.exfs b hb, .inl hb, fun x c e => (J.ok.exf b hb).2 x c e, fun p hp => absurd (show p ∈ ([] : List (Addr × Obj)) ++ [] from hp) (by simp)⟩
  have loop : codeAny (model X.prog X.w) X.A (.compLoop (.ListComp elt [⟨tg, iter, ifs, 0⟩] scope pos) 0 (.ref it) (.ref D) ce) (compPost (model X.prog X.w) X.A X.xe none (EP X pins σ Q) (.ref D) s3.heap.objs.size) s4 := by
    refine compLoop_any (fun n s' => ∃ i H', Inv (X.blk s3 H3 scope ce fp) [] (wipe σ (own.map (·.2))) H' s' ∧ tn i s'.heap ∧ (∀ b ∈ fp, H' b = none) ∧ W i n H') ?_ m0 ⟨0, H3, I4, st4, hnp, w0⟩
    rintro n s5 ⟨i, H5, I5, st5, n5, w5⟩
    rcases turn i n H5 w5 with ⟨stop, qq⟩ | ⟨go, Nx, hNx, step⟩
    · refine thnF (T.done (X.blk s3 H3 scope ce fp) rfl rfl rfl hc i [] s5 _ H5 (fun _ _ => False) I5 (stat I5 n5) st5 stop) fun r s6 ⟨hr, I6⟩ => ?_
      subst hr
      have I7 : Inv X pins σ H5 s6 := B3.back I6
      have nC : H5 s3.heap.objs.size = none := cL ▸ (show H5 ce.locals = none from I6.free)
      obtain ⟨m, hm, _⟩ := I6.loc
      have hm2 : s6.heap.Ns s3.heap.objs.size m := cL ▸ (show s6.heap.Ns ce.locals m from hm)
      obtain ⟨z0, z1, z2, z3, z4, z5⟩ := I3.fpOk (Nat.le_refl _) nC
      exact ⟨m, hm2, fun h'' sb => ⟨.ref D, H5, I7.turned (t' := s6.toks) (fun b o hb e => (sb.2 b hb).trans e) z0 z1 z3 z4 z5, rfl, qq⟩⟩
    · refine thnF (T.item (X.blk s3 H3 scope ce fp) rfl rfl rfl hc i [] s5 _ H5 (fun _ _ => False) I5 (stat I5 n5) st5 go) fun r s6 ⟨u, hr, h6⟩ => ?_
      subst hr
      refine thnF h6 fun _ s7 ⟨x, H7, I7, r7, y7, st7, n7⟩ => ?_
      refine thnF (pg.run _ s7 _ H7 x u _ (I7.pinned (stat I7 n7) (T.obj _ _ st7)) r7 (step x H7 y7)) fun _ s8 ⟨σ8, H8, I8, hw8, q8⟩ => ?_
      refine thnF (pt.run _ s8 σ8 H8 _ I8 q8) fun b s9 ⟨H9, I9, q9⟩ => ?_
      have fin : ∀ {s' : Shared} {H' : Hp}, Inv (X.blk s3 H3 scope ce fp) ([] ++ pinsAt fp s7.heap) σ8 H' s' → Nx H' → ∃ m, m < n ∧ ∃ i H', Inv (X.blk s3 H3 scope ce fp) [] (wipe σ (own.map (·.2))) H' s' ∧ tn i s'.heap ∧ (∀ b ∈ fp, H' b = none) ∧ W i m H' := fun {s' H'} J nx => by
        obtain ⟨m', lm, w'⟩ := hNx H' nx
        have pin' : ∀ b ∈ fp, ∀ o, s7.heap.get? b = some o → s'.heap.get? b = some o ∧ H' b = none := fun b hb o e => ⟨(J.pin (b, o) (List.mem_append_right _ (List.mem_append_right _ (mem_pinsAt hb e)))).1, (J.pin (b, o) (List.mem_append_right _ (List.mem_append_right _ (mem_pinsAt hb e)))).2.1⟩
        refine ⟨m', lm, i + 1, H', (J.unpinned (pins := [])).weak (by rw [← hw8, wipe_length]) (fun j v e => (wipe_some (hw8 ▸ e)).1), T.keep _ _ _ st7 fun b hb o e => (pin' b hb o e).1, fun b hb => ?_, w'⟩
        obtain ⟨o, e, _⟩ := T.obj _ _ st7 b hb
        exact (pin' b hb o e).2
      cases b with
      | false =>
        simp only [Bool.false_eq_true, if_false] at q9 ⊢
        exact fin I9 q9
      | true =>
        simp only [if_true] at q9 ⊢
        refine thnF (pe.run _ s9 σ8 H9 _ I9 q9) fun z s10 ⟨yk, H10, I10, r10, acc, hD10, hz10, nx⟩ => ?_
        exact app_ok (X := X.blk s3 H3 scope ce fp) I10 hD10 hz10 r10 fun s12 I12 => fin I12 nx
  exact codeAny_compStart_list loop (T.self X.A 0 _ _ _ st4 loop)
end
/-- Gd: what is known of the lambda's objects -/
def GivesG (X : Cx) (Ng : List Str) (x : Str) (sg : Scope) (g : Addr) (cdg : Value) (bg : List Stmt) (TT : (XK → Hp → VK → Prop) → Hp → VK → Prop) (a : Str) : Prop :=
  ∀ (f : Addr) (Gd : Hp → Prop) (s : Shared) (H : Hp) (Q : VK) (tl : XK → Hp → VK → Prop), (∀ H H', Same H H' → Gd H → Gd H') →
    (∀ (W : WX) (pn : List (Addr × Obj)) (xe : Value → Shared → Prop) (p1 p2 : Pos), Takes ((cxOf CX0 X.prog X.w X.K X.mg X.base Ng x sg g cdg X.A X.stack s H E0).tr pn xe) W →
      PE ((cxOf CX0 X.prog X.w X.K X.mg X.base Ng x sg g cdg X.A X.stack s H E0).tr pn xe) (.Call (.Name a p1) [] [] p2) (fun σZ HZ Q => σZ[0]? = some (some (.ref f)) ∧ Gd HZ ∧ ∃ E : XK, (∀ cls d H', E cls d H' → W cls d σZ H') ∧ tl E HZ Q)) →
    Gd H → TT tl H Q → ∃ t, PSs (cxOf CX0 X.prog X.w X.K X.mg X.base Ng x sg g cdg X.A X.stack s H E0).nox bg t ∧ t { nx := fun _ H' => Q .non H', rt := Q } (L2.start Ng [.ref f]) H
theorem GivesG.s {X : Cx} {Ng : List Str} {x : Str} {sg : Scope} {g : Addr} {cdg : Value} {bg : List Stmt} {TT : (XK → Hp → VK → Prop) → Hp → VK → Prop} {a q : Str} (h : GivesG X Ng x sg g cdg bg TT a) : GivesS X Ng x sg g cdg bg a q TT :=
  fun f c' s H Q tl act hc ht => h f (fun H => H c' = some (CodeO c' q)) s H Q tl (fun _ _ e z => e _ _ z) act hc ht
/-- the lambdas that may come, each with its body's reading -/
def FamOk (X : Cx) (k : Nat) (fam : List (LamD × (XK → TE))) : Prop := ∀ q ∈ fam, LamS2 X.N X.env.scope q.1.scope ∧ BindOk q.1 ∧
  ∀ (A : Around) (outer : List Env) (s : Shared) (H : Hp) (E : XK) (f c' : Addr), Room k (A.deeper (lamEnv X q.1.scope s.heap.objs.size f c')) → PE (lamCx X A outer s H E q.1.scope f c') q.1.body (q.2 E)
/-- x(y), y a lambda of the family; σ: the maker's slots -/
def tLamV (env : Env) (fam : List (LamD × (XK → TE))) (TT : (XK → Hp → VK → Prop) → Hp → VK → Prop) (j : Nat) (σ0 : L2.St) : TE := fun σ H Q => ∃ f, σ[j]? = some (some (.ref f)) ∧ ∃ q ∈ fam, LamAt env q.1 f H ∧ TT (fun E H' Q' => q.2 E σ0 H' Q') H Q
section
variable {X : Cx} {pins : List (Addr × Obj)} {σ : L2.St} {H : Hp} {s : Shared}
theorem call_kept {TT : (XK → Hp → VK → Prop) → Hp → VK → Prop} {x a : Str} {g f : Addr} {k : Nat} {pg : Arguments} {bg : List Stmt} {sg : Scope} {dV kV doc pm cdv ct oc : Value} {an od : Option Addr} {osl : Array (Option Value)} {Ng : List Str} {fam : List (LamD × (XK → TE))} {q : LamD × (XK → TE)} {Q : VK}
    (I : Inv X pins σ H s) (lk : X.K.lookup g = some ⟨oc, od, .func (PySem.W.fnOf x x pg bg sg dV kV doc pm an cdv ct), osl⟩) (hcg : PySem.W.codeIn X.K cdv x = true) (hb : L2.Binds X.K (PySem.W.fnOf x x pg bg sg dV kV doc pm an cdv ct) [a] []) (Sg : FnScope Ng [a] sg) (hNg : Ng[0]? = some a) (hva : Vis sg a)
    (hG : GivesG X Ng x sg g cdv bg TT a) (hr : Room (k + 2) X.A) (hF : FamOk X k fam) (hq : q ∈ fam) (hl : LamAt X.env q.1 f H) (ht : TT (fun E H' Q' => q.2 E σ H' Q') H Q) (hd : (a == ("__debug__" : Str)) = false) (hcd : (a == ("__classdict__" : Str)) = false) :
    codeAny (model X.prog X.w) X.A (.call (.ref g) ⟨[.ref f], []⟩) (CR CX0 X.stack X.prog X.w H s Q E0) s := by
  obtain ⟨L, bo, body⟩ := hF q hq
  refine run_ofS (N := Ng) (ps := [a]) (us := [.ref f]) (vs := [.ref f]) lk hcg Sg hr I.env0 (hb s [.ref f] I.kIn rfl) (.cons rfl .nil) rfl fun hr' => ?_
  obtain ⟨t', ht', hq'⟩ := hG f (LamAt X.env q.1 f) s H Q (fun E H' Q' => q.2 E σ H' Q') (fun _ _ e z => z.same e) (fun W pn xe p1 p2 tk => pe_actG (i := 0) I L bo tk hr' (fun E A outer s H c' hr2 => body A outer s H E f c' hr2) hNg hva hd hcd) hl ht
  exact ⟨t', ht'.nox, hq'⟩
/-- the same within a comprehension's block -/
theorem pe_keptB {TT : (XK → Hp → VK → Prop) → Hp → VK → Prop} {x a y : Str} {g : Addr} {k j : Nat} {pg : Arguments} {bg : List Stmt} {sg : Scope} {dV kV doc pm cdv ct oc : Value} {an od : Option Addr} {osl : Array (Option Value)} {Ng : List Str} {fam : List (LamD × (XK → TE))} {fp : List Addr} {scope : Scope} {ce : Env} {p py pos : Pos}
    (B : BlkAt X pins σ H s fp) (hg : Gl (X.blk s H scope ce fp) x) (hm : X.mg x = some (.ref g)) (hk : PySem.W.keepIn X.K (.ref g) = true) (lk : X.K.lookup g = some ⟨oc, od, .func (PySem.W.fnOf x x pg bg sg dV kV doc pm an cdv ct), osl⟩) (hcg : PySem.W.codeIn X.K cdv x = true)
    (hb : L2.Binds X.K (PySem.W.fnOf x x pg bg sg dV kV doc pm an cdv ct) [a] []) (Sg : FnScope Ng [a] sg) (hNg : Ng[0]? = some a) (hva : Vis sg a) (hG : GivesG X Ng x sg g cdv bg TT a) (hr : Room (k + 2) X.A) (hF : FamOk X k fam) (hy : PE (X.blk s H scope ce fp) (.Name y py) (tVar j))
    (hdb : (x == ("__debug__" : Str)) = false := by decide) (hd : (a == ("__debug__" : Str)) = false := by decide) (hcd : (a == ("__classdict__" : Str)) = false := by decide) :
    PE (X.blk s H scope ce fp) (.Call (.Name x p) [.Name y py] [] pos) (tLamV X.env fam TT j σ) := by
  refine ⟨fun pins' s' σ' H' Q J h => ?_⟩
  obtain ⟨f, hj, q, hq, hl, ht⟩ := h
  refine wpAny_Call_Name_kw (ld_glob J hg hm ?_ hdb)
  refine PySem.W.callWith_K (h₀ := X.base) J.ok.mod.kin hk ?_ (by rfl) (by rfl)
  show wpAny _ _ (spliced ((false, eval (.Name y py) ce) :: backTo pos (starEach [] ce))) _ _ s'
  refine Calls.spliced_cons (thn (hy.run pins' s' σ' H' (fun v H1 => v = .ref f ∧ H1 = H') J ⟨.ref f, hj, rfl, rfl⟩) fun u s1 ⟨v, H1, J1, r1, e1, e2⟩ => ?_)
  subst e1
  rw [e2] at J1
  obtain rfl : u = Value.ref f := r1
  refine Calls.spliced_nil ⟨J1.kIn, ?_⟩
  have rc := call_kept (B.back J1) lk hcg hb Sg hNg hva hG hr hF hq hl ht hd hcd
  refine wpAny_call (codeAny_mono rc fun r s2 z => ?_)
  cases r with
  | error e => exact (show False from z).elim
  | ok fl =>
    cases fl with
    | ret u => exact J1.after z
    | next => exact False.elim z
    | brk => exact False.elim z
    | cont => exact False.elim z
end
def kids : Stmt → List Stmt
  | .For _ _ b e _ => b ++ e
  | .While _ b e _ => b ++ e
  | .If _ b e _ => b ++ e
  | _ => []
def stAt (b : List Stmt) : List Nat → Stmt
  | [] => .Pass ⟨0, 0, 0, 0⟩
  | [i] => b.getD i (.Pass ⟨0, 0, 0, 0⟩)
  | i :: r => stAt (kids (b.getD i (.Pass ⟨0, 0, 0, 0⟩))) r
def noE : Expr := .Name "" ⟨0, 0, 0, 0⟩
def stE : Stmt → Expr
  | .Assign _ v _ => v
  | .Expr v _ => v
  | .Return (some v) _ => v
  | .If t _ _ _ => t
  | _ => noE
def exKids : Expr → List Expr
  | .List es _ => es
  | .Tuple es _ _ => es
  | .BinOp a _ b _ => [a, b]
  | .Call f as _ _ => f :: as
  | .Dict _ vs _ => vs
  | .Compare a _ bs _ => a :: bs
  | .BoolOp _ vs _ => vs
  | .UnaryOp _ v _ => [v]
  | .Subscript a b _ => [a, b]
  | .ListComp e gs _ _ => e :: (gs.map fun g => g.iter) ++ (gs.map fun g => g.ifs).flatten
  | .DictComp k v gs _ _ => k :: v :: (gs.map fun g => g.iter) ++ (gs.map fun g => g.ifs).flatten
  | .IfExp a b c _ => [a, b, c]
  | .Attribute e _ _ => [e]
  | _ => []
def exAt (e : Expr) : List Nat → Expr
  | [] => e
  | i :: r => exAt ((exKids e).getD i noE) r
def lamOf (df : Option Str) : Expr → LamD
  | .Lambda ps body scope _ => ⟨ps, body, scope, df⟩
  | _ => ⟨{ posonlyargs := [], args := [], vararg := none, kwonlyargs := [], kw_defaults := [], kwarg := none, defaults := [] }, noE, defScope (.Pass ⟨0, 0, 0, 0⟩), df⟩
/-- a comprehension's own scope -/
def compSc : Expr → Scope
  | .ListComp _ _ sc _ => sc
  | .DictComp _ _ _ sc _ => sc
  | _ => defScope (.Pass ⟨0, 0, 0, 0⟩)
def compAt (b : List Stmt) (p q : List Nat) : Scope := compSc (exAt (stE (stAt b p)) q)
def lamAt (b : List Stmt) (p q : List Nat) (df : Option Str) : LamD := lamOf df (exAt (stE (stAt b p)) q)
theorem famN {X : Cx} {k : Nat} : FamOk X k [] := fun _ h => by cases h
theorem famC {X : Cx} {k : Nat} {d : LamD} {t : XK → TE} {fam : List (LamD × (XK → TE))} (L : LamS2 X.N X.env.scope d.scope) (b : BindOk d)
    (body : ∀ (A : Around) (outer : List Env) (s : Shared) (H : Hp) (E : XK) (f c' : Addr), Room k (A.deeper (lamEnv X d.scope s.heap.objs.size f c')) → PE (lamCx X A outer s H E d.scope f c') d.body (t E)) (r : FamOk X k fam) : FamOk X k ((d, t) :: fam) := fun q hq => by
  rcases List.mem_cons.mp hq with e | h
  · subst e
    exact ⟨L, b, body⟩
  · exact r q h
end CT
namespace CT
open PySem L2
/-- the bound of the numbers at hand -/
def Big (z : Int) : Prop := z.natAbs < 2 ^ 4000
theorem Big.le {i j : Int} (b : Big j) (h : i.natAbs ≤ j.natAbs) : Big i := Nat.lt_of_le_of_lt h b
theorem Big.abs {i : Int} (b : Big i) : Big (if i < 0 then -i else i) := Big.le b (by split <;> omega)
theorem big_small {z : Int} {n : Nat} (h : z.natAbs < 2 ^ n) (hn : n ≤ 4000) : Big z := Nat.lt_of_lt_of_le h (Nat.pow_le_pow_right (by decide) hn)
end CT
namespace CT
open PySem L2
def den (t u : Int) : Int := if u < 0 then -(Int.gcd t u : Int) else (Int.gcd t u : Int)
end CT
namespace CT
theorem nz (j : Int) (h : j ≠ 0 := by decide) : j ≠ 0 := h
end CT
namespace CT
open PySem L2
end CT
namespace CT
open PySem L2
end CT
namespace CT
open PySem L2
/-- a bound whose products stay below the other one -/
def Mid (z : Int) : Prop := z.natAbs < 2 ^ 1500
theorem Mid.big {z : Int} (h : Mid z) : Big z := big_small h (by decide)
theorem Mid.of {z : Int} {n : Nat} (h : z.natAbs < 2 ^ n) (hn : n ≤ 1500 := by decide) : Mid z := Nat.lt_of_lt_of_le h (Nat.pow_le_pow_right (by decide) hn)
end CT
namespace CT
open PySem PySem.Spec PySem.Calls PyProof.Rows L2
end CT
namespace CT
/-- the last figure is not zero -/
def LastNz (ds : List Nat) : Prop := ∀ l d, ds = l ++ [d] → d ≠ 0
theorem LastNz.tail {l r : List Nat} (h : LastNz (l ++ r)) : LastNz r := fun k d e => h (l ++ k) d (by rw [e, List.append_assoc])
end CT
namespace CT
open PySem PySem.Spec PySem.Calls PyProof.Rows L2
abbrev S (l : List Nat) : Str := SX.S l
theorem S_len (l : List Nat) : (S l).length = l.length := SX.S_len l
theorem occ_sign {l : List Nat} {j c : Nat} (nd : l.Nodup) (h : l[j]? = some c) : ∃ rest, Builtin.Str.occurrences (S l) ⟨#[c]⟩ 0 (S l).length 1 = j :: rest := by
  have f := StrLaws.found_one (S l) c
  have m : c ∈ (S l).cps.toList := List.mem_of_getElem? h
  rw [decide_eq_true m] at f
  obtain ⟨g, ch⟩ := StrLaws.occ_chain (S l) ⟨#[c]⟩ 1
  cases e : Builtin.Str.occurrences (S l) ⟨#[c]⟩ 0 (S l).length 1 with
  | nil =>
    rw [e] at f
    cases f
  | cons i r =>
    rw [e] at ch
    have at_ := ch.2.1
    have q := (StrLaws.subAt_one (S l) c i).mp ⟨at_.1, at_.2⟩
    have q2 : l[i]? = some c := q
    have hi := (List.getElem?_eq_some_iff.mp q2).1
    have hj := (List.getElem?_eq_some_iff.mp h).1
    have ev : l[i] = l[j] := by rw [(List.getElem?_eq_some_iff.mp q2).2, (List.getElem?_eq_some_iff.mp h).2]
    have ei : i = j := by
      rcases Nat.lt_trichotomy i j with z | z | z
      · exact absurd ev (List.pairwise_iff_getElem.mp nd i j hi hj z)
      · exact z
      · exact absurd ev.symm (List.pairwise_iff_getElem.mp nd j i hj hi z)
    rw [ei]
    exact ⟨r, rfl⟩
/-- the sign of a figure -/
def sg (l : List Nat) (d : Nat) : Nat := l.getD (d - 1) 0
end CT
namespace CT
open PySem PySem.Spec PySem.Calls PyProof.Rows L2
end CT
namespace CT
end CT
namespace CT
end CT
namespace CT
open PySem PySem.Spec PySem.Calls PyProof.Rows L2
end CT
namespace CT
open PySem PySem.Spec PySem.Calls PyProof.Rows L2
theorem relS {mg : Str → Option Value} {x z : Str} (h : ∃ t, mg x = some (.str z t)) : ∃ u, mg x = some u ∧ RelV (.str z) u := by
  obtain ⟨t, e⟩ := h
  exact ⟨_, e, t, rfl⟩
theorem relI {mg : Str → Option Value} {x : Str} {i : Int} (h : ∃ t, mg x = some (.int i t)) : ∃ u, mg x = some u ∧ RelV (.int i) u := by
  obtain ⟨t, e⟩ := h
  exact ⟨_, e, t, rfl⟩
end CT
namespace CT
open PySem PySem.Spec PySem.Calls PyProof.Rows L2
end CT
namespace CT
open PySem PySem.Spec PySem.Calls PyProof.Rows L2
end CT
namespace CT
open PySem PySem.Spec PySem.Calls PyProof.Rows L2
end CT
namespace CT
open PySem PySem.Spec PySem.Calls PyProof.Rows L2
end CT
namespace CT
open PySem PySem.Spec PySem.Calls PyProof.Rows L2
end CT
namespace CT
open PySem PySem.Spec PySem.Calls PyProof.Rows L2
end CT
namespace CT
open PySem PySem.Spec PySem.Calls PyProof.Rows L2
end CT
namespace CT
open PySem PySem.Spec PySem.Calls PyProof.Rows L2
end CT
namespace CT
open PySem PySem.Spec PySem.Calls PyProof.Rows L2
end CT
namespace CT
open PySem PySem.Spec PySem.Calls PyProof.Rows L2
end CT
namespace CT
open PySem PySem.Spec PySem.Calls PyProof.Rows L2
end CT
namespace CT
open PySem PySem.Spec PySem.Calls PyProof.Rows L2
section
variable {X : Cx}
/-- a text, some times -/
theorem op_repS : OpR X (binaryOp .Mult) (fun x y H Q => ∃ z n, x = .str z ∧ y = .int n ∧ MulOk z n ∧ Q (.str (Txt.mul z n)) H) := by
  intro pins s σ H x y v u Q I rx ry h
  obtain ⟨z, n, rfl, rfl, hz, q⟩ := h
  obtain ⟨t, rfl⟩ := rx
  obtain ⟨t', rfl⟩ := ry
  exact PySem.SB.mul hz (fun t' tk => ⟨.str (Txt.mul z n), H, I.tok _, ⟨_, rfl⟩, q⟩)
end
theorem mulOk_small {x : Str} {n : Int} (h1 : x.length ≤ 1000) (h2 : 0 ≤ n) (h3 : n ≤ 1000) : MulOk x n := mulOk_of 1000 1000 h1 h3 (by omega) (by decide) (by decide)
end CT
namespace CT
open PySem PySem.Spec PySem.Calls PyProof.Rows L2 He
def toldD (t : Str × V) : PyData := .tuple [.str t.1, toData t.2]
def okT (t : Str × V) : Bool := okData (.str t.1) && okData t.2
/-- the tuples at these addresses tell so -/
def ToldL (K : PySem.W.Frag) (H : Hp) : List Addr → List (Str × V) → Prop
  | [], [] => True
  | a :: as, t :: ts => SqT K H a [.str t.1, t.2] ∧ okT t = true ∧ ToldL K H as ts
  | _, _ => False
theorem ToldL.len {K : PySem.W.Frag} {H : Hp} : ∀ {as : List Addr} {ts : List (Str × V)}, ToldL K H as ts → as.length = ts.length
  | [], [], _ => rfl
  | _ :: _, _ :: _, h => congrArg Nat.succ (ToldL.len h.2.2)
theorem ToldL.same {K : PySem.W.Frag} {H H' : Hp} (e : Same H H') : ∀ {as : List Addr} {ts : List (Str × V)}, ToldL K H as ts → ToldL K H' as ts
  | [], [], _ => trivial
  | _ :: _, _ :: _, h => ⟨sqT_same e h.1, h.2.1, ToldL.same e h.2.2⟩
theorem ToldL.but {K : PySem.W.Frag} {H H' : Hp} (e : ∀ b xs, SqT K H b xs → SqT K H' b xs) : ∀ {as : List Addr} {ts : List (Str × V)}, ToldL K H as ts → ToldL K H' as ts
  | [], [], _ => trivial
  | _ :: _, _ :: _, h => ⟨e _ _ h.1, h.2.1, ToldL.but e h.2.2⟩
theorem ToldL.app {K : PySem.W.Frag} {H : Hp} : ∀ {as bs : List Addr} {ts us : List (Str × V)}, ToldL K H as ts → ToldL K H bs us → ToldL K H (as ++ bs) (ts ++ us)
  | [], _, [], _, _, h => h
  | _ :: _, _, _ :: _, _, h, h2 => ⟨h.1, h.2.1, ToldL.app h.2.2 h2⟩
theorem ToldL.rep {K : PySem.W.Frag} {H : Hp} {a : Addr} {t : Str × V} (h : SqT K H a [.str t.1, t.2]) (ht : okT t = true) : ∀ n, ToldL K H (List.replicate n a) (List.replicate n t)
  | 0 => trivial
  | n + 1 => ⟨h, ht, ToldL.rep h ht n⟩
theorem ToldL.dp {K : PySem.W.Frag} {H : Hp} : ∀ {as : List Addr} {ts : List (Str × V)}, ToldL K H as ts → DpAll K H (as.map V.ref) (ts.map toldD)
  | [], [], _ => .nil
  | _ :: _, t :: _, h => .cons (.tup h.1 (.cons (.str _) (.cons (dp_flat (Bool.and_eq_true_iff.mp h.2.1).2) .nil))) (ToldL.dp h.2.2)
theorem ToldL.ok {K : PySem.W.Frag} {H : Hp} : ∀ {as : List Addr} {ts : List (Str × V)}, ToldL K H as ts → ∀ t ∈ ts, okT t = true
  | [], [], _, _, ht => by cases ht
  | _ :: _, t :: _, h, u, hu => by
    rcases List.mem_cons.mp hu with e | e
    · rw [e]
      exact h.2.1
    · exact ToldL.ok h.2.2 u e
end CT
namespace CT
open PySem L2
theorem rat_self (q : Rat) : Rat.divInt q.num (q.den : Int) = q := Rat.num_divInt_den q
theorem divInt_one' (z : Int) : Rat.divInt z 1 = (z : Rat) := by
  have := rat_self (z : Rat)
  rw [Rat.num_intCast, Rat.den_intCast] at this
  exact this
theorem den_ne0 (q : Rat) : (q.den : Int) ≠ 0 := by
  have := q.den_nz
  omega
def Sz (D n : Nat) (q : Rat) : Prop := ∃ z : Int, q * ((D : Int) : Rat) = (z : Rat) ∧ z.natAbs ≤ n
theorem Sz.mono {D n m : Nat} {q : Rat} (h : Sz D n q) (hm : n ≤ m) : Sz D m q := by
  obtain ⟨z, e, l⟩ := h
  exact ⟨z, e, Nat.le_trans l hm⟩
theorem Sz.zero (D n : Nat) : Sz D n 0 := ⟨0, by rw [Rat.zero_mul]; rfl, Nat.zero_le _⟩
theorem Sz.one (D : Nat) : Sz D D 1 := ⟨D, by rw [Rat.one_mul], by omega⟩
theorem Sz.add {D n m : Nat} {q r : Rat} (h : Sz D n q) (k : Sz D m r) : Sz D (n + m) (q + r) := by
  obtain ⟨z, e, l⟩ := h
  obtain ⟨y, f, j⟩ := k
  refine ⟨z + y, by rw [Rat.add_mul, e, f, Rat.intCast_add], ?_⟩
  have := Int.natAbs_add_le z y
  omega
theorem Sz.mul {D E n m : Nat} {q r : Rat} (h : Sz D n q) (k : Sz E m r) : Sz (D * E) (n * m) (q * r) := by
  obtain ⟨z, e, l⟩ := h
  obtain ⟨y, f, j⟩ := k
  refine ⟨z * y, ?_, ?_⟩
  · rw [Rat.intCast_mul, ← e, ← f]
    have : (((D * E : Nat) : Int) : Rat) = ((D : Int) : Rat) * ((E : Int) : Rat) := by rw [Int.natCast_mul, Rat.intCast_mul]
    rw [this]
    grind
  · rw [Int.natAbs_mul]
    exact Nat.mul_le_mul l j
theorem Sz.scale {D n : Nat} {q : Rat} (E : Nat) (h : Sz D n q) : Sz (D * E) (n * E) q := by
  have := h.mul (Sz.one E)
  rw [Rat.mul_one] at this
  exact this
theorem Sz.fits {D n : Nat} {q : Rat} (hD : 0 < D) (h : Sz D n q) : q.den ∣ D ∧ q.num.natAbs ≤ n := by
  obtain ⟨z, e, l⟩ := h
  have e2 : q.num * (D : Int) = z * (q.den : Int) := by
    have h1 : Rat.divInt (q.num * (D : Int)) (q.den : Int) = Rat.divInt z 1 := by
      have h2 : Rat.divInt q.num (q.den : Int) * Rat.divInt (D : Int) 1 = Rat.divInt (q.num * (D : Int)) ((q.den : Int) * 1) := Rat.divInt_mul_divInt _ _
      rw [rat_self, Int.mul_one] at h2
      rw [← h2]
      have h3 : Rat.divInt (D : Int) 1 = ((D : Int) : Rat) := divInt_one' _
      have h4 : Rat.divInt z 1 = (z : Rat) := divInt_one' _
      rw [h3, h4, e]
    have := (Rat.divInt_eq_divInt_iff (den_ne0 q) (by decide : (1 : Int) ≠ 0)).mp h1
    rw [Int.mul_one] at this
    exact this
  have e3 : q.num.natAbs * D = z.natAbs * q.den := by
    have := congrArg Int.natAbs e2
    rw [Int.natAbs_mul, Int.natAbs_mul] at this
    exact this
  have dv : q.den ∣ D := by
    have h1 : q.den ∣ q.num.natAbs * D := by
      rw [e3]
      exact Nat.dvd_mul_left _ _
    exact Nat.Coprime.dvd_of_dvd_mul_left (Nat.Coprime.symm q.reduced) h1
  refine ⟨dv, ?_⟩
  obtain ⟨k, ek⟩ := dv
  have hk : 0 < k := by
    rcases Nat.eq_zero_or_pos k with z0 | z0
    · rw [z0, Nat.mul_zero] at ek
      omega
    · exact z0
  have hd : 0 < q.den := Nat.pos_of_ne_zero q.den_nz
  have e4 : q.num.natAbs * k = z.natAbs := by
    rw [ek] at e3
    have : q.num.natAbs * k * q.den = z.natAbs * q.den := by
      rw [← e3, Nat.mul_assoc, Nat.mul_comm k]
    exact Nat.eq_of_mul_eq_mul_right hd this
  have : q.num.natAbs ≤ q.num.natAbs * k := Nat.le_mul_of_pos_right _ hk
  omega
/-- a size that the program's fractions may have -/
def OkS (D n : Nat) : Prop := 0 < D ∧ D < 2 ^ 1500 ∧ n < 2 ^ 1500
theorem Sz.mid {D n : Nat} {q : Rat} (o : OkS D n) (h : Sz D n q) : Mid q.num ∧ Mid (q.den : Int) := by
  obtain ⟨h0, h1, h2⟩ := o
  obtain ⟨a, b⟩ := h.fits h0
  have := Nat.le_of_dvd h0 a
  exact ⟨Nat.lt_of_le_of_lt b h2, by show ((q.den : Int)).natAbs < 2 ^ 1500; rw [Int.natAbs_natCast]; exact Nat.lt_of_le_of_lt this h1⟩
end CT
namespace CT
abbrev Mono := List Int
abbrev Tab := List (Mono × Rat)
def keysT (P : Tab) : List Mono := P.map Prod.fst
def gt : Tab → Mono → Rat
  | [], _ => 0
  | t :: r, k => if t.1 = k then t.2 else gt r k
/-- a linear word of a table -/
def ev : Tab → (Mono → Rat) → Rat
  | [], _ => 0
  | t :: r, f => t.2 * f t.1 + ev r f
theorem gt_mem {P : Tab} (nd : (keysT P).Nodup) {t : Mono × Rat} (h : t ∈ P) : gt P t.1 = t.2 := by
  induction P with
  | nil => cases h
  | cons u r ih =>
    unfold keysT at nd
    rw [List.map_cons, List.nodup_cons] at nd
    show (if u.1 = t.1 then u.2 else gt r t.1) = t.2
    rcases List.mem_cons.mp h with e | e
    · rw [e, if_pos rfl]
    · rw [if_neg (fun z => nd.1 (List.mem_map.mpr ⟨t, e, z.symm⟩))]
      exact ih nd.2 e
/-- an entry stored: in its place, or at the end -/
def put (P : Tab) (k : Mono) (v : Rat) : Tab := if k ∈ keysT P then P.map (fun t => if t.1 = k then (t.1, v) else t) else P ++ [(k, v)]
theorem keys_put (P : Tab) (k : Mono) (v : Rat) : keysT (put P k v) = if k ∈ keysT P then keysT P else keysT P ++ [k] := by
  unfold put
  split
  · unfold keysT
    rw [List.map_map]
    refine List.map_congr_left fun t _ => ?_
    show (if t.1 = k then (t.1, v) else t).1 = t.1
    split <;> rfl
  · unfold keysT
    rw [List.map_append]
    rfl
theorem nodup_put {P : Tab} {k : Mono} {v : Rat} (nd : (keysT P).Nodup) : (keysT (put P k v)).Nodup := by
  rw [keys_put]
  split
  · exact nd
  · rename_i h
    rw [List.nodup_append]
    exact ⟨nd, by simp, fun a ha b hb => by rw [List.mem_singleton.mp hb]; exact fun z => h (z ▸ ha)⟩
def nzT (P : Tab) : Tab := P.filter fun t => decide (t.2 ≠ 0)
theorem keys_sub {P : Tab} {p : Mono × Rat → Bool} : (keysT (P.filter p)).Sublist (keysT P) := List.Sublist.map _ List.filter_sublist
theorem nodup_nz {P : Tab} (nd : (keysT P).Nodup) : (keysT (nzT P)).Nodup := List.Sublist.nodup keys_sub nd
/-- a polynomial's table: each product of powers once, n exponents, none below zero, no number zero -/
structure Nrm (n : Nat) (P : Tab) : Prop where
  nd : (keysT P).Nodup
  nz : ∀ t ∈ P, t.2 ≠ 0
  ln : ∀ t ∈ P, t.1.length = n ∧ ∀ e ∈ t.1, 0 ≤ e
theorem Nrm.nil (n : Nat) : Nrm n [] := ⟨List.nodup_nil, (fun _ h => by cases h), (fun _ h => by cases h)⟩
def addK (P Q : Tab) : List Mono := keysT P ++ (keysT Q).filter fun k => decide (k ∉ keysT P)
def addP (P Q : Tab) : Tab := (addK P Q).map fun k => (k, gt P k + gt Q k)
def addT (P Q : Tab) : Tab := nzT (addP P Q)
theorem addK_nodup {P Q : Tab} (p : (keysT P).Nodup) (q : (keysT Q).Nodup) : (addK P Q).Nodup := by
  unfold addK
  rw [List.nodup_append]
  exact ⟨p, List.Sublist.nodup List.filter_sublist q, fun a ha b hb => by
    have := (List.mem_filter.mp hb).2
    exact fun z => of_decide_eq_true this (z ▸ ha)⟩
theorem mem_addK {P Q : Tab} {k : Mono} : k ∈ addK P Q ↔ k ∈ keysT P ∨ k ∈ keysT Q := by
  unfold addK
  rw [List.mem_append, List.mem_filter]
  constructor
  · rintro (h | h)
    · exact .inl h
    · exact .inr h.1
  · rintro (h | h)
    · exact .inl h
    · rcases Classical.em (k ∈ keysT P) with z | z
      · exact .inl z
      · exact .inr ⟨h, decide_eq_true z⟩
theorem keys_addP (P Q : Tab) : keysT (addP P Q) = addK P Q := by
  unfold keysT addP
  rw [List.map_map]
  exact List.map_id _
theorem nodup_addT {P Q : Tab} (p : (keysT P).Nodup) (q : (keysT Q).Nodup) : (keysT (addT P Q)).Nodup := nodup_nz (by rw [keys_addP]; exact addK_nodup p q)
theorem nz_nzT {P : Tab} : ∀ t ∈ nzT P, t.2 ≠ 0 := fun t h => of_decide_eq_true (List.mem_filter.mp h).2
theorem Nrm.add {n : Nat} {P Q : Tab} (p : Nrm n P) (q : Nrm n Q) : Nrm n (addT P Q) :=
  ⟨nodup_addT p.nd q.nd, nz_nzT, fun t ht => by
    have h1 : t ∈ addP P Q := (List.mem_filter.mp ht).1
    obtain ⟨k, hk, e⟩ := List.mem_map.mp h1
    have e1 : t.1 = k := by rw [← e]
    rw [e1]
    rcases mem_addK.mp hk with z | z
    · obtain ⟨u, hu, e2⟩ := List.mem_map.mp z
      rw [← e2]
      exact p.ln u hu
    · obtain ⟨u, hu, e2⟩ := List.mem_map.mp z
      rw [← e2]
      exact q.ln u hu⟩
end CT
namespace CT
open PySem PySem.Spec PySem.Calls PyProof.Rows L2
end CT
namespace CT
open PySem PySem.Spec PySem.Calls PyProof.Rows L2
end CT
namespace CT
open PySem PySem.Spec PySem.Calls PyProof.Rows L2 PySem.W
theorem dp_ints {K : PySem.W.Frag} {H : Hp} : ∀ es : List Int, DpAll K H (es.map V.int) (es.map PyData.int)
  | [] => .nil
  | e :: es => .cons (.int e) (dp_ints es)
section
variable {X : Cx} {pins : List (Addr × Obj)} {σ : L2.St} {H : Hp} {s : Shared}
theorem same_sqT {K : PySem.W.Frag} {H H' : Hp} {a : Addr} {xs : List V} (e : Same H H') (h : SqT K H a xs) : SqT K H' a xs := by
  rcases h with (h | ⟨o, h⟩) | h
  · exact .inl (.inl (e _ _ h))
  · exact .inl (.inr ⟨o, e _ _ h⟩)
  · exact .inr h
end
/-- a row of numbers as a dict's key -/
def kI (es : List Int) : List L2.Key := es.map Sum.inl
theorem kI_V (es : List Int) : (kI es).map kV = es.map V.int := by
  unfold kI
  rw [List.map_map]
  rfl
theorem kI_inj {a b : List Int} (h : kI a = kI b) : a = b := by
  have h2 := congrArg (List.map kV) h
  rw [kI_V, kI_V] at h2
  have inj : ∀ {x y : List Int}, x.map V.int = y.map V.int → x = y := by
    intro x
    induction x with
    | nil =>
      intro y h
      cases y with
      | nil => rfl
      | cons => cases h
    | cons a x ih =>
      intro y h
      cases y with
      | nil => cases h
      | cons b y =>
        rw [List.map_cons, List.map_cons] at h
        injection h with h1 h3
        injection h1 with h1
        rw [h1, ih h3]
  exact inj h2
end CT
namespace CT
open PySem PySem.Spec PySem.Calls PyProof.Rows L2 He
/-- the def of the name n at a is the statement st -/
structure Dm (K : PySem.W.Frag) (a : Addr) (n qual : Str) (st : Stmt) (dvs : List V) : Prop where
  f : ∃ fd, FunD K n qual (defArgs st) (defBody st) (defScope st) dvs [] a fd
/-- the def at a keeps sp -/
def MOk (CX : CXT) (P : Program) (w : World) (K : PySem.W.Frag) (mg : Str → Option Value) (base : Heap) (k : Nat) (a : Addr) (ps : List Str) (sp : Sp) : Prop :=
  PySem.W.keepIn K (.ref a) = true ∧ ∃ fd, FnOk P w K mg base CX k a fd ps sp ∧ L2.Binds K fd ps []
section
variable {P : Program} {w : World} {K : PySem.W.Frag} {mg : Str → Option Value} {base : Heap} {a : Addr} {n qual : Str} {st : Stmt} {CX : CXT} {N ps : List Str} {k : Nat} {sp : Sp}
theorem Dm.okX (D : Dm K a n qual st []) (S : FnScope N ps (defScope st)) (bind : ∀ (kV doc pm : Value) (an : Option Addr) (cdv ct : Value) (us : List Value), us.length = ps.length → bindArgs (PySem.W.fnOf n qual (defArgs st) (defBody st) (defScope st) .none kV doc pm an cdv ct) ⟨us, []⟩ = pure (ps.zip us))
    (len : ∀ vs H Q E, sp vs H Q E → vs.length = ps.length)
    (hbody : ∀ (cdv : Value) (A : Around) (outer : List Env) (s : Shared) (H : Hp) (vs : List V) (Q : VK) (E : XK), Room k (A.deeper (envOfC qual (defScope st) s.heap.objs.size a cdv)) → sp vs H Q E →
      ∃ t, PSs (cxOf CX P w K mg base N qual (defScope st) a cdv A outer s H E) (defBody st) t ∧ t { nx := fun _ H' => Q .non H', rt := Q } (L2.start N vs) H) : MOk CX P w K mg base (k + 1) a ps sp := by
  obtain ⟨fd, F⟩ := D.f
  exact ⟨F.kp, fd, F.ok S len hbody, F.bindsN bind⟩
theorem Dm.ok (D : Dm K a n qual st []) (S : FnScope N ps (defScope st)) (bind : ∀ (kV doc pm : Value) (an : Option Addr) (cdv ct : Value) (us : List Value), us.length = ps.length → bindArgs (PySem.W.fnOf n qual (defArgs st) (defBody st) (defScope st) .none kV doc pm an cdv ct) ⟨us, []⟩ = pure (ps.zip us))
    (len : ∀ vs H Q E, sp vs H Q E → vs.length = ps.length)
    (hbody : ∀ (cdv : Value) (A : Around) (outer : List Env) (s : Shared) (H : Hp) (vs : List V) (Q : VK) (E : XK), Room k (A.deeper (envOfC qual (defScope st) s.heap.objs.size a cdv)) → sp vs H Q E →
      ∃ t, PSs (cxOf CX0 P w K mg base N qual (defScope st) a cdv A outer s H E).nox (defBody st) t ∧ t { nx := fun _ H' => Q .non H', rt := Q } (L2.start N vs) H) : MOk CX0 P w K mg base (k + 1) a ps sp :=
  D.okX S bind len fun cdv A outer s H vs Q E hr h => by
    obtain ⟨t, ht, hq⟩ := hbody cdv A outer s H vs Q E hr h
    exact ⟨t, ht.nox, hq⟩
theorem MOk.mono {j : Nat} (F : MOk CX P w K mg base j a ps sp) (h : j ≤ k) : MOk CX P w K mg base k a ps sp := by
  obtain ⟨b, fd, F, B⟩ := F
  exact ⟨b, fd, F.mono h, B⟩
theorem MOk.imp {sp' : Sp} (F : MOk CX P w K mg base k a ps sp) (h : ∀ vs H Q E, sp' vs H Q E → sp vs H Q E) : MOk CX P w K mg base k a ps sp' := by
  obtain ⟨b, fd, F, B⟩ := F
  exact ⟨b, fd, F.imp h, B⟩
end
section
variable {X : Cx} {pins : List (Addr × Obj)} {σ : L2.St} {H : Hp} {s : Shared}
theorem run_own {A : Around} {CX : CXT} {k : Nat} {f : Addr} {ps : List Str} {sp : Sp} {us : List Value} {vs : List V} {Q : VK} {E : XK} (F : MOk CX X.prog X.w X.K X.mg X.base k f ps sp) (hr : Room k A) (fr : A.frames = X.A.frames) (hx : Passes CX X E)
    (I : Inv X pins σ H s) (r : Vals vs us) (h : sp vs H Q E) : wpAny (model X.prog X.w) A (call (.ref f) us) (EP X pins σ Q) X.xe s := by
  obtain ⟨_, fd, F, hb⟩ := F
  have e := I.env0
  have e0 : Env0 X.prog X.w X.K X.mg X.base A X.stack s H := ⟨fr.trans e.frames, e.mod, e.bs, e.bsz, e.funs, e.frf, e.hok, e.bare⟩
  have hul : us.length = ps.length := r.length.symm.trans (F.len _ _ _ _ h)
  refine wpAny_call (codeAny_mono (F.run A X.stack s H ⟨us, []⟩ us vs Q E hr e0 (by
    have := hb s us I.kIn (by simpa using hul)
    simpa using this) r h) fun q s' hq => ?_)
  cases q with
  | error er => exact hx pins σ H s er s' I hq
  | ok fl =>
    cases fl with
    | ret w => exact I.after hq
    | next => exact False.elim hq
    | brk => exact False.elim hq
    | cont => exact False.elim hq
theorem ins_at (I : Inv X pins σ H s) {a C dx : Addr} {fs : List (Str × V)} (h : H a = some (.ins C dx fs)) : ∃ ox od, PySem.W.InstAt s.heap a ox C (some od) := by
  obtain ⟨mA, J, _⟩ := ins_get I.hok h
  obtain ⟨od, J, _⟩ := J.look
  exact ⟨_, _, J⟩
end
section
variable {X : Cx} {CX : CXT} {k : Nat} {C f : Addr} {ps : List Str} {sp : Sp} {E : XK} {m : Str}
/-- a value's type, where it is no instance -/
inductive TyN (H : Hp) : V → String → Prop where
  | non : TyN H .non "NoneType"
  | bl (x : Bool) : TyN H (.bl x) "bool"
  | int (i : Int) : TyN H (.int i) "int"
  | str (x : Str) : TyN H (.str x) "str"
  | lst {a : Addr} {xs : List V} (e : H a = some (.lst xs)) : TyN H (.ref a) "list"
  | tup {a : Addr} {xs : List V} (e : H a = some (.tup xs)) : TyN H (.ref a) "tuple"
/-- what stands on the right of ==: of the same class, or of a type that is none of its subclasses -/
def SideV (K : PySem.W.Frag) (C : Addr) (y : V) (H : Hp) : Prop := (∃ b dy gs, y = .ref b ∧ H b = some (.ins C dy gs)) ∨ ∃ t, TyN H y t ∧ PySem.W.subIn K (.type t) (.ref C) = some false
/-- x == y by the class's own __eq__ -/
def rEqOwn (K : PySem.W.Frag) (C : Addr) (sp : Sp) (E : XK) : R2 := fun x y H Q => ∃ a dx fs, x = .ref a ∧ H a = some (.ins C dx fs) ∧ SideV K C y H ∧ sp [.ref a, y] H Q E
end
end CT
namespace CT
open PySem PySem.Spec PySem.Calls PyProof.Rows L2 He
section
variable {X : Cx} {CX : CXT} {k : Nat} {C f g : Addr} {ps : List Str} {sp : Sp} {E : XK} {x m : Str} {p pos apos : Pos} {e o : Expr} {es : List Expr} {t : TA} {ta : TE}
theorem MOk.binds {P : Program} {w : World} {K : PySem.W.Frag} {mg : Str → Option Value} {base : Heap} {a : Addr} (F : MOk CX P w K mg base k a ps sp) : ∃ fd, FnOk P w K mg base CX k a fd ps sp ∧ L2.Binds K fd ps [] := F.2
/-- C(e, ..) -/
theorem pe_makeM (M : Mk X.K C f) (F : MOk CX X.prog X.w X.K X.mg X.base k f ps sp) (hx : Passes CX X E) (hr : Room (k + 1) X.A) (hm : X.mg x = some (.ref C)) (ha : PA X (e :: es) t) (hg : Gl X x := by rfl) (hdb : (x == ("__debug__" : Str)) = false := by decide)
    (he : starEach (e :: es) X.env = (false, eval e X.env) :: starEach es X.env := by rfl) (hpl : (backTo pos (starEach es X.env)).any (·.1) = false := by rfl) : PE X (.Call (.Name x p) (e :: es) [] pos) (tMake C sp [] E t) := by
  obtain ⟨fd, F, b⟩ := F.binds
  exact pe_make M F hr hg hm b .nil hx ha hdb he hpl
/-- o.m(e, ..) -/
theorem pe_methM {pl : Sem Bool} (he : PE X o ta) (c : Cls X.K C) (hm : Meth X.K C m g) (F : MOk CX X.prog X.w X.K X.mg X.base k g ps sp) (hx : Passes CX X E) (hr : Room k X.A) (ha : PA X (e :: es) t)
    (hst : starEach (e :: es) X.env = (false, eval e X.env) :: starEach es X.env := by rfl) (hpl : (backTo pos (starEach es X.env)).any (·.1) = false := by rfl)
    (ht : eval (.Call (.Attribute o m apos) (e :: es) [] pos) X.env = (do
      let ov ← eval o X.env
      standAt apos.atName
      let (f, first) ← holding [ov] (getMethod ov m pl)
      callWith pos f first (backTo pos (starEach (e :: es) X.env)) (backToKw pos (keywordEach [] X.env))) := by rfl) :
    PE X (.Call (.Attribute o m apos) (e :: es) [] pos) (tMeth C m sp [] E ta t) := by
  obtain ⟨fd, F, b⟩ := F.binds
  exact pe_meth he c hm F hr b .nil hx ha hst hpl ht
/-- e.f, a property -/
theorem pe_propM (he : PE X e ta) (c : Cls X.K C) (hp : PropOf X.K C m p' g) (F : MOk CX X.prog X.w X.K X.mg X.base k g ps sp) (hx : Passes CX X.nox E) (hr : Room (k + 1) X.A) (hab : attributeBase e m X.env (eval e X.env) = eval e X.env := by rfl) :
    PE X (.Attribute e m pos) (tProp C sp [] E ta) := by
  obtain ⟨fd, F, b⟩ := F.binds
  exact pe_prop he c hp F hr b .nil hx hab
/-- len by the class's own __len__ -/
def rLenOwn (C : Addr) (sp : Sp) (E : XK) : List V → Hp → VK → Prop := fun xs H Q => ∃ a dx fs, xs = [.ref a] ∧ H a = some (.ins C dx fs) ∧ sp [.ref a] H (fun z H' => ∃ i : Int, z = .int i ∧ 0 ≤ i ∧ i < 2 ^ 63 ∧ Q (.int i) H') E
theorem call_lenOwn (hm : Meth X.K C "__len__" f) (F : MOk CX X.prog X.w X.K X.mg X.base k f ps sp) (hx : Passes CX X E) (hr : Room (k + 1) X.A) : CallR X (.builtin "len") (rLenOwn C sp E) := by
  intro pins s σ H xs us Q I rs h
  obtain ⟨a, dx, fs, rfl, ha, q⟩ := h
  cases rs with
  | cons rx rs =>
    cases rs
    cases rx
    obtain ⟨oa, da, Ja⟩ := ins_at I ha
    obtain ⟨mm, hF⟩ := I.fr
    refine PySem.W.len_K hF I.ok.mod.kin Ja hm.at_ hm.fn (thn (run_own (A := X.A.in1) (us := [.ref a]) (vs := [.ref a]) F hr.in1 rfl hx I (.cons rfl .nil) q) fun w s' ⟨z, H', I', rz, i, ez, i0, i1, qz⟩ => ?_)
    subst ez
    obtain ⟨t, rfl⟩ := (show ∃ t, w = Value.int i t from rz)
    exact ⟨⟨i0, i1⟩, .int i, H', I'.tok _, ⟨_, rfl⟩, qz⟩
end
end CT
namespace CT
open PySem PySem.Spec PySem.Calls PyProof.Rows L2 He
/-- the fraction q at p -/
def Qt (K : PySem.W.Frag) (H : Hp) (p : Addr) (q : Rat) : Prop := SqT K H p [.int q.num, .int (q.den : Int)]
/-- what tuples are known stays known -/
def TK (K : PySem.W.Frag) (H H' : Hp) : Prop := ∀ b xs, SqT K H b xs → SqT K H' b xs
theorem TK.refl {K : PySem.W.Frag} {H : Hp} : TK K H H := fun _ _ h => h
theorem TK.trans {K : PySem.W.Frag} {H H1 H2 : Hp} (a : TK K H H1) (b : TK K H1 H2) : TK K H H2 := fun _ _ h => b _ _ (a _ _ h)
theorem TK.same {K : PySem.W.Frag} {H H' : Hp} (e : Same H H') : TK K H H' := fun _ _ h => same_sqT e h
theorem TK.ext {K : PySem.W.Frag} {H H' : Hp} (e : LamX.ExtN H H') : TK K H H' := fun _ _ h => sqT_ext e h
theorem TK.but {K : PySem.W.Frag} {H H' : Hp} {p : Addr} {u : HO} (hp : H p = some u) (n1 : ∀ xs, u ≠ .tup xs) (n2 : ∀ o xs, u ≠ .frz o (.tup xs)) (e : ∀ b o, b ≠ p → H b = some o → H' b = some o) : TK K H H' := fun b xs h => by
  rcases h with (h | ⟨o, h⟩) | h
  · exact .inl (.inl (e _ _ (ne_of h hp fun z => n1 xs z.symm) h))
  · exact .inl (.inr ⟨o, e _ _ (ne_of h hp fun z => n2 o xs z.symm) h⟩)
  · exact .inr h
theorem TK.upd {K : PySem.W.Frag} {H : Hp} {p : Addr} {u x : HO} (hp : H p = some u) (n1 : ∀ xs, u ≠ .tup xs) (n2 : ∀ o xs, u ≠ .frz o (.tup xs)) : TK K H (upd H p x) := TK.but hp n1 n2 fun b o hb h => by
  rw [upd_ne hb]
  exact h
theorem TK.new {K : PySem.W.Frag} {H : Hp} {p : Addr} {x : HO} (hp : H p = none) : TK K H (L2.upd H p x) := TK.same (same_new hp)
/-- an entry as the dict has it -/
def ent (p : Mono × Addr) : List L2.Key × V := (kI p.1, .ref p.2)
inductive Ents (K : PySem.W.Frag) (H : Hp) : List (Mono × Addr) → Tab → Prop
  | nil : Ents K H [] []
  | cons {k : Mono} {a : Addr} {q : Rat} {l : List (Mono × Addr)} {P : Tab} (h : Qt K H a q) (t : Ents K H l P) : Ents K H ((k, a) :: l) ((k, q) :: P)
theorem Ents.keep {K : PySem.W.Frag} {H H' : Hp} (k : TK K H H') {l : List (Mono × Addr)} {P : Tab} (h : Ents K H l P) : Ents K H' l P := by
  induction h with
  | nil => exact .nil
  | cons h _ ih => exact .cons (k _ _ h) ih
theorem Ents.keys {K : PySem.W.Frag} {H : Hp} {l : List (Mono × Addr)} {P : Tab} (h : Ents K H l P) : l.map Prod.fst = keysT P := by
  induction h with
  | nil => rfl
  | cons h _ ih =>
    unfold keysT at ih ⊢
    rw [List.map_cons, List.map_cons, ih]
theorem Ents.length {K : PySem.W.Frag} {H : Hp} {l : List (Mono × Addr)} {P : Tab} (h : Ents K H l P) : l.length = P.length := by
  have := congrArg List.length h.keys
  unfold keysT at this
  rw [List.length_map, List.length_map] at this
  exact this
theorem Ents.app {K : PySem.W.Frag} {H : Hp} {l m : List (Mono × Addr)} {P R : Tab} (h : Ents K H l P) (g : Ents K H m R) : Ents K H (l ++ m) (P ++ R) := by
  induction h with
  | nil => exact g
  | cons h _ ih => exact .cons h ih
theorem Ents.get {K : PySem.W.Frag} {H : Hp} {l : List (Mono × Addr)} {P : Tab} (h : Ents K H l P) (k : Mono) : (k ∈ keysT P → ∃ a, valV (l.map ent) (kI k) = some (.ref a) ∧ Qt K H a (gt P k)) ∧ (k ∉ keysT P → valV (l.map ent) (kI k) = none) := by
  induction h with
  | nil => exact ⟨(fun z => by cases z), fun _ => rfl⟩
  | @cons k' a q l P h t ih =>
    rw [List.map_cons]
    by_cases e : k' = k
    · subst e
      refine ⟨fun _ => ⟨a, valV_pos rfl, ?_⟩, fun z => absurd (List.Mem.head _) z⟩
      show Qt K H a (if k' = k' then q else gt P k')
      rw [if_pos rfl]
      exact h
    · have e2 : ¬ (ent (k', a)).1 = kI k := fun z => e (kI_inj z)
      rw [valV_neg e2]
      have hm : k ∈ keysT ((k', q) :: P) ↔ k ∈ keysT P := by
        unfold keysT
        rw [List.map_cons, List.mem_cons]
        exact ⟨fun z => z.elim (fun z => absurd z.symm e) id, .inr⟩
      rw [hm]
      have eg : gt ((k', q) :: P) k = gt P k := by
        show (if k' = k then q else gt P k) = gt P k
        rw [if_neg e]
      rw [eg]
      exact ih
theorem Ents.at {K : PySem.W.Frag} {H : Hp} {l : List (Mono × Addr)} {P : Tab} (h : Ents K H l P) : ∀ {j : Nat} {p : Mono × Addr}, l[j]? = some p → ∃ q, P[j]? = some (p.1, q) ∧ Qt K H p.2 q := by
  induction h with
  | nil => intro j p e; simp at e
  | @cons k a q l P h t ih =>
    intro j p e
    cases j with
    | zero =>
      obtain rfl : (k, a) = p := by simpa using e
      exact ⟨q, rfl, h⟩
    | succ j =>
      obtain ⟨q', e1, e2⟩ := ih (j := j) (p := p) (by simpa using e)
      exact ⟨q', by simpa using e1, e2⟩
/-- the table P at d -/
def TabAt (K : PySem.W.Frag) (H : Hp) (d : Addr) (P : Tab) : Prop := ∃ l, H d = some (.dT (l.map ent)) ∧ Ents K H l P
theorem TabAt.keep {K : PySem.W.Frag} {H H' : Hp} {d : Addr} {P : Tab} (h : TabAt K H d P) (e : ∀ o, H d = some o → H' d = some o) (k : TK K H H') : TabAt K H' d P := by
  obtain ⟨l, h1, h2⟩ := h
  exact ⟨l, e _ h1, h2.keep k⟩
theorem TabAt.same {K : PySem.W.Frag} {H H' : Hp} {d : Addr} {P : Tab} (h : TabAt K H d P) (e : Same H H') : TabAt K H' d P := h.keep (fun _ z => e _ _ z) (TK.same e)
theorem TabAt.ext {K : PySem.W.Frag} {H H' : Hp} {d : Addr} {P : Tab} (h : TabAt K H d P) (e : LamX.ExtN H H') : TabAt K H' d P := by
  obtain ⟨l, h1, h2⟩ := h
  exact ⟨l, e _ _ h1 (fun _ z => by cases z), h2.keep (TK.ext e)⟩
abbrev Raw := List Int × Int × Int
def RowAt (K : PySem.W.Frag) (H : Hp) (t : Addr) (r : Raw) : Prop := ∃ p v, SqT K H t [.ref p, .ref v] ∧ H p = some (.tup (r.1.map V.int)) ∧ SqT K H v [.int r.2.1, .int r.2.2]
inductive RowsAt (K : PySem.W.Frag) (H : Hp) : List Addr → List Raw → Prop
  | nil : RowsAt K H [] []
  | cons {t : Addr} {r : Raw} {l : List Addr} {rs : List Raw} (h : RowAt K H t r) (t' : RowsAt K H l rs) : RowsAt K H (t :: l) (r :: rs)
/-- plain tuples and what tuples are known stay -/
def TK2 (K : PySem.W.Frag) (H H' : Hp) : Prop := TK K H H' ∧ ∀ b xs, H b = some (.tup xs) → H' b = some (.tup xs)
theorem TK2.refl {K : PySem.W.Frag} {H : Hp} : TK2 K H H := ⟨TK.refl, fun _ _ h => h⟩
theorem TK2.trans {K : PySem.W.Frag} {H H1 H2 : Hp} (a : TK2 K H H1) (b : TK2 K H1 H2) : TK2 K H H2 := ⟨a.1.trans b.1, fun _ _ h => b.2 _ _ (a.2 _ _ h)⟩
theorem TK2.same {K : PySem.W.Frag} {H H' : Hp} (e : Same H H') : TK2 K H H' := ⟨TK.same e, fun _ _ h => e _ _ h⟩
theorem TK2.ext {K : PySem.W.Frag} {H H' : Hp} (e : LamX.ExtN H H') : TK2 K H H' := ⟨TK.ext e, fun _ _ h => e _ _ h fun _ z => by cases z⟩
theorem TK2.but {K : PySem.W.Frag} {H H' : Hp} {p : Addr} {u : HO} (hp : H p = some u) (n1 : ∀ xs, u ≠ .tup xs) (n2 : ∀ o xs, u ≠ .frz o (.tup xs)) (e : ∀ b o, b ≠ p → H b = some o → H' b = some o) : TK2 K H H' := ⟨TK.but hp n1 n2 e, fun b xs h => e _ _ (ne_of h hp fun z => n1 xs z.symm) h⟩
theorem TK2.upd {K : PySem.W.Frag} {H : Hp} {p : Addr} {u x : HO} (hp : H p = some u) (n1 : ∀ xs, u ≠ .tup xs) (n2 : ∀ o xs, u ≠ .frz o (.tup xs)) : TK2 K H (L2.upd H p x) := TK2.but hp n1 n2 fun b o hb h => by
  rw [upd_ne hb]
  exact h
theorem RowAt.keep {K : PySem.W.Frag} {H H' : Hp} (k : TK2 K H H') {t : Addr} {r : Raw} (h : RowAt K H t r) : RowAt K H' t r := by
  obtain ⟨p, v, h1, h2, h3⟩ := h
  exact ⟨p, v, k.1 _ _ h1, k.2 _ _ h2, k.1 _ _ h3⟩
theorem RowsAt.keep {K : PySem.W.Frag} {H H' : Hp} (k : TK2 K H H') {l : List Addr} {rs : List Raw} (h : RowsAt K H l rs) : RowsAt K H' l rs := by
  induction h with
  | nil => exact .nil
  | cons h _ ih => exact .cons (h.keep k) ih
theorem RowsAt.length {K : PySem.W.Frag} {H : Hp} {l : List Addr} {rs : List Raw} (h : RowsAt K H l rs) : l.length = rs.length := by
  induction h with
  | nil => rfl
  | cons h _ ih => rw [List.length_cons, List.length_cons, ih]
theorem RowsAt.app {K : PySem.W.Frag} {H : Hp} {l m : List Addr} {rs ss : List Raw} (h : RowsAt K H l rs) (g : RowsAt K H m ss) : RowsAt K H (l ++ m) (rs ++ ss) := by
  induction h with
  | nil => exact g
  | cons h _ ih => exact .cons h ih
theorem RowsAt.at {K : PySem.W.Frag} {H : Hp} {l : List Addr} {rs : List Raw} (h : RowsAt K H l rs) : ∀ {j : Nat} {t : Addr}, l[j]? = some t → ∃ r, rs[j]? = some r ∧ RowAt K H t r := by
  induction h with
  | nil => intro j p e; simp at e
  | @cons t' r l rs h g ih =>
    intro j p e
    cases j with
    | zero =>
      obtain rfl : t' = p := by simpa using e
      exact ⟨r, rfl, h⟩
    | succ j =>
      obtain ⟨q', e1, e2⟩ := ih (j := j) (t := p) (by simpa using e)
      exact ⟨q', by simpa using e1, e2⟩
theorem RowsAt.set {K : PySem.W.Frag} {H : Hp} {l : List Addr} {rs : List Raw} (h : RowsAt K H l rs) {t : Addr} {r : Raw} (g : RowAt K H t r) : ∀ n : Nat, RowsAt K H (l.set n t) (rs.set n r) := by
  induction h with
  | nil => exact fun n => by simp; exact .nil
  | cons h t' ih =>
    intro n
    cases n with
    | zero => exact .cons g t'
    | succ n => exact .cons h (ih n)
end CT
namespace CT
open PySem PySem.Spec PySem.Calls PyProof.Rows L2 He LamX
/-- one ask: what it tells, by which lambda -/
def AskOk (K : PySem.W.Frag) (T : List (Addr × Str)) (R : List (Str × Option Str)) (env : Env) (fam : List (LamD × (XK → TE))) (σ : L2.St) (H : Hp) (f : Addr) (t : Str × V) : Prop :=
  okT t = true ∧ ∃ q ∈ fam, LamAt env q.1 f H ∧ ∀ (Hw : Hp) (QQ : VK) (EE : XK), ExtN H Hw → Tabs T Hw → (∀ x cls d H', (t.1, x) ∈ R → Told K t.1 x t.2 cls d H' → (x = none → t.2 = .non) → Same Hw H' → EE cls d H') → (t = (("" : Str), V.non) → ∀ u H', Same Hw H' → QQ u H') → q.2 EE σ Hw QQ
end CT
namespace CT
open PySem PySem.Spec PySem.Calls PyProof.Rows L2 He
theorem u1 {k : Nat} {A : Around} (r : Room k A) : A.units + 1 < cLine := by have := r.un; omega
theorem u65 {k : Nat} {A : Around} (r : Room k A) : A.units + 65 < cLine := by have := r.un; omega
end CT
namespace CT
open PySem PySem.Spec PySem.Calls PyProof.Rows L2 He
end CT
namespace CT
open PySem PySem.Spec PySem.Calls PyProof.Rows L2 He
end CT
namespace CT
open PySem PySem.Spec PySem.Calls PyProof.Rows L2 He
end CT
namespace CT
open PySem PySem.Spec PySem.Calls PyProof.Rows L2 He
/-- small numerator and denominator -/
def MidQ (q : Rat) : Prop := Mid q.num ∧ Mid (q.den : Int)
theorem MidQ.of {D n : Nat} {q : Rat} (o : OkS D n) (h : Sz D n q) : MidQ q := h.mid o
def FracP (q : Rat) : HO := .tup [.int q.num, .int (q.den : Int)]
theorem Qt.of {K : PySem.W.Frag} {H : Hp} {p : Addr} {q : Rat} (h : H p = some (FracP q)) : Qt K H p q := .inl (.inl h)
theorem Qt.keep {K : PySem.W.Frag} {H H' : Hp} {p : Addr} {q : Rat} (h : Qt K H p q) (k : TK K H H') : Qt K H' p q := k _ _ h
theorem Qt.one {K : PySem.W.Frag} {H : Hp} {p : Addr} (h : SqT K H p [.int 1, .int 1]) : Qt K H p 1 := h
end CT
namespace CT
open PySem PySem.Spec PySem.Calls PyProof.Rows L2 He
end CT
namespace CT
open PySem PySem.Spec PySem.Calls PyProof.Rows L2 He
end CT
namespace CT
theorem two64 : (2 : Nat) ^ 64 ≤ 2 ^ 1500 := Nat.pow_le_pow_right (by decide) (by decide)
theorem OkS.small {D n : Nat} (h0 : 0 < D) (h1 : D < 2 ^ 64) (h2 : n < 2 ^ 64) : OkS D n := ⟨h0, Nat.lt_of_lt_of_le h1 two64, Nat.lt_of_lt_of_le h2 two64⟩
end CT
namespace CT
/-- v times x, n times over -/
def mv (v x : Rat) : Nat → Rat
  | 0 => v
  | n + 1 => mv v x n * x
/-- v times the first i powers -/
def mvs (v : Rat) (xs : List Rat) (es : List Int) : Nat → Rat
  | 0 => v
  | i + 1 => mv (mvs v xs es i) (xs.getD i 0) (es.getD i 0).toNat
/-- the sum of the first i terms' values -/
def vsum (P : Tab) (xs : List Rat) : Nat → Rat
  | 0 => 0
  | i + 1 => vsum P xs i + mvs (P.getD i ([], 0)).2 xs (P.getD i ([], 0)).1 (P.getD i ([], 0)).1.length
def val (P : Tab) (xs : List Rat) : Rat := vsum P xs P.length
/-- all numbers that the sum meets are of a size that is served -/
structure VOk (P : Tab) (xs : List Rat) : Prop where
  x : ∀ x ∈ xs, MidQ x
  m : ∀ t ∈ P, ∀ i, i < t.1.length → ∀ j, j ≤ (t.1.getD i 0).toNat → MidQ (mv (mvs t.2 xs t.1 i) (xs.getD i 0) j)
  f : ∀ t ∈ P, MidQ (mvs t.2 xs t.1 t.1.length)
  s : ∀ i, i ≤ P.length → MidQ (vsum P xs i)
theorem Sz.mv {D E n m : Nat} {v x : Rat} (h : Sz D n v) (k : Sz E m x) : ∀ j, Sz (D * E ^ j) (n * m ^ j) (CT.mv v x j)
  | 0 => by
    show Sz (D * 1) (n * 1) v
    rw [Nat.mul_one, Nat.mul_one]
    exact h
  | j + 1 => by
    have := (Sz.mv h k j).mul k
    rw [Nat.mul_assoc, Nat.mul_assoc, ← Nat.pow_succ, ← Nat.pow_succ] at this
    exact this
/-- the exponents before i -/
def esum (es : List Int) (i : Nat) : Nat := ((es.take i).map Int.toNat).sum
theorem esum_succ {es : List Int} {i : Nat} (h : i < es.length) : esum es (i + 1) = esum es i + (es.getD i 0).toNat := by
  unfold esum
  rw [List.take_succ, List.map_append, List.sum_append, List.getElem?_eq_getElem h, List.getD_eq_getElem?_getD, List.getElem?_eq_getElem h]
  simp
theorem Sz.mvs {D E n m : Nat} {v : Rat} {xs : List Rat} {es : List Int} (h : Sz D n v) (k : ∀ x ∈ xs, Sz E m x) (hl : es.length ≤ xs.length) : ∀ i, i ≤ es.length → Sz (D * E ^ esum es i) (n * m ^ esum es i) (CT.mvs v xs es i)
  | 0, _ => by
    have e : esum es 0 = 0 := rfl
    rw [e, Nat.pow_zero, Nat.pow_zero, Nat.mul_one, Nat.mul_one]
    exact h
  | i + 1, hi => by
    have h1 := Sz.mvs h k hl i (by omega)
    have hx : Sz E m (xs.getD i 0) := by
      rw [List.getD_eq_getElem?_getD, List.getElem?_eq_getElem (by omega)]
      exact k _ (List.getElem_mem _)
    have h2 := Sz.mv h1 hx (es.getD i 0).toNat
    rw [esum_succ (by omega), Nat.pow_add, Nat.pow_add, ← Nat.mul_assoc, ← Nat.mul_assoc]
    exact h2
theorem sum_nn : ∀ {l : List Int}, (∀ e ∈ l, 0 ≤ e) → 0 ≤ l.sum
  | [], _ => Int.le_refl _
  | a :: l, h => by
    rw [List.sum_cons]
    have := h a List.mem_cons_self
    have := sum_nn fun e he => h e (List.mem_cons_of_mem _ he)
    omega
theorem esum_le {es : List Int} (h : ∀ e ∈ es, 0 ≤ e) : ∀ i, (esum es i : Int) ≤ es.sum := by
  intro i
  induction es generalizing i with
  | nil => unfold esum; simp
  | cons e es ih =>
    cases i with
    | zero =>
      have : ∀ {l : List Int}, (∀ e ∈ l, 0 ≤ e) → 0 ≤ l.sum := fun {l} hl => by
        induction l with
        | nil => exact Int.le_refl _
        | cons a l ihl =>
          rw [List.sum_cons]
          have := hl a List.mem_cons_self
          have := ihl fun e he => hl e (List.mem_cons_of_mem _ he)
          omega
      exact this h
    | succ i =>
      have := ih (fun e he => h e (List.mem_cons_of_mem _ he)) i
      have h0 := h e List.mem_cons_self
      unfold esum at this ⊢
      rw [List.take_succ_cons, List.map_cons, List.sum_cons, List.sum_cons]
      omega
theorem Sz.lift {D E n m d s M : Nat} {q : Rat} (h : Sz (D * E ^ s) (n * m ^ s) q) (hs : s ≤ d) (h1 : m ≤ M) (h2 : E ≤ M) : Sz (D * E ^ d) (n * M ^ d) q := by
  have := h.scale (E ^ (d - s))
  rw [Nat.mul_assoc, ← Nat.pow_add, show s + (d - s) = d by omega] at this
  refine this.mono ?_
  rw [Nat.mul_assoc]
  refine Nat.mul_le_mul_left _ ?_
  calc m ^ s * E ^ (d - s) ≤ M ^ s * M ^ (d - s) := Nat.mul_le_mul (Nat.pow_le_pow_left h1 _) (Nat.pow_le_pow_left h2 _)
    _ = M ^ d := by rw [← Nat.pow_add, show s + (d - s) = d by omega]
/-- sizes that are known of the terms and the point -/
theorem VOk.of {D E n m d M L : Nat} {P : Tab} {xs : List Rat} (hP : ∀ t ∈ P, Sz D n t.2 ∧ t.1.length ≤ xs.length ∧ (∀ e ∈ t.1, 0 ≤ e) ∧ t.1.sum ≤ (d : Int)) (hx : ∀ x ∈ xs, Sz E m x) (h1 : m ≤ M) (h2 : E ≤ M) (hL : P.length ≤ L) (hE : 0 < E) (hM : 0 < M)
    (o : OkS (D * E ^ d) (L * (n * M ^ d))) (oL : 0 < L) (oD : OkS E m) : VOk P xs := by
  have one : ∀ t ∈ P, ∀ i, i ≤ t.1.length → ∀ j, (i < t.1.length → j ≤ (t.1.getD i 0).toNat) → (i = t.1.length → j = 0) → Sz (D * E ^ d) (n * M ^ d) (CT.mv (CT.mvs t.2 xs t.1 i) (xs.getD i 0) j) := fun t ht i hi j hj hj2 => by
    obtain ⟨z, hl, h0, hs⟩ := hP t ht
    have a1 := Sz.mvs z hx hl i hi
    by_cases hlt : i < t.1.length
    · have hx2 : Sz E m (xs.getD i 0) := by
        rw [List.getD_eq_getElem?_getD, List.getElem?_eq_getElem (by omega)]
        exact hx _ (List.getElem_mem _)
      have a2 := Sz.mv a1 hx2 j
      rw [Nat.mul_assoc, Nat.mul_assoc, ← Nat.pow_add, ← Nat.pow_add] at a2
      refine a2.lift ?_ h1 h2
      have := esum_le h0 (i + 1)
      rw [esum_succ hlt] at this
      have := hj hlt
      omega
    · rw [hj2 (by omega)]
      refine a1.lift ?_ h1 h2
      have := esum_le h0 i
      omega
  have wide : ∀ i, i ≤ P.length → Sz (D * E ^ d) (i * (n * M ^ d)) (vsum P xs i) := fun i => by
    induction i with
    | zero => intro _; rw [Nat.zero_mul]; exact Sz.zero _ _
    | succ i ih =>
      intro hi
      have a := ih (by omega)
      have ht : P.getD i ([], 0) ∈ P := by
        rw [List.getD_eq_getElem?_getD, List.getElem?_eq_getElem (by omega)]
        exact List.getElem_mem _
      have b := one _ ht _ (Nat.le_refl _) 0 (fun z => absurd z (Nat.lt_irrefl _)) (fun _ => rfl)
      rw [Nat.succ_mul]
      exact a.add b
  refine ⟨fun x hx' => MidQ.of oD (hx x hx'), fun t ht i hi j hj => ?_, fun t ht => ?_, fun i hi => MidQ.of o ((wide i hi).mono (Nat.mul_le_mul_right _ (by omega)))⟩
  · exact MidQ.of o ((one t ht i (Nat.le_of_lt hi) j (fun _ => hj) (fun z => by omega)).mono (Nat.le_mul_of_pos_left _ oL))
  · exact MidQ.of o ((one t ht _ (Nat.le_refl _) 0 (fun z => absurd z (Nat.lt_irrefl _)) (fun _ => rfl)).mono (Nat.le_mul_of_pos_left _ oL))
end CT
namespace CT
open PySem PySem.Spec PySem.Calls PyProof.Rows L2 He
end CT
namespace CT
open PySem PySem.Spec PySem.Calls PyProof.Rows L2 He PySem.W
end CT
namespace CT
open PySem PySem.Spec PySem.Calls PyProof.Rows L2 He
structure Enc {α : Type} [DecidableEq α] (f : α → PyData) (n : Nat) : Prop where
  lay : ∀ x, (f x).canLay0 = true ∧ (f x).depth ≤ n
  eq : ∀ x y, PyData.eqv (f x) (f y) = decide (x = y)
section
variable {α β : Type} [DecidableEq α] [DecidableEq β] {f : α → PyData} {g : β → PyData} {n m : Nat}
theorem Enc.int : Enc PyData.int 0 := ⟨fun x => by simp [PyData.canLay0, PyData.depth], fun x y => by
  simp only [PyData.eqv]
  by_cases h : x = y
  · simp [h]
  · simp [h]⟩
theorem Enc.all (e : Enc f n) : ∀ xs : List α, PyData.canLayAll0 (xs.map f) = true ∧ PyData.depthAll (xs.map f) ≤ n
  | [] => by simp [PyData.canLayAll0, PyData.depthAll]
  | x :: xs => by
    obtain ⟨h1, h2⟩ := e.all xs
    obtain ⟨k1, k2⟩ := e.lay x
    rw [List.map_cons]
    simp only [PyData.canLayAll0, PyData.depthAll, k1, h1, Bool.and_true, true_and]
    exact Nat.max_le.mpr ⟨k2, h2⟩
theorem Enc.eqs (e : Enc f n) : ∀ xs ys : List α, PyData.eqvAll (xs.map f) (ys.map f) = decide (xs = ys)
  | [], [] => by simp [PyData.eqvAll]
  | [], y :: ys => by simp [PyData.eqvAll]
  | x :: xs, [] => by simp [PyData.eqvAll]
  | x :: xs, y :: ys => by
    rw [List.map_cons, List.map_cons]
    simp only [PyData.eqvAll]
    rw [e.eq, e.eqs xs ys]
    by_cases h : x = y
    · by_cases k : xs = ys
      · simp [h, k]
      · simp [h, k]
    · simp [h]
theorem Enc.lst (e : Enc f n) : Enc (fun xs : List α => PyData.list (xs.map f)) (n + 1) := ⟨fun xs => by
    obtain ⟨h1, h2⟩ := e.all xs
    simp only [PyData.canLay0, PyData.depth]
    exact ⟨h1, by omega⟩, fun xs ys => by
    simp only [PyData.eqv]
    exact e.eqs xs ys⟩
theorem Enc.tup (e : Enc f n) : Enc (fun xs : List α => PyData.tuple (xs.map f)) (n + 1) := ⟨fun xs => by
    obtain ⟨h1, h2⟩ := e.all xs
    simp only [PyData.canLay0, PyData.depth]
    exact ⟨h1, by omega⟩, fun xs ys => by
    simp only [PyData.eqv]
    exact e.eqs xs ys⟩
theorem Enc.sh (e : Enc f n) (hn : n ≤ 64) (x : α) : SeqAt.shaped (f x) = true := by
  unfold SeqAt.shaped
  obtain ⟨h1, h2⟩ := e.lay x
  rw [h1, decide_eq_true (by omega)]
  rfl
variable {K : PySem.W.Frag} {H : Hp} {x y : V} {a b : α} {Q : VK}
end
def intsF (es : List Int) : PyData := .tuple (es.map PyData.int)
def fracF (p : Int × Int) : PyData := .tuple [.int p.1, .int p.2]
def rowF (r : Raw) : PyData := .tuple [intsF r.1, fracF r.2]
def rowsF (rs : List Raw) : PyData := .list (rs.map rowF)
section
variable {K : PySem.W.Frag} {H : Hp}
theorem dp_tup {p : Addr} {es : List Int} (h : SqT K H p (es.map V.int)) : Dp K H (.ref p) (intsF es) := .tup h (dp_ints es)
theorem dp_frac {p : Addr} {a b : Int} (h : SqT K H p [.int a, .int b]) : Dp K H (.ref p) (fracF (a, b)) := .tup h (.cons (.int a) (.cons (.int b) .nil))
theorem RowAt.dp {t : Addr} {r : Raw} (h : RowAt K H t r) : Dp K H (.ref t) (rowF r) := by
  obtain ⟨p, v, h1, h2, h3⟩ := h
  exact .tup h1 (.cons (dp_tup (.inl (.inl h2))) (.cons (dp_frac h3) .nil))
theorem RowsAt.dps {as : List Addr} {rs : List Raw} (h : RowsAt K H as rs) : DpAll K H (as.map V.ref) (rs.map rowF) := by
  induction h with
  | nil => exact .nil
  | cons h _ ih => exact .cons h.dp ih
theorem RowsAt.dp {l : Addr} {as : List Addr} {rs : List Raw} (h : RowsAt K H as rs) (hl : SqL K H l (as.map V.ref)) : Dp K H (.ref l) (rowsF rs) := .lst hl h.dps
end
end CT
namespace CT
open PySem PySem.Spec PySem.Calls PyProof.Rows L2 He
end CT
namespace CT
open PySem PySem.Spec PySem.Calls PyProof.Rows L2 He
end CT
namespace CT
end CT
namespace CT
open PySem PySem.Spec PySem.Calls PyProof.Rows L2 He
end CT
namespace CT
open PySem PySem.Spec PySem.Calls PyProof.Rows L2 He
end CT
namespace CT
open PySem PySem.Spec PySem.Calls PyProof.Rows L2 He PySem.W
end CT
namespace CT
open PySem PySem.Spec PySem.Calls PyProof.Rows L2 He
theorem tuple_mul1 (l : Addr) (items : Array Value) (n : Nat) (sl : Array (Option Value)) (dd : Option Addr) (u : Tok) :
    Meets (Builtin.«tuple.__mul__» ⟨[.ref l, .int 1 u], []⟩) (fun _ R s => s.heap.get? l = some { cls := .type "tuple", dict := dd, data := .seq items n, slots := sl } ∧ R (.ok (.ret (Value.ref l))) s) :=
  .of_wp fun prog w A R s h => by
    obtain ⟨hp, g, d, tk, os⟩ := s
    obtain ⟨hl, h⟩ := h
    have f1 := AutoSeq1.idx_int
    have c1 : (items.isEmpty || (1 : Int) == 1) = true := by simp
    wp_walk using wpAny_loadPart' hl
    repeat (first
      | (refine wpAny_ite_false (by decide) ?_; wp_walk using wpAny_loadPart' hl)
      | (refine wpAny_ite_true (by simp) ?_; wp_walk using wpAny_loadPart' hl))
    all_goals first | exact ⟨_, rfl, h⟩ | exact h | skip
theorem tuple_mul0 (l : Addr) (items : Array Value) (n : Nat) (dd : Option Addr) (sl : Array (Option Value)) (x : Int) (u : Tok) (c0 : (decide (x < -(2 ^ 63)) || decide (x ≥ 2 ^ 63)) = false) (c1 : (items.isEmpty || x == 1) = false) (c2 : (decide (x ≤ 0) || items.isEmpty) = true) :
    Meets (Builtin.«tuple.__mul__» ⟨[.ref l, .int x u], []⟩) (fun _ R s => s.heap.get? l = some { cls := .type "tuple", dict := dd, data := .seq items n, slots := sl } ∧
      R (.ok (.ret (Value.ref s.heap.objs.size))) { s with heap := s.heap.push { cls := Value.type "tuple", data := Data.seq #[] }, toks := s.toks }) :=
  .of_wp fun prog w A R s h => by
    obtain ⟨hp, g, d, tk, os⟩ := s
    obtain ⟨hl, h⟩ := h
    have f1 := AutoSeq1.idx_int
    wp_walk using wpAny_loadPart' hl
    repeat (first
      | (refine wpAny_ite_false (decide_eq_false (by rw [c0]; exact Bool.false_ne_true)) ?_; wp_walk using wpAny_loadPart' hl)
      | (refine wpAny_ite_false (decide_eq_false (by rw [c1]; exact Bool.false_ne_true)) ?_; wp_walk using wpAny_loadPart' hl)
      | (refine wpAny_ite_true (decide_eq_true c2) ?_; wp_walk using wpAny_loadPart' hl))
    all_goals first | exact ⟨_, rfl, h⟩ | exact h | skip
end CT
namespace CT
open PySem PySem.Spec PySem.Calls PyProof.Rows L2 He
end CT
namespace CT
open PySem PySem.Spec PySem.Calls PyProof.Rows L2 He
open AutoSeq1 (wpAny_loadPart')
theorem meets_enumerate_newT (l : Addr) (items : Array Value) (n : Nat) (dct : Option Addr) (sl : Array (Option Value)) :
    Meets (Builtin.«enumerate.__new__» ⟨[.type "enumerate", .ref l], []⟩) (fun _ R s => s.heap.get? l = some { cls := .type "tuple", dict := dct, data := .seq items n, slots := sl } ∧
      R (.ok (.ret (.ref (s.heap.push { cls := .type "tuple_iterator", data := .fields #[.ref l, .int 0 0] }).objs.size)))
        { s with heap := (s.heap.push { cls := .type "tuple_iterator", data := .fields #[.ref l, .int 0 0] }).push { cls := .type "enumerate", data := .fields #[.none, .bool false, .ref s.heap.objs.size, rawInt 0, .none, .none] } }) :=
  .of_wp fun prog w A R s h => by
    obtain ⟨hp, g, d, tk, os⟩ := s; obtain ⟨hl, h⟩ := h
    have hsub := sub_enumerate
    have hL : Heap.IsTuple (Shared.heap ⟨hp, g, d, tk, os⟩) l items := ⟨_, hl, rfl, n, rfl⟩
    wp_walk using wpAny_loadPart' hl
    refine wpAny_stack_any fun st => wpAny_pure ?_
    split
    · rename_i c _ _ _ _ _
      cases (c == Value.type "enumerate")
      · wp_walk using wpAny_loadPart' hl, wpAny_pyIter_tuple hL
        exact ⟨_, rfl, h⟩
      · wp_walk using wpAny_loadPart' hl, wpAny_pyIter_tuple hL
        exact ⟨_, rfl, h⟩
    · wp_walk using wpAny_loadPart' hl, wpAny_pyIter_tuple hL
      exact ⟨_, rfl, h⟩
section
variable {prog : Program} {w : World} {A : Around} {E : Value → Shared → Prop} {s : Shared}
theorem call_enumerate_tup {l : Addr} {items : Array Value} {Q : Value → Shared → Prop} (hL : s.heap.IsTuple l items)
    (h : ∀ h', IsEnum h' (s.heap.objs.size + 1) s.heap.objs.size 0 .none → h'.IsTupleIter s.heap.objs.size l 0 → h'.objs.size = s.heap.objs.size + 2 →
      (∀ b o, s.heap.get? b = some o → h'.get? b = some o) → Q (.ref (s.heap.objs.size + 1)) { s with heap := h' }) :
    wpAny (model prog w) A (call (.type "enumerate") [.ref l]) Q E s := by
  obtain ⟨⟨c, dct, dt, sl⟩, hl, hc, n, hd⟩ := hL
  replace hc : c = .type "tuple" := hc
  replace hd : dt = .seq items n := hd
  subst hc hd
  refine callType_new F.called_enumerate (by decide) (F.typeCall_enumerate_1 _) (F.newCall_enumerate_1 _) (fun obj => F.args_object_init_2 obj _) F.entry_enumerate_new
    (meets_enumerate_newT l items n dct sl) ⟨hl, ?_⟩
  have hz : (s.heap.push { cls := .type "tuple_iterator", data := .fields #[.ref l, .int 0 0] }).objs.size = s.heap.objs.size + 1 := Heap.size_push ..
  show _ ∧ _
  rw [hz]
  have he : IsEnum ((s.heap.push { cls := .type "tuple_iterator", data := .fields #[.ref l, .int 0 0] }).push
      { cls := .type "enumerate", data := .fields #[.none, .bool false, .ref s.heap.objs.size, rawInt 0, .none, .none] }) (s.heap.objs.size + 1) s.heap.objs.size 0 .none := by
    have := Heap.get?_push_size (s.heap.push { cls := .type "tuple_iterator", data := .fields #[.ref l, .int 0 0] })
      (o := { cls := .type "enumerate", data := .fields #[.none, .bool false, .ref s.heap.objs.size, rawInt 0, .none, .none] }) rfl
    rw [hz] at this; exact this
  refine ⟨⟨_, he, rfl⟩, h _ he ⟨_, Heap.get?_push_of_some _ (Heap.get?_push_size _ rfl), rfl, rfl⟩ (by rw [Heap.size_push, hz]) fun b o x => Heap.get?_push_of_some _ (Heap.get?_push_of_some _ x)⟩
theorem next_enum_endT {e it l : Addr} {i : Nat} {items : Array Value} {old : Value} {Q : Option Value → Shared → Prop} (hh : A.handled = none)
    (he : IsEnum s.heap e it i old) (hit : s.heap.IsTupleIter it l i) (hl : s.heap.IsTuple l items) (hx : items[i]? = none)
    (hQ : ∀ h', Heap.ExtBut it s.heap h' → Q none { s with heap := h' }) : wpAny (model prog w) A (pyNext (.ref e)) Q E s := by
  have hT : s.TypeIs (.ref e) "enumerate" := ⟨_, he, rfl⟩
  unfold pyNext
  refine wpAny_bind (wpAny_attempt (wpAny_callSpecial?_slot (name := Str.ofString "__next__") hT F.slot_enumerate_next
    (wpAny_call_entry F.slot_enumerate_next hT F.entry_enumerate_next ?_ (F.args_enumerate_next_1 _))))
  show wpAny _ _ (field (.ref e) 2 >>= _) _ _ _
  refine wpAny_bind (wpAny_field he rfl (x := .ref it) rfl ?_)
  refine wpAny_bind (wpAny_nextOf_tuple_end hh hit hl hx fun h' x he' hx' => ?_)
  obtain ⟨o, ho, hc⟩ := hx'
  refine wpAny_bind (wpAny_isInstance (T := "StopIteration") (b := true) ⟨o, ho, hc⟩ isSubtype_stop ?_)
  exact wpAny_pure (hQ _ he')
end
/-- the tuple at a, each item in a new pair with its number -/
def IteT (K : PySem.W.Frag) (a : Addr) : It :=
  ⟨fun i H => ∃ (xs : List V) (x : V), SqT K H a xs ∧ xs[i]? = some x, fun i H v H' => ∃ T x, v = .ref T ∧ H T = none ∧ H' = upd H T (.tup [.int (i : Nat), x]) ∧ ∀ xs, SqT K H a xs → xs[i]? = some x, fun i H => ∃ xs : List V, SqT K H a xs ∧ xs.length ≤ i⟩
theorem turn_enumT {P : Program} {w : World} {K : PySem.W.Frag} {elts : List Expr} {kk : Nat} {tpos : Pos} (a e it : Addr) (hae : a ≠ it) (hea : e ≠ a) :
    Turn P w K (.Tuple elts kk tpos) (IteT K a) [e, it] e (fun i h => (∃ old, IsEnum h e it ((i : Nat) : Int) old) ∧ h.IsTupleIter it a i ∧ e ≠ it) where
  mem := by simp
  obj := fun i h st b hb => by
    obtain ⟨⟨old, he⟩, ⟨o, ho, hc, hd⟩, _⟩ := st
    have e' : b = e ∨ b = it := by simpa using hb
    rcases e' with z | z
    · rw [z]; exact ⟨_, he, fun v q => nomatch q⟩
    · rw [z]; exact ⟨o, ho, fun v q => by rw [hd] at q; cases q⟩
  keep := fun i h h' st k => let ⟨⟨old, he⟩, hi, hne⟩ := st; ⟨⟨old, k e (by simp) _ he⟩, hi.at fun o q => k it (by simp) o q, hne⟩
  item := by
    intro X hP hw hK hc i pins s σ H E I hf st hg
    subst hP hw hK
    obtain ⟨⟨old, he⟩, hit, hne⟩ := st
    obtain ⟨xs, x, hq, hx⟩ := hg
    obtain ⟨its, rv, p, hz⟩ := I.tuple hq
    obtain ⟨u, hu, ru⟩ := rv.get hx
    have hel : e < s.heap.objs.size := Heap.lt_size he
    have hil : it < s.heap.objs.size := by obtain ⟨_, q, _⟩ := hit; exact Heap.lt_size q
    have hsz : i < its.toArray.size := by
      rw [List.size_toArray]
      exact (List.getElem?_eq_some_iff.mp hu).1
    refine wpAny_pyNext_enum_itemD (Draws.tuple (A := X.A.in1) (I.ok.hd hc) it a hae its.toArray) he ⟨hit, p⟩ hsz hne (by simp [hne, hea]) fun x' h' tk hx' ho hit' hT hsz' hk => ?_
    obtain rfl : u = x' := by
      have h1 : its[i]? = some x' := by simpa using hx'
      rw [hu] at h1
      exact Option.some.inj h1
    refine ⟨_, rfl, wpAny_letOwnedTupleGo_enum (s := { s with heap := h', toks := tk + 1 }) ho fun h'' he' sb => ?_⟩
    have hT2 : h''.get? s.heap.objs.size = some { cls := .type "tuple", data := .seq #[.int i tk, u] } := (sb.2 _ (Nat.ne_of_gt hel)).trans hT
    have new : ObjOk X.prog X.w (upd H s.heap.objs.size (.tup [.int (i : Nat), x])) h'' s.heap.objs.size (.tup [.int (i : Nat), x]) :=
      ⟨by show 2 ≤ sizeLine; decide, [.int i tk, u], .cons ⟨_, rfl⟩ (.cons ru .nil), ⟨_, hT2, rfl, _, rfl⟩⟩
    have I1 : Inv X pins σ (upd H s.heap.objs.size (.tup [.int (i : Nat), x])) { s with heap := h'', toks := tk + 1 } :=
      I.turnedNew (ch := [e, it]) (fun b ob hb q => (sb.2 b (fun z => hb (by simp [z]))).trans (hk b ob (fun z => hb (by simp [z])) (fun z => hb (by simp [z])) q)) hf (Nat.le_refl _) new
    refine ⟨.ref s.heap.objs.size, _, I1, rfl, ⟨_, x, rfl, I.hok.fresh (Nat.le_refl _), rfl, fun ys hy => by rw [I.tuple_inj hy hq]; exact hx⟩, ⟨⟨u, ?_⟩, hit'.1.at fun o q => (sb.2 it (Ne.symm hne)).trans q, hne⟩, fun b hb => ?_⟩
    · have e1 : ((i + 1 : Nat) : Int) = (i : Int) + 1 := by omega
      rw [e1]; exact he'
    · have hb' : b < s.heap.objs.size := by
        have e' : b = e ∨ b = it := by simpa using hb
        rcases e' with z | z
        · rw [z]; exact hel
        · rw [z]; exact hil
      rw [upd_ne (Nat.ne_of_lt hb')]
      exact (hf b hb).1
  done := by
    intro X hP hw hK hc i pins s σ H E I hf st hg
    subst hP hw hK
    obtain ⟨⟨old, he⟩, hit, hne⟩ := st
    obtain ⟨xs, hq, hx⟩ := hg
    obtain ⟨its, rv, p, hz⟩ := I.tuple hq
    obtain ⟨f0, f1, f2, f3, f4, f5⟩ := hf it (by simp)
    have hl := rv.length
    exact next_enum_endT (I.ok.hd hc) he hit p (by simp; omega) fun h' eb => ⟨rfl, I.turned (t' := s.toks) (fun b o hb q => eb b o hb q) f0 f1 f3 f4 f5⟩
  self := fun A i s Q E st h => let ⟨⟨_, he⟩, _⟩ := st; wpAny_pyIter_enum he h
/-- a list or a tuple -/
def SqB (K : PySem.W.Frag) (b : Bool) (H : Hp) (a : Addr) (xs : List V) : Prop := if b = true then SqT K H a xs else SqL K H a xs
theorem SqB.l {K : PySem.W.Frag} {H : Hp} {a : Addr} {xs : List V} (h : SqL K H a xs) : ∃ b, SqB K b H a xs := ⟨false, h⟩
theorem SqB.same {K : PySem.W.Frag} {b : Bool} {H H' : Hp} {a : Addr} {xs : List V} (s : Same H H') (h : SqB K b H a xs) : SqB K b H' a xs := by
  cases b with
  | false => exact sqL_same s h
  | true => exact sqT_same s h
theorem SqB.or {K : PySem.W.Frag} {b : Bool} {H : Hp} {a : Addr} {xs : List V} (h : SqB K b H a xs) : SqL K H a xs ∨ SqT K H a xs := by
  cases b with
  | false => exact .inl h
  | true => exact .inr h
def IteB (K : PySem.W.Frag) (b : Bool) (a : Addr) : It := match b with | true => IteT K a | false => Ite K a
theorem walk_enumB {K : PySem.W.Frag} {b : Bool} {a : Addr} {xs : List V} : Walk (IteB K b a) xs.length (fun H => SqB K b H a xs) (YPair (fun i => some (.int (i : Nat))) (fun i => xs[i]?)) := by
  cases b with
  | false => exact walk_enum
  | true =>
    refine ⟨fun i _ hi q => ⟨xs, xs[i], q, by simp [hi]⟩, fun _ q => ⟨xs, q, Nat.le_refl _⟩, fun i H v H' _ q y => ?_⟩
    obtain ⟨T, x, h1, h2, h3, h4⟩ := y
    exact ⟨T, .int (i : Nat), x, h1, h2, h3, rfl, h4 xs q⟩
end CT
namespace CT
open PySem PySem.Spec PySem.Calls PyProof.Rows L2 He
end CT
namespace CT
open PySem PySem.Spec PySem.Calls PyProof.Rows L2 He
end CT
namespace CT
open PySem PySem.Spec PySem.Calls PyProof.Rows L2 He PySem.W
end CT
namespace CT
open PySem PySem.Spec PySem.Calls PyProof.Rows L2 He
end CT
namespace CT
open PySem PySem.Spec PySem.Calls PyProof.Rows L2 He PySem.W
theorem RowsAt.take {K : PySem.W.Frag} {H : Hp} {as : List Addr} {rs : List Raw} (h : RowsAt K H as rs) : ∀ n, RowsAt K H (as.take n) (rs.take n) := by
  induction h with
  | nil => intro n; rw [List.take_nil, List.take_nil]; exact .nil
  | cons h _ ih =>
    intro n
    cases n with
    | zero => exact .nil
    | succ n => exact .cons h (ih n)
theorem RowsAt.drop {K : PySem.W.Frag} {H : Hp} {as : List Addr} {rs : List Raw} (h : RowsAt K H as rs) : ∀ n, RowsAt K H (as.drop n) (rs.drop n) := by
  induction h with
  | nil => intro n; rw [List.drop_nil, List.drop_nil]; exact .nil
  | cons h g ih =>
    intro n
    cases n with
    | zero => exact .cons h g
    | succ n => exact ih n
end CT
namespace CT
open PySem PySem.Spec PyProof.Rows L2
/-- a cursor over a list (false) or a tuple (true) -/
def CurAt (b : Bool) (h : Heap) (it l : Addr) (k : Nat) : Prop := match b with
  | true => h.IsTupleIter it l k
  | false => h.IsListIter it l k
def ItsAt (b : Bool) (h : Heap) (l : Addr) (xs : Array Value) : Prop := match b with
  | true => h.IsTuple l xs
  | false => h.IsList l xs
section
variable {b : Bool} {h h' : Heap} {it l a : Addr} {k : Nat} {xs : Array Value}
theorem CurAt.kept (x : CurAt b h it l k) (e : ∀ o, h.get? it = some o → h'.get? it = some o) : CurAt b h' it l k := by
  cases b with
  | true => exact Heap.IsTupleIter.at x e
  | false => exact Heap.IsListIter.at x e
theorem CurAt.obj (x : CurAt b h it l k) : ∃ o, h.get? it = some o ∧ ∀ v, o.data ≠ .cell v := by
  cases b with
  | true =>
    obtain ⟨o, e, _, d⟩ := x
    exact ⟨o, e, fun v q => by rw [d] at q; cases q⟩
  | false =>
    obtain ⟨o, e, _, d⟩ := x
    exact ⟨o, e, fun v q => by rw [d] at q; cases q⟩
theorem CurAt.lt (x : CurAt b h it l k) : it < h.objs.size := by
  obtain ⟨o, e, _⟩ := x.obj
  exact Heap.lt_size e
theorem ItsAt.lt (x : ItsAt b h l xs) : l < h.objs.size := by
  cases b with
  | true =>
    obtain ⟨o, e, _⟩ := x
    exact Heap.lt_size e
  | false =>
    obtain ⟨o, e, _⟩ := x
    exact Heap.lt_size e
end
theorem SqB.inj {X : Cx} {pins : List (Addr × Obj)} {σ : L2.St} {H : Hp} {s : Shared} {b : Bool} {a : Addr} {xs ys : List V} (I : Inv X pins σ H s) (h : SqB X.K b H a xs) (k : SqB X.K b H a ys) : xs = ys := by
  cases b with
  | false => exact I.list_inj h k
  | true => exact I.tuple_inj h k
end CT
namespace CT
open PySem PySem.Spec PySem.Calls PyProof.Rows L2 He
theorem wipe2 {σ : L2.St} {i1 i2 : Nat} {x y : V} (h12 : i1 ≠ i2) : wipe (((wipe σ [i1, i2]).set i1 (some x)).set i2 (some y)) [i1, i2] = wipe σ [i1, i2] := by
  show (((((σ.set i2 none).set i1 none).set i1 (some x)).set i2 (some y)).set i2 none).set i1 none = (σ.set i2 none).set i1 none
  apply List.ext_getElem?
  intro j
  simp only [List.getElem?_set, List.length_set]
  by_cases j1 : i1 = j
  · by_cases j2 : i2 = j <;> simp [j1, j2]
  · by_cases j2 : i2 = j <;> simp [j1, j2]
/-- keys at their addresses -/
inductive KsAt (H : Hp) : List Addr → List Mono → Prop
  | nil : KsAt H [] []
  | cons {a : Addr} {k : Mono} {as : List Addr} {ks : List Mono} (h : H a = some (.tup (k.map V.int))) (t : KsAt H as ks) : KsAt H (a :: as) (k :: ks)
theorem KsAt.keep {H H' : Hp} (e : ∀ b xs, H b = some (.tup xs) → H' b = some (.tup xs)) {as : List Addr} {ks : List Mono} (h : KsAt H as ks) : KsAt H' as ks := by
  induction h with
  | nil => exact .nil
  | cons h _ ih => exact .cons (e _ _ h) ih
theorem KsAt.app {H : Hp} {as bs : List Addr} {ks ls : List Mono} (h : KsAt H as ks) (g : KsAt H bs ls) : KsAt H (as ++ bs) (ks ++ ls) := by
  induction h with
  | nil => exact g
  | cons h _ ih => exact .cons h ih
theorem KsAt.length {H : Hp} {as : List Addr} {ks : List Mono} (h : KsAt H as ks) : as.length = ks.length := by
  induction h with
  | nil => rfl
  | cons _ _ ih => exact congrArg Nat.succ ih
theorem KsAt.at {H : Hp} {as : List Addr} {ks : List Mono} (h : KsAt H as ks) : ∀ {j : Nat} {a : Addr}, as[j]? = some a → ∃ k, ks[j]? = some k ∧ H a = some (.tup (k.map V.int)) := by
  induction h with
  | nil => intro j a e; cases e
  | cons h _ ih =>
    intro j a e
    cases j with
    | zero =>
      cases e
      exact ⟨_, rfl, h⟩
    | succ j => exact ih e
end CT
namespace CT
/-- a table that has only fit keys -/
def FitK (n : Nat) (T : Tab) : Prop := (keysT T).Nodup ∧ ∀ k ∈ keysT T, k.length = n ∧ ∀ e ∈ k, 0 ≤ e
theorem FitK.put {n : Nat} {T : Tab} (h : FitK n T) {k : Mono} {v : Rat} (hk : k.length = n ∧ ∀ e ∈ k, 0 ≤ e) : FitK n (CT.put T k v) := by
  refine ⟨nodup_put h.1, fun l hl => ?_⟩
  rw [keys_put] at hl
  split at hl
  · exact h.2 l hl
  · rcases List.mem_append.mp hl with hl | hl
    · exact h.2 l hl
    · rw [List.mem_singleton.mp hl]
      exact hk
theorem FitK.nz {n : Nat} {T : Tab} (h : FitK n T) : Nrm n (nzT T) :=
  ⟨nodup_nz h.1, nz_nzT, fun t ht => h.2 _ (List.mem_map_of_mem (List.mem_filter.mp ht).1)⟩
end CT
namespace CT
open PySem PySem.Spec PySem.Calls PyProof.Rows L2 He
end CT
namespace CT
open PySem PySem.Spec PySem.Calls PyProof.Rows L2
section
variable {X : Cx}
/-- one pair (key, value) made -/
def PairQ (K : PySem.W.Frag) (S : Tab) (i : Nat) (H : Hp) (t : Addr) : Prop := ∃ p, S[i]? = some p ∧ ∃ q r, H t = some (.tup [.ref q, .ref r]) ∧ H q = some (.tup (p.1.map V.int)) ∧ Qt K H r p.2
theorem PairQ.keep {K : PySem.W.Frag} {S : Tab} {i : Nat} {H H' : Hp} {t : Addr} (k : TK2 K H H') (h : PairQ K S i H t) : PairQ K S i H' t := by
  obtain ⟨p, e, q, r, h1, h2, h3⟩ := h
  exact ⟨p, e, q, r, k.2 _ _ h1, k.2 _ _ h2, h3.keep k.1⟩
/-- a table with each number times v -/
def scaleT (v : Rat) (P : Tab) : Tab := P.map fun t => (t.1, t.2 * v)
theorem keys_scaleT (v : Rat) (P : Tab) : keysT (scaleT v P) = keysT P := by
  unfold keysT scaleT
  rw [List.map_map]
  rfl
theorem Nrm.scale {n : Nat} {P : Tab} (h : Nrm n P) {v : Rat} (hv : v ≠ 0) : Nrm n (scaleT v P) := by
  refine ⟨by rw [keys_scaleT]; exact h.nd, fun t ht => ?_, fun t ht => ?_⟩
  · obtain ⟨u, hu, rfl⟩ := List.mem_map.mp ht
    first | exact h.ln u hu | exact (fun z => (Rat.mul_ne_zero (h.nz u hu) hv) z) | grind [h.nz u hu]
  · obtain ⟨u, hu, rfl⟩ := List.mem_map.mp ht
    first | exact h.ln u hu | exact Rat.mul_ne_zero (h.nz u hu) hv | (have := h.nz u hu; grind)
end
end CT
namespace PL
open PySem PySem.Spec PySem.Calls PyProof.Rows L2 He CT
/-- data -/
inductive D where
  | non | bl (b : Bool) | int (i : Int) | str (x : Str) | ty (n : String) | cls (n : Str)
  | tup (l : List D) | ktup (l : List D) | lst (l : List D)
  | dK (l : List (L2.Key × D)) | dT (l : List (List L2.Key × D))
  | own (C : Str) (fs : List (Str × D))
  | scr (ns : List Int)
  | lam (env : Env) (d : LamD) (i : Nat)
  | fz (l : List D)
/-- a tuple that is tracked -/
def Tp (_ : PySem.W.Frag) (H : Hp) (a : Addr) (xs : List V) : Prop := H a = some (.tup xs) ∨ False
/-- a tuple of the module -/
def KTp (K : PySem.W.Frag) (a : Addr) (xs : List V) : Prop :=
    ∃ (o : Obj) (its : Array Value) (n : Nat), K.lookup a = some o ∧ o.cls = .type "tuple" ∧ o.data = .seq its n ∧ its.size ≤ sizeLine ∧ Vals xs its.toList
theorem Tp.sq {K : PySem.W.Frag} {H : Hp} {a : Addr} {xs : List V} (h : Tp K H a xs) : SqT K H a xs := by
  rcases h with h | h
  · exact .inl (.inl h)
  · exact h.elim
theorem KTp.sq {K : PySem.W.Frag} {H : Hp} {a : Addr} {xs : List V} (h : KTp K a xs) : SqT K H a xs := .inr h
mutual
/-- v holds the data d -/
inductive Rp (K : PySem.W.Frag) (H : Hp) : V → D → Prop
  | non : Rp K H .non .non
  | bl (b : Bool) : Rp K H (.bl b) (.bl b)
  | int (i : Int) : Rp K H (.int i) (.int i)
  | str (x : Str) : Rp K H (.str x) (.str x)
  | ty (n : String) : Rp K H (.ty n) (.ty n)
  | cls (n : Str) : Rp K H (.ref (ga K n)) (.cls n)
  | tup {a : Addr} {xs : List V} {ds : List D} : Tp K H a xs → RpL K H xs ds → Rp K H (.ref a) (.tup ds)
  | ktup {a : Addr} {xs : List V} {ds : List D} : KTp K a xs → RpL K H xs ds → Rp K H (.ref a) (.ktup ds)
  | scr {a : Addr} {ns : List Int} : SqL K H a (ns.map V.int) → Rp K H (.ref a) (.scr ns)
  | lam {a : Addr} {env : Env} {d : LamD} {i : Nat} : LamAt env d a H → Rp K H (.ref a) (.lam env d i)
  | lst {a : Addr} {xs : List V} {ds : List D} : H a = some (.lst xs) → RpL K H xs ds → Rp K H (.ref a) (.lst ds)
  | fz {a : Addr} {o : Obj} {xs : List V} {ds : List D} : H a = some (.frz o (.lst xs)) → RpL K H xs ds → Rp K H (.ref a) (.fz ds)
  | dK {a : Addr} {kvs : List (L2.Key × V)} {l : List (L2.Key × D)} : Rd H a (.dK kvs) → kvs.map Prod.fst = l.map Prod.fst → RpL K H (kvs.map Prod.snd) (l.map Prod.snd) → Rp K H (.ref a) (.dK l)
  | dT {a : Addr} {kvs : List (List L2.Key × V)} {l : List (List L2.Key × D)} : Rd H a (.dT kvs) → kvs.map Prod.fst = l.map Prod.fst → RpL K H (kvs.map Prod.snd) (l.map Prod.snd) → Rp K H (.ref a) (.dT l)
  | own {a dx : Addr} {C : Str} {fs : List (Str × V)} {l : List (Str × D)} : H a = some (.ins (ga K C) dx fs) → fs.map Prod.fst = l.map Prod.fst → RpL K H (fs.map Prod.snd) (l.map Prod.snd) → Rp K H (.ref a) (.own C l)
inductive RpL (K : PySem.W.Frag) (H : Hp) : List V → List D → Prop
  | nil : RpL K H [] []
  | cons {v : V} {vs : List V} {d : D} {ds : List D} : Rp K H v d → RpL K H vs ds → RpL K H (v :: vs) (d :: ds)
end
/-- what stands stays, but that lists and dicts may be frozen or thawed -/
structure Kp (H H' : Hp) : Prop where
  tup : ∀ b xs, H b = some (.tup xs) → H' b = some (.tup xs)
  ext : ∀ b φ, H b = some (.ext φ) → H' b = some (.ext φ)
  ins : ∀ b C dx fs, H b = some (.ins C dx fs) → H' b = some (.ins C dx fs)
  lst : ∀ b xs, H b = some (.lst xs) → H' b = some (.lst xs)
  scr : ∀ b xs, Rd H b (.lst xs) → Rd H' b (.lst xs)
  dK : ∀ b l, Rd H b (.dK l) → Rd H' b (.dK l)
  dT : ∀ b l, Rd H b (.dT l) → Rd H' b (.dT l)
  fz : ∀ b o xs, H b = some (.frz o (.lst xs)) → H' b = some (.frz o (.lst xs))
theorem Kp.lam {H H' : Hp} (k : Kp H H') {env : Env} {d : LamD} {a : Addr} (h : LamAt env d a H) : LamAt env d a H' := by
  obtain ⟨c', dv, h1, h2, h3⟩ := h
  exact ⟨c', dv, k.ext _ _ h1, k.ext _ _ h2, h3.keep k.tup⟩
theorem rd_same {H H' : Hp} (e : Same H H') {b : Addr} {o : HO} (h : Rd H b o) : Rd H' b o := h.elim (fun h => .inl (e _ _ h)) fun ⟨z, h⟩ => .inr ⟨z, e _ _ h⟩
theorem Kp.same {H H' : Hp} (e : Same H H') : Kp H H' := ⟨fun b xs h => e _ _ h, fun _ _ h => e _ _ h, fun b C dx fs h => e _ _ h, fun _ _ h => e _ _ h, fun _ _ h => rd_same e h, fun _ _ h => rd_same e h, fun _ _ h => rd_same e h, fun _ _ _ h => e _ _ h⟩
section
variable {K : PySem.W.Frag} {H H' : Hp}
mutual
theorem Rp.kp (k : Kp H H') : ∀ {v : V} {d : D}, Rp K H v d → Rp K H' v d
  | _, _, .non => .non
  | _, _, .bl b => .bl b
  | _, _, .int i => .int i
  | _, _, .str x => .str x
  | _, _, .ty n => .ty n
  | _, _, .cls n => .cls n
  | _, _, .tup h r => .tup (h.elim (fun h => .inl (k.tup _ _ h)) fun h => .inr h) (r.kp k)
  | _, _, .ktup h r => .ktup h (r.kp k)
  | _, _, .scr h => .scr (h.elim (fun h => .inl (k.scr _ _ h)) fun h => .inr h)
  | _, _, .lam h => .lam (k.lam h)
  | _, _, .lst h r => .lst (k.lst _ _ h) (r.kp k)
  | _, _, .fz h r => .fz (k.fz _ _ _ h) (r.kp k)
  | _, _, .dK h e r => .dK (k.dK _ _ h) e (r.kp k)
  | _, _, .dT h e r => .dT (k.dT _ _ h) e (r.kp k)
  | _, _, .own h e r => .own (k.ins _ _ _ _ h) e (r.kp k)
theorem RpL.kp (k : Kp H H') : ∀ {vs : List V} {ds : List D}, RpL K H vs ds → RpL K H' vs ds
  | _, _, .nil => .nil
  | _, _, .cons h r => .cons (h.kp k) (r.kp k)
end
theorem Rp.same (e : Same H H') {v : V} {d : D} (h : Rp K H v d) : Rp K H' v d := h.kp (.same e)
theorem RpL.same (e : Same H H') {vs : List V} {ds : List D} (h : RpL K H vs ds) : RpL K H' vs ds := h.kp (.same e)
theorem RpL.length : ∀ {vs : List V} {ds : List D}, RpL K H vs ds → vs.length = ds.length
  | _, _, .nil => rfl
  | _, _, .cons _ r => congrArg Nat.succ r.length
theorem RpL.get : ∀ {vs : List V} {ds : List D}, RpL K H vs ds → ∀ {i : Nat} {d : D}, ds[i]? = some d → ∃ v, vs[i]? = some v ∧ Rp K H v d
  | _, _, .nil, i, d, e => by simp at e
  | _, _, .cons h r, 0, d, e => by cases e; exact ⟨_, rfl, h⟩
  | _, _, .cons h r, i + 1, d, e => by simpa using r.get (i := i) (by simpa using e)
theorem RpL.get' : ∀ {vs : List V} {ds : List D}, RpL K H vs ds → ∀ {i : Nat} {v : V}, vs[i]? = some v → ∃ d, ds[i]? = some d ∧ Rp K H v d
  | _, _, .nil, i, d, e => by simp at e
  | _, _, .cons h r, 0, d, e => by cases e; exact ⟨_, rfl, h⟩
  | _, _, .cons h r, i + 1, d, e => by simpa using r.get' (i := i) (by simpa using e)
theorem RpL.append : ∀ {vs us : List V} {ds es : List D}, RpL K H vs ds → RpL K H us es → RpL K H (vs ++ us) (ds ++ es)
  | _, _, _, _, .nil, s => s
  | _, _, _, _, .cons h r, s => .cons h (r.append s)
theorem RpL.take : ∀ {vs : List V} {ds : List D} (n : Nat), RpL K H vs ds → RpL K H (vs.take n) (ds.take n)
  | _, _, 0, _ => .nil
  | _, _, _ + 1, .nil => .nil
  | _, _, n + 1, .cons h r => .cons h (r.take n)
theorem RpL.drop : ∀ {vs : List V} {ds : List D} (n : Nat), RpL K H vs ds → RpL K H (vs.drop n) (ds.drop n)
  | _, _, 0, r => r
  | _, _, _ + 1, .nil => .nil
  | _, _, n + 1, .cons _ r => r.drop n
theorem RpL.set {v : V} {d : D} (h : Rp K H v d) : ∀ {vs : List V} {ds : List D} (i : Nat), RpL K H vs ds → RpL K H (vs.set i v) (ds.set i d)
  | _, _, _, .nil => .nil
  | _, _, 0, .cons _ r => .cons h r
  | _, _, i + 1, .cons g r => .cons g (r.set h i)
theorem RpL.reverse {vs : List V} {ds : List D} (h : RpL K H vs ds) : RpL K H vs.reverse ds.reverse := by
  induction vs generalizing ds with
  | nil => cases h; exact .nil
  | cons v vs ih =>
    cases h with
    | cons h r =>
      rw [List.reverse_cons, List.reverse_cons]
      exact (ih r).append (.cons h .nil)
theorem RpL.ints : ∀ (l : List Int), RpL K H (l.map V.int) (l.map D.int)
  | [] => .nil
  | i :: l => .cons (.int i) (RpL.ints l)
end
/-- a slot: whether it is owned (may be changed, nothing else knows it), its data -/
abbrev Slot := Option (Bool × D)
/-- the object at a, owned: its data; what it holds stands in Hz -/
def Top (K : PySem.W.Frag) (Hz H : Hp) (a : Addr) : D → Prop
  | .lst ds => ∃ xs, H a = some (.lst xs) ∧ RpL K Hz xs ds
  | .dK l => ∃ kvs, H a = some (.dK kvs) ∧ kvs.map Prod.fst = l.map Prod.fst ∧ RpL K Hz (kvs.map Prod.snd) (l.map Prod.snd)
  | .dT l => ∃ kvs, H a = some (.dT kvs) ∧ kvs.map Prod.fst = l.map Prod.fst ∧ RpL K Hz (kvs.map Prod.snd) (l.map Prod.snd)
  | .own C l => ∃ dx fs, H a = some (.ins (ga K C) dx fs) ∧ fs.map Prod.fst = l.map Prod.fst ∧ RpL K Hz (fs.map Prod.snd) (l.map Prod.snd)
  | _ => False
/-- what stands around a frame: other objects, the object that the def was handed to change -/
structure Frm where
  f : Hp
  a : Option Addr
def Own (K : PySem.W.Frag) (F : Frm) (Hz H : Hp) (a : Addr) (d : D) : Prop := Hz a = none ∧ F.f a = none ∧ Top K Hz H a d
/-- b does not stand, or it is a tuple, that nobody changes -/
def HzN (Hz : Hp) (b : Addr) (o : HO) : Prop := Hz b = none ∨ ∃ xs, o = .tup xs
theorem HzN.no {Hz : Hp} {b : Addr} {o : HO} (h : HzN Hz b o) (nt : ∀ xs, o ≠ .tup xs) : Hz b = none := h.elim id fun ⟨xs, e⟩ => absurd e (nt xs)
def Fr (F : Frm) (Hz H : Hp) : Prop := ∀ b o, F.f b = some o → H b = some o ∧ HzN Hz b o
def NT (Hz : Hp) : Prop := ∀ b o, Hz b = some o → ∀ ps, o ≠ .tbl ps
structure EnvR (K : PySem.W.Frag) (T : List (Addr × Str)) (F : Frm) (Hz H : Hp) (σ : L2.St) (ρ : List Slot) : Prop where
  len : σ.length = ρ.length
  ext : Same Hz H
  fr : Fr F Hz H
  tb : LamX.Tabs T H
  tz : ∀ p ∈ T, Hz p.1 = none ∧ F.f p.1 = none
  sh : ∀ (i : Nat) (d : D), ρ[i]? = some (some (false, d)) → ∃ v, σ[i]? = some (some v) ∧ Rp K Hz v d
  ow : ∀ (i : Nat) (d : D), ρ[i]? = some (some (true, d)) → ∃ a, σ[i]? = some (some (.ref a)) ∧ Own K F Hz H a d
  dis : ∀ (i j : Nat) (d e : D) (a : Addr), i ≠ j → ρ[i]? = some (some (true, d)) → ρ[j]? = some (some (true, e)) → σ[i]? = some (some (.ref a)) → σ[j]? ≠ some (some (.ref a))
  fl : T = [] ∨ ∀ b o, F.f b = some o → (∀ φ, o ≠ .ext φ) ∧ (∀ xs, o ≠ .tup xs) ∧ ∀ ps, o ≠ .tbl ps
  nt : NT Hz
  pn : ∀ a d, F.a = some a → ρ[0]? = some (some (true, d)) → σ[0]? = some (some (.ref a))
/-- a is no slot's own object -/
def NoSlot (σ : L2.St) (ρ : List Slot) (a : Addr) : Prop := ∀ (i : Nat) (e : D), ρ[i]? = some (some (true, e)) → σ[i]? ≠ some (some (.ref a))
theorem Top.obj {K : PySem.W.Frag} {Hz H : Hp} {a : Addr} {d : D} (h : Top K Hz H a d) : ∃ o, H a = some o ∧ ∀ ps, o ≠ .tbl ps := by
  cases d with
  | lst ds => obtain ⟨xs, e, _⟩ := h; exact ⟨_, e, fun _ z => by cases z⟩
  | dK l => obtain ⟨xs, e, _⟩ := h; exact ⟨_, e, fun _ z => by cases z⟩
  | dT l => obtain ⟨xs, e, _⟩ := h; exact ⟨_, e, fun _ z => by cases z⟩
  | own C l => obtain ⟨dx, fs, e, _⟩ := h; exact ⟨_, e, fun _ z => by cases z⟩
  | _ => exact h.elim
theorem Top.kind {K : PySem.W.Frag} {Hz H : Hp} {a : Addr} {d : D} (h : Top K Hz H a d) : ∃ o, H a = some o ∧ (∀ ps, o ≠ .tbl ps) ∧ (∀ φ, o ≠ .ext φ) ∧ ∀ xs, o ≠ .tup xs := by
  cases d with
  | lst ds => obtain ⟨xs, e, _⟩ := h; exact ⟨_, e, (fun _ z => by cases z), (fun _ z => by cases z), fun _ z => by cases z⟩
  | dK l => obtain ⟨xs, e, _⟩ := h; exact ⟨_, e, (fun _ z => by cases z), (fun _ z => by cases z), fun _ z => by cases z⟩
  | dT l => obtain ⟨xs, e, _⟩ := h; exact ⟨_, e, (fun _ z => by cases z), (fun _ z => by cases z), fun _ z => by cases z⟩
  | own C l => obtain ⟨dx, fs, e, _⟩ := h; exact ⟨_, e, (fun _ z => by cases z), (fun _ z => by cases z), fun _ z => by cases z⟩
  | _ => exact h.elim
theorem Top.keep {K : PySem.W.Frag} {Hz Hz' H H' : Hp} {a : Addr} {d : D} (h : Top K Hz H a d) (k : Kp Hz Hz') (e : ∀ o, H a = some o → H' a = some o) : Top K Hz' H' a d := by
  cases d with
  | lst ds => obtain ⟨xs, q, r⟩ := h; exact ⟨_, e _ q, r.kp k⟩
  | dK l => obtain ⟨xs, q, w, r⟩ := h; exact ⟨_, e _ q, w, r.kp k⟩
  | dT l => obtain ⟨xs, q, w, r⟩ := h; exact ⟨_, e _ q, w, r.kp k⟩
  | own C l => obtain ⟨dx, fs, q, w, r⟩ := h; exact ⟨dx, fs, e _ q, w, r.kp k⟩
  | _ => exact h.elim
theorem tabs_ne {T : List (Addr × Str)} {H : Hp} (t : LamX.Tabs T H) {a : Addr} {o : HO} (h : H a = some o) (n : ∀ ps, o ≠ .tbl ps) : ∀ p ∈ T, p.1 ≠ a := fun p hp z => by
  obtain ⟨ps, e, _⟩ := t p hp
  rw [z, h] at e
  exact n _ (Option.some.inj e)
section
variable {K : PySem.W.Frag} {T : List (Addr × Str)} {F : Frm} {Hz H : Hp} {σ : L2.St} {ρ : List Slot}
/-- an object of ours joins what stands -/
theorem EnvR.join (E : EnvR K T F Hz H σ ρ) {a : Addr} {o : HO} (hz : Hz a = none) (hf : F.f a = none ∨ ∃ xs, o = .tup xs) (ho : H a = some o) (nt : ∀ ps, o ≠ .tbl ps) (ns : NoSlot σ ρ a) : EnvR K T F (upd Hz a o) H σ ρ := by
  have s : Same Hz (upd Hz a o) := same_new hz
  refine ⟨E.len, fun b u e => ?_, fun b u e => ?_, E.tb, fun p hp => ⟨?_, (E.tz p hp).2⟩, fun i d e => ?_, fun i d e => ?_, E.dis, E.fl, fun b u e => ?_, E.pn⟩
  · by_cases h : b = a
    · subst h
      rw [upd_same] at e
      cases e
      exact ho
    · rw [upd_ne h] at e
      exact E.ext _ _ e
  · have := E.fr b u e
    refine ⟨this.1, ?_⟩
    by_cases hb : b = a
    · subst hb
      have h1 := this.1
      rw [ho] at h1
      cases h1
      rcases hf with hf | ht
      · rw [hf] at e
        cases e
      · exact .inr ht
    · exact this.2.imp (fun z => by rw [upd_ne hb]; exact z) id
  · rw [upd_ne (tabs_ne E.tb ho nt p hp)]
    exact (E.tz p hp).1
  · obtain ⟨v, h1, h2⟩ := E.sh i d e
    exact ⟨v, h1, h2.same s⟩
  · obtain ⟨b, h1, h2, h3, h4⟩ := E.ow i d e
    refine ⟨b, h1, ?_, h3, h4.keep (.same s) fun _ z => z⟩
    rw [upd_ne (fun z => ns i d e (by rw [← z]; exact h1))]
    exact h2
  · by_cases h : b = a
    · subst h
      rw [upd_same] at e
      cases e
      exact nt
    · rw [upd_ne h] at e
      exact E.nt b u e
/-- the heap grows by what nothing here knows -/
theorem EnvR.grow (E : EnvR K T F Hz H σ ρ) {H' : Hp} (s : Same H H') : EnvR K T F Hz H' σ ρ :=
  ⟨E.len, E.ext.trans s, fun b o e => ⟨s _ _ (E.fr b o e).1, (E.fr b o e).2⟩, E.tb.ext s, E.tz, E.sh, fun i d e => by
    obtain ⟨a, h1, h2, h3, h4⟩ := E.ow i d e
    exact ⟨a, h1, h2, h3, h4.keep (.same (Same.refl _)) (s _)⟩, E.dis, E.fl, E.nt, E.pn⟩
/-- a new object that stands from now on -/
theorem EnvR.new (E : EnvR K T F Hz H σ ρ) {p : Addr} {o : HO} (hp : H p = none) (nt : ∀ ps, o ≠ .tbl ps) : EnvR K T F (upd Hz p o) (upd H p o) σ ρ := by
  refine (E.grow (same_new hp)).join ?_ (.inl ?_) upd_same nt fun i e q z => ?_
  · rcases h : Hz p with _ | u
    · rfl
    · rw [E.ext _ _ h] at hp
      cases hp
  · rcases h : F.f p with _ | u
    · rfl
    · rw [(E.fr _ _ h).1] at hp
      cases hp
  · obtain ⟨a, h1, _, _, h4⟩ := E.ow i e q
    rw [h1] at z
    cases z
    obtain ⟨o, ho, _⟩ := h4.obj
    rw [hp] at ho
    cases ho
theorem EnvR.fresh (E : EnvR K T F Hz H σ ρ) {p : Addr} (hp : H p = none) : Hz p = none ∧ F.f p = none ∧ NoSlot σ ρ p := by
  refine ⟨?_, ?_, fun i e q z => ?_⟩
  · rcases h : Hz p with _ | u
    · rfl
    · rw [E.ext _ _ h] at hp
      cases hp
  · rcases h : F.f p with _ | u
    · rfl
    · rw [(E.fr _ _ h).1] at hp
      cases hp
  · obtain ⟨a, h1, _, _, h4⟩ := E.ow i e q
    rw [h1] at z
    cases z
    obtain ⟨o, ho, _⟩ := h4.obj
    rw [hp] at ho
    cases ho
/-- a slot takes data that stands -/
theorem EnvR.setD (E : EnvR K T F Hz H σ ρ) {i : Nat} {v : V} {d : D} (h : Rp K Hz v d) : EnvR K T F Hz H (σ.set i (some v)) (ρ.set i (some (false, d))) := by
  refine ⟨by rw [List.length_set, List.length_set, E.len], E.ext, E.fr, E.tb, E.tz, fun j e q => ?_, fun j e q => ?_, fun j k e f a hjk q1 q2 q3 => ?_, E.fl, E.nt, fun a e ea q => ?_⟩
  · by_cases hj : i = j
    · subst hj
      have hl := (List.getElem?_eq_some_iff.mp q).1
      rw [List.length_set] at hl
      rw [List.getElem?_set_self hl] at q
      cases q
      exact ⟨v, List.getElem?_set_self (by rw [E.len]; exact hl), h⟩
    · rw [List.getElem?_set_ne hj] at q ⊢
      exact E.sh j e q
  · by_cases hj : i = j
    · subst hj
      have hl := (List.getElem?_eq_some_iff.mp q).1
      rw [List.length_set] at hl
      rw [List.getElem?_set_self hl] at q
      cases q
    · rw [List.getElem?_set_ne hj] at q ⊢
      exact E.ow j e q
  · have ne : ∀ {j : Nat} {e : D}, (ρ.set i (some (false, d)))[j]? = some (some (true, e)) → i ≠ j := fun {j e} q z => by
      subst z
      have hl := (List.getElem?_eq_some_iff.mp q).1
      rw [List.length_set] at hl
      rw [List.getElem?_set_self hl] at q
      cases q
    have n1 := ne q1
    have n2 := ne q2
    rw [List.getElem?_set_ne n1] at q1 q3
    rw [List.getElem?_set_ne n2] at q2 ⊢
    exact E.dis j k e f a hjk q1 q2 q3
  · by_cases h0 : i = 0
    · subst h0
      have hl := (List.getElem?_eq_some_iff.mp q).1
      rw [List.length_set] at hl
      rw [List.getElem?_set_self hl] at q
      cases q
    · rw [List.getElem?_set_ne h0] at q ⊢
      exact E.pn a e ea q
/-- a slot takes an object of ours -/
theorem EnvR.setO (E : EnvR K T F Hz H σ ρ) {i : Nat} {a : Addr} {d : D} (h : Own K F Hz H a d) (ns : NoSlot σ ρ a) (h0 : i ≠ 0) : EnvR K T F Hz H (σ.set i (some (.ref a))) (ρ.set i (some (true, d))) := by
  refine ⟨by rw [List.length_set, List.length_set, E.len], E.ext, E.fr, E.tb, E.tz, fun j e q => ?_, fun j e q => ?_, fun j k e f b hjk q1 q2 q3 => ?_, E.fl, E.nt, fun b e eb q => by
    rw [List.getElem?_set_ne h0] at q ⊢
    exact E.pn b e eb q⟩
  · by_cases hj : i = j
    · subst hj
      have hl := (List.getElem?_eq_some_iff.mp q).1
      rw [List.length_set] at hl
      rw [List.getElem?_set_self hl] at q
      cases q
    · rw [List.getElem?_set_ne hj] at q ⊢
      exact E.sh j e q
  · by_cases hj : i = j
    · subst hj
      have hl := (List.getElem?_eq_some_iff.mp q).1
      rw [List.length_set] at hl
      rw [List.getElem?_set_self hl] at q
      cases q
      exact ⟨a, List.getElem?_set_self (by rw [E.len]; exact hl), h⟩
    · rw [List.getElem?_set_ne hj] at q ⊢
      exact E.ow j e q
  · by_cases h1 : i = j
    · subst h1
      have hl := (List.getElem?_eq_some_iff.mp q1).1
      rw [List.length_set, ← E.len] at hl
      rw [List.getElem?_set_self hl] at q3
      cases q3
      rw [List.getElem?_set_ne hjk] at q2 ⊢
      exact ns k f q2
    · rw [List.getElem?_set_ne h1] at q1 q3
      by_cases h2 : i = k
      · subst h2
        have hl := (List.getElem?_eq_some_iff.mp q2).1
        rw [List.length_set, ← E.len] at hl
        rw [List.getElem?_set_self hl]
        intro z
        cases z
        exact ns j e q1 q3
      · rw [List.getElem?_set_ne h2] at q2 ⊢
        exact E.dis j k e f b hjk q1 q2 q3
/-- an owned slot is given up: what it holds stands from now on -/
theorem EnvR.give (E : EnvR K T F Hz H σ ρ) {i : Nat} {d : D} (q : ρ[i]? = some (some (true, d))) : ∃ a Hz', σ[i]? = some (some (.ref a)) ∧ EnvR K T F Hz' H σ (ρ.set i (some (false, d))) ∧ Same Hz Hz' ∧ Rp K Hz' (.ref a) d := by
  obtain ⟨a, h1, h2, h3, h4⟩ := E.ow i d q
  obtain ⟨o, ho, nt⟩ := h4.obj
  have hi := (List.getElem?_eq_some_iff.mp q).1
  -- the frame without the slot
  have E1 : EnvR K T F Hz H σ (ρ.set i none) := by
    refine ⟨by rw [List.length_set, E.len], E.ext, E.fr, E.tb, E.tz, fun j e z => ?_, fun j e z => ?_, fun j k e f b hjk z1 z2 z3 => ?_, E.fl, E.nt, fun b e eb z => ?_⟩
    · by_cases hj : i = j
      · subst hj
        rw [List.getElem?_set_self hi] at z
        cases z
      · rw [List.getElem?_set_ne hj] at z
        exact E.sh j e z
    · by_cases hj : i = j
      · subst hj
        rw [List.getElem?_set_self hi] at z
        cases z
      · rw [List.getElem?_set_ne hj] at z
        exact E.ow j e z
    · have ne : ∀ {j : Nat} {e : D}, (ρ.set i none)[j]? = some (some (true, e)) → i ≠ j := fun {j e} q z => by
        subst z
        rw [List.getElem?_set_self hi] at q
        cases q
      rw [List.getElem?_set_ne (ne z1)] at z1
      rw [List.getElem?_set_ne (ne z2)] at z2
      exact E.dis j k e f b hjk z1 z2 z3
    · by_cases h0 : i = 0
      · subst h0
        rw [List.getElem?_set_self hi] at z
        cases z
      · rw [List.getElem?_set_ne h0] at z
        exact E.pn b e eb z
  have ns : NoSlot σ (ρ.set i none) a := fun j e z w => by
    by_cases hj : i = j
    · subst hj
      rw [List.getElem?_set_self hi] at z
      cases z
    · rw [List.getElem?_set_ne hj] at z
      exact E.dis i j d e a hj q z h1 w
  have E2 := E1.join h2 (.inl h3) ho nt ns
  have s : Same Hz (upd Hz a o) := same_new h2
  have rp : Rp K (upd Hz a o) (.ref a) d := by
    cases d with
    | lst ds => obtain ⟨xs, q, r⟩ := h4; rw [ho] at q; cases q; exact .lst upd_same (r.same s)
    | dK l => obtain ⟨xs, q, w, r⟩ := h4; rw [ho] at q; cases q; exact .dK (.inl upd_same) w (r.same s)
    | dT l => obtain ⟨xs, q, w, r⟩ := h4; rw [ho] at q; cases q; exact .dT (.inl upd_same) w (r.same s)
    | own C l => obtain ⟨dx, fs, q, w, r⟩ := h4; rw [ho] at q; cases q; exact .own upd_same w (r.same s)
    | _ => exact h4.elim
  refine ⟨a, upd Hz a o, h1, ?_, s, rp⟩
  have E3 := E2.setD (i := i) rp
  rw [List.set_set] at E3
  have : σ.set i (some (.ref a)) = σ := by
    refine List.ext_getElem? fun j => ?_
    by_cases hj : i = j
    · subst hj
      rw [List.getElem?_set_self (by rw [E.len]; exact hi), h1]
    · rw [List.getElem?_set_ne hj]
  rw [this] at E3
  exact E3
/-- an owned slot's object is written -/
theorem EnvR.write (E : EnvR K T F Hz H σ ρ) {i : Nat} {d e : D} {a : Addr} {o : HO} (q : ρ[i]? = some (some (true, d))) (ha : σ[i]? = some (some (.ref a))) (nt : ∀ ps, o ≠ .tbl ps) (ht : Top K Hz (upd H a o) a e) : EnvR K T F Hz (upd H a o) σ (ρ.set i (some (true, e))) := by
  obtain ⟨a', h1, h2, h3, h4⟩ := E.ow i d q
  rw [ha] at h1
  cases h1
  obtain ⟨o0, ho, nt0⟩ := h4.obj
  have hi := (List.getElem?_eq_some_iff.mp q).1
  refine ⟨by rw [List.length_set, E.len], fun b u z => ?_, fun b u z => ?_, fun p hp => ?_, E.tz, fun j f z => ?_, fun j f z => ?_, fun j k f g b hjk z1 z2 z3 => ?_, E.fl, E.nt, fun b f eb z => ?_⟩
  · rw [upd_ne (ne_of_none z h2)]
    exact E.ext _ _ z
  · have := E.fr b u z
    rw [upd_ne (ne_of_none z h3)]
    exact this
  · obtain ⟨ps, e1, e2, e3⟩ := E.tb p hp
    have np := tabs_ne E.tb ho nt0 p hp
    refine ⟨ps, by rw [upd_ne np]; exact e1, e2, fun pos cv hc => ?_⟩
    obtain ⟨c, e4, e5⟩ := e3 pos cv hc
    refine ⟨c, e4, ?_⟩
    rw [upd_ne (ne_of e5 ho fun w => ?_)]
    · exact e5
    · unfold LamX.CodeO at w
      rw [← w] at ho
      cases d with
      | lst ds => obtain ⟨xs, q, r⟩ := h4; rw [ho] at q; cases q
      | dK l => obtain ⟨xs, q, w, r⟩ := h4; rw [ho] at q; cases q
      | dT l => obtain ⟨xs, q, w, r⟩ := h4; rw [ho] at q; cases q
      | own C l => obtain ⟨dx, fs, q, w, r⟩ := h4; rw [ho] at q; cases q
      | _ => exact h4.elim
  · by_cases hj : i = j
    · subst hj
      rw [List.getElem?_set_self hi] at z
      cases z
    · rw [List.getElem?_set_ne hj] at z
      exact E.sh j f z
  · by_cases hj : i = j
    · subst hj
      rw [List.getElem?_set_self hi] at z
      cases z
      exact ⟨a, ha, h2, h3, ht⟩
    · rw [List.getElem?_set_ne hj] at z
      obtain ⟨b, k1, k2, k3, k4⟩ := E.ow j f z
      refine ⟨b, k1, k2, k3, k4.keep (.same (Same.refl _)) fun u w => ?_⟩
      rw [upd_ne (fun y => E.dis i j d f a hj q z ha (by rw [k1, y]))]
      exact w
  · have src : ∀ {j : Nat} {f : D}, (ρ.set i (some (true, e)))[j]? = some (some (true, f)) → ∃ g, ρ[j]? = some (some (true, g)) := fun {j f} z => by
      by_cases hj : i = j
      · subst hj
        exact ⟨d, q⟩
      · rw [List.getElem?_set_ne hj] at z
        exact ⟨f, z⟩
    obtain ⟨f', z1⟩ := src z1
    obtain ⟨g', z2⟩ := src z2
    exact E.dis j k f' g' b hjk z1 z2 z3
  · by_cases h0 : i = 0
    · subst h0
      exact E.pn b d eb q
    · rw [List.getElem?_set_ne h0] at z
      exact E.pn b f eb z
/-- a tuple that is told joins what stands -/
theorem EnvR.joinT (E : EnvR K T F Hz H σ ρ) {p : Addr} {xs : List V} (ho : H p = some (.tup xs)) : ∃ Hz', EnvR K T F Hz' H σ ρ ∧ Same Hz Hz' ∧ Hz' p = some (.tup xs) := by
  rcases q : Hz p with _ | u
  · refine ⟨_, E.join q (.inr ⟨xs, rfl⟩) ho (fun _ z => by cases z) fun i e z w => ?_, same_new q, upd_same⟩
    obtain ⟨a, h1, _, _, h4⟩ := E.ow i e z
    rw [h1] at w
    cases w
    obtain ⟨u, hu, _, _, k3⟩ := h4.kind
    rw [ho] at hu
    cases hu
    exact k3 xs rfl
  · have := E.ext _ _ q
    rw [ho] at this
    cases this
    exact ⟨Hz, E, Same.refl _, q⟩
end
end PL
namespace PL
open PySem PySem.Spec PySem.Calls PyProof.Rows L2 He CT
/-- an error of the program's own: its class, its field, what that holds -/
structure Exc where
  n : Str
  x : Option Str
  d : D
inductive Res (α : Type) where
  | ok (a : α) (ρ : List Slot)
  | exc (e : Exc) (ρ : List Slot)
  | fault
abbrev M (α : Type) := List Slot → Res α
def Res.bind {α β : Type} (r : Res α) (k : α → M β) : Res β := match r with
  | .ok a ρ => k a ρ
  | .exc e ρ => .exc e ρ
  | .fault => .fault
def excFs (n : Str) (x : Option Str) (v : V) : List (Str × V) := ("tag", .str n) :: (match x with
  | none => []
  | some y => [(y, v)])
def ExcR (K : PySem.W.Frag) (Hz H : Hp) (e : Exc) (cls : Value) (dd : Option Addr) : Prop := cls = .ref (ga K e.n) ∧ ∃ a v, dd = some a ∧ Rp K Hz v e.d ∧ H a = some (.xd (excFs e.n e.x v)) ∧ (e.x = none → e.d = .non)
section
variable {α β γ δ : Type}
def Okx (R : Hp → β → α → Prop) (K : PySem.W.Frag) (T : List (Addr × Str)) (E : XK) (F : Frm) (Hz : Hp) (σ : L2.St) (Q : β → Hp → Prop) : Res α → Prop
  | .ok a ρ => ∀ x Hz' H', EnvR K T F Hz' H' σ ρ → Same Hz Hz' → R Hz' x a → Q x H'
  | .exc e ρ => ∀ cls dd Hz' H', EnvR K T F Hz' H' σ ρ → Same Hz Hz' → ExcR K Hz' H' e cls dd → E cls dd H'
  | .fault => False
theorem Okx.mono {R : Hp → β → α → Prop} {K : PySem.W.Frag} {T : List (Addr × Str)} {E : XK} {F : Frm} {Hz Hz1 : Hp} {σ : L2.St} {Q : β → Hp → Prop} (s : Same Hz Hz1) : ∀ {r : Res α}, Okx R K T E F Hz σ Q r → Okx R K T E F Hz1 σ Q r
  | .ok a ρ, h => fun x Hz' H' e s' q => h x Hz' H' e (s.trans s') q
  | .exc x ρ, h => fun cls dd Hz' H' e s' q => h cls dd Hz' H' e (s.trans s') q
  | .fault, h => h
def LiftX (R : Hp → β → α → Prop) (K : PySem.W.Frag) (T : List (Addr × Str)) (E : XK) (t : L2.St → Hp → (β → Hp → Prop) → Prop) (g : M α) : Prop :=
  ∀ F Hz H σ ρ Q, EnvR K T F Hz H σ ρ → Okx R K T E F Hz σ Q (g ρ) → t σ H Q
def gBind (g : M α) (k : α → M β) : M β := fun ρ => (g ρ).bind k
theorem LiftX.bind {R : Hp → β → α → Prop} {R' : Hp → δ → γ → Prop} {K : PySem.W.Frag} {T : List (Addr × Str)} {E : XK} {t : L2.St → Hp → (β → Hp → Prop) → Prop} {g : M α} {k : α → M γ} {u : β → L2.St → Hp → (δ → Hp → Prop) → Prop} (ht : LiftX R K T E t g)
    (hu : ∀ F Hz H σ ρ Q x a, EnvR K T F Hz H σ ρ → R Hz x a → Okx R' K T E F Hz σ Q (k a ρ) → u x σ H Q) : LiftX R' K T E (fun σ H Q => t σ H fun x H1 => u x σ H1 Q) (gBind g k) := by
  intro F Hz H σ ρ Q E0 h
  refine ht F Hz H σ ρ _ E0 ?_
  unfold gBind at h
  cases e : g ρ with
  | ok a ρ' =>
    rw [e] at h
    intro x Hz' H' E1 s r
    exact hu F Hz' H' σ ρ' Q x a E1 r (Okx.mono s h)
  | exc x ρ' =>
    rw [e] at h
    exact h
  | fault =>
    rw [e] at h
    exact h.elim
end
section
variable {α β γ δ : Type} {R : Hp → β → α → Prop} {R' : Hp → δ → γ → Prop} {K : PySem.W.Frag} {T : List (Addr × Str)} {E : XK} {F : Frm} {Hz H : Hp} {σ : L2.St} {ρ : List Slot} {t : L2.St → Hp → (β → Hp → Prop) → Prop} {g : M α} {k : α → M γ} {Q : δ → Hp → Prop} {U : β → Hp → Prop}
/-- one step: t is done, what follows is left -/
theorem LiftX.step (ht : LiftX R K T E t g) (E0 : EnvR K T F Hz H σ ρ) (h : Okx R' K T E F Hz σ Q ((g ρ).bind k)) (hu : ∀ x a ρ' Hz' H', EnvR K T F Hz' H' σ ρ' → Same Hz Hz' → R Hz' x a → Okx R' K T E F Hz' σ Q (k a ρ') → U x H') : t σ H U := by
  refine ht F Hz H σ ρ _ E0 ?_
  cases e : g ρ with
  | ok a ρ' =>
    rw [e] at h
    intro x Hz' H' E1 s r
    exact hu x a ρ' Hz' H' E1 s r (Okx.mono s h)
  | exc x ρ' =>
    rw [e] at h
    exact h
  | fault =>
    rw [e] at h
    exact h.elim
end
abbrev RD (K : PySem.W.Frag) : Hp → V → D → Prop := fun Hz v d => Rp K Hz v d
abbrev RA (K : PySem.W.Frag) : Hp → List V → List D → Prop := fun Hz vs ds => RpL K Hz vs ds
abbrev RT : Hp → Bool → Bool → Prop := fun _ b c => b = c
abbrev LiftD (K : PySem.W.Frag) := LiftX (RD K) K
abbrev LiftA (K : PySem.W.Frag) := LiftX (RA K) K
abbrev LiftT (K : PySem.W.Frag) := LiftX RT K
/-- a new object of ours -/
def Oko (K : PySem.W.Frag) (T : List (Addr × Str)) (E : XK) (F : Frm) (Hz : Hp) (σ : L2.St) (Q : V → Hp → Prop) : Res D → Prop
  | .ok d ρ => ∀ a Hz' H', EnvR K T F Hz' H' σ ρ → Same Hz Hz' → Own K F Hz' H' a d → NoSlot σ ρ a → Q (.ref a) H'
  | .exc e ρ => ∀ cls dd Hz' H', EnvR K T F Hz' H' σ ρ → Same Hz Hz' → ExcR K Hz' H' e cls dd → E cls dd H'
  | .fault => False
def LiftO (K : PySem.W.Frag) (T : List (Addr × Str)) (E : XK) (t : TE) (g : M D) : Prop :=
  ∀ F Hz H σ ρ Q, EnvR K T F Hz H σ ρ → Oko K T E F Hz σ Q (g ρ) → t σ H Q
section
variable {α β : Type} {R : Hp → β → α → Prop} {K : PySem.W.Frag} {T : List (Addr × Str)} {E : XK} {F : Frm} {Hz H : Hp} {σ : L2.St} {ρ : List Slot} {t : L2.St → Hp → (β → Hp → Prop) → Prop} {g : M α} {k : α → M D} {Q : V → Hp → Prop} {U : β → Hp → Prop}
theorem Oko.mono {Hz1 : Hp} (s : Same Hz Hz1) : ∀ {r : Res D}, Oko K T E F Hz σ Q r → Oko K T E F Hz1 σ Q r
  | .ok a ρ, h => fun x Hz' H' e s' q => h x Hz' H' e (s.trans s') q
  | .exc x ρ, h => fun cls dd Hz' H' e s' q => h cls dd Hz' H' e (s.trans s') q
  | .fault, h => h
theorem stepO1 (ht : ∀ Q' : β → Hp → Prop, Okx R K T E F Hz σ Q' (g ρ) → t σ H Q') (h : Oko K T E F Hz σ Q ((g ρ).bind k)) (hu : ∀ x a ρ' Hz' H', EnvR K T F Hz' H' σ ρ' → Same Hz Hz' → R Hz' x a → Oko K T E F Hz' σ Q (k a ρ') → U x H') : t σ H U := by
  refine ht _ ?_
  cases e : g ρ with
  | ok a ρ' =>
    rw [e] at h
    intro x Hz' H' E1 s r
    exact hu x a ρ' Hz' H' E1 s r (Oko.mono s h)
  | exc x ρ' =>
    rw [e] at h
    exact h
  | fault =>
    rw [e] at h
    exact h.elim
theorem LiftX.stepO (ht : LiftX R K T E t g) (E0 : EnvR K T F Hz H σ ρ) (h : Oko K T E F Hz σ Q ((g ρ).bind k)) (hu : ∀ x a ρ' Hz' H', EnvR K T F Hz' H' σ ρ' → Same Hz Hz' → R Hz' x a → Oko K T E F Hz' σ Q (k a ρ') → U x H') : t σ H U := by
  refine ht F Hz H σ ρ _ E0 ?_
  cases e : g ρ with
  | ok a ρ' =>
    rw [e] at h
    intro x Hz' H' E1 s r
    exact hu x a ρ' Hz' H' E1 s r (Oko.mono s h)
  | exc x ρ' =>
    rw [e] at h
    exact h
  | fault =>
    rw [e] at h
    exact h.elim
end
section
variable {K : PySem.W.Frag} {T : List (Addr × Str)} {E : XK} {F : Frm} {Hz H : Hp} {σ : L2.St} {ρ : List Slot} {Q : V → Hp → Prop} {d : D} {t : TE} {g : M D}
theorem Own.join (E : EnvR K T F Hz H σ ρ) {a : Addr} (h : Own K F Hz H a d) (ns : NoSlot σ ρ a) : ∃ Hz', EnvR K T F Hz' H σ ρ ∧ Same Hz Hz' ∧ Rp K Hz' (.ref a) d := by
  obtain ⟨h2, h3, h4⟩ := h
  obtain ⟨o, ho, nt⟩ := h4.obj
  have s : Same Hz (upd Hz a o) := same_new h2
  refine ⟨upd Hz a o, E.join h2 (.inl h3) ho nt ns, s, ?_⟩
  cases d with
  | lst ds => obtain ⟨xs, q, r⟩ := h4; rw [ho] at q; cases q; exact .lst upd_same (r.same s)
  | dK l => obtain ⟨xs, q, w, r⟩ := h4; rw [ho] at q; cases q; exact .dK (.inl upd_same) w (r.same s)
  | dT l => obtain ⟨xs, q, w, r⟩ := h4; rw [ho] at q; cases q; exact .dT (.inl upd_same) w (r.same s)
  | own C l => obtain ⟨dx, fs, q, w, r⟩ := h4; rw [ho] at q; cases q; exact .own upd_same w (r.same s)
  | _ => exact h4.elim
theorem LiftO.toD (h : LiftO K T E t g) : LiftD K T E t g := by
  intro F Hz H σ ρ Q E0 q
  refine h F Hz H σ ρ Q E0 ?_
  cases e : g ρ with
  | ok a ρ' =>
    rw [e] at q
    intro p Hz' H' E1 s o ns
    obtain ⟨Hz2, E2, s2, r⟩ := o.join E1 ns
    exact q _ Hz2 H' E2 (s.trans s2) r
  | exc x ρ' =>
    rw [e] at q
    exact q
  | fault =>
    rw [e] at q
    exact q.elim
theorem okd_here (E0 : EnvR K T F Hz H σ ρ) (h : Okx (RD K) K T E F Hz σ Q (.ok d ρ)) {v : V} (r : Rp K Hz v d) : Q v H := h v Hz H E0 (Same.refl _) r
theorem okd_new (E0 : EnvR K T F Hz H σ ρ) (h : Okx (RD K) K T E F Hz σ Q (.ok d ρ)) {p : Addr} {o : HO} (hp : H p = none) (nt : ∀ ps, o ≠ .tbl ps) (r : Rp K (upd Hz p o) (.ref p) d) : Q (.ref p) (upd H p o) :=
  h _ _ _ (E0.new hp nt) (same_new (E0.fresh hp).1) r
end
def DE (X : Cx) (T : List (Addr × Str)) (E : XK) (e : Expr) (g : M D) : Prop := ∃ t, PE X e t ∧ LiftD X.K T E t g
def DO (X : Cx) (T : List (Addr × Str)) (E : XK) (e : Expr) (g : M D) : Prop := ∃ t, PE X e t ∧ LiftO X.K T E t g
def DA (X : Cx) (T : List (Addr × Str)) (E : XK) (es : List Expr) (g : M (List D)) : Prop := ∃ t, PA X es t ∧ LiftA X.K T E t g
def DT (X : Cx) (T : List (Addr × Str)) (E : XK) (e : Expr) (g : M Bool) : Prop := ∃ t, PT X e t ∧ LiftT X.K T E t g
def DW (X : Cx) (T : List (Addr × Str)) (E : XK) (e : Expr) (g : M Bool) : Prop := ∃ t, PW X e t ∧ LiftT X.K T E t g
theorem DO.d {X : Cx} {T : List (Addr × Str)} {E : XK} {e : Expr} {g : M D} (h : DO X T E e g) : DE X T E e g := let ⟨t, h1, h2⟩ := h; ⟨t, h1, h2.toD⟩
theorem DW.t {X : Cx} {T : List (Addr × Str)} {E : XK} {e : Expr} {g : M Bool} (h : DW X T E e g) : DT X T E e g := let ⟨t, h1, h2⟩ := h; ⟨t, h1.pt, h2⟩
def gVar (i : Nat) : M D := fun ρ => match ρ[i]? with
  | some (some (false, d)) => .ok d ρ
  | some (some (true, d)) => .ok d (ρ.set i (some (false, d)))
  | _ => .fault
def gC (d : D) : M D := fun ρ => .ok d ρ
def gNil : M (List D) := fun ρ => .ok [] ρ
def gCons (g : M D) (r : M (List D)) : M (List D) := gBind g fun d => gBind r fun ds ρ => .ok (d :: ds) ρ
/-- small enough -/
def lim (n : Nat) : Bool := decide (n ≤ 100000)
theorem lim_ok {n : Nat} (h : lim n = true) : n ≤ sizeLine := Nat.le_trans (of_decide_eq_true h) (by decide)
def gTup (g : M (List D)) : M D := gBind g fun ds ρ => if lim ds.length = true then .ok (.tup ds) ρ else .fault
def gLst (g : M (List D)) : M D := gBind g fun ds ρ => if lim ds.length = true then .ok (.lst ds) ρ else .fault
def gOp (go : D → D → M D) (ga gb : M D) : M D := gBind ga fun a => gBind gb fun b => go a b
def gUn (go : D → M D) (ga : M D) : M D := gBind ga go
section
variable {X : Cx} {T : List (Addr × Str)} {E : XK} {a b c e : Expr} {es : List Expr} {ga gb gc : M D} {gs : M (List D)} {pos : Pos}
theorem lift_var {K : PySem.W.Frag} (i : Nat) : LiftD K T E (tVar i) (gVar i) := by
  intro F Hz H σ ρ Q E0 h
  unfold gVar at h
  match e : ρ[i]? with
  | some (some (false, d)) =>
    rw [e] at h
    obtain ⟨v, h1, h2⟩ := E0.sh i d e
    exact ⟨v, h1, h v Hz H E0 (Same.refl _) h2⟩
  | some (some (true, d)) =>
    rw [e] at h
    obtain ⟨p, Hz', h1, E1, s, r⟩ := E0.give e
    exact ⟨_, h1, h _ Hz' H E1 s r⟩
  | some none => rw [e] at h; exact h.elim
  | none => rw [e] at h; exact h.elim
theorem lift_c {K : PySem.W.Frag} {v : V} {d : D} (r : ∀ H, Rp K H v d) : LiftD K T E (tC v) (gC d) := fun F Hz H σ ρ Q E0 h => okd_here E0 h (r Hz)
theorem d_var (i : Nat) {x : Str} (hN : X.N[i]? = some x := by rfl) (hv : Vis X.env.scope x := by first | exact Or.inl rfl | exact Or.inr (Or.inl rfl) | exact Or.inr (Or.inr rfl)) (hd : (x == ("__debug__" : Str)) = false := by decide)
    (hcd : (x == ("__classdict__" : Str)) = false := by decide) : DE X T E (.Name x pos) (gVar i) := ⟨_, pv i hN hv hd hcd, lift_var i⟩
theorem d_int {i : Int} {j} : DE X T E (.Constant (.int i) j pos) (gC (.int i)) := ⟨_, pe_int, lift_c fun _ => .int i⟩
theorem d_bl {i : Bool} {j} : DE X T E (.Constant (.bool i) j pos) (gC (.bl i)) := ⟨_, pe_bl, lift_c fun _ => .bl i⟩
theorem d_str {i : Str} {j} : DE X T E (.Constant (.str i) j pos) (gC (.str i)) := ⟨_, pe_str, lift_c fun _ => .str i⟩
/-- a module's constant -/
theorem d_gl {x : Str} {v : V} {d : D} (h : ∃ u, X.mg x = some u ∧ RelV v u) (r : ∀ H, Rp X.K H v d) (hg : Gl X x := by rfl) (hd : (x == ("__debug__" : Str)) = false := by decide) : DE X T E (.Name x pos) (gC d) := ⟨_, pe_gl h hg hd, lift_c r⟩
theorem d_nil : DA X T E [] gNil := ⟨_, pa_nil, fun F Hz H σ ρ Q E0 h => h [] Hz H E0 (Same.refl _) .nil⟩
theorem d_cons (ha : DE X T E e ga) (hr : DA X T E es gs) (hs : starEach (e :: es) X.env = (false, eval e X.env) :: starEach es X.env := by rfl) : DA X T E (e :: es) (gCons ga gs) := by
  obtain ⟨ta, a1, a2⟩ := ha
  obtain ⟨ts, s1, s2⟩ := hr
  refine ⟨_, pa_cons a1 s1 hs, fun F Hz H σ ρ Q E0 h => a2.step E0 h fun x d ρ1 Hz1 H1 E1 sa r h1 => s2.step E1 h1 fun xs ds ρ2 Hz2 H2 E2 sb rs h2 => ?_⟩
  exact h2 (x :: xs) Hz2 H2 E2 (Same.refl _) (.cons (r.same sb) rs)
theorem d_tup {x1} (h : DA X T E es gs) : DE X T E (.Tuple es x1 pos) (gTup gs) := by
  obtain ⟨ts, s1, s2⟩ := h
  refine ⟨_, pe_tup s1, fun F Hz H σ ρ Q E0 h => s2.step E0 h fun x d ρ1 Hz1 H1 E1 sa r h1 => ?_⟩
  by_cases hl : lim d.length = true
  · rw [if_pos hl] at h1
    exact ⟨by rw [r.length]; exact lim_ok hl, fun p hp => okd_new E1 h1 hp (fun _ z => by cases z) (.tup (.inl upd_same) (r.same (same_new (E1.fresh hp).1)))⟩
  · rw [if_neg hl] at h1
    exact h1.elim
theorem d_lst (h : DA X T E es gs) : DO X T E (.List es pos) (gLst gs) := by
  obtain ⟨ts, s1, s2⟩ := h
  refine ⟨_, pe_lst s1, fun F Hz H σ ρ Q E0 q => s2.stepO E0 q fun xs ds ρ1 Hz1 H1 E1 sa r q => ?_⟩
  by_cases hl : lim ds.length = true
  · rw [if_pos hl] at q
    refine ⟨by rw [r.length]; exact lim_ok hl, fun p hp => ?_⟩
    obtain ⟨f1, f2, f3⟩ := E1.fresh hp
    exact q p Hz1 _ (E1.grow (same_new hp)) (Same.refl _) ⟨f1, f2, xs, upd_same, r⟩ f3
  · rw [if_neg hl] at q
    exact q.elim
def OpD (K : PySem.W.Frag) (r : R2) (go : D → D → M D) : Prop := ∀ T E F Hz H σ ρ Q x y dx dy, EnvR K T F Hz H σ ρ → Rp K Hz x dx → Rp K Hz y dy → Okx (RD K) K T E F Hz σ Q (go dx dy ρ) → r x y H Q
def UnD (K : PySem.W.Frag) (r : V → Hp → VK → Prop) (go : D → M D) : Prop := ∀ T E F Hz H σ ρ Q x dx, EnvR K T F Hz H σ ρ → Rp K Hz x dx → Okx (RD K) K T E F Hz σ Q (go dx ρ) → r x H Q
theorem lift_op {K : PySem.W.Frag} {r : R2} {go : D → D → M D} {ta tb : TE} (ho : OpD K r go) (ha : LiftD K T E ta ga) (hb : LiftD K T E tb gb) : LiftD K T E (tOp r ta tb) (gOp go ga gb) :=
  fun F Hz H σ ρ Q E0 h => ha.step E0 h fun x d ρ1 Hz1 H1 E1 sa r1 h1 => hb.step E1 h1 fun y e ρ2 Hz2 H2 E2 sb r2 h2 => ho T E F Hz2 H2 σ ρ2 Q x y d e E2 (r1.same sb) r2 h2
theorem d_op {op : Operator} {r : R2} {go : D → D → M D} (ho : OpR X (binaryOp op) r) (hl : OpD X.K r go) (ha : DE X T E a ga) (hb : DE X T E b gb) : DE X T E (.BinOp a op b pos) (gOp go ga gb) := by
  obtain ⟨ta, a1, a2⟩ := ha
  obtain ⟨tb, b1, b2⟩ := hb
  exact ⟨_, pe_op ho a1 b1, lift_op hl a2 b2⟩
theorem d_un {op : UnaryOp} {r : V → Hp → VK → Prop} {go : D → M D} (ho : UnR X (unaryOp op) r) (hl : UnD X.K r go) (ha : DE X T E a ga) : DE X T E (.UnaryOp op a pos) (gUn go ga) := by
  obtain ⟨ta, a1, a2⟩ := ha
  exact ⟨_, pe_un ho a1, fun F Hz H σ ρ Q E0 h => a2.step E0 h fun x d ρ1 Hz1 H1 E1 sa r1 h1 => hl T E F Hz1 H1 σ ρ1 Q x d E1 r1 h1⟩
theorem d_cmp {op : CmpOp} {r : R2} {go : D → D → M D} (ho : OpR X (compareOp op) r) (hl : OpD X.K r go) (ha : DE X T E a ga) (hb : DE X T E b gb) (hm : behindInMarks op b = false := by first | exact nobehind _ (by decide) (by decide) | rfl) : DE X T E (.Compare a [op] [b] pos) (gOp go ga gb) := by
  obtain ⟨ta, a1, a2⟩ := ha
  obtain ⟨tb, b1, b2⟩ := hb
  exact ⟨_, pe_cmpR ho a1 b1 hm, lift_op hl a2 b2⟩
def gB (g : M D) : M Bool := gBind g fun d ρ => match d with
  | .bl b => .ok b ρ
  | _ => .fault
theorem lift_test {K : PySem.W.Frag} {t : TE} (h : LiftD K T E t ga) : LiftT K T E (tTest t) (gB ga) := fun F Hz H σ ρ Q E0 q => h.step E0 q fun x d ρ1 Hz1 H1 E1 sa r q => by
  cases d with
  | bl b => cases r; exact ⟨b, rfl, q b Hz1 H1 E1 (Same.refl _) rfl⟩
  | _ => exact q.elim
theorem t_cmp {op : CmpOp} {r : R2} {go : D → D → M D} (ho : OpR X (compareOp op) r) (hl : OpD X.K r go) (ha : DE X T E a ga) (hb : DE X T E b gb) (hm : behindInMarks op b = false := by first | exact nobehind _ (by decide) (by decide) | rfl) : DT X T E (.Compare a [op] [b] pos) (gB (gOp go ga gb)) := by
  obtain ⟨ta, a1, a2⟩ := ha
  obtain ⟨tb, b1, b2⟩ := hb
  exact ⟨_, pt_cmpR ho a1 b1 hm, lift_test (lift_op hl a2 b2)⟩
theorem t_val (ha : DE X T E a ga) (he : ∀ whole, isTrue a X.env whole = (do let v ← whole; standAt a.pos; holding [v] (truthy v)) := by intro _; rfl) : DT X T E a (gB ga) := by
  obtain ⟨ta, a1, a2⟩ := ha
  exact ⟨_, pt_val a1 he, lift_test a2⟩
def gChain (go go' : D → D → M D) (ga gb gc : M D) : M D := gBind ga fun x => gBind gb fun y => gBind (go x y) fun z => match z with
  | .bl true => gBind gc fun w => go' y w
  | .bl false => fun ρ => .ok (.bl false) ρ
  | _ => fun _ => .fault
theorem lift_chain {K : PySem.W.Frag} {r r' : R2} {go go' : D → D → M D} {ta tb tc : TE} (ho : OpD K r go) (ho' : OpD K r' go') (ha : LiftD K T E ta ga) (hb : LiftD K T E tb gb) (hc : LiftD K T E tc gc) : LiftD K T E (tChain r r' ta tb tc) (gChain go go' ga gb gc) := by
  intro F Hz H σ ρ Q E0 h
  refine ha.step E0 h fun x dx ρ1 Hz1 H1 E1 sa r1 h1 => hb.step E1 h1 fun y dy ρ2 Hz2 H2 E2 sb r2 h2 => ?_
  refine ho T E F Hz2 H2 σ ρ2 _ x y dx dy E2 (r1.same sb) r2 ?_
  unfold gBind at h2
  cases q : go dx dy ρ2 with
  | ok z ρ' =>
    rw [q] at h2
    intro v Hz3 H3 E3 s3 rz
    cases z with
    | bl b =>
      cases rz
      refine ⟨b, rfl, ?_⟩
      cases b with
      | true => exact hc.step E3 (Okx.mono s3 h2) fun w dw ρ4 Hz4 H4 E4 s4 rw' h4 => ho' T E F Hz4 H4 σ ρ4 Q y w dy dw E4 ((r2.same s3).same s4) rw' h4
      | false => exact h2 _ Hz3 H3 E3 s3 (.bl false)
    | _ => exact h2.elim
  | exc z ρ' => rw [q] at h2; exact h2
  | fault => rw [q] at h2; exact h2.elim
theorem d_chain {op op' : CmpOp} {r r' : R2} {go go' : D → D → M D} (ho : OpR X (compareOp op) r) (hl : OpD X.K r go) (ho' : OpR X (compareOp op') r') (hl' : OpD X.K r' go') (ha : DE X T E a ga) (hb : DE X T E b gb) (hc : DE X T E c gc)
    (hm : lastMarks [op, op'] [b, c] = false := by with_unfolding_all rfl) : DE X T E (.Compare a [op, op'] [b, c] pos) (gChain go go' ga gb gc) := by
  obtain ⟨ta, a1, a2⟩ := ha
  obtain ⟨tb, b1, b2⟩ := hb
  obtain ⟨tc, c1, c2⟩ := hc
  exact ⟨_, pe_chain ho ho' a1 b1 c1 hm, lift_chain hl hl' a2 b2 c2⟩
def gAndT (g h : M Bool) : M Bool := gBind g fun c => if c = true then h else fun ρ => .ok false ρ
def gOrT (g h : M Bool) : M Bool := gBind g fun c => if c = true then fun ρ => .ok true ρ else h
def gNotT (g : M Bool) : M Bool := gBind g fun c ρ => .ok (!c) ρ
def gIf (c : M Bool) (ga gb : M D) : M D := gBind c fun c => if c = true then ga else gb
variable {rest : List Expr} {ha' hb' : M Bool}
theorem lift_andT {K : PySem.W.Frag} {t u : TT} (h1 : LiftT K T E t ha') (h2 : LiftT K T E u hb') : LiftT K T E (tAnd t u) (gAndT ha' hb') := fun F Hz H σ ρ Q E0 h => h1.step E0 h fun c b ρ1 Hz1 H1 E1 sa r q => by
  cases r
  cases c with
  | true => exact h2 F Hz1 H1 σ ρ1 Q E1 q
  | false => exact q false Hz1 H1 E1 (Same.refl _) rfl
theorem lift_orT {K : PySem.W.Frag} {t u : TT} (h1 : LiftT K T E t ha') (h2 : LiftT K T E u hb') : LiftT K T E (tOr t u) (gOrT ha' hb') := fun F Hz H σ ρ Q E0 h => h1.step E0 h fun c b ρ1 Hz1 H1 E1 sa r q => by
  cases r
  cases c with
  | true => exact q true Hz1 H1 E1 (Same.refl _) rfl
  | false => exact h2 F Hz1 H1 σ ρ1 Q E1 q
theorem w_and1 (h : DT X T E a ha') : DW X T E (.BoolOp .And [a] pos) ha' := let ⟨t, h1, h2⟩ := h; ⟨t, pw_and1 h1, h2⟩
theorem w_or1 (h : DT X T E a ha') : DW X T E (.BoolOp .Or [a] pos) ha' := let ⟨t, h1, h2⟩ := h; ⟨t, pw_or1 h1, h2⟩
theorem w_and (h : DT X T E a ha') (g : DW X T E (.BoolOp .And (b :: rest) pos) hb') : DW X T E (.BoolOp .And (a :: b :: rest) pos) (gAndT ha' hb') := let ⟨t, h1, h2⟩ := h; let ⟨u, g1, g2⟩ := g; ⟨_, pw_and h1 g1, lift_andT h2 g2⟩
theorem w_or (h : DT X T E a ha') (g : DW X T E (.BoolOp .Or (b :: rest) pos) hb') : DW X T E (.BoolOp .Or (a :: b :: rest) pos) (gOrT ha' hb') := let ⟨t, h1, h2⟩ := h; let ⟨u, g1, g2⟩ := g; ⟨_, pw_or h1 g1, lift_orT h2 g2⟩
theorem t_not (h : DT X T E a ha') : DT X T E (.UnaryOp .Not a pos) (gNotT ha') := by
  obtain ⟨t, h1, h2⟩ := h
  refine ⟨_, pt_not h1, fun F Hz H σ ρ Q E0 h => h2.step E0 h fun c b ρ1 Hz1 H1 E1 sa r q => ?_⟩
  cases r
  exact q (!c) Hz1 H1 E1 (Same.refl _) rfl
theorem d_one {op} (h : DE X T E a ga) : DE X T E (.BoolOp op [a] pos) ga := let ⟨t, h1, h2⟩ := h; ⟨t, pe_one h1, h2⟩
def gAndV (g h : M D) : M D := gBind g fun c => match c with
  | .bl true => h
  | .bl false => fun ρ => .ok (.bl false) ρ
  | _ => fun _ => .fault
def gNotV (g : M D) : M D := gBind g fun c => match c with
  | .bl b => fun ρ => .ok (.bl (!b)) ρ
  | _ => fun _ => .fault
theorem d_and (h : DE X T E a ga) (g : DE X T E (.BoolOp .And (b :: rest) pos) gb) : DE X T E (.BoolOp .And (a :: b :: rest) pos) (gAndV ga gb) := by
  obtain ⟨t, h1, h2⟩ := h
  obtain ⟨u, g1, g2⟩ := g
  refine ⟨_, pe_and h1 g1, fun F Hz H σ ρ Q E0 h => h2.step E0 h fun x d ρ1 Hz1 H1 E1 sa r q => ?_⟩
  cases d with
  | bl c =>
    cases r
    refine ⟨c, rfl, ?_⟩
    cases c with
    | true => exact g2 F Hz1 H1 σ ρ1 Q E1 q
    | false => exact okd_here E1 q (.bl false)
  | _ => exact q.elim
theorem d_if (h : DT X T E c ha') (h1 : DE X T E a ga) (h2 : DE X T E b gb) : DE X T E (.IfExp c a b pos) (gIf ha' ga gb) := by
  obtain ⟨t, t1, t2⟩ := h
  obtain ⟨u, u1, u2⟩ := h1
  obtain ⟨v, v1, v2⟩ := h2
  refine ⟨_, pe_ifExp t1 u1 v1, fun F Hz H σ ρ Q E0 h => t2.step E0 h fun x d ρ1 Hz1 H1 E1 sa r q => ?_⟩
  cases r
  cases x with
  | true => exact u2 F Hz1 H1 σ ρ1 Q E1 q
  | false => exact v2 F Hz1 H1 σ ρ1 Q E1 q
end
end PL
namespace PL
open PySem PySem.Spec PySem.Calls PyProof.Rows L2 He CT
inductive Out where
  | nx (ρ : List Slot) | rt (o : Bool) (d : D) (ρ : List Slot) | bk (ρ : List Slot) | ct (ρ : List Slot) | exc (e : Exc) (ρ : List Slot) | fault
abbrev G := List Slot → Out
def Oks (K : PySem.W.Frag) (T : List (Addr × Str)) (E : XK) (F : Frm) (Hz : Hp) (W : Ends) : Out → Prop
  | .nx ρ => ∀ σ Hz' H', EnvR K T F Hz' H' σ ρ → Same Hz Hz' → W.nx σ H'
  | .bk ρ => ∀ σ Hz' H', EnvR K T F Hz' H' σ ρ → Same Hz Hz' → W.bk σ H'
  | .ct ρ => ∀ σ Hz' H', EnvR K T F Hz' H' σ ρ → Same Hz Hz' → W.ct σ H'
  | .rt false d ρ => ∀ v σ Hz' H', EnvR K T F Hz' H' σ ρ → Same Hz Hz' → Rp K Hz' v d → W.rt v H'
  | .rt true d ρ => ∀ a σ Hz' H', EnvR K T F Hz' H' σ ρ → Same Hz Hz' → Own K F Hz' H' a d → NoSlot σ ρ a → W.rt (.ref a) H'
  | .exc e ρ => ∀ σ cls dd Hz' H', EnvR K T F Hz' H' σ ρ → Same Hz Hz' → ExcR K Hz' H' e cls dd → E cls dd H'
  | .fault => False
def LiftS (K : PySem.W.Frag) (T : List (Addr × Str)) (E : XK) (t : TS) (g : G) : Prop := ∀ F Hz H σ ρ W, EnvR K T F Hz H σ ρ → Oks K T E F Hz W (g ρ) → t W σ H
def gThen {α : Type} (g : M α) (k : α → G) : G := fun ρ => match g ρ with
  | .ok a ρ' => k a ρ'
  | .exc e ρ' => .exc e ρ'
  | .fault => .fault
section
variable {K : PySem.W.Frag} {T : List (Addr × Str)} {E : XK} {F : Frm} {Hz Hz1 H : Hp} {σ : L2.St} {ρ : List Slot} {W W' : Ends}
theorem Oks.mono (s : Same Hz Hz1) : ∀ {o : Out}, Oks K T E F Hz W o → Oks K T E F Hz1 W o
  | .nx _, h => fun σ Hz' H' e q => h σ Hz' H' e (s.trans q)
  | .bk _, h => fun σ Hz' H' e q => h σ Hz' H' e (s.trans q)
  | .ct _, h => fun σ Hz' H' e q => h σ Hz' H' e (s.trans q)
  | .rt false _ _, h => fun v σ Hz' H' e q r => h v σ Hz' H' e (s.trans q) r
  | .rt true _ _, h => fun v σ Hz' H' e q r => h v σ Hz' H' e (s.trans q) r
  | .exc _ _, h => fun σ cls dd Hz' H' e q r => h σ cls dd Hz' H' e (s.trans q) r
  | .fault, h => h
theorem stepS1 {α β : Type} {R : Hp → β → α → Prop} {t : L2.St → Hp → (β → Hp → Prop) → Prop} {g : M α} {k : α → G} {U : β → Hp → Prop} (ht : ∀ Q' : β → Hp → Prop, Okx R K T E F Hz σ Q' (g ρ) → t σ H Q') (h : Oks K T E F Hz W (gThen g k ρ))
    (hu : ∀ x a ρ' Hz' H', EnvR K T F Hz' H' σ ρ' → Same Hz Hz' → R Hz' x a → Oks K T E F Hz' W (k a ρ') → U x H') : t σ H U := by
  refine ht _ ?_
  unfold gThen at h
  cases e : g ρ with
  | ok a ρ' =>
    rw [e] at h
    intro x Hz' H' E1 s r
    exact hu x a ρ' Hz' H' E1 s r (h.mono s)
  | exc x ρ' =>
    rw [e] at h
    exact fun cls dd Hz' H' E1 s r => h σ cls dd Hz' H' E1 s r
  | fault =>
    rw [e] at h
    exact h.elim
theorem LiftX.stepS {α β : Type} {R : Hp → β → α → Prop} {t : L2.St → Hp → (β → Hp → Prop) → Prop} {g : M α} {k : α → G} {U : β → Hp → Prop} (ht : LiftX R K T E t g) (E0 : EnvR K T F Hz H σ ρ) (h : Oks K T E F Hz W (gThen g k ρ))
    (hu : ∀ x a ρ' Hz' H', EnvR K T F Hz' H' σ ρ' → Same Hz Hz' → R Hz' x a → Oks K T E F Hz' W (k a ρ') → U x H') : t σ H U := by
  refine ht F Hz H σ ρ _ E0 ?_
  unfold gThen at h
  cases e : g ρ with
  | ok a ρ' =>
    rw [e] at h
    intro x Hz' H' E1 s r
    exact hu x a ρ' Hz' H' E1 s r (h.mono s)
  | exc x ρ' =>
    rw [e] at h
    exact fun cls dd Hz' H' E1 s r => h σ cls dd Hz' H' E1 s r
  | fault =>
    rw [e] at h
    exact h.elim
theorem LiftO.stepS {t : TE} {g : M D} {k : D → G} {U : V → Hp → Prop} (ht : LiftO K T E t g) (E0 : EnvR K T F Hz H σ ρ) (h : Oks K T E F Hz W (gThen g k ρ))
    (hu : ∀ a d ρ' Hz' H', EnvR K T F Hz' H' σ ρ' → Same Hz Hz' → Own K F Hz' H' a d → NoSlot σ ρ' a → Oks K T E F Hz' W (k d ρ') → U (.ref a) H') : t σ H U := by
  refine ht F Hz H σ ρ _ E0 ?_
  unfold gThen at h
  cases e : g ρ with
  | ok a ρ' =>
    rw [e] at h
    intro x Hz' H' E1 s r ns
    exact hu x a ρ' Hz' H' E1 s r ns (h.mono s)
  | exc x ρ' =>
    rw [e] at h
    exact fun cls dd Hz' H' E1 s r => h σ cls dd Hz' H' E1 s r
  | fault =>
    rw [e] at h
    exact h.elim
end
def DS (X : Cx) (T : List (Addr × Str)) (E : XK) (st : Stmt) (g : G) : Prop := ∃ t, PS X st t ∧ LiftS X.K T E t g
def DSs (X : Cx) (T : List (Addr × Str)) (E : XK) (sts : List Stmt) (g : G) : Prop := ∃ t, PSs X sts t ∧ LiftS X.K T E t g
def gNext : G := fun ρ => .nx ρ
def gSeq (g h : G) : G := fun ρ => match g ρ with
  | .nx ρ' => h ρ'
  | o => o
def gRet (g : M D) : G := gThen g fun d ρ => .rt false d ρ
def gRetO (g : M D) : G := gThen g fun d ρ => .rt true d ρ
def gDrop (g : M D) : G := gThen g fun _ ρ => .nx ρ
def gIfS (c : M Bool) (g h : G) : G := gThen c fun b => if b = true then g else h
def gSet (i : Nat) (g : M D) : G := gThen g fun d ρ => .nx (ρ.set i (some (false, d)))
def gSetO (i : Nat) (g : M D) : G := gThen g fun d ρ => if i = 0 then .fault else .nx (ρ.set i (some (true, d)))
section
variable {X : Cx} {T : List (Addr × Str)} {E : XK} {st : Stmt} {rest : List Stmt} {g h : G} {ga gb : M D} {gt : M Bool} {e c : Expr} {pos : Pos}
theorem s_nil : DSs X T E [] gNext := ⟨_, pss_nil, fun F Hz H σ ρ W E0 h => h σ Hz H E0 (Same.refl _)⟩
theorem lift_seq {K : PySem.W.Frag} {t u : TS} (ht : LiftS K T E t g) (hu : LiftS K T E u h) : LiftS K T E (tSeq t u) (gSeq g h) := by
  intro F Hz H σ ρ W E0 q
  refine ht F Hz H σ ρ _ E0 ?_
  unfold gSeq at q
  cases e : g ρ with
  | nx ρ' =>
    rw [e] at q
    exact fun σ' Hz' H' E1 s => hu F Hz' H' σ' ρ' W E1 (q.mono s)
  | rt o d ρ' =>
    rw [e] at q
    cases o <;> exact q
  | bk ρ' => rw [e] at q; exact q
  | ct ρ' => rw [e] at q; exact q
  | exc z ρ' => rw [e] at q; exact q
  | fault => rw [e] at q; exact q.elim
theorem s_cons (h1 : DS X T E st g) (h2 : DSs X T E rest h) : DSs X T E (st :: rest) (gSeq g h) := let ⟨_, a1, a2⟩ := h1; let ⟨_, b1, b2⟩ := h2; ⟨_, pss_cons a1 b1, lift_seq a2 b2⟩
theorem s_one (h1 : DS X T E st g) : DSs X T E [st] g := let ⟨_, a1, a2⟩ := h1; ⟨_, pss_one a1, a2⟩
theorem s_expr (h1 : DE X T E e ga) (hs : swapsWith e none pos.line X.env = pure false := by rfl) : DS X T E (.Expr e pos) (gDrop ga) := by
  obtain ⟨t, a1, a2⟩ := h1
  exact ⟨_, ps_expr a1 hs, fun F Hz H σ ρ W E0 h => a2.stepS E0 h fun x d ρ1 Hz1 H1 E1 s r q => q σ Hz1 H1 E1 (Same.refl _)⟩
theorem s_ret (h1 : DE X T E e ga) : DS X T E (.Return (some e) pos) (gRet ga) := by
  obtain ⟨t, a1, a2⟩ := h1
  exact ⟨_, ps_ret a1, fun F Hz H σ ρ W E0 h => a2.stepS E0 h fun x d ρ1 Hz1 H1 E1 s r q => q x σ Hz1 H1 E1 (Same.refl _) r⟩
theorem s_retO (h1 : DO X T E e ga) : DS X T E (.Return (some e) pos) (gRetO ga) := by
  obtain ⟨t, a1, a2⟩ := h1
  exact ⟨_, ps_ret a1, fun F Hz H σ ρ W E0 h => a2.stepS E0 h fun x d ρ1 Hz1 H1 E1 s r ns q => q x σ Hz1 H1 E1 (Same.refl _) r ns⟩
theorem s_if {a b : List Stmt} (hc : DT X T E c gt) (ha : DSs X T E a g) (hb : DSs X T E b h) : DS X T E (.If c a b pos) (gIfS gt g h) := by
  obtain ⟨t, t1, t2⟩ := hc
  obtain ⟨u, u1, u2⟩ := ha
  obtain ⟨v, v1, v2⟩ := hb
  refine ⟨_, ps_if t1 u1 v1, fun F Hz H σ ρ W E0 h => t2.stepS E0 h fun x d ρ1 Hz1 H1 E1 s r q => ?_⟩
  cases r
  cases x with
  | true => exact u2 F Hz1 H1 σ ρ1 W E1 q
  | false => exact v2 F Hz1 H1 σ ρ1 W E1 q
theorem s_set {i : Nat} {x : Str} {pos' : Pos} (hN : X.N.Nodup) (hi : X.N[i]? = some x) (hx : Loc X.env.scope x) (h1 : DE X T E e ga) (hs : swapsWith e (some (.Name x pos')) pos.line X.env = pure false := by rfl)
    (hf : X.fn x = true ∨ X.env.scope.names.lookup x = some .local := by first | exact .inl rfl | exact .inr rfl | assumption) : DS X T E (.Assign [.Name x pos'] e pos) (gSet i ga) := by
  obtain ⟨t, a1, a2⟩ := h1
  exact ⟨_, ps_set hN hi hx a1 hs hf, fun F Hz H σ ρ W E0 h => a2.stepS E0 h fun x d ρ1 Hz1 H1 E1 s r q => q _ Hz1 H1 (E1.setD r) (Same.refl _)⟩
theorem s_setO {i : Nat} {x : Str} {pos' : Pos} (hN : X.N.Nodup) (hi : X.N[i]? = some x) (hx : Loc X.env.scope x) (h1 : DO X T E e ga) (hs : swapsWith e (some (.Name x pos')) pos.line X.env = pure false := by rfl)
    (hf : X.fn x = true ∨ X.env.scope.names.lookup x = some .local := by first | exact .inl rfl | exact .inr rfl | assumption) : DS X T E (.Assign [.Name x pos'] e pos) (gSetO i ga) := by
  obtain ⟨t, a1, a2⟩ := h1
  exact ⟨_, ps_set hN hi hx a1 hs hf, fun F Hz H σ ρ W E0 h => a2.stepS E0 h fun x d ρ1 Hz1 H1 E1 s r ns q => by
    by_cases h0 : i = 0
    · rw [if_pos h0] at q
      exact q.elim
    · rw [if_neg h0] at q
      exact q _ Hz1 H1 (E1.setO r ns h0) (Same.refl _)⟩
def Okg (K : PySem.W.Frag) (T : List (Addr × Str)) (E : XK) (F : Frm) (Hz : Hp) (Q : L2.St → Hp → Prop) : Res Unit → Prop
  | .ok _ ρ => ∀ σ Hz' H', EnvR K T F Hz' H' σ ρ → Same Hz Hz' → Q σ H'
  | .exc e ρ => ∀ σ cls dd Hz' H', EnvR K T F Hz' H' σ ρ → Same Hz Hz' → ExcR K Hz' H' e cls dd → E cls dd H'
  | .fault => False
theorem Okg.mono {K : PySem.W.Frag} {F : Frm} {Hz Hz1 : Hp} {Q : L2.St → Hp → Prop} (s : Same Hz Hz1) : ∀ {o : Res Unit}, Okg K T E F Hz Q o → Okg K T E F Hz1 Q o
  | .ok _ _, h => fun σ Hz' H' e q => h σ Hz' H' e (s.trans q)
  | .exc _ _, h => fun σ cls dd Hz' H' e q r => h σ cls dd Hz' H' e (s.trans q) r
  | .fault, h => h
def LiftG (K : PySem.W.Frag) (T : List (Addr × Str)) (E : XK) (t : TG) (g : D → M Unit) : Prop := ∀ F Hz H σ ρ v d Q, EnvR K T F Hz H σ ρ → Rp K Hz v d → Okg K T E F Hz Q (g d ρ) → t v σ H Q
def LiftGs (K : PySem.W.Frag) (T : List (Addr × Str)) (E : XK) (t : TGs) (g : List D → M Unit) : Prop := ∀ F Hz H σ ρ vs ds Q, EnvR K T F Hz H σ ρ → RpL K Hz vs ds → Okg K T E F Hz Q (g ds ρ) → t vs σ H Q
def DG (X : Cx) (T : List (Addr × Str)) (E : XK) (e : Expr) (g : D → M Unit) : Prop := ∃ t, L2.PG X e t ∧ LiftG X.K T E t g
def DGs (X : Cx) (T : List (Addr × Str)) (E : XK) (es : List Expr) (g : List D → M Unit) : Prop := ∃ t, PGs X es t ∧ LiftGs X.K T E t g
def gN (i : Nat) : D → M Unit := fun d ρ => .ok () (ρ.set i (some (false, d)))
def gTs (g : List D → M Unit) : D → M Unit := fun d ρ => match d with
  | .tup ds => g ds ρ
  | _ => .fault
def gsNil : List D → M Unit := fun ds ρ => match ds with
  | [] => .ok () ρ
  | _ => .fault
def gsCons (g : D → M Unit) (r : List D → M Unit) : List D → M Unit := fun ds ρ => match ds with
  | [] => .fault
  | d :: ds => (g d ρ).bind fun _ => r ds
theorem lift_gN {K : PySem.W.Frag} (i : Nat) : LiftG K T E (gName i) (gN i) := fun F Hz H σ ρ v d Q E0 r h => h _ Hz H (E0.setD r) (Same.refl _)
theorem g_name {i : Nat} {x : Str} (hN : X.N.Nodup) (hi : X.N[i]? = some x) (hx : Loc X.env.scope x) (hf : X.fn x = true ∨ X.env.scope.names.lookup x = some .local := by first | exact .inl rfl | exact .inr rfl | assumption) : DG X T E (.Name x pos) (gN i) := ⟨_, pg_name hN hi hx hf, lift_gN i⟩
theorem g_nil : DGs X T E [] gsNil := ⟨_, pgs_nil, fun F Hz H σ ρ vs ds Q E0 r h => by
  cases ds with
  | nil => cases r; exact ⟨rfl, h σ Hz H E0 (Same.refl _)⟩
  | cons d ds => exact h.elim⟩
theorem g_cons {es : List Expr} {gg : D → M Unit} {gr : List D → M Unit} (h1 : DG X T E e gg) (h2 : DGs X T E es gr) (hs : (assignEach (e :: es) X.env).map (·.2) = assign e X.env :: (assignEach es X.env).map (·.2) := by rfl) : DGs X T E (e :: es) (gsCons gg gr) := by
  obtain ⟨t, a1, a2⟩ := h1
  obtain ⟨u, b1, b2⟩ := h2
  refine ⟨_, pgs_cons a1 b1 hs, fun F Hz H σ ρ vs ds Q E0 r h => ?_⟩
  cases ds with
  | nil => exact h.elim
  | cons d ds =>
    cases r with
    | cons r1 r2 =>
      refine ⟨_, _, rfl, a2 F Hz H σ ρ _ d _ E0 r1 ?_⟩
      have h : Okg X.K T E F Hz Q ((gg d ρ).bind fun _ => gr ds) := h
      cases q : gg d ρ with
      | ok z ρ' =>
        rw [q] at h
        exact fun σ' Hz' H' E1 s => b2 F Hz' H' σ' ρ' _ ds Q E1 (r2.same s) (h.mono s)
      | exc z ρ' => rw [q] at h; exact h
      | fault => rw [q] at h; exact h.elim
theorem g_tup {es : List Expr} {k : Nat} {gr : List D → M Unit} {n : Nat} (hc : X.calm = true) (h1 : DGs X T E es gr) (hn : (assignEach es X.env).length = n := by rfl) (hst : (assignEach es X.env).findIdx? (·.1) = none := by rfl) :
    DG X T E (.Tuple es k pos) (gTs fun ds => if ds.length = n then gr ds else fun _ => .fault) := by
  obtain ⟨u, b1, b2⟩ := h1
  refine ⟨_, pg_tup hc b1 hn hst, fun F Hz H σ ρ v d Q E0 r h => ?_⟩
  cases d with
  | tup ds =>
    cases r with
    | tup hp rl =>
      have h : Okg X.K T E F Hz Q ((if ds.length = n then gr ds else fun _ => .fault) ρ) := h
      by_cases hl : ds.length = n
      · rw [if_pos hl] at h
        exact ⟨_, _, rfl, (hp.elim (fun z => (Tp.sq (.inl (E0.ext _ _ z)))) fun z => z.elim), by rw [rl.length]; exact hl, b2 F Hz H σ ρ _ ds Q E0 rl h⟩
      · rw [if_neg hl] at h
        exact h.elim
  | _ => exact h.elim
def gAsg (ga : M D) (gg : D → M Unit) : G := gThen ga fun d => gThen (gg d) fun _ ρ => .nx ρ
theorem okg_s {K : PySem.W.Frag} {F : Frm} {Hz : Hp} {W : Ends} {r : M Unit} {ρ : List Slot} (h : Oks K T E F Hz W (gThen r (fun _ ρ => .nx ρ) ρ)) : Okg K T E F Hz W.nx (r ρ) := by
  unfold gThen at h
  cases e : r ρ with
  | ok a ρ' => rw [e] at h; exact h
  | exc x ρ' => rw [e] at h; exact h
  | fault => rw [e] at h; exact h.elim
theorem s_asg {tg : Expr} {gg : D → M Unit} (h1 : DE X T E e ga) (h2 : DG X T E tg gg) (hs : swapsWithSole [tg] e pos.line X.env = pure false := by rfl) (hw : swappedStores [tg] e X.env = pure none := by rfl)
    (h3 : (assignEach [tg] X.env).map (·.2) = [assign tg X.env] := by rfl) : DS X T E (.Assign [tg] e pos) (gAsg ga gg) := by
  obtain ⟨t, a1, a2⟩ := h1
  obtain ⟨u, b1, b2⟩ := h2
  exact ⟨_, ps_asg a1 b1 hs hw h3, fun F Hz H σ ρ W E0 h => a2.stepS E0 h fun x d ρ1 Hz1 H1 E1 s r q => b2 F Hz1 H1 σ ρ1 x d _ E1 r (okg_s q)⟩
def gLoop (gg : D → M Unit) (b : G) : List D → G
  | [], ρ => .nx ρ
  | d :: ds, ρ => match gg d ρ with
    | .ok _ ρ1 => match b ρ1 with
      | .nx ρ2 => gLoop gg b ds ρ2
      | .ct ρ2 => gLoop gg b ds ρ2
      | .bk ρ2 => .nx ρ2
      | o => o
    | .exc e ρ1 => .exc e ρ1
    | .fault => .fault
def gFor (gi : M (List D)) (gg : D → M Unit) (b : G) : G := gThen gi (gLoop gg b)
structure WalkD (K : PySem.W.Frag) (J : It) (Hz : Hp) (ds : List D) : Prop where
  goes : ∀ i H, i < ds.length → Same Hz H → J.go i H
  stops : ∀ H, Same Hz H → J.stop ds.length H
  yld : ∀ T F Hz1 H σ ρ i x H', EnvR K T F Hz1 H σ ρ → Same Hz Hz1 → i < ds.length → J.yld i H x H' → ∃ Hz2 d, ds[i]? = some d ∧ EnvR K T F Hz2 H' σ ρ ∧ Same Hz1 Hz2 ∧ Rp K Hz2 x d
theorem WalkD.same {K : PySem.W.Frag} {J : It} {Hz Hz' : Hp} {ds : List D} (w : WalkD K J Hz ds) (s : Same Hz Hz') : WalkD K J Hz' ds := ⟨fun i H h q => w.goes i H h (s.trans q), fun H q => w.stops H (s.trans q), fun T F Hz1 H σ ρ i x H' e q => w.yld T F Hz1 H σ ρ i x H' e (s.trans q)⟩
abbrev RI (K : PySem.W.Frag) : Hp → It → List D → Prop := fun Hz J ds => WalkD K J Hz ds
abbrev LiftI (K : PySem.W.Frag) := LiftX (RI K) K
def DI (X : Cx) (T : List (Addr × Str)) (E : XK) (tg e : Expr) (g : M (List D)) : Prop := ∃ t, PI X tg e t ∧ LiftI X.K T E t g
section
variable {K : PySem.W.Frag} {F : Frm} {Hz H : Hp} {σ : L2.St} {ρ : List Slot} {W : Ends}
theorem for_core {wi : TI} {tg' : TG} {tb : TS} {gi : M (List D)} {gg : D → M Unit} (E0 : EnvR K T F Hz H σ ρ) (hi : ∀ Q' : It → Hp → Prop, Okx (RI K) K T E F Hz σ Q' (gi ρ) → wi σ H Q') (g2 : LiftG K T E tg' gg) (b2 : LiftS K T E tb g) (h : Oks K T E F Hz W (gFor gi gg g ρ)) : tFor wi tg' tb W σ H := by
  refine stepS1 (R := RI K) hi h fun J ds ρ1 Hz1 H1 E1 s w q => ?_
  have w : WalkD K J Hz1 ds := w
  refine ⟨fun i m σ H => m = ds.length - i ∧ i ≤ ds.length ∧ ∃ Hz2 ρ2, EnvR K T F Hz2 H σ ρ2 ∧ Same Hz1 Hz2 ∧ Oks K T E F Hz2 W (gLoop gg g (ds.drop i) ρ2), ⟨_, rfl, Nat.zero_le _, Hz1, ρ1, E1, Same.refl _, by rw [List.drop_zero]; exact q⟩, ?_⟩
  rintro i m σ2 H2 ⟨rfl, hi, Hz2, ρ2, E2, s2, q2⟩
  by_cases hlt : i < ds.length
  · refine .inr ⟨w.goes i H2 hlt (s2.trans E2.ext), fun σ H => ∃ Hz3 ρ3, EnvR K T F Hz3 H σ ρ3 ∧ Same Hz1 Hz3 ∧ Oks K T E F Hz3 W (gLoop gg g (ds.drop (i + 1)) ρ3), fun σ' H' p' => ⟨ds.length - (i + 1), by omega, rfl, hlt, p'⟩, fun x H' y => ?_⟩
    obtain ⟨Hz3, d, ed, E3, s3, r3⟩ := w.yld T F Hz2 H2 σ2 ρ2 i x H' E2 s2 hlt y
    rw [List.drop_eq_getElem_cons hlt] at q2
    have ed' : ds[i] = d := by
      rw [List.getElem?_eq_getElem hlt] at ed
      exact Option.some.inj ed
    rw [ed'] at q2
    refine g2 F Hz3 H' σ2 ρ2 x d _ E3 r3 ?_
    unfold gLoop at q2
    cases eg : gg d ρ2 with
    | exc z ρ' =>
      rw [eg] at q2
      exact fun σ cls dd Hz' H' E' s' r' => q2 σ cls dd Hz' H' E' (s3.trans s') r'
    | fault => rw [eg] at q2; exact q2.elim
    | ok z ρ' =>
      rw [eg] at q2
      intro σ4 Hz4 H4 E4 s4
      refine b2 F Hz4 H4 σ4 ρ' _ E4 ?_
      have q2 := q2.mono (s3.trans s4)
      have q2 : Oks K T E F Hz4 W (match g ρ' with
        | .nx ρ2 => gLoop gg g (ds.drop (i + 1)) ρ2
        | .ct ρ2 => gLoop gg g (ds.drop (i + 1)) ρ2
        | .bk ρ2 => .nx ρ2
        | o => o) := q2
      cases eb : g ρ' with
      | nx ρ5 =>
        rw [eb] at q2
        exact fun σ5 Hz5 H5 E5 s5 => ⟨Hz5, ρ5, E5, s2.trans (s3.trans (s4.trans s5)), q2.mono s5⟩
      | ct ρ5 =>
        rw [eb] at q2
        exact fun σ5 Hz5 H5 E5 s5 => ⟨Hz5, ρ5, E5, s2.trans (s3.trans (s4.trans s5)), q2.mono s5⟩
      | bk ρ5 => rw [eb] at q2; exact q2
      | rt o d ρ5 => rw [eb] at q2; cases o <;> exact q2
      | exc z ρ5 => rw [eb] at q2; exact q2
      | fault => rw [eb] at q2; exact q2.elim
  · have e : i = ds.length := by omega
    subst e
    rw [List.drop_length] at q2
    exact .inl ⟨w.stops H2 (s2.trans E2.ext), q2 σ2 Hz2 H2 E2 (Same.refl _)⟩
end
theorem s_for {tg iter : Expr} {body : List Stmt} {gi : M (List D)} {gg : D → M Unit} (hp : PassesOwn (model X.prog X.w) X.A X.env X.xe) (hc : X.calm = true) (hi : DI X T E tg iter gi) (hg : DG X T E tg gg) (hb : DSs X T E body g)
    (hs : ∀ x, foldedSetIterable iter X.env x = pure x := by intro _; rfl) : DS X T E (.For tg iter body [] pos) (gFor gi gg g) := by
  obtain ⟨wi, i1, i2⟩ := hi
  obtain ⟨tg', g1, g2⟩ := hg
  obtain ⟨tb, b1, b2⟩ := hb
  exact ⟨_, ps_for hp hc i1 g1 b1 hs, fun F Hz H σ ρ W E0 h => for_core E0 (fun Q' h' => i2 F Hz H σ ρ Q' E0 h') g2 b2 h⟩
end
inductive FRes where
  | ok (d : D) | exc (e : Exc) | fault
abbrev Fn := List D → FRes
/-- what is left of a def's run -/
def fin : Out → FRes
  | .nx _ => .ok .non
  | .rt _ d _ => .ok d
  | .exc e _ => .exc e
  | _ => .fault
def slots0 (N : List Str) (ds : List D) : List Slot := ds.map (fun d => some (false, d)) ++ List.replicate (N.length - ds.length) none
def runF (N : List Str) (g : G) : Fn := fun ds => fin (g (slots0 N ds))
def PostG (K : PySem.W.Frag) (Hz H : Hp) (Q : VK) (E : XK) : FRes → Prop
  | .ok d => ∀ v Hz' H', NT Hz' → Same Hz Hz' → Same Hz' H' → Same H H' → (∀ b o, H b = some o → Hz b = none → HzN Hz' b o) → Rp K Hz' v d → Q v H'
  | .exc e => ∀ cls dd Hz' H', NT Hz' → Same Hz Hz' → Same Hz' H' → Same H H' → (∀ b o, H b = some o → Hz b = none → HzN Hz' b o) → ExcR K Hz' H' e cls dd → E cls dd H'
  | .fault => False
/-- the promise of a def that changes nothing: n parameters, f of their data -/
def spG (K : PySem.W.Frag) (n : Nat) (f : Fn) : Sp := fun vs H Q E => ∃ Hz ds, NT Hz ∧ Same Hz H ∧ RpL K Hz vs ds ∧ ds.length = n ∧ PostG K Hz H Q E (f ds)
def othF (Hz H : Hp) : Frm := ⟨fun b => if Hz b = none then H b else none, none⟩
theorem othF_some {Hz H : Hp} {b : Addr} {o : HO} (h : (othF Hz H).f b = some o) : H b = some o ∧ Hz b = none := by
  unfold othF at h
  simp only at h
  by_cases e : Hz b = none
  · rw [if_pos e] at h; exact ⟨h, e⟩
  · rw [if_neg e] at h; cases h
theorem othF_of {Hz H : Hp} {b : Addr} {o : HO} (h : H b = some o) (e : Hz b = none) : (othF Hz H).f b = some o := by
  unfold othF
  simp only
  rw [if_pos e]
  exact h
theorem env0 {K : PySem.W.Frag} {N : List Str} {Hz H : Hp} {vs : List V} {ds : List D} (nt : NT Hz) (s : Same Hz H) (r : RpL K Hz vs ds) (hl : ds.length ≤ N.length) : EnvR K [] (othF Hz H) Hz H (L2.start N vs) (slots0 N ds) := by
  have get : ∀ {i : Nat} {b : Bool} {d : D}, (slots0 N ds)[i]? = some (some (b, d)) → b = false ∧ ds[i]? = some d := fun {i b d} e => by
    unfold slots0 at e
    by_cases hi : i < ds.length
    · rw [List.getElem?_append_left (by rw [List.length_map]; exact hi), List.getElem?_map, List.getElem?_eq_getElem hi] at e
      simp at e
      rw [List.getElem?_eq_getElem hi, e.2]
      exact ⟨e.1, rfl⟩
    · rw [List.getElem?_append_right (by rw [List.length_map]; omega), List.getElem?_replicate] at e
      split at e <;> simp at e
  refine ⟨?_, s, fun b o e => ⟨(othF_some e).1, .inl (othF_some e).2⟩, fun p hp => (nomatch hp), fun p hp => (nomatch hp), fun i d e => ?_, fun i d e => ?_, fun i j d e a _ h => ?_, .inl rfl, nt, fun a d e _ => by cases e⟩
  · unfold L2.start slots0
    rw [List.length_append, List.length_append, List.length_map, List.length_map, List.length_replicate, List.length_replicate, r.length]
  · obtain ⟨_, e⟩ := get e
    obtain ⟨v, h1, h2⟩ := r.get e
    refine ⟨v, ?_, h2⟩
    unfold L2.start
    rw [List.getElem?_append_left (by rw [List.length_map]; exact (List.getElem?_eq_some_iff.mp h1).1), List.getElem?_map, h1]
    rfl
  · exact nomatch (get e).1
  · exact nomatch (get h).1
theorem same_of {F : Frm} {Hz H Hz' H' : Hp} (s : Same Hz H) (s1 : Same Hz Hz') (s2 : Same Hz' H') (fr : Fr (othF Hz H) Hz' H') : Same H H' ∧ ∀ b o, H b = some o → Hz b = none → HzN Hz' b o :=
  ⟨fun b o e => by
    rcases h : Hz b with _ | u
    · exact (fr b o (othF_of e h)).1
    · have := s _ _ h
      rw [e] at this
      cases this
      exact s2 _ _ (s1 _ _ h), fun b o e h => (fr b o (othF_of e h)).2⟩
/-- a body's end, as the callers want it -/
theorem post_of {K : PySem.W.Frag} {Hz H : Hp} {Q : VK} {E : XK} (s : Same Hz H) : ∀ {o : Out}, PostG K Hz H Q E (fin o) → Oks K [] E (othF Hz H) Hz { nx := fun _ H' => Q .non H', rt := Q } o
  | .nx ρ, h => fun σ Hz' H' e q => let ⟨a, b⟩ := same_of (F := othF Hz H) s q e.ext e.fr; h .non Hz' H' e.nt q e.ext a b .non
  | .rt false d ρ, h => fun v σ Hz' H' e q r => let ⟨a, b⟩ := same_of (F := othF Hz H) s q e.ext e.fr; h v Hz' H' e.nt q e.ext a b r
  | .rt true d ρ, h => fun v σ Hz' H' e q r ns => by
    obtain ⟨Hz2, e2, q2, r2⟩ := r.join e ns
    obtain ⟨a, b⟩ := same_of (F := othF Hz H) s (q.trans q2) e2.ext e2.fr
    exact h _ Hz2 H' e2.nt (q.trans q2) e2.ext a b r2
  | .exc x ρ, h => fun σ cls dd Hz' H' e q r => let ⟨a, b⟩ := same_of (F := othF Hz H) s q e.ext e.fr; h cls dd Hz' H' e.nt q e.ext a b r
  | .bk _, h => h.elim
  | .ct _, h => h.elim
  | .fault, h => h.elim
section
variable {P : Program} {w : World} {K : PySem.W.Frag} {mg : Str → Option Value} {base : Heap} {n : Str} {st : Stmt} {N ps : List Str} {k : Nat} {g : G}
theorem okG (D : Dn K mg n st []) (S : FnScope N ps (defScope st)) (bind : ∀ (kV doc pm : Value) (an : Option Addr) (cdv ct : Value) (us : List Value), us.length = ps.length → bindArgs (PySem.W.fnOf n n (defArgs st) (defBody st) (defScope st) .none kV doc pm an cdv ct) ⟨us, []⟩ = pure (ps.zip us))
    (hl : ps.length ≤ N.length) (hb : ∀ (cdv : Value) (A : Around) (outer : List Env) (s : Shared) (H : Hp) (E : XK), Room k (A.deeper (envOfC n (defScope st) s.heap.objs.size (ga K n) cdv)) → DSs (cxOf (L2.CX P w) P w K mg base N n (defScope st) (ga K n) cdv A outer s H E) [] E (defBody st) g) :
    FOkX (L2.CX P w) P w K mg base (k + 1) n ps (spG K ps.length (runF N g)) :=
  D.okX S bind (fun vs H Q E ⟨Hz, ds, nt, s, r, e, h⟩ => by rw [r.length, e]) fun cdv A outer s H vs Q E hr ⟨Hz, ds, nt, sm, r, e, h⟩ => by
    obtain ⟨t, h1, h2⟩ := hb cdv A outer s H E hr
    exact ⟨t, h1, h2 _ _ _ _ _ _ (env0 nt sm r (by rw [e]; exact hl)) (post_of sm h)⟩
theorem okGm {a : Addr} {qual : Str} (D : Dm K a n qual st []) (S : FnScope N ps (defScope st)) (bind : ∀ (kV doc pm : Value) (an : Option Addr) (cdv ct : Value) (us : List Value), us.length = ps.length → bindArgs (PySem.W.fnOf n qual (defArgs st) (defBody st) (defScope st) .none kV doc pm an cdv ct) ⟨us, []⟩ = pure (ps.zip us))
    (hl : ps.length ≤ N.length) (hb : ∀ (cdv : Value) (A : Around) (outer : List Env) (s : Shared) (H : Hp) (E : XK), Room k (A.deeper (envOfC qual (defScope st) s.heap.objs.size a cdv)) → DSs (cxOf (L2.CX P w) P w K mg base N qual (defScope st) a cdv A outer s H E) [] E (defBody st) g) :
    MOk (L2.CX P w) P w K mg base (k + 1) a ps (spG K ps.length (runF N g)) :=
  D.okX S bind (fun vs H Q E ⟨Hz, ds, nt, s, r, e, h⟩ => by rw [r.length, e]) fun cdv A outer s H vs Q E hr ⟨Hz, ds, nt, sm, r, e, h⟩ => by
    obtain ⟨t, h1, h2⟩ := hb cdv A outer s H E hr
    exact ⟨t, h1, h2 _ _ _ _ _ _ (env0 nt sm r (by rw [e]; exact hl)) (post_of sm h)⟩
end
def gCall (n : Nat) (f : Fn) (ga : M (List D)) : M D := gBind ga fun ds ρ => if ds.length = n then (match f ds with
  | .ok d => .ok d ρ
  | .exc e => .exc e ρ
  | .fault => .fault) else .fault
theorem EnvR.after {K : PySem.W.Frag} {T : List (Addr × Str)} {F : Frm} {Hz H Hz' H' : Hp} {σ : L2.St} {ρ : List Slot} (E : EnvR K T F Hz H σ ρ) (nt : NT Hz') (s : Same Hz Hz') (s1 : Same Hz' H') (s2 : Same H H') (n : ∀ b o, H b = some o → Hz b = none → HzN Hz' b o) : EnvR K T F Hz' H' σ ρ :=
  ⟨E.len, s1, fun b o e => ⟨s2 _ _ (E.fr b o e).1, (E.fr b o e).2.elim (n b o (E.fr b o e).1) .inr⟩, E.tb.ext s2, fun p hp => ⟨by
    obtain ⟨ps, e, _⟩ := E.tb p hp
    exact (n _ _ e (E.tz p hp).1).no fun _ z => (by cases z), (E.tz p hp).2⟩, fun i d e => by
    obtain ⟨v, h1, h2⟩ := E.sh i d e
    exact ⟨v, h1, h2.same s⟩, fun i d e => by
    obtain ⟨a, h1, h2, h3, h4⟩ := E.ow i d e
    obtain ⟨o, ho, _, _, k⟩ := h4.kind
    exact ⟨a, h1, (n _ _ ho h2).no k, h3, h4.keep (.same s) (s2 _)⟩, E.dis, E.fl, nt, E.pn⟩
section
variable {X : Cx} {T : List (Addr × Str)} {E : XK} {n : Str} {ps : List Str} {m k : Nat} {f : Fn} {p pos : Pos} {e : Expr} {es : List Expr} {gs : M (List D)}
theorem lift_call {K : PySem.W.Frag} {t : TA} (ht : LiftA K T E t gs) : LiftD K T E (tCall (spG K m f) [] E t) (gCall m f gs) := fun F Hz H σ ρ Q E0 h => ht.step E0 h fun vs ds ρ1 Hz1 H1 E1 s r h => by
  by_cases hn : ds.length = m
  · rw [if_pos hn] at h
    rw [List.append_nil]
    refine ⟨Hz1, ds, E1.nt, E1.ext, r, hn, ?_⟩
    cases ef : f ds with
    | ok d =>
      rw [ef] at h
      exact fun v Hz' H' nt s1 s2 s3 nn r2 => h v Hz' H' (E1.after nt s1 s2 s3 nn) s1 r2
    | exc x =>
      rw [ef] at h
      exact fun cls dd Hz' H' nt s1 s2 s3 nn r2 => h cls dd Hz' H' (E1.after nt s1 s2 s3 nn) s1 r2
    | fault => rw [ef] at h; exact h.elim
  · rw [if_neg hn] at h
    exact h.elim
theorem d_call {CX : CXT} (F : FOkX CX X.prog X.w X.K X.mg X.base k n ps (spG X.K m f)) (hx : Passes CX X E) (hr : Room k X.A) (ha : DA X T E (e :: es) gs) (hg : Gl X n := by rfl) (hdb : (n == ("__debug__" : Str)) = false := by decide)
    (he : starEach (e :: es) X.env = (false, eval e X.env) :: starEach es X.env := by rfl) (hpl : (backTo pos (starEach es X.env)).any (·.1) = false := by rfl) : DE X T E (.Call (.Name n p) (e :: es) [] pos) (gCall m f gs) := by
  obtain ⟨t, a1, a2⟩ := ha
  exact ⟨_, pe_callE F hx hr a1 hg hdb he hpl, lift_call a2⟩
end
end PL
namespace PL
open PySem PySem.Spec PySem.Calls PyProof.Rows L2 He CT
def keyOf : D → Option L2.Key
  | .int i => some (.inl i)
  | .str x => some (.inr x)
  | _ => none
def keysOf : List D → Option (List L2.Key)
  | [] => some []
  | d :: l => match keyOf d, keysOf l with
    | some k, some ks => some (k :: ks)
    | _, _ => none
section
variable {κ : Type} [DecidableEq κ] {α : Type}
def lookT (l : List (κ × α)) (k : κ) : Option α := (l.find? fun p => decide (p.1 = k)).map (·.2)
def putT (l : List (κ × α)) (k : κ) (v : α) : List (κ × α) := if (l.any fun p => decide (p.1 = k)) = true then l.map (fun p => if p.1 = k then (p.1, v) else p) else l ++ [(k, v)]
def dropT (l : List (κ × α)) (k : κ) : List (κ × α) := l.filter fun p => decide (p.1 ≠ k)
end
section
variable {K : PySem.W.Frag} {H : Hp} {κ : Type} [DecidableEq κ]
theorem keyOf_rp {v : V} {d : D} {k : L2.Key} (h : keyOf d = some k) (r : Rp K H v d) : v = kV k := by
  cases d with
  | int i => cases h; cases r; rfl
  | str x => cases h; cases r; rfl
  | _ => cases h
theorem keysOf_rp : ∀ {vs : List V} {ds : List D} {ks : List L2.Key}, keysOf ds = some ks → RpL K H vs ds → vs = ks.map kV
  | _, [], ks, h, r => by
    cases h
    cases r
    rfl
  | _, d :: ds, ks, h, r => by
    unfold keysOf at h
    split at h
    · rename_i k ks' h1 h2
      cases h
      cases r with
      | cons r1 r2 => rw [keyOf_rp h1 r1, keysOf_rp h2 r2]; rfl
    · cases h
/-- a dict's entries -/
inductive RpE (K : PySem.W.Frag) (H : Hp) : List (κ × V) → List (κ × D) → Prop
  | nil : RpE K H [] []
  | cons {k : κ} {v : V} {d : D} {kvs : List (κ × V)} {l : List (κ × D)} : Rp K H v d → RpE K H kvs l → RpE K H ((k, v) :: kvs) ((k, d) :: l)
theorem RpE.of : ∀ {kvs : List (κ × V)} {l : List (κ × D)}, kvs.map Prod.fst = l.map Prod.fst → RpL K H (kvs.map Prod.snd) (l.map Prod.snd) → RpE K H kvs l
  | [], [], _, _ => .nil
  | [], _ :: _, e, _ => by cases e
  | _ :: _, [], e, _ => by cases e
  | (k, v) :: kvs, (k', d) :: l, e, r => by
    rw [List.map_cons, List.map_cons, List.cons.injEq] at e
    have e1 : k = k' := e.1
    subst e1
    cases r with
    | cons r1 r2 => exact .cons r1 (RpE.of e.2 r2)
theorem RpE.fst {kvs : List (κ × V)} {l : List (κ × D)} (h : RpE K H kvs l) : kvs.map Prod.fst = l.map Prod.fst := by
  induction h with
  | nil => rfl
  | cons r h ih => rw [List.map_cons, List.map_cons, ih]
theorem RpE.snd {kvs : List (κ × V)} {l : List (κ × D)} (h : RpE K H kvs l) : RpL K H (kvs.map Prod.snd) (l.map Prod.snd) := by
  induction h with
  | nil => exact .nil
  | cons r h ih => exact .cons r ih
theorem RpE.same {H' : Hp} (e : Same H H') {kvs : List (κ × V)} {l : List (κ × D)} (h : RpE K H kvs l) : RpE K H' kvs l := .of h.fst (h.snd.same e)
theorem RpE.len {kvs : List (κ × V)} {l : List (κ × D)} (h : RpE K H kvs l) : kvs.length = l.length := by
  have := congrArg List.length h.fst
  rwa [List.length_map, List.length_map] at this
theorem RpE.get {kvs : List (κ × V)} {l : List (κ × D)} (h : RpE K H kvs l) (k : κ) : (∀ d, lookT l k = some d → ∃ v, valV kvs k = some v ∧ Rp K H v d) ∧ (lookT l k = none → valV kvs k = none) := by
  induction h with
  | nil => exact ⟨fun d e => (by cases e), fun _ => rfl⟩
  | @cons k' v d kvs l r h ih =>
    by_cases e : k' = k
    · have e1 : lookT ((k', d) :: l) k = some d := by simp [lookT, List.find?_cons, e]
      rw [e1, valV_pos (p := (k', v)) e]
      exact ⟨fun d' z => by cases z; exact ⟨v, rfl, r⟩, fun z => by cases z⟩
    · have e1 : lookT ((k', d) :: l) k = lookT l k := by simp [lookT, List.find?_cons, e]
      rw [e1, valV_neg (p := (k', v)) e]
      exact ih
theorem RpE.isSome {kvs : List (κ × V)} {l : List (κ × D)} (h : RpE K H kvs l) (k : κ) : (valV kvs k).isSome = (lookT l k).isSome := by
  obtain ⟨h1, h2⟩ := h.get k
  cases e : lookT l k with
  | none => rw [h2 e]; rfl
  | some d =>
    obtain ⟨v, ev, _⟩ := h1 d e
    rw [ev]
    rfl
theorem RpE.app {kvs kws : List (κ × V)} {l m : List (κ × D)} (h : RpE K H kvs l) (g : RpE K H kws m) : RpE K H (kvs ++ kws) (l ++ m) := by
  induction h with
  | nil => exact g
  | cons r h ih => exact .cons r ih
theorem RpE.put {kvs : List (κ × V)} {l : List (κ × D)} (h : RpE K H kvs l) (k : κ) {v : V} {d : D} (r : Rp K H v d) : RpE K H (putK kvs k v) (putT l k d) := by
  have e : (kvs.any fun p => decide (p.1 = k)) = (l.any fun p => decide (p.1 = k)) := by
    induction h with
    | nil => rfl
    | cons r h ih => rw [List.any_cons, List.any_cons, ih]
  unfold putK putT
  rw [e]
  split
  · rename_i hh
    clear hh e
    induction h with
    | nil => exact .nil
    | @cons k' v' d' kvs l r' h ih =>
      rw [List.map_cons, List.map_cons]
      by_cases z : k' = k
      · rw [if_pos z, if_pos z]
        exact .cons r ih
      · rw [if_neg z, if_neg z]
        exact .cons r' ih
  · exact h.app (.cons r .nil)
theorem RpE.drop {kvs : List (κ × V)} {l : List (κ × D)} (h : RpE K H kvs l) (k : κ) : RpE K H (dropK kvs k) (dropT l k) := by
  unfold dropK dropT
  induction h with
  | nil => exact .nil
  | @cons k' v d kvs l r h ih =>
    by_cases z : k' = k
    · rw [List.filter_cons_of_neg (by simp [z]), List.filter_cons_of_neg (by simp [z])]
      exact ih
    · rw [List.filter_cons_of_pos (by simp [z]), List.filter_cons_of_pos (by simp [z])]
      exact .cons r ih
theorem RpE.at {kvs : List (κ × V)} {l : List (κ × D)} (h : RpE K H kvs l) : ∀ {i : Nat} {k : κ} {v : V}, kvs[i]? = some (k, v) → ∃ d, l[i]? = some (k, d) ∧ Rp K H v d := by
  induction h with
  | nil => intro i k v e; cases e
  | cons r h ih =>
    intro i k v e
    cases i with
    | zero => cases e; exact ⟨_, rfl, r⟩
    | succ i => exact ih e
/-- the entry that a dict has at a key -/
def dget (d k : D) : Option (Option D) := match d with
  | .dT l => match k with
    | .tup ks => (keysOf ks).map fun k => lookT l k
    | _ => none
  | .dK l => (keyOf k).map fun k => lookT l k
  | _ => none
theorem Rp.dts {v : V} {l : List (List L2.Key × D)} (r : Rp K H v (.dT l)) : ∃ a kvs, v = .ref a ∧ Rd H a (.dT kvs) ∧ RpE K H kvs l := by
  cases r with
  | dT h e r => exact ⟨_, _, rfl, h, .of e r⟩
theorem Rp.dks {v : V} {l : List (L2.Key × D)} (r : Rp K H v (.dK l)) : ∃ a kvs, v = .ref a ∧ Rd H a (.dK kvs) ∧ RpE K H kvs l := by
  cases r with
  | dK h e r => exact ⟨_, _, rfl, h, .of e r⟩
/-- what is at hand: data that stands, or an object of ours -/
def Hd (K : PySem.W.Frag) (Hz H : Hp) (v : V) (d : D) : Prop := Rp K Hz v d ∨ ∃ a, v = .ref a ∧ Top K Hz H a d
theorem dget_ok {Hz H : Hp} {x y : V} {dx dy : D} {o : Option D} (s : Same Hz H) (h : dget dx dy = some o) (rx : Hd K Hz H x dx) (ry : Rp K Hz y dy) : ∃ a r, x = .ref a ∧ DGet H a y r ∧ (∀ d, o = some d → ∃ v, r = some v ∧ Rp K Hz v d) ∧ (o = none → r = none) := by
  unfold dget at h
  split at h
  · rename_i l
    split at h
    · rename_i ks
      obtain ⟨k, hk, e⟩ := Option.map_eq_some_iff.mp h
      cases ry with
      | tup h1 r1 =>
        have ev := keysOf_rp hk r1
        subst ev
        have hb := s _ _ (h1.elim id False.elim)
        obtain ⟨a, kvs, rfl, hd, re⟩ : ∃ a kvs, x = .ref a ∧ Rd H a (.dT kvs) ∧ RpE K Hz kvs l := by
          rcases rx with rx | ⟨a, rfl, ht⟩
          · obtain ⟨a, kvs, e1, hd, re⟩ := rx.dts
            exact ⟨a, kvs, e1, rd_same s hd, re⟩
          · obtain ⟨kvs, h1, h2, h3⟩ := ht
            exact ⟨a, kvs, rfl, .inl h1, .of h2 h3⟩
        obtain ⟨g1, g2⟩ := re.get k
        refine ⟨a, valV kvs k, rfl, .inr ⟨kvs, k, _, hd, rfl, hb, rfl⟩, fun d hd => g1 d (e.trans hd), fun hd => g2 (e.trans hd)⟩
    · cases h
  · rename_i l
    obtain ⟨k, hk, e⟩ := Option.map_eq_some_iff.mp h
    have ev := keyOf_rp hk ry
    subst ev
    obtain ⟨a, kvs, rfl, hd, re⟩ : ∃ a kvs, x = .ref a ∧ Rd H a (.dK kvs) ∧ RpE K Hz kvs l := by
      rcases rx with rx | ⟨a, rfl, ht⟩
      · obtain ⟨a, kvs, e1, hd, re⟩ := rx.dks
        exact ⟨a, kvs, e1, rd_same s hd, re⟩
      · obtain ⟨kvs, h1, h2, h3⟩ := ht
        exact ⟨a, kvs, rfl, .inl h1, .of h2 h3⟩
    obtain ⟨g1, g2⟩ := re.get k
    refine ⟨a, valV kvs k, rfl, .inl ⟨kvs, k, hd, rfl, rfl⟩, fun d hd => g1 d (e.trans hd), fun hd => g2 (e.trans hd)⟩
  · cases h
end
theorem subTail {prog : Program} {w : World} {A : Around} {E : Value → Shared → Prop} {s : Shared} {value slice : Expr} {o i : Value} {T id : String} {Q : Value → Shared → Prop} (hT : s.TypeIs o T)
    (hl : typeLookup (.type T) "__getitem__" = pure (some (.builtin id))) (h : wpAny (model prog w) A (getItem o i) Q E s) (hs : subscripted slice false o i = operate [o, i] (getItem o i)) : wpAny (model prog w) A (subscriptTail value slice o i) Q E s := by
  unfold subscriptTail
  refine wpAny_bind ?_
  rw [getitemInPython_of_ne hT.not_modules]
  refine wpAny_bind (wpAny_specialOf hT hl ?_)
  have fin : wpAny (model prog w) A (subscripted slice false o i) (fun r s₃ => wpAny (model prog w) A (letTemporaryGo value o r >>= fun _ => pure r) Q E s₃) E s := by
    rw [hs]
    exact wpAny_operating (wpAny_mono h (fun r s₃ h₃ => wpAny_bind (wpAny_letTemporaryGo (wpAny_pure h₃))) fun _ _ x => x)
  first
    | exact wpAny_pure (wpAny_bind fin)
    | exact wpAny_bind (wpAny_pure (wpAny_bind fin))
    | exact wpAny_bind fin
def rIxD : R2 := fun x y H Q => ∃ a v, x = .ref a ∧ DGet H a y (some v) ∧ Q v H
theorem ix_dict {X : Cx} (hu : X.A.units + 1 < cLine) : IxR X rIxD := by
  intro value slice pins s σ H x y v u Q I rx ry h hs
  obtain ⟨a, w, rfl, g, q⟩ := h
  cases (show v = Value.ref a from rx)
  refine subTail (dict_typeIs I g) PySem.F.slot_dict_getitem.lookup ?_ hs
  exact d_getItem hu I g ry fun w' s3 I3 rw' => ⟨w, H, I3, rw', q⟩
def rInDict : R2 := fun y x H Q => ∃ a o, x = .ref a ∧ DGet H a y o ∧ Q (.bl o.isSome) H
def rNotInDict : R2 := fun y x H Q => ∃ a o, x = .ref a ∧ DGet H a y o ∧ Q (.bl (!o.isSome)) H
theorem op_inDict {X : Cx} (hu : X.A.units + 1 < cLine) : OpR X (compareOp .In) rInDict := by
  intro pins s σ H y x iv u Q I ry rx h
  obtain ⟨a, o, rfl, g, q⟩ := h
  cases (show u = Value.ref a from rx)
  exact d_in hu I g ry fun s3 I3 => ⟨.bl o.isSome, H, I3, rfl, q⟩
theorem op_notInDict {X : Cx} (hu : X.A.units + 1 < cLine) : OpR X (compareOp .NotIn) rNotInDict := by
  intro pins s σ H y x iv u Q I ry rx h
  obtain ⟨a, o, rfl, g, q⟩ := h
  cases (show u = Value.ref a from rx)
  exact d_notIn hu I g ry fun s3 I3 => ⟨.bl (!o.isSome), H, I3, rfl, q⟩
end PL
namespace PL
open PySem PySem.Spec PySem.Calls PyProof.Rows L2 He CT
section
variable {X : Cx}
theorem opr_or {f : Value → Value → Sem Value} {r r' : R2} (h : OpR X f r) (h' : OpR X f r') : OpR X f (fun x y H Q => r x y H Q ∨ r' x y H Q) := by
  intro pins s σ H x y v u Q I rx ry q
  rcases q with q | q
  · exact h pins s σ H x y v u Q I rx ry q
  · exact h' pins s σ H x y v u Q I rx ry q
theorem ix_or {r r' : R2} (h : IxR X r) (h' : IxR X r') : IxR X (fun x y H Q => r x y H Q ∨ r' x y H Q) := by
  intro value slice pins s σ H x y v u Q I rx ry q hs
  rcases q with q | q
  · exact h value slice pins s σ H x y v u Q I rx ry q hs
  · exact h' value slice pins s σ H x y v u Q I rx ry q hs
end
def gAdd (a b : D) : M D := fun ρ => match a, b with
  | .int i, .int j => .ok (.int (i + j)) ρ
  | .str x, .str y => if lim (x.length + y.length) = true then .ok (.str (x ++ y)) ρ else .fault
  | .lst x, .lst y => if lim (x.length + y.length) = true then .ok (.lst (x ++ y)) ρ else .fault
  | .tup x, .tup y => if lim (x.length + y.length) = true then .ok (.tup (x ++ y)) ρ else .fault
  | _, _ => .fault
def rAddS : R2 := fun x y H Q => ∃ i j, x = .str i ∧ y = .str j ∧ i.length + j.length ≤ sizeLine ∧ Q (.str (i ++ j)) H
def rAddG (K : PySem.W.Frag) : R2 := fun x y H Q => rI0 (fun i j => .int (i + j)) x y H Q ∨ (rAddS x y H Q ∨ (rCat x y H Q ∨ rCatA K x y H Q))
theorem op_addG {X : Cx} : OpR X (binaryOp .Add) (rAddG X.K) := opr_or op_add (opr_or op_add_str (opr_or op_cat op_catA))
theorem tp_same {K : PySem.W.Frag} {H H' : Hp} (e : Same H H') {a : Addr} {xs : List V} (h : Tp K H a xs) : Tp K H' a xs := h.elim (fun z => .inl (e _ _ z)) fun z => .inr z
theorem addG {K : PySem.W.Frag} : OpD K (rAddG K) gAdd := by
  intro T E F Hz H σ ρ Q x y dx dy E0 rx ry h
  unfold gAdd at h
  split at h
  · cases rx; cases ry
    exact .inl ⟨_, _, rfl, rfl, okd_here E0 h (.int _)⟩
  · split at h
    · rename_i hl
      cases rx; cases ry
      exact .inr (.inl ⟨_, _, rfl, rfl, lim_ok hl, okd_here E0 h (.str _)⟩)
    · exact h.elim
  · split at h
    · rename_i hl
      cases rx with
      | lst h1 r1 =>
        cases ry with
        | lst h2 r2 =>
          refine .inr (.inr (.inl ⟨_, _, _, _, rfl, rfl, E0.ext _ _ h1, E0.ext _ _ h2, by rw [r1.length, r2.length]; exact lim_ok hl, fun p hp => ?_⟩))
          exact okd_new E0 h hp (fun _ z => by cases z) (.lst upd_same ((r1.append r2).same (same_new (E0.fresh hp).1)))
    · exact h.elim
  · split at h
    · rename_i hl
      cases rx with
      | tup h1 r1 =>
        cases ry with
        | tup h2 r2 =>
          refine .inr (.inr (.inr ⟨_, _, _, _, rfl, rfl, (tp_same E0.ext h1).sq, (tp_same E0.ext h2).sq, by rw [r1.length, r2.length]; exact lim_ok hl, fun e => ?_, fun e1 e2 => ?_, fun e1 e2 p hp => ?_⟩))
          · subst e
            cases r1
            exact okd_here E0 h (.tup h2 r2)
          · subst e2
            cases r2
            rw [List.append_nil] at h
            exact okd_here E0 h (.tup h1 r1)
          · exact okd_new E0 h hp (fun _ z => by cases z) (.tup (.inl upd_same) ((r1.append r2).same (same_new (E0.fresh hp).1)))
    · exact h.elim
  · exact h.elim
def gInt2 (c : Int → Int → Bool) (f : Int → Int → D) (a b : D) : M D := fun ρ => match a, b with
  | .int i, .int j => if c i j = true then .ok (f i j) ρ else .fault
  | _, _ => .fault
theorem int2 {K : PySem.W.Frag} {C : Int → Int → Prop} {c : Int → Int → Bool} {f : Int → Int → V} {g : Int → Int → D} (hc : ∀ i j, c i j = true → C i j) (hf : ∀ i j H, Rp K H (f i j) (g i j)) : OpD K (rI C f) (gInt2 c g) := by
  intro T E F Hz H σ ρ Q x y dx dy E0 rx ry h
  unfold gInt2 at h
  split at h
  · split at h
    · rename_i hl
      cases rx; cases ry
      exact ⟨_, _, rfl, rfl, hc _ _ hl, okd_here E0 h (hf _ _ _)⟩
    · exact h.elim
  · exact h.elim
theorem int20 {K : PySem.W.Frag} {f : Int → Int → V} {g : Int → Int → D} (hf : ∀ i j H, Rp K H (f i j) (g i j)) : OpD K (rI0 f) (gInt2 (fun _ _ => true) g) := by
  intro T E F Hz H σ ρ Q x y dx dy E0 rx ry h
  unfold gInt2 at h
  split at h
  · rw [if_pos rfl] at h
    cases rx; cases ry
    exact ⟨_, _, rfl, rfl, okd_here E0 h (hf _ _ _)⟩
  · exact h.elim
def gFdiv : D → D → M D := gInt2 (fun _ j => decide (j ≠ 0 ∧ j.natAbs.log2 < 9000)) fun i j => .int (i.fdiv j)
def gMod : D → D → M D := gInt2 (fun _ j => decide (j ≠ 0)) fun i j => .int (i.fmod j)
def gPow : D → D → M D := gInt2 (fun i j => decide (0 ≤ j ∧ j ≤ 1000000 ∧ i.natAbs < 2 ^ 64)) fun i j => .int (i ^ j.toNat)
theorem fdivG {K : PySem.W.Frag} : OpD K (rI CDivZ fun i j => .int (i.fdiv j)) gFdiv := int2 (fun i j h => by have := of_decide_eq_true h; exact this) fun _ _ _ => .int _
theorem modG {K : PySem.W.Frag} : OpD K (rI (fun _ j => j ≠ 0) fun i j => .int (i.fmod j)) gMod := int2 (fun i j h => by have := of_decide_eq_true h; exact this) fun _ _ _ => .int _
theorem powG {K : PySem.W.Frag} : OpD K (rI CPow fun i j => .int (i ^ j.toNat)) gPow := int2 (fun i j h => by have := of_decide_eq_true h; exact this) fun _ _ _ => .int _
/-- int * int, list * int -/
def gMul (a b : D) : M D := fun ρ => match a, b with
  | .int i, .int j => if decide (i.natAbs.log2 + j.natAbs.log2 < 1000000) = true then .ok (.int (i * j)) ρ else .fault
  | .lst x, .int k => if decide (-1000000 ≤ k ∧ k ≤ 1000000) = true then (if lim (x.length * k.toNat) = true then .ok (.lst (List.replicate k.toNat x).flatten) ρ else .fault) else .fault
  | _, _ => .fault
def rMulG : R2 := fun x y H Q => rI CMulW (fun i j => .int (i * j)) x y H Q ∨ rRep x y H Q
theorem op_mulG {X : Cx} : OpR X (binaryOp .Mult) rMulG := opr_or op_mulW op_rep
theorem RpL.rep {K : PySem.W.Frag} {H : Hp} {vs : List V} {ds : List D} (h : RpL K H vs ds) : ∀ n, RpL K H (List.replicate n vs).flatten (List.replicate n ds).flatten
  | 0 => .nil
  | n + 1 => by
    rw [List.replicate_succ, List.replicate_succ, List.flatten_cons, List.flatten_cons]
    exact h.append (h.rep n)
theorem mulG {K : PySem.W.Frag} : OpD K rMulG gMul := by
  intro T E F Hz H σ ρ Q x y dx dy E0 rx ry h
  unfold gMul at h
  split at h
  · split at h
    · rename_i hl
      cases rx; cases ry
      have hl := of_decide_eq_true hl
      exact .inl ⟨_, _, rfl, rfl, hl, okd_here E0 h (.int _)⟩
    · exact h.elim
  · split at h
    · rename_i hk
      split at h
      · rename_i hl
        cases rx with
        | lst h1 r1 =>
          cases ry
          have hk := of_decide_eq_true hk
          refine .inr ⟨_, _, _, rfl, rfl, E0.ext _ _ h1, by omega, by omega, by rw [r1.length]; exact lim_ok hl, fun p hp => ?_⟩
          exact okd_new E0 h hp (fun _ z => by cases z) (.lst upd_same ((r1.rep _).same (same_new (E0.fresh hp).1)))
      · exact h.elim
    · exact h.elim
  · exact h.elim
def gNeg (a : D) : M D := fun ρ => match a with
  | .int i => .ok (.int (-i)) ρ
  | _ => .fault
theorem negG {K : PySem.W.Frag} : UnD K (rU fun i => .int (-i)) gNeg := by
  intro T E F Hz H σ ρ Q x dx E0 rx h
  unfold gNeg at h
  split at h
  · cases rx; exact ⟨_, rfl, okd_here E0 h (.int _)⟩
  · exact h.elim
def gLt : D → D → M D := gInt2 (fun _ _ => true) fun i j => .bl (decide (i < j))
def gLe : D → D → M D := gInt2 (fun _ _ => true) fun i j => .bl (decide (i ≤ j))
def gGt : D → D → M D := gInt2 (fun _ _ => true) fun i j => .bl (decide (j < i))
def gGe : D → D → M D := gInt2 (fun _ _ => true) fun i j => .bl (decide (j ≤ i))
theorem ltG {K : PySem.W.Frag} : OpD K (rI0 fun i j => .bl (decide (i < j))) gLt := int20 fun _ _ _ => .bl _
theorem leG {K : PySem.W.Frag} : OpD K (rI0 fun i j => .bl (decide (i ≤ j))) gLe := int20 fun _ _ _ => .bl _
theorem gtG {K : PySem.W.Frag} : OpD K (rI0 fun i j => .bl (decide (j < i))) gGt := int20 fun _ _ _ => .bl _
theorem geG {K : PySem.W.Frag} : OpD K (rI0 fun i j => .bl (decide (j ≤ i))) gGe := int20 fun _ _ _ => .bl _
mutual
def py : D → PyData
  | .bl b => .bool b
  | .int i => .int i
  | .str x => .str x
  | .tup l => .tuple (pyL l)
  | .ktup l => .tuple (pyL l)
  | .lst l => .list (pyL l)
  | .fz l => .list (pyL l)
  | _ => .none
def pyL : List D → List PyData
  | [] => []
  | d :: l => py d :: pyL l
end
mutual
def pyB : D → Bool
  | .non | .bl _ | .int _ | .str _ => true
  | .tup l => pyBL l
  | .ktup l => pyBL l
  | .lst l => pyBL l
  | .fz l => pyBL l
  | _ => false
def pyBL : List D → Bool
  | [] => true
  | d :: l => pyB d && pyBL l
end
section
variable {K : PySem.W.Frag} {Hz H : Hp}
mutual
theorem Rp.dp (s : Same Hz H) : ∀ {v : V} {d : D}, Rp K Hz v d → pyB d = true → Dp K H v (py d)
  | _, _, .non, _ => .non
  | _, _, .bl b, _ => .bl b
  | _, _, .int i, _ => .int i
  | _, _, .str x, _ => .str x
  | _, _, .ty n, h => by cases h
  | _, _, .cls n, h => by cases h
  | _, _, .tup h r, e => .tup (tp_same s h).sq (r.dp s (by simpa [pyB] using e))
  | _, _, .ktup h r, e => .tup h.sq (r.dp s (by simpa [pyB] using e))
  | _, _, .scr h, e => by cases e
  | _, _, .lam h, e => by cases e
  | _, _, .lst h r, e => .lst (.of (s _ _ h)) (r.dp s (by simpa [pyB] using e))
  | _, _, .fz h r, e => .lst (.inl (.inr ⟨_, s _ _ h⟩)) (r.dp s (by simpa [pyB] using e))
  | _, _, .dK _ _ _, e => by cases e
  | _, _, .dT _ _ _, e => by cases e
  | _, _, .own _ _ _, e => by cases e
theorem RpL.dp (s : Same Hz H) : ∀ {vs : List V} {ds : List D}, RpL K Hz vs ds → pyBL ds = true → DpAll K H vs (pyL ds)
  | _, _, .nil, _ => .nil
  | _, _, .cons h r, e => by
    simp only [pyBL, Bool.and_eq_true] at e
    exact .cons (h.dp s e.1) (r.dp s e.2)
end
end
/-- data that == can look at -/
def eqB (a : D) : Bool := pyB a && SeqAt.shaped (py a)
def eqD (a b : D) : Bool := PyData.eqv (py a) (py b)
def gEq (a b : D) : M D := fun ρ => if (eqB a && eqB b) = true then .ok (.bl (eqD a b)) ρ else .fault
def gNe (a b : D) : M D := fun ρ => if (eqB a && eqB b) = true then .ok (.bl (!eqD a b)) ρ else .fault
theorem eqG {K : PySem.W.Frag} : OpD K (rEqD K) gEq := by
  intro T E F Hz H σ ρ Q x y dx dy E0 rx ry h
  unfold gEq at h
  split at h
  · rename_i hb
    simp only [eqB, Bool.and_eq_true] at hb
    exact ⟨_, _, rx.dp E0.ext hb.1.1, ry.dp E0.ext hb.2.1, hb.1.2, hb.2.2, okd_here E0 h (.bl _)⟩
  · exact h.elim
theorem neG {K : PySem.W.Frag} : OpD K (rNeD K) gNe := by
  intro T E F Hz H σ ρ Q x y dx dy E0 rx ry h
  unfold gNe at h
  split at h
  · rename_i hb
    simp only [eqB, Bool.and_eq_true] at hb
    exact ⟨_, _, rx.dp E0.ext hb.1.1, ry.dp E0.ext hb.2.1, hb.1.2, hb.2.2, okd_here E0 h (.bl _)⟩
  · exact h.elim
def gInL (neg : Bool) (a b : D) : M D := fun ρ => match b with
  | .dT _ => match dget b a with
    | some o => .ok (.bl (neg ^^ o.isSome)) ρ
    | none => .fault
  | .dK _ => match dget b a with
    | some o => .ok (.bl (neg ^^ o.isSome)) ρ
    | none => .fault
  | .lst l => if (eqB a && eqB b) = true then .ok (.bl (neg ^^ (l.any fun z => eqD z a))) ρ else .fault
  | .str z => match a with
    | .str ⟨c⟩ => if h : c.size = 1 then .ok (.bl (neg ^^ decide (c[0] ∈ z.cps.toList))) ρ else .fault
    | _ => .fault
  | _ => .fault
theorem pyL_any (a : PyData) : ∀ l : List D, ((pyL l).any fun z => PyData.eqv z a) = l.any fun z => PyData.eqv (py z) a
  | [] => rfl
  | d :: l => by
    rw [pyL, List.any_cons, List.any_cons, pyL_any a l]
def rInG (K : PySem.W.Frag) : R2 := fun x y H Q => rInDict x y H Q ∨ (rInD K x y H Q ∨ ∃ (c : Nat) (z : Str), x = .str ⟨#[c]⟩ ∧ y = .str z ∧ Q (.bl (decide (c ∈ z.cps.toList))) H)
def rNotInG (K : PySem.W.Frag) : R2 := fun x y H Q => rNotInDict x y H Q ∨ (rNotInD K x y H Q ∨ ∃ (c : Nat) (z : Str), x = .str ⟨#[c]⟩ ∧ y = .str z ∧ Q (.bl (!decide (c ∈ z.cps.toList))) H)
theorem op_inG {X : Cx} (hu : X.A.units + 65 < cLine) : OpR X (compareOp .In) (rInG X.K) := opr_or (op_inDict (by omega)) (opr_or (op_inD hu) op_in_sign)
theorem op_notInG {X : Cx} (hu : X.A.units + 65 < cLine) : OpR X (compareOp .NotIn) (rNotInG X.K) := opr_or (op_notInDict (by omega)) (opr_or (op_notInD hu) op_notIn_sign)
theorem arr1 {c : Array Nat} (h : c.size = 1) : c = #[c[0]] := by
  rcases c with ⟨l⟩
  match l, h with
  | [x], _ => rfl
theorem inG {K : PySem.W.Frag} : OpD K (rInG K) (gInL false) := by
  intro T E F Hz H σ ρ Q x y dx dy E0 rx ry h
  unfold gInL at h
  split at h
  · split at h
    · rename_i o ho
      obtain ⟨a, r, rfl, g, g1, g2⟩ := dget_ok E0.ext ho (.inl ry) rx
      refine .inl ⟨a, r, rfl, g, ?_⟩
      have e : r.isSome = o.isSome := by
        cases o with
        | none => rw [g2 rfl]; rfl
        | some d => obtain ⟨v, ev, _⟩ := g1 d rfl; rw [ev]; rfl
      have := okd_here E0 h (.bl _)
      rw [e]
      rw [Bool.false_xor] at this
      exact this
    · exact h.elim
  · split at h
    · rename_i o ho
      obtain ⟨a, r, rfl, g, g1, g2⟩ := dget_ok E0.ext ho (.inl ry) rx
      refine .inl ⟨a, r, rfl, g, ?_⟩
      have e : r.isSome = o.isSome := by
        cases o with
        | none => rw [g2 rfl]; rfl
        | some d => obtain ⟨v, ev, _⟩ := g1 d rfl; rw [ev]; rfl
      have := okd_here E0 h (.bl _)
      rw [e]
      rw [Bool.false_xor] at this
      exact this
    · exact h.elim
  · split at h
    · rename_i l hb
      simp only [eqB, Bool.and_eq_true] at hb
      have r2 := ry.dp E0.ext hb.2.1
      have e2 := hb.2.2
      simp only [py] at r2 e2
      refine .inr (.inl ⟨_, _, rx.dp E0.ext hb.1.1, r2, hb.1.2, e2, ?_⟩)
      rw [pyL_any]
      have := okd_here E0 h (.bl _)
      rw [Bool.false_xor] at this
      exact this
    · exact h.elim
  · split at h
    · split at h
      · rename_i z a c hc
        cases rx; cases ry
        refine .inr (.inr ⟨c[0], z, ?_, rfl, ?_⟩)
        · exact congrArg (fun q => V.str ⟨q⟩) (arr1 hc)
        · have := okd_here E0 h (.bl _)
          rw [Bool.false_xor] at this
          exact this
      · exact h.elim
    · exact h.elim
  · exact h.elim
theorem notInG {K : PySem.W.Frag} : OpD K (rNotInG K) (gInL true) := by
  intro T E F Hz H σ ρ Q x y dx dy E0 rx ry h
  unfold gInL at h
  split at h
  · split at h
    · rename_i o ho
      obtain ⟨a, r, rfl, g, g1, g2⟩ := dget_ok E0.ext ho (.inl ry) rx
      refine .inl ⟨a, r, rfl, g, ?_⟩
      have e : r.isSome = o.isSome := by
        cases o with
        | none => rw [g2 rfl]; rfl
        | some d => obtain ⟨v, ev, _⟩ := g1 d rfl; rw [ev]; rfl
      have := okd_here E0 h (.bl _)
      rw [e]
      rw [Bool.true_xor] at this
      exact this
    · exact h.elim
  · split at h
    · rename_i o ho
      obtain ⟨a, r, rfl, g, g1, g2⟩ := dget_ok E0.ext ho (.inl ry) rx
      refine .inl ⟨a, r, rfl, g, ?_⟩
      have e : r.isSome = o.isSome := by
        cases o with
        | none => rw [g2 rfl]; rfl
        | some d => obtain ⟨v, ev, _⟩ := g1 d rfl; rw [ev]; rfl
      have := okd_here E0 h (.bl _)
      rw [e]
      rw [Bool.true_xor] at this
      exact this
    · exact h.elim
  · split at h
    · rename_i l hb
      simp only [eqB, Bool.and_eq_true] at hb
      have r2 := ry.dp E0.ext hb.2.1
      have e2 := hb.2.2
      simp only [py] at r2 e2
      refine .inr (.inl ⟨_, _, rx.dp E0.ext hb.1.1, r2, hb.1.2, e2, ?_⟩)
      rw [pyL_any]
      have := okd_here E0 h (.bl _)
      rw [Bool.true_xor] at this
      exact this
    · exact h.elim
  · split at h
    · split at h
      · rename_i z a c hc
        cases rx; cases ry
        refine .inr (.inr ⟨c[0], z, ?_, rfl, ?_⟩)
        · exact congrArg (fun q => V.str ⟨q⟩) (arr1 hc)
        · have := okd_here E0 h (.bl _)
          rw [Bool.true_xor] at this
          exact this
      · exact h.elim
    · exact h.elim
  · exact h.elim
def gIx (a b : D) : M D := fun ρ => match a with
  | .dT _ => match dget a b with
    | some (some d) => .ok d ρ
    | _ => .fault
  | .dK _ => match dget a b with
    | some (some d) => .ok d ρ
    | _ => .fault
  | .ktup l => match b with
    | .int i => match atI l i with
      | some d => .ok d ρ
      | none => .fault
    | _ => .fault
  | _ => match a, b with
    | .lst l, .int i => match atI l i with
      | some d => .ok d ρ
      | none => .fault
    | .tup l, .int i => match atI l i with
      | some d => .ok d ρ
      | none => .fault
    | .str z, .int i => if lim z.length = true then (match atI z.cps.toList i with
      | some c => .ok (.str ⟨#[c]⟩) ρ
      | none => .fault) else .fault
    | _, _ => .fault
def rIxG (K : PySem.W.Frag) : R2 := fun x y H Q => rIxD x y H Q ∨ (rIxL K x y H Q ∨ (rIxT K x y H Q ∨ rIxS x y H Q))
theorem ix_G {X : Cx} (hu : X.A.units + 1 < cLine) : IxR X (rIxG X.K) := ix_or (ix_dict hu) (ix_or ix_list (ix_or ix_tup ix_str))
theorem RpL.atI {K : PySem.W.Frag} {H : Hp} {vs : List V} {ds : List D} (h : RpL K H vs ds) {i : Int} {d : D} (e : L2.atI ds i = some d) : ∃ v, L2.atI vs i = some v ∧ Rp K H v d := by
  unfold L2.atI at e ⊢
  rw [h.length]
  cases q : ixN ds.length i with
  | none => rw [q] at e; cases e
  | some j =>
    rw [q] at e
    exact h.get e
theorem ixH_dict {K : PySem.W.Frag} {T : List (Addr × Str)} {E : XK} {F : Frm} {Hz H : Hp} {σ : L2.St} {ρ : List Slot} {Q : VK} {x y : V} {dx dy d : D} (E0 : EnvR K T F Hz H σ ρ) (rx : Hd K Hz H x dx) (ry : Rp K Hz y dy) (ho : dget dx dy = some (some d)) (h : Okx (RD K) K T E F Hz σ Q (.ok d ρ)) : rIxG K x y H Q := by
  obtain ⟨a, r, rfl, g, g1, _⟩ := dget_ok E0.ext ho rx ry
  obtain ⟨v, rfl, rv⟩ := g1 d rfl
  exact .inl ⟨a, v, rfl, g, okd_here E0 h rv⟩
theorem ixG {K : PySem.W.Frag} : OpD K (rIxG K) gIx := by
  intro T E F Hz H σ ρ Q x y dx dy E0 rx ry h
  unfold gIx at h
  split at h
  · split at h
    · rename_i d ho
      exact ixH_dict E0 (.inl rx) ry ho h
    · exact h.elim
  · split at h
    · rename_i d ho
      exact ixH_dict E0 (.inl rx) ry ho h
    · exact h.elim
  · split at h
    · split at h
      · rename_i e
        cases rx with
        | ktup h1 r1 =>
          cases ry
          obtain ⟨v, e1, r⟩ := r1.atI e
          exact .inr (.inr (.inl ⟨_, _, _, v, rfl, rfl, h1.sq, e1, okd_here E0 h r⟩))
      · exact h.elim
    · exact h.elim
  · split at h
    · split at h
      · rename_i e
        cases rx with
        | lst h1 r1 =>
          cases ry
          obtain ⟨v, e1, r⟩ := r1.atI e
          exact .inr (.inl ⟨_, _, _, v, rfl, rfl, .of (E0.ext _ _ h1), e1, okd_here E0 h r⟩)
      · exact h.elim
    · split at h
      · rename_i e
        cases rx with
        | tup h1 r1 =>
          cases ry
          obtain ⟨v, e1, r⟩ := r1.atI e
          exact .inr (.inr (.inl ⟨_, _, _, v, rfl, rfl, (tp_same E0.ext h1).sq, e1, okd_here E0 h r⟩))
      · exact h.elim
    · split at h
      · rename_i hl
        split at h
        · rename_i e
          cases rx; cases ry
          exact .inr (.inr (.inr ⟨_, _, _, rfl, rfl, lim_ok hl, e, okd_here E0 h (.str _)⟩))
        · exact h.elim
      · exact h.elim
    · exact h.elim
section
variable {X : Cx} {T : List (Addr × Str)} {E : XK} {a b e : Expr} {es : List Expr} {ga gb : M D} {gs : M (List D)} {pos : Pos}
theorem d_ix (hu : X.A.units + 1 < cLine) (ha : DE X T E a ga) (hb : DE X T E b gb) (hs : PlainIx b := by exact fun _ _ => rfl) : DE X T E (.Subscript a b pos) (gOp gIx ga gb) := by
  obtain ⟨ta, a1, a2⟩ := ha
  obtain ⟨tb, b1, b2⟩ := hb
  exact ⟨_, pe_ix (ix_G hu) a1 b1 hs, lift_op ixG a2 b2⟩
/-- a local's data, owned or not, the slot as it was -/
def look (ρ : List Slot) (i : Nat) : Option D := match ρ[i]? with
  | some (some (_, d)) => some d
  | _ => none
theorem EnvR.look {K : PySem.W.Frag} {F : Frm} {Hz H : Hp} {σ : L2.St} {ρ : List Slot} (E0 : EnvR K T F Hz H σ ρ) {i : Nat} {d : D} (e : look ρ i = some d) : ∃ v, σ[i]? = some (some v) ∧ (Rp K Hz v d ∨ ∃ a, v = .ref a ∧ Top K Hz H a d) := by
  unfold PL.look at e
  split at e
  · rename_i b d' q
    cases e
    cases b with
    | false =>
      obtain ⟨v, h1, h2⟩ := E0.sh i d q
      exact ⟨v, h1, .inl h2⟩
    | true =>
      obtain ⟨a, h1, h2, h3, h4⟩ := E0.ow i d q
      exact ⟨_, h1, .inr ⟨a, rfl, h4⟩⟩
  · cases e
/-- an operator whose first operand is looked at only -/
def OpH (K : PySem.W.Frag) (r : R2) (go : D → D → M D) : Prop := ∀ T E F Hz H σ ρ Q x y dx dy, EnvR K T F Hz H σ ρ → Hd K Hz H x dx → Rp K Hz y dy → Okx (RD K) K T E F Hz σ Q (go dx dy ρ) → r x y H Q
theorem OpH.d {K : PySem.W.Frag} {r : R2} {go : D → D → M D} (h : OpH K r go) : OpD K r go := fun T E F Hz H σ ρ Q x y dx dy E0 rx => h T E F Hz H σ ρ Q x y dx dy E0 (.inl rx)
def gOpV (go : D → D → M D) (i : Nat) (gb : M D) : M D := fun ρ => match look ρ i with
  | none => .fault
  | some _ => (gb ρ).bind fun k ρ => match look ρ i with
    | some d => go d k ρ
    | none => .fault
theorem lift_opV {K : PySem.W.Frag} {r : R2} {go : D → D → M D} (ho : OpH K r go) {i : Nat} {tb : TE} (hb : LiftD K T E tb gb) : LiftD K T E (tOp r (tVar i) tb) (gOpV go i gb) := by
  intro F Hz H σ ρ Q E0 h
  unfold gOpV at h
  cases e : look ρ i with
  | none => rw [e] at h; exact h.elim
  | some d0 =>
    rw [e] at h
    obtain ⟨v, hv, _⟩ := E0.look e
    refine ⟨v, hv, hb.step E0 h fun y k ρ2 Hz2 H2 E2 s2 r2 h2 => ?_⟩
    cases e : look ρ2 i with
    | none => rw [e] at h2; exact h2.elim
    | some d =>
      rw [e] at h2
      obtain ⟨v', hv', hd⟩ := E2.look e
      rw [hv] at hv'
      cases hv'
      exact ho T E F Hz2 H2 σ ρ2 Q v y d k E2 hd r2 h2
theorem ixH {K : PySem.W.Frag} : OpH K (rIxG K) gIx := by
  intro T E F Hz H σ ρ Q x y dx dy E0 rx ry h
  rcases rx with rx | ⟨a, rfl, ht⟩
  · exact ixG T E F Hz H σ ρ Q x y dx dy E0 rx ry h
  · unfold gIx at h
    split at h
    · split at h
      · rename_i d ho
        exact ixH_dict E0 (.inr ⟨a, rfl, ht⟩) ry ho h
      · exact h.elim
    · split at h
      · rename_i d ho
        exact ixH_dict E0 (.inr ⟨a, rfl, ht⟩) ry ho h
      · exact h.elim
    · exact ht.elim
    · split at h
      · split at h
        · rename_i e1
          obtain ⟨xs, h1, r1⟩ := ht
          cases ry
          obtain ⟨w, e2, r⟩ := r1.atI e1
          exact .inr (.inl ⟨_, _, _, w, rfl, rfl, .of h1, e2, okd_here E0 h r⟩)
        · exact h.elim
      · exact ht.elim
      · exact ht.elim
      · exact h.elim
theorem d_ixV (hu : X.A.units + 1 < cLine) {i : Nat} {x : Str} {p : Pos} (hb : DE X T E b gb) (hN : X.N[i]? = some x := by rfl) (hv : Vis X.env.scope x := by first | exact Or.inl rfl | exact Or.inr (Or.inl rfl) | exact Or.inr (Or.inr rfl)) (hs : PlainIx b := by exact fun _ _ => rfl)
    (hd : (x == ("__debug__" : Str)) = false := by decide) (hcd : (x == ("__classdict__" : Str)) = false := by decide) : DE X T E (.Subscript (.Name x p) b pos) (gOpV gIx i gb) := by
  obtain ⟨tb, b1, b2⟩ := hb
  exact ⟨_, pe_ix (ix_G hu) (pv i hN hv hd hcd) b1 hs, lift_opV ixH b2⟩
def SlH (K : PySem.W.Frag) (r : V → Option Int → Option Int → Hp → VK → Prop) (go : D → Option Int → Option Int → M D) : Prop := ∀ T E F Hz H σ ρ Q x dx lo hi, EnvR K T F Hz H σ ρ → Rp K Hz x dx → Okx (RD K) K T E F Hz σ Q (go dx lo hi ρ) → r x lo hi H Q
def cutD (xs : List D) (lo hi : Option Int) : List D := (xs.drop (HT.sIx xs.length 0 lo)).take (HT.sIx xs.length xs.length hi - HT.sIx xs.length 0 lo)
theorem RpL.cut {K : PySem.W.Frag} {H : Hp} {vs : List V} {ds : List D} (h : RpL K H vs ds) (lo hi : Option Int) : RpL K H (cutV vs lo hi) (cutD ds lo hi) := by
  unfold cutV cutD
  rw [h.length]
  exact (h.drop _).take _
def gCut (a : D) (lo hi : Option Int) : M D := fun ρ => match a with
  | .lst l => .ok (.lst (cutD l lo hi)) ρ
  | .tup l => .ok (.tup (cutD l lo hi)) ρ
  | .str z => if lim z.length = true then .ok (.str (cutS z lo hi)) ρ else .fault
  | _ => .fault
def rCutG (K : PySem.W.Frag) : V → Option Int → Option Int → Hp → VK → Prop := fun x lo hi H Q => rSlL K x lo hi H Q ∨ (rSlA K x lo hi H Q ∨ rSlS x lo hi H Q)
theorem sl_G : SlR X (rCutG X.K) := .or sl_list (.or sl_tupA sl_str)
theorem cutG {K : PySem.W.Frag} : SlH K (rCutG K) gCut := by
  intro T E F Hz H σ ρ Q x dx lo hi E0 rx h
  unfold gCut at h
  split at h
  · cases rx with
    | lst h1 r1 => exact .inl ⟨_, _, rfl, .of (E0.ext _ _ h1), fun p hp => okd_new E0 h hp (fun _ z => by cases z) (.lst upd_same ((r1.cut lo hi).same (same_new (E0.fresh hp).1)))⟩
  · cases rx with
    | tup h1 r1 =>
      refine .inr (.inl ⟨_, _, rfl, (tp_same E0.ext h1).sq, fun ⟨e1, e2⟩ => ?_, fun _ p hp => okd_new E0 h hp (fun _ z => by cases z) (.tup (.inl upd_same) ((r1.cut lo hi).same (same_new (E0.fresh hp).1)))⟩)
      refine okd_here E0 h (.tup h1 ?_)
      rw [r1.length] at e1 e2
      unfold cutD
      rw [e1, e2, List.drop_zero, Nat.sub_zero, List.take_of_length_le (Nat.le_refl _)]
      exact r1
  · split at h
    · rename_i hl
      cases rx
      exact .inr (.inr ⟨_, rfl, lim_ok hl, okd_here E0 h (.str _)⟩)
    · exact h.elim
  · exact h.elim
/-- a slice's bound -/
def gNoB : M (Option Int) := fun ρ => .ok none ρ
def gBnd (g : M D) : M (Option Int) := gBind g fun d ρ => match d with
  | .int i => .ok (some i) ρ
  | _ => .fault
abbrev RO : Hp → Option Int → Option Int → Prop := fun _ b c => b = c
def DB (X : Cx) (T : List (Addr × Str)) (E : XK) (o : Option Expr) (g : M (Option Int)) : Prop := ∃ t, PO X o t ∧ LiftX RO X.K T E t g
theorem b_none : DB X T E none gNoB := ⟨_, po_none, fun F Hz H σ ρ Q E0 h => h none Hz H E0 (Same.refl _) rfl⟩
theorem b_some (ha : DE X T E a ga) : DB X T E (some a) (gBnd ga) := by
  obtain ⟨t, a1, a2⟩ := ha
  refine ⟨_, po_some a1, fun F Hz H σ ρ Q E0 h => a2.step E0 h fun x d ρ1 Hz1 H1 E1 s r q => ?_⟩
  cases d with
  | int i => cases r; exact ⟨i, rfl, q (some i) Hz1 H1 E1 (Same.refl _) rfl⟩
  | _ => exact q.elim
def gSl (ga : M D) (gl gh : M (Option Int)) : M D := gBind ga fun d => gBind gl fun lo => gBind gh fun hi => gCut d lo hi
theorem d_slice {lo hi : Option Expr} {gl gh : M (Option Int)} {p2 : Pos} (ha : DE X T E a ga) (hl : DB X T E lo gl) (hh : DB X T E hi gh) : DE X T E (.Subscript a (.Slice lo hi none p2) pos) (gSl ga gl gh) := by
  obtain ⟨t, a1, a2⟩ := ha
  obtain ⟨u, b1, b2⟩ := hl
  obtain ⟨v, c1, c2⟩ := hh
  refine ⟨_, pe_slice sl_G a1 b1 c1, fun F Hz H σ ρ Q E0 h => a2.step E0 h fun x d ρ1 Hz1 H1 E1 s1 r q => b2.step E1 q fun lo lo' ρ2 Hz2 H2 E2 s2 r2 q2 => c2.step E2 q2 fun hi hi' ρ3 Hz3 H3 E3 s3 r3 q3 => ?_⟩
  cases r2
  cases r3
  exact cutG T E F Hz3 H3 σ ρ3 Q x d lo hi E3 (r.same (s2.trans s3)) q3
end
end PL
namespace PL
open PySem PySem.Spec PySem.Calls PyProof.Rows L2 He CT
def FnD (K : PySem.W.Frag) (r : List V → Hp → VK → Prop) (gf : List D → M D) : Prop := ∀ T E F Hz H σ ρ Q vs ds, EnvR K T F Hz H σ ρ → RpL K Hz vs ds → Okx (RD K) K T E F Hz σ Q (gf ds ρ) → r vs H Q
def gFn (gf : List D → M D) (ga : M (List D)) : M D := gBind ga gf
theorem FnD.or {K : PySem.W.Frag} {r r' : List V → Hp → VK → Prop} {f f' : List D → M D} {c : List D → Bool} (h : FnD K r f) (h' : FnD K r' f') : FnD K (fun vs H Q => r vs H Q ∨ r' vs H Q) (fun ds => if c ds = true then f ds else f' ds) := by
  intro T E F Hz H σ ρ Q vs ds E0 rv q
  have q : Okx (RD K) K T E F Hz σ Q ((if c ds = true then f ds else f' ds) ρ) := q
  by_cases hc : c ds = true
  · rw [if_pos hc] at q
    exact .inl (h T E F Hz H σ ρ Q vs ds E0 rv q)
  · rw [if_neg hc] at q
    exact .inr (h' T E F Hz H σ ρ Q vs ds E0 rv q)
section
variable {X : Cx} {T : List (Addr × Str)} {E : XK} {a b e : Expr} {es : List Expr} {ga gb : M D} {gs : M (List D)} {pos p : Pos} {x : Str}
theorem d_callB {id : String} {r : List V → Hp → VK → Prop} {gf : List D → M D} (hc : CallR X (.builtin id) r) (hl : FnD X.K r gf) (hm : X.mg x = none) (ha : DA X T E (e :: es) gs) (hg : Gl X x := by rfl) (hv : bootBuiltins x = some (.builtin id) := by decide +kernel) (hn : x ≠ "__name__" := by decide) (hdb : (x == ("__debug__" : Str)) = false := by decide)
    (he : starEach (e :: es) X.env = (false, eval e X.env) :: starEach es X.env := by rfl) (hpl : (backTo pos (starEach es X.env)).any (·.1) = false := by rfl) : DE X T E (.Call (.Name x p) (e :: es) [] pos) (gFn gf gs) := by
  obtain ⟨t, a1, a2⟩ := ha
  exact ⟨_, pe_callB hc hg hm hv a1 hn hdb he hpl, fun F Hz H σ ρ Q E0 h => a2.step E0 h fun vs ds ρ1 Hz1 H1 E1 s r q => hl T E F Hz1 H1 σ ρ1 Q vs ds E1 r q⟩
theorem d_callTy {T' : String} {r : List V → Hp → VK → Prop} {gf : List D → M D} (hc : CallR X (.type T') r) (hl : FnD X.K r gf) (hm : X.mg x = none) (ha : DA X T E (e :: es) gs) (hg : Gl X x := by rfl) (hv : bootBuiltins x = some (.type T') := by decide +kernel) (hn : x ≠ "__name__" := by decide) (hdb : (x == ("__debug__" : Str)) = false := by decide)
    (he : starEach (e :: es) X.env = (false, eval e X.env) :: starEach es X.env := by rfl) (hpl : (backTo pos (starEach es X.env)).any (·.1) = false := by rfl) : DE X T E (.Call (.Name x p) (e :: es) [] pos) (gFn gf gs) := by
  obtain ⟨t, a1, a2⟩ := ha
  exact ⟨_, pe_callTy hc hg hm hv a1 hn hdb he hpl, fun F Hz H σ ρ Q E0 h => a2.step E0 h fun vs ds ρ1 Hz1 H1 E1 s r q => hl T E F Hz1 H1 σ ρ1 Q vs ds E1 r q⟩
end
section
variable {K : PySem.W.Frag}
theorem RpL.one {H : Hp} {vs : List V} {d : D} (h : RpL K H vs [d]) : ∃ v, vs = [v] ∧ Rp K H v d := by
  cases h with
  | cons h r => cases r; exact ⟨_, rfl, h⟩
theorem RpL.two {H : Hp} {vs : List V} {d e : D} (h : RpL K H vs [d, e]) : ∃ v u, vs = [v, u] ∧ Rp K H v d ∧ Rp K H u e := by
  cases h with
  | cons h r =>
    obtain ⟨u, rfl, r'⟩ := r.one
    exact ⟨_, _, rfl, h, r'⟩
/-- len -/
def gLen (ds : List D) : M D := fun ρ => match ds with
  | [.lst l] => .ok (.int l.length) ρ
  | [.tup l] => .ok (.int l.length) ρ
  | [.fz l] => .ok (.int l.length) ρ
  | [.str z] => if lim z.length = true then .ok (.int z.length) ρ else .fault
  | _ => .fault
theorem lenG : FnD K (fun xs H Q => ∃ x n, xs = [x] ∧ LenV K x H n ∧ Q (.int n) H) gLen := by
  intro T E F Hz H σ ρ Q vs ds E0 rv h
  unfold gLen at h
  split at h
  · obtain ⟨v, rfl, r⟩ := rv.one
    cases r with
    | lst h1 r1 => exact ⟨_, _, rfl, .inl ⟨_, .of (E0.ext _ _ h1), rfl⟩, okd_here E0 h (by rw [r1.length]; exact .int _)⟩
  · obtain ⟨v, rfl, r⟩ := rv.one
    cases r with
    | tup h1 r1 => exact ⟨_, _, rfl, .inr ⟨_, (tp_same E0.ext h1).sq, rfl⟩, okd_here E0 h (by rw [r1.length]; exact .int _)⟩
  · obtain ⟨v, rfl, r⟩ := rv.one
    cases r with
    | fz h1 r1 => exact ⟨_, _, rfl, .inl ⟨_, .inl (.inr ⟨_, E0.ext _ _ h1⟩), rfl⟩, okd_here E0 h (by rw [r1.length]; exact .int _)⟩
  · split at h
    · rename_i hl
      obtain ⟨v, rfl, r⟩ := rv.one
      cases r
      exact ⟨_, _, rfl, ⟨lim_ok hl, rfl⟩, okd_here E0 h (.int _)⟩
    · exact h.elim
  · exact h.elim
def gInt (ds : List D) : M D := fun ρ => match ds with
  | [.int i] => .ok (.int i) ρ
  | [.bl k] => .ok (.int (if k then 1 else 0)) ρ
  | _ => .fault
theorem intG : FnD K (fun xs H Q => (∃ i, xs = [.int i] ∧ Q (.int i) H) ∨ ∃ k, xs = [.bl k] ∧ Q (.int (if k then 1 else 0)) H) gInt := by
  intro T E F Hz H σ ρ Q vs ds E0 rv h
  unfold gInt at h
  split at h
  · obtain ⟨v, rfl, r⟩ := rv.one
    cases r
    exact .inl ⟨_, rfl, okd_here E0 h (.int _)⟩
  · obtain ⟨v, rfl, r⟩ := rv.one
    cases r
    exact .inr ⟨_, rfl, okd_here E0 h (.int _)⟩
  · exact h.elim
/-- all, any, sum of a list -/
def boolsOf : List D → Option (List Bool)
  | [] => some []
  | .bl b :: l => (boolsOf l).map (b :: ·)
  | _ => none
theorem bools_ok {H : Hp} : ∀ {l : List D} {bs : List Bool} {vs : List V}, boolsOf l = some bs → RpL K H vs l → vs = bs.map V.bl
  | [], bs, vs, e, r => by cases e; cases r; rfl
  | d :: l, bs, vs, e, r => by
    cases d with
    | bl b =>
      simp only [boolsOf, Option.map_eq_some_iff] at e
      obtain ⟨cs, e, rfl⟩ := e
      cases r with
      | cons h r => cases h; rw [bools_ok e r]; rfl
    | _ => cases e
def gAll (ds : List D) : M D := fun ρ => match ds with
  | [.lst l] => match boolsOf l with
    | some bs => .ok (.bl (bs.all id)) ρ
    | none => .fault
  | _ => .fault
theorem allG : FnD K (rAll K) gAll := by
  intro T E F Hz H σ ρ Q vs ds E0 rv h
  unfold gAll at h
  split at h
  · split at h
    · rename_i e
      obtain ⟨v, rfl, r⟩ := rv.one
      cases r with
      | lst h1 r1 =>
        have := bools_ok e r1
        exact ⟨_, _, rfl, by rw [← this]; exact .of (E0.ext _ _ h1), okd_here E0 h (.bl _)⟩
    · exact h.elim
  · exact h.elim
/-- tuple(..) -/
def gTuple (ds : List D) : M D := fun ρ => match ds with
  | [.lst l] => .ok (.tup l) ρ
  | [.tup l] => .ok (.tup l) ρ
  | [.fz l] => .ok (.tup l) ρ
  | _ => .fault
theorem tupleG : FnD K (fun xs H Q => ∃ p ys, xs = [.ref p] ∧ ((SqL K H p ys ∧ ∀ l, H l = none → Q (.ref l) (upd H l (.tup ys))) ∨ (SqT K H p ys ∧ Q (.ref p) H))) gTuple := by
  intro T E F Hz H σ ρ Q vs ds E0 rv h
  unfold gTuple at h
  split at h
  · obtain ⟨v, rfl, r⟩ := rv.one
    cases r with
    | lst h1 r1 => exact ⟨_, _, rfl, .inl ⟨.of (E0.ext _ _ h1), fun p hp => okd_new E0 h hp (fun _ z => by cases z) (.tup (.inl upd_same) (r1.same (same_new (E0.fresh hp).1)))⟩⟩
  · obtain ⟨v, rfl, r⟩ := rv.one
    cases r with
    | tup h1 r1 => exact ⟨_, _, rfl, .inr ⟨(tp_same E0.ext h1).sq, okd_here E0 h (.tup h1 r1)⟩⟩
  · obtain ⟨v, rfl, r⟩ := rv.one
    cases r with
    | fz h1 r1 => exact ⟨_, _, rfl, .inl ⟨.inl (.inr ⟨_, E0.ext _ _ h1⟩), fun p hp => okd_new E0 h hp (fun _ z => by cases z) (.tup (.inl upd_same) (r1.same (same_new (E0.fresh hp).1)))⟩⟩
  · exact h.elim
end
section
variable {X : Cx} {T : List (Addr × Str)} {E : XK} {a b e : Expr} {es : List Expr} {ga gb : M D} {gs : M (List D)} {pos p : Pos} {x : Str}
/-- list(..): a new list of ours -/
def gList (ga : M (List D)) : M D := gBind ga fun ds ρ => match ds with
  | [.lst l] => .ok (.lst l) ρ
  | [.tup l] => .ok (.lst l) ρ
  | [.fz l] => .ok (.lst l) ρ
  | _ => .fault
theorem d_list (hm : X.mg "list" = none) (ha : DA X T E [e] gs) (hg : Gl X "list" := by rfl) (he : starEach [e] X.env = (false, eval e X.env) :: starEach [] X.env := by rfl) (hpl : (backTo pos (starEach [] X.env)).any (·.1) = false := by rfl) : DO X T E (.Call (.Name "list" p) [e] [] pos) (gList gs) := by
  obtain ⟨t, a1, a2⟩ := ha
  refine ⟨_, pe_callTy call_list_of hg hm (by decide +kernel) a1 (by decide) (by decide) he hpl, fun F Hz H σ ρ Q E0 h => a2.stepO E0 h fun vs ds ρ1 Hz1 H1 E1 s r q => ?_⟩
  have fin : ∀ {xs : List V} {l : List D}, RpL X.K Hz1 xs l → Oko X.K T E F Hz1 σ Q (.ok (.lst l) ρ1) → ∀ p, H1 p = none → Q (.ref p) (upd H1 p (.lst xs)) := fun {xs l} r1 q p hp => by
    obtain ⟨f1, f2, f3⟩ := E1.fresh hp
    exact q p Hz1 _ (E1.grow (same_new hp)) (Same.refl _) ⟨f1, f2, xs, upd_same, r1⟩ f3
  split at q
  · obtain ⟨v, rfl, r'⟩ := r.one
    cases r' with
    | lst h1 r1 => exact ⟨_, _, rfl, .inl (.of (E1.ext _ _ h1)), fin r1 q⟩
  · obtain ⟨v, rfl, r'⟩ := r.one
    cases r' with
    | tup h1 r1 => exact ⟨_, _, rfl, .inr (tp_same E1.ext h1).sq, fin r1 q⟩
  · obtain ⟨v, rfl, r'⟩ := r.one
    cases r' with
    | fz h1 r1 => exact ⟨_, _, rfl, .inl (.inl (.inr ⟨_, E1.ext _ _ h1⟩)), fin r1 q⟩
  · exact q.elim
theorem lookup_map {α β : Type} {x : Str} : ∀ {l : List (Str × α)} {m : List (Str × β)}, l.map Prod.fst = m.map Prod.fst → ((l.lookup x).isSome = (m.lookup x).isSome)
  | [], [], _ => rfl
  | [], _ :: _, h => by cases h
  | _ :: _, [], h => by cases h
  | (k, u) :: l, (j, w) :: m, h => by
    simp only [List.map_cons, List.cons.injEq] at h
    obtain ⟨rfl, h⟩ := h
    simp only [List.lookup]
    split
    · rfl
    · exact lookup_map h
theorem lookup_rp {K : PySem.W.Frag} {H : Hp} {x : Str} {d : D} : ∀ {l : List (Str × V)} {m : List (Str × D)}, l.map Prod.fst = m.map Prod.fst → RpL K H (l.map Prod.snd) (m.map Prod.snd) → m.lookup x = some d → ∃ v, l.lookup x = some v ∧ Rp K H v d
  | [], [], _, _, e => by cases e
  | [], _ :: _, h, _, _ => by cases h
  | _ :: _, [], h, _, _ => by cases h
  | (k, u) :: l, (j, w) :: m, h, r, e => by
    simp only [List.map_cons, List.cons.injEq] at h
    obtain ⟨rfl, h⟩ := h
    cases r with
    | cons r1 r2 =>
      simp only [List.lookup] at e ⊢
      split at e
      · cases e; exact ⟨_, rfl, r1⟩
      · exact lookup_rp h r2 e
theorem lookup_nn {α β : Type} {x : Str} {l : List (Str × α)} {m : List (Str × β)} (h : l.map Prod.fst = m.map Prod.fst) (e : m.lookup x = none) : l.lookup x = none := by
  have := lookup_map (x := x) h
  rw [e] at this
  simpa using this
/-- self.f of an object of ours: slot i -/
def gFldV (cn f : Str) (i : Nat) : M D := fun ρ => match look ρ i with
  | some (.own c l) => if c = cn then (match l.lookup f with
    | some d => .ok d ρ
    | none => .fault) else .fault
  | _ => .fault
theorem d_fldV {cn f : Str} {i : Nat} {p : Pos} (C : Cls X.K (He.ga X.K cn)) (n : NoAttr X.K (He.ga X.K cn) f) (hN : X.N[i]? = some x := by rfl) (hv : Vis X.env.scope x := by first | exact Or.inl rfl | exact Or.inr (Or.inl rfl) | exact Or.inr (Or.inr rfl))
    (hd : (x == ("__debug__" : Str)) = false := by decide) (hcd : (x == ("__classdict__" : Str)) = false := by decide) (hb : attributeBase (.Name x p) f X.env (eval (.Name x p) X.env) = eval (.Name x p) X.env := by rfl) : DE X T E (.Attribute (.Name x p) f pos) (gFldV cn f i) := by
  refine ⟨_, pe_fld (pv i hN hv hd hcd) hb, fun F Hz H σ ρ Q E0 h => ?_⟩
  unfold gFldV at h
  cases e : look ρ i with
  | none => rw [e] at h; exact h.elim
  | some d =>
    rw [e] at h
    obtain ⟨v, hv, hd⟩ := E0.look e
    cases d with
    | own c l =>
      have q : Okx (RD X.K) X.K T E F Hz σ Q (if c = cn then (match l.lookup f with
        | some d => .ok d ρ
        | none => .fault) else .fault) := h
      by_cases hc : c = cn
      · rw [if_pos hc] at q
        subst hc
        cases el : l.lookup f with
        | none => rw [el] at q; exact q.elim
        | some d =>
          rw [el] at q
          rcases hd with hd | ⟨a, rfl, dx, fs, h1, h2, h3⟩
          · cases hd with
            | own h1 h2 h3 =>
              obtain ⟨w, e1, r1⟩ := lookup_rp h2 h3 el
              exact ⟨_, hv, _, _, _, _, _, rfl, E0.ext _ _ h1, C, n, e1, okd_here E0 q r1⟩
          · obtain ⟨w, e1, r1⟩ := lookup_rp h2 h3 el
            exact ⟨_, hv, _, _, _, _, _, rfl, h1, C, n, e1, okd_here E0 q r1⟩
      · rw [if_neg hc] at q
        exact q.elim
    | _ => exact h.elim
/-- a call that takes the object first -/
def gMeth (cn m : Str) (n : Nat) (f : Fn) (ga : M D) (gs : M (List D)) : M D := gBind ga fun d => match d with
  | .own c l => if c = cn ∧ l.lookup m = none then gBind gs fun ds ρ => if ds.length + 1 = n then (match f (.own c l :: ds) with
    | .ok d => .ok d ρ
    | .exc e => .exc e ρ
    | .fault => .fault) else .fault else fun _ => .fault
  | _ => fun _ => .fault
theorem run_spG {K : PySem.W.Frag} {F : Frm} {Hz H : Hp} {σ : L2.St} {ρ : List Slot} {Q : VK} {n : Nat} {f : Fn} {vs : List V} {ds : List D} (E0 : EnvR K T F Hz H σ ρ) (r : RpL K Hz vs ds) (hn : ds.length = n) (h : Okx (RD K) K T E F Hz σ Q (match f ds with
    | .ok d => .ok d ρ
    | .exc e => .exc e ρ
    | .fault => .fault)) : spG K n f vs H Q E := by
  refine ⟨Hz, ds, E0.nt, E0.ext, r, hn, ?_⟩
  cases ef : f ds with
  | ok d =>
    rw [ef] at h
    exact fun v Hz' H' nt s1 s2 s3 nn r2 => h v Hz' H' (E0.after nt s1 s2 s3 nn) s1 r2
  | exc x =>
    rw [ef] at h
    exact fun cls dd Hz' H' nt s1 s2 s3 nn r2 => h cls dd Hz' H' (E0.after nt s1 s2 s3 nn) s1 r2
  | fault => rw [ef] at h; exact h.elim
theorem lift_meth {K : PySem.W.Frag} {cn m : Str} {n : Nat} {f : Fn} {te : TE} {t : TA} {C : Addr} (hC : C = He.ga K cn) (ha : LiftD K T E te gb) (ht : LiftA K T E t gs) : LiftD K T E (tMeth C m (spG K n f) [] E te t) (gMeth cn m n f gb gs) := by
  intro F Hz H σ ρ Q E0 h
  refine ha.step E0 h fun v d ρ1 Hz1 H1 E1 s r q => ?_
  cases d with
  | own c l =>
    have q9 : Okx (RD K) K T E F Hz1 σ Q ((if c = cn ∧ l.lookup m = none then gBind gs fun ds ρ => if ds.length + 1 = n then (match f (.own c l :: ds) with
      | .ok d => .ok d ρ
      | .exc e => .exc e ρ
      | .fault => .fault) else .fault else fun _ => .fault) ρ1) := q
    by_cases hc : c = cn ∧ l.lookup m = none
    · rw [if_pos hc] at q9
      cases r with
      | own h1 h2 h3 =>
        obtain ⟨rfl, hm⟩ := hc
        refine ⟨_, _, _, rfl, by rw [hC]; exact E1.ext _ _ h1, lookup_nn h2 hm, ht.step E1 q9 fun vs ds ρ2 Hz2 H2 E2 s2 r2 q2 => ?_⟩
        by_cases hn : ds.length + 1 = n
        · rw [if_pos hn] at q2
          rw [List.append_nil]
          exact run_spG E2 (.cons ((Rp.own h1 h2 h3).same s2) r2) (by simpa using hn) q2
        · rw [if_neg hn] at q2
          exact q2.elim
    · rw [if_neg hc] at q9
      exact q9.elim
  | _ => exact q.elim
theorem d_meth {CX : CXT} {cn m : Str} {g : Addr} {k n : Nat} {f : Fn} {ps : List Str} {o : Expr} {apos : Pos} {pl : Sem Bool} (ho : DE X T E o gb) (c : Cls X.K (He.ga X.K cn)) (hm : Meth X.K (He.ga X.K cn) m g) (F : MOk CX X.prog X.w X.K X.mg X.base k g ps (spG X.K n f)) (hx : Passes CX X E) (hr : Room k X.A) (ha : DA X T E (e :: es) gs)
    (hst : starEach (e :: es) X.env = (false, eval e X.env) :: starEach es X.env := by rfl) (hpl : (backTo pos (starEach es X.env)).any (·.1) = false := by rfl)
    (ht : eval (.Call (.Attribute o m apos) (e :: es) [] pos) X.env = (do
      let ov ← eval o X.env
      standAt apos.atName
      let (f, first) ← holding [ov] (getMethod ov m pl)
      callWith pos f first (backTo pos (starEach (e :: es) X.env)) (backToKw pos (keywordEach [] X.env))) := by rfl) : DE X T E (.Call (.Attribute o m apos) (e :: es) [] pos) (gMeth cn m n f gb gs) := by
  obtain ⟨t, a1, a2⟩ := ho
  obtain ⟨u, b1, b2⟩ := ha
  exact ⟨_, pe_methM a1 c hm F hx hr b1 hst hpl ht, lift_meth rfl a2 b2⟩
def gProp (cn : Str) (f : Fn) (ga : M D) : M D := gBind ga fun d ρ => match d with
  | .own c l => if c = cn then (match f [.own c l] with
    | .ok d => .ok d ρ
    | .exc e => .exc e ρ
    | .fault => .fault) else .fault
  | _ => .fault
theorem d_prop {CX : CXT} {cn m : Str} {p' g : Addr} {k : Nat} {f : Fn} {ps : List Str} (ho : DE X T E e gb) (c : Cls X.K (He.ga X.K cn)) (hp : PropOf X.K (He.ga X.K cn) m p' g) (F : MOk CX X.prog X.w X.K X.mg X.base k g ps (spG X.K 1 f)) (hx : Passes CX X.nox E) (hr : Room (k + 1) X.A) (hab : attributeBase e m X.env (eval e X.env) = eval e X.env := by rfl) :
    DE X T E (.Attribute e m pos) (gProp cn f gb) := by
  obtain ⟨t, a1, a2⟩ := ho
  refine ⟨_, pe_propM a1 c hp F hx hr hab, fun F Hz H σ ρ Q E0 h => a2.step E0 h fun v d ρ1 Hz1 H1 E1 s r q => ?_⟩
  cases d with
  | own c l =>
    have q9 : Okx (RD X.K) X.K T E F Hz1 σ Q (if c = cn then (match f [.own c l] with
      | .ok d => .ok d ρ1
      | .exc e => .exc e ρ1
      | .fault => .fault) else .fault) := q
    by_cases hc : c = cn
    · rw [if_pos hc] at q9
      subst hc
      cases r with
      | own h1 h2 h3 => exact ⟨_, _, _, rfl, E1.ext _ _ h1, run_spG E1 (.cons (Rp.own h1 h2 h3) .nil) rfl q9⟩
    · rw [if_neg hc] at q9
      exact q9.elim
  | _ => exact q.elim
end
end PL
namespace PL
open PySem PySem.Spec PySem.Calls PyProof.Rows L2 He CT
def tOf (K : PySem.W.Frag) (T : List (Addr × Str)) (E : XK) (g : M D) : TE := fun σ H Q => ∃ F Hz ρ, EnvR K T F Hz H σ ρ ∧ Okx (RD K) K T E F Hz σ Q (g ρ)
def ttOf (K : PySem.W.Frag) (T : List (Addr × Str)) (E : XK) (g : M Bool) : TT := fun σ H Q => ∃ F Hz ρ, EnvR K T F Hz H σ ρ ∧ Okx RT K T E F Hz σ Q (g ρ)
section
variable {X : Cx} {K : PySem.W.Frag} {T : List (Addr × Str)} {E : XK} {e : Expr} {g : M D} {gt : M Bool}
theorem DE.pe (h : DE X T E e g) : PE X e (tOf X.K T E g) := by
  obtain ⟨t, h1, h2⟩ := h
  exact ⟨fun pins s σ H Q I ⟨F, Hz, ρ, E0, q⟩ => h1.run pins s σ H Q I (h2 F Hz H σ ρ Q E0 q)⟩
theorem DT.pt (h : DT X T E e gt) : PT X e (ttOf X.K T E gt) := by
  obtain ⟨t, h1, h2⟩ := h
  exact ⟨fun pins s σ H Q I ⟨F, Hz, ρ, E0, q⟩ => h1.run pins s σ H Q I (h2 F Hz H σ ρ Q E0 q)⟩
theorem lift_tOf : LiftD K T E (tOf K T E g) g := fun F Hz H σ ρ Q E0 h => ⟨F, Hz, ρ, E0, h⟩
end
def wipeP (ρ : List Slot) : List Nat → List Slot
  | [] => ρ
  | v :: vs => (wipeP ρ vs).set v none
theorem wipe_get {σ : L2.St} : ∀ {vs : List Nat} {i : Nat}, (wipe σ vs)[i]? = if i ∈ vs then (if i < σ.length then some none else none) else σ[i]?
  | [], i => by simp [wipe]
  | v :: vs, i => by
    unfold wipe
    by_cases h : v = i
    · subst h
      rw [if_pos (by simp)]
      by_cases hl : v < σ.length
      · rw [List.getElem?_set_self (by rw [wipe_length]; exact hl), if_pos hl]
      · rw [if_neg hl, List.getElem?_eq_none]
        rw [List.length_set, wipe_length]
        omega
    · rw [List.getElem?_set_ne h, wipe_get]
      have : (i ∈ v :: vs) = (i ∈ vs) := by
        simp only [List.mem_cons, eq_iff_iff, or_iff_right_iff_imp]
        exact fun z => absurd z.symm h
      simp only [this]
theorem wipeP_length (ρ : List Slot) : ∀ vs, (wipeP ρ vs).length = ρ.length
  | [] => rfl
  | v :: vs => by unfold wipeP; rw [List.length_set, wipeP_length ρ vs]
theorem wipeP_some {ρ : List Slot} {i : Nat} {x : Bool × D} : ∀ {vs : List Nat}, (wipeP ρ vs)[i]? = some (some x) → ρ[i]? = some (some x) ∧ i ∉ vs
  | [], h => ⟨h, by simp⟩
  | v :: vs, h => by
    unfold wipeP at h
    by_cases hi : v = i
    · subst hi
      by_cases hv : v < (wipeP ρ vs).length
      · rw [List.getElem?_set_self hv] at h; cases h
      · rw [List.getElem?_eq_none (by simpa using hv)] at h; cases h
    · rw [List.getElem?_set_ne hi] at h
      obtain ⟨h1, h2⟩ := wipeP_some h
      exact ⟨h1, by simp only [List.mem_cons, not_or]; exact ⟨fun e => hi e.symm, h2⟩⟩
theorem wipe_set {σ : L2.St} {j : Nat} {x : Option V} {vs : List Nat} (h : j ∈ vs) : wipe (σ.set j x) vs = wipe σ vs := by
  refine List.ext_getElem? fun i => ?_
  rw [wipe_get, wipe_get, List.length_set]
  by_cases hi : i ∈ vs
  · rw [if_pos hi, if_pos hi]
  · rw [if_neg hi, if_neg hi, List.getElem?_set_ne (fun e => hi (by rw [← e]; exact h))]
theorem wipe_wipe {σ : L2.St} {vs : List Nat} : wipe (wipe σ vs) vs = wipe σ vs := by
  refine List.ext_getElem? fun i => ?_
  rw [wipe_get, wipe_length, wipe_get]
  by_cases hi : i ∈ vs
  · rw [if_pos hi, if_pos hi]
  · rw [if_neg hi, if_neg hi]
section
variable {K : PySem.W.Frag} {T : List (Addr × Str)} {F : Frm} {Hz H : Hp} {σ σ' : L2.St} {ρ ρ' : List Slot}
/-- fewer slots are told of -/
theorem EnvR.less (E : EnvR K T F Hz H σ ρ) (hl : σ'.length = ρ'.length) (h : ∀ (i : Nat) (x : Bool × D), ρ'[i]? = some (some x) → ρ[i]? = some (some x) ∧ σ'[i]? = σ[i]?) : EnvR K T F Hz H σ' ρ' :=
  ⟨hl, E.ext, E.fr, E.tb, E.tz, fun i d e => by
    obtain ⟨h1, h2⟩ := h i _ e
    rw [h2]
    exact E.sh i d h1, fun i d e => by
    obtain ⟨h1, h2⟩ := h i _ e
    rw [h2]
    exact E.ow i d h1, fun i j d e a hij q1 q2 q3 => by
    obtain ⟨h1, h2⟩ := h i _ q1
    obtain ⟨h3, h4⟩ := h j _ q2
    rw [h2] at q3
    rw [h4]
    exact E.dis i j d e a hij h1 h3 q3, E.fl, E.nt, fun a d ea q => by
    obtain ⟨h1, h2⟩ := h 0 _ q
    rw [h2]
    exact E.pn a d ea h1⟩
theorem EnvR.wipe (E : EnvR K T F Hz H σ ρ) (vs : List Nat) : EnvR K T F Hz H (L2.wipe σ vs) (wipeP ρ vs) := by
  refine E.less (by rw [wipe_length, wipeP_length, E.len]) fun i x h => ?_
  obtain ⟨h1, h2⟩ := wipeP_some h
  exact ⟨h1, by rw [wipe_get, if_neg h2]⟩
theorem EnvR.unwipe {vs : List Nat} (E : EnvR K T F Hz H (L2.wipe σ vs) (wipeP ρ vs)) : EnvR K T F Hz H σ (wipeP ρ vs) := by
  refine E.less (by rw [← wipe_length σ vs]; exact E.len) fun i x h => ?_
  obtain ⟨h1, h2⟩ := wipeP_some h
  exact ⟨h, by rw [wipe_get, if_neg h2]⟩
/-- an object that is neither stable nor ours is part of what stands around -/
theorem EnvR.fence (E : EnvR K T F Hz H σ ρ) {p : Addr} {o : HO} (hz : Hz p = none) (ho : H p = some o) (nt : ∀ ps, o ≠ .tbl ps) (ne : (∀ φ, o ≠ .ext φ) ∧ (∀ xs, o ≠ .tup xs) ∧ ∀ ps, o ≠ .tbl ps) (ns : NoSlot σ ρ p) : EnvR K T ⟨upd F.f p o, F.a⟩ Hz H σ ρ := by
  refine ⟨E.len, E.ext, fun b u e => ?_, E.tb, fun q hq => ⟨(E.tz q hq).1, ?_⟩, E.sh, fun i d e => ?_, E.dis, E.fl.imp id (fun f b u e => ?_), E.nt, E.pn⟩
  · by_cases h : b = p
    · subst h
      have e : upd F.f b o b = some u := e
      rw [upd_same] at e
      cases e
      exact ⟨ho, .inl hz⟩
    · have e : upd F.f p o b = some u := e
      rw [upd_ne h] at e
      exact E.fr b u e
  · show upd F.f p o q.1 = none
    rw [upd_ne (tabs_ne E.tb ho nt q hq)]
    exact (E.tz q hq).2
  · obtain ⟨a, h1, h2, h3, h4⟩ := E.ow i d e
    refine ⟨a, h1, h2, ?_, h4⟩
    show upd F.f p o a = none
    rw [upd_ne (fun z => ns i d e (by rw [← z]; exact h1))]
    exact h3
  · have e : upd F.f p o b = some u := e
    by_cases h : b = p
    · subst h
      rw [upd_same] at e
      cases e
      exact ne
    · rw [upd_ne h] at e
      exact f b u e
theorem EnvR.unfence {p : Addr} {o : HO} (E : EnvR K T ⟨upd F.f p o, F.a⟩ Hz H σ ρ) (hf : F.f p = none) (ut : ∀ xs, o ≠ .tup xs) : EnvR K T F Hz H σ ρ ∧ Hz p = none ∧ H p = some o ∧ NoSlot σ ρ p := by
  have hp := E.fr p o upd_same
  have nf : ∀ {a : Addr}, upd F.f p o a = none → F.f a = none ∧ a ≠ p := fun {a} h => by
    by_cases e : a = p
    · subst e
      rw [upd_same] at h
      cases h
    · rw [upd_ne e] at h
      exact ⟨h, e⟩
  refine ⟨⟨E.len, E.ext, fun b u e => E.fr b u ?_, E.tb, fun q hq => ⟨(E.tz q hq).1, (nf (E.tz q hq).2).1⟩, E.sh, fun i d e => ?_, E.dis, E.fl.imp id (fun f b u e => f b u ?_), E.nt, E.pn⟩, hp.2.no ut, hp.1, fun i d e z => ?_⟩
  · show upd F.f p o b = some u
    rw [upd_ne (fun z => by rw [z, hf] at e; cases e)]
    exact e
  · obtain ⟨a, h1, h2, h3, h4⟩ := E.ow i d e
    exact ⟨a, h1, h2, (nf h3).1, h4⟩
  · obtain ⟨a, h1, h2, h3, h4⟩ := E.ow i d e
    rw [h1] at z
    cases z
    exact (nf h3).2 rfl
  · show upd F.f p o b = some u
    rw [upd_ne (fun z => by rw [z, hf] at e; cases e)]
    exact e
/-- such a list is written -/
theorem EnvR.other (E : EnvR K T F Hz H σ ρ) {p : Addr} {xs : List V} {o : HO} (hz : Hz p = none) (hf : F.f p = none) (ho : H p = some (.lst xs)) (ns : NoSlot σ ρ p) : EnvR K T F Hz (upd H p o) σ ρ := by
  refine ⟨E.len, fun b u e => ?_, fun b u e => ?_, CT.Tabs.but E.tb ho fun b u hb h => by rw [upd_ne hb]; exact h, E.tz, E.sh, fun i d e => ?_, E.dis, E.fl, E.nt, E.pn⟩
  · rw [upd_ne (ne_of_none e hz)]
    exact E.ext _ _ e
  · have := E.fr b u e
    rw [upd_ne (ne_of_none e hf)]
    exact this
  · obtain ⟨a, h1, h2, h3, h4⟩ := E.ow i d e
    refine ⟨a, h1, h2, h3, h4.keep (.same (Same.refl _)) fun u w => ?_⟩
    rw [upd_ne (fun z => ns i d e (by rw [← z]; exact h1))]
    exact w
end
/-- the targets of a comprehension: names of its own -/
def DC (X : Cx) (T : List (Addr × Str)) (vs : List Nat) (e : Expr) (t : TG) (g : D → M Unit) : Prop := L2.PG X e t ∧
  ∀ F Hz H σ ρ v d Q, EnvR X.K T F Hz H σ ρ → Rp X.K Hz v d → (match g d ρ with
    | .ok _ ρ' => ∀ σ2, EnvR X.K T F Hz H σ2 ρ' → wipe σ2 vs = wipe σ vs → Q σ2 H
    | _ => False) → t v σ H Q
section
variable {X : Cx} {T : List (Addr × Str)} {vs : List Nat} {pos : Pos}
theorem c_name {i : Nat} {x : Str} (hN : X.N.Nodup) (hi : X.N[i]? = some x) (hx : Loc X.env.scope x) (hf : X.fn x = true ∨ X.env.scope.names.lookup x = some .local := by first | exact .inl rfl | exact .inr rfl | assumption) (hm : i ∈ vs := by simp) : DC X T vs (.Name x pos) (gName i) (gN i) :=
  ⟨pg_name hN hi hx hf, fun F Hz H σ ρ v d Q E0 r h => h _ (E0.setD r) (wipe_set hm)⟩
end
def gLcL (vs : List Nat) (gg : D → M Unit) (gt : M Bool) (ge : M D) : List D → List D → M D
  | [], acc, ρ => .ok (.lst acc) ρ
  | d :: ds, acc, ρ => match gg d ρ with
    | .ok _ ρ1 => match gt ρ1 with
      | .ok false ρ2 => gLcL vs gg gt ge ds acc (wipeP ρ2 vs)
      | .ok true ρ2 => match ge ρ2 with
        | .ok y ρ3 => if lim (acc.length + 1) = true then gLcL vs gg gt ge ds (acc ++ [y]) (wipeP ρ3 vs) else .fault
        | _ => .fault
      | _ => .fault
    | _ => .fault
def gLc (vs : List Nat) (gi : M (List D)) (gg : D → M Unit) (gt : M Bool) (ge : M D) : M D := gBind gi fun ds ρ => gLcL vs gg gt ge ds [] (wipeP ρ vs)
theorem lim_slt {n : Nat} (h : lim (n + 1) = true) : n < sizeLine := Nat.lt_of_lt_of_le (Nat.lt_succ_self n) (lim_ok h)
theorem lc_core {K : PySem.W.Frag} {T : List (Addr × Str)} {E : XK} {F : Frm} {Hz H : Hp} {σ : L2.St} {ρ : List Slot} {Q : VK} {wi : TI} {tg : TG} {tt : TT} {te : TE} {vs : List Nat} {gi : M (List D)} {gg : D → M Unit} {gt : M Bool} {ge : M D} (EE : EnvR K T F Hz H σ ρ) (hi : ∀ Q' : It → Hp → Prop, Okx (RI K) K T E F Hz σ Q' (gi ρ) → wi σ H Q')
    (hg : ∀ F Hz H σ ρ v d Q, EnvR K T F Hz H σ ρ → Rp K Hz v d → (match gg d ρ with
      | .ok _ ρ' => ∀ σ2, EnvR K T F Hz H σ2 ρ' → wipe σ2 vs = wipe σ vs → Q σ2 H
      | _ => False) → tg v σ H Q)
    (ht : LiftT K T E0 tt gt) (he : LiftD K T E0 te ge) (h : Oko K T E F Hz σ Q (gLc vs gi gg gt ge ρ)) : tLc wi tg tt te vs σ H Q := by
  refine stepO1 (R := RI K) hi h fun J ds ρ1 Hz1 H1 E1 s1 w q => ?_
  have w : WalkD K J Hz1 ds := w
  intro p hp
  obtain ⟨f1, f2, f3⟩ := E1.fresh hp
  have Eg := E1.grow (same_new (o := .lst []) hp)
  refine ⟨fun i m H => m = ds.length - i ∧ i ≤ ds.length ∧ ∃ Hz2 ρ2 accV acc, EnvR K T F Hz2 H (wipe σ vs) ρ2 ∧ Same Hz1 Hz2 ∧ H p = some (.lst accV) ∧ RpL K Hz2 accV acc ∧ Hz2 p = none ∧ NoSlot (wipe σ vs) ρ2 p ∧ (∃ ρ0, ρ2 = wipeP ρ0 vs) ∧ Oko K T E F Hz2 σ Q (gLcL vs gg gt ge (ds.drop i) acc ρ2),
    ⟨_, rfl, Nat.zero_le _, Hz1, wipeP ρ1 vs, [], [], Eg.wipe vs, Same.refl _, upd_same, .nil, f1, fun i e z y => ?_, ⟨_, rfl⟩, by rw [List.drop_zero]; exact q⟩, ?_⟩
  · obtain ⟨h1, h2⟩ := wipeP_some z
    rw [wipe_get, if_neg h2] at y
    exact f3 i e h1 y
  rintro i m H2 ⟨rfl, hi2, Hz2, ρ2, accV, acc, E2, s2, hp2, ra, hz2, ns2, wp2, q2⟩
  by_cases hlt : i < ds.length
  · refine .inr ⟨w.goes i H2 hlt (s2.trans E2.ext), fun H => ∃ Hz3 ρ3 accV acc, EnvR K T F Hz3 H (wipe σ vs) ρ3 ∧ Same Hz1 Hz3 ∧ H p = some (.lst accV) ∧ RpL K Hz3 accV acc ∧ Hz3 p = none ∧ NoSlot (wipe σ vs) ρ3 p ∧ (∃ ρ0, ρ3 = wipeP ρ0 vs) ∧ Oko K T E F Hz3 σ Q (gLcL vs gg gt ge (ds.drop (i + 1)) acc ρ3),
      fun H' p' => ⟨ds.length - (i + 1), by omega, rfl, hlt, p'⟩, fun x H' y => ?_⟩
    have EF := E2.fence hz2 hp2 (fun _ z => by cases z) ⟨(fun _ z => by cases z), (fun _ z => by cases z), fun _ z => by cases z⟩ ns2
    obtain ⟨Hz3, d, ed, E3, s3, r3⟩ := w.yld T _ Hz2 H2 (wipe σ vs) ρ2 i x H' EF s2 hlt y
    rw [List.drop_eq_getElem_cons hlt] at q2
    have ed' : ds[i] = d := by
      rw [List.getElem?_eq_getElem hlt] at ed
      exact Option.some.inj ed
    rw [ed'] at q2
    refine hg _ Hz3 H' (wipe σ vs) ρ2 x d _ E3 r3 ?_
    unfold gLcL at q2
    cases eg : gg d ρ2 with
    | exc z ρ' => rw [eg] at q2; exact q2.elim
    | fault => rw [eg] at q2; exact q2.elim
    | ok z ρ' =>
      rw [eg] at q2
      intro σ4 E4 w4
      rw [wipe_wipe] at w4
      refine ⟨w4, ?_⟩
      have q2 := Oko.mono s3 q2
      have q2 : Oko K T E F Hz3 σ Q (match gt ρ' with
        | .ok false ρ2 => gLcL vs gg gt ge (ds.drop (i + 1)) acc (wipeP ρ2 vs)
        | .ok true ρ2 => match ge ρ2 with
          | .ok y ρ3 => if lim (acc.length + 1) = true then gLcL vs gg gt ge (ds.drop (i + 1)) (acc ++ [y]) (wipeP ρ3 vs) else .fault
          | _ => .fault
        | _ => .fault) := q2
      refine ht _ Hz3 H' σ4 ρ' _ E4 ?_
      cases et : gt ρ' with
      | exc z ρ' => rw [et] at q2; exact q2.elim
      | fault => rw [et] at q2; exact q2.elim
      | ok b ρ5 =>
        rw [et] at q2
        intro b' Hz5 H5 E5 s5 eb
        cases eb
        have q2 := Oko.mono s5 q2
        cases b with
        | false =>
          rw [if_neg (by decide)]
          obtain ⟨E6, z6, h6, n6⟩ := E5.unfence f2 (fun _ z => by cases z)
          have E7 := E6.wipe vs
          rw [w4] at E7
          refine ⟨Hz5, wipeP ρ5 vs, accV, acc, E7, s2.trans (s3.trans s5), h6, (ra.same s3).same s5, z6, fun i e z y => ?_, ⟨_, rfl⟩, q2⟩
          obtain ⟨k1, k2⟩ := wipeP_some z
          rw [← w4, wipe_get, if_neg k2] at y
          exact n6 i e k1 y
        | true =>
          rw [if_pos rfl]
          have q2 : Oko K T E F Hz5 σ Q (match ge ρ5 with
            | .ok y ρ3 => if lim (acc.length + 1) = true then gLcL vs gg gt ge (ds.drop (i + 1)) (acc ++ [y]) (wipeP ρ3 vs) else .fault
            | _ => .fault) := q2
          refine he _ Hz5 H5 σ4 ρ5 _ E5 ?_
          cases ee : ge ρ5 with
          | exc z ρ' => rw [ee] at q2; exact q2.elim
          | fault => rw [ee] at q2; exact q2.elim
          | ok y2 ρ6 =>
            rw [ee] at q2
            intro v Hz6 H6 E6 s6 rv
            have q2 := Oko.mono s6 q2
            have q2 : Oko K T E F Hz6 σ Q (if lim (acc.length + 1) = true then gLcL vs gg gt ge (ds.drop (i + 1)) (acc ++ [y2]) (wipeP ρ6 vs) else .fault) := q2
            by_cases hl : lim (acc.length + 1) = true
            · rw [if_pos hl] at q2
              obtain ⟨E7, z7, h7, n7⟩ := E6.unfence f2 (fun _ z => by cases z)
              have ra6 : RpL K Hz6 accV acc := ((ra.same s3).same s5).same s6
              refine ⟨accV, h7, by rw [ra6.length]; exact lim_slt hl, ?_⟩
              have E8 := (E7.other (o := .lst (accV ++ [v])) z7 f2 h7 n7).wipe vs
              rw [w4] at E8
              refine ⟨Hz6, wipeP ρ6 vs, accV ++ [v], acc ++ [y2], E8, s2.trans (s3.trans (s5.trans s6)), upd_same, ra6.append (.cons rv .nil), z7, fun i e z y => ?_, ⟨_, rfl⟩, q2⟩
              obtain ⟨k1, k2⟩ := wipeP_some z
              rw [← w4, wipe_get, if_neg k2] at y
              exact n7 i e k1 y
            · rw [if_neg hl] at q2
              exact q2.elim
  · have e : i = ds.length := by omega
    subst e
    rw [List.drop_length] at q2
    obtain ⟨ρ0, rfl⟩ := wp2
    refine .inl ⟨w.stops H2 (s2.trans E2.ext), q2 p Hz2 H2 E2.unwipe (Same.refl _) ⟨hz2, f2, accV, hp2, ra⟩ fun i e z y => ?_⟩
    obtain ⟨k1, k2⟩ := wipeP_some z
    exact ns2 i e z (by rw [wipe_get, if_neg k2]; exact y)
def gYes : M Bool := fun ρ => .ok true ρ
def DTs (X : Cx) (T : List (Addr × Str)) (ifs : List Expr) (t : TT) (g : M Bool) : Prop := PTs X ifs t ∧ LiftT X.K T E0 t g
theorem ts_nil {X : Cx} {T : List (Addr × Str)} : DTs X T [] tYes gYes := ⟨pts_nil, fun F Hz H σ ρ Q E0 h => h true Hz H E0 (Same.refl _) rfl⟩
theorem lift_lc {K : PySem.W.Frag} {T : List (Addr × Str)} {E : XK} {wi : TI} {tg : TG} {tt : TT} {te : TE} {vs : List Nat} {gi : M (List D)} {gg : D → M Unit} {gt : M Bool} {ge : M D} (hi : LiftI K T E wi gi)
    (hg : ∀ F Hz H σ ρ v d Q, EnvR K T F Hz H σ ρ → Rp K Hz v d → (match gg d ρ with
      | .ok _ ρ' => ∀ σ2, EnvR K T F Hz H σ2 ρ' → wipe σ2 vs = wipe σ vs → Q σ2 H
      | _ => False) → tg v σ H Q)
    (ht : LiftT K T E0 tt gt) (he : LiftD K T E0 te ge) : LiftO K T E (tLc wi tg tt te vs) (gLc vs gi gg gt ge) :=
  fun F Hz H σ ρ Q EE h => lc_core EE (fun Q' h' => hi F Hz H σ ρ Q' EE h') hg ht he h
section
variable {X : Cx} {T : List (Addr × Str)} {E : XK} {elt tg iter : Expr} {ifs : List Expr} {scope : Scope} {own : List (Str × Nat)} {pos : Pos} {g : TG} {tt : TT} {gi : M (List D)} {gg : D → M Unit} {gt : M Bool} {ge : M D}
theorem d_lc (hc : X.calm = true) (hN : X.N.Nodup) (hi : DI X T E tg iter gi) (ok : BlkOk X.N X.env.scope scope own)
    (hg : ∀ (s : Shared) (H : Hp) (C : Addr) (cl : List (Str × Addr)) (fp : List Addr), DC (X.blk s H scope (compEnvC scope cl C X.env) fp) T (own.map (·.2)) tg g gg) (ht : ∀ (s : Shared) (H : Hp) (C : Addr) (cl : List (Str × Addr)) (fp : List Addr), DTs (X.blk s H scope (compEnvC scope cl C X.env) fp) T ifs tt gt)
    (he : ∀ (s : Shared) (H : Hp) (C : Addr) (cl : List (Str × Addr)) (fp : List Addr), DE (X.blk s H scope (compEnvC scope cl C X.env) fp) T E0 elt ge) (hs : ∀ x, foldedSetIterable iter X.env x = pure x := by intro _; rfl)
    (s0 : Shared) (H0 : Hp) : DO X T E (.ListComp elt [⟨tg, iter, ifs, 0⟩] scope pos) (gLc (own.map (·.2)) gi gg gt ge) := by
  obtain ⟨wi, i1, i2⟩ := hi
  refine ⟨_, pe_lc (te := tOf X.K T E0 ge) hc hN i1 ok (fun s H C cl fp => (hg s H C cl fp).1) (fun s H C cl fp => (ht s H C cl fp).1) (fun s H C cl fp => (he s H C cl fp).pe) hs, ?_⟩
  exact lift_lc i2 (hg s0 H0 0 [] []).2 (ht s0 H0 0 [] []).2 lift_tOf
/-- name = [..] on one line -/
theorem s_setLc {i : Nat} {y : Str} {py : Pos} {spos : Pos} (hc : X.calm = true) (hN : X.N.Nodup) (hy : X.N[i]? = some y) (hyl : X.env.scope.names.lookup y = some .local)
    (hsw : swapsWith (.ListComp elt [⟨tg, iter, ifs, 0⟩] scope pos) (some (.Name y py)) spos.line X.env = pure true) (hi : DI X T E tg iter gi) (ok : BlkOk X.N X.env.scope scope own)
    (hg : ∀ (s : Shared) (H : Hp) (C : Addr) (cl : List (Str × Addr)) (fp : List Addr), DC (X.blk s H scope (compEnvC scope cl C X.env) fp) T (own.map (·.2)) tg g gg) (ht : ∀ (s : Shared) (H : Hp) (C : Addr) (cl : List (Str × Addr)) (fp : List Addr), DTs (X.blk s H scope (compEnvC scope cl C X.env) fp) T ifs tt gt)
    (he : ∀ (s : Shared) (H : Hp) (C : Addr) (cl : List (Str × Addr)) (fp : List Addr), DE (X.blk s H scope (compEnvC scope cl C X.env) fp) T E0 elt ge) (s0 : Shared) (H0 : Hp) (hs : ∀ x, foldedSetIterable iter X.env x = pure x := by intro _; rfl) :
    DS X T E (.Assign [.Name y py] (.ListComp elt [⟨tg, iter, ifs, 0⟩] scope pos) spos) (gSetO i (gLc (own.map (·.2)) gi gg gt ge)) := by
  obtain ⟨wi, i1, i2⟩ := hi
  refine ⟨_, ps_setLc (te := tOf X.K T E0 ge) hc hN hy hyl hsw i1 ok (fun s H C cl fp => (hg s H C cl fp).1) (fun s H C cl fp => (ht s H C cl fp).1) (fun s H C cl fp => (he s H C cl fp).pe) hs, ?_⟩
  have L := lift_lc (E := E) i2 (hg s0 H0 0 [] []).2 (ht s0 H0 0 [] []).2 (lift_tOf (g := ge))
  exact fun F Hz H σ ρ W EE h => L.stepS EE h fun x d ρ1 Hz1 H1 E1 s r ns q => by
    by_cases h0 : i = 0
    · rw [if_pos h0] at q
      exact q.elim
    · rw [if_neg h0] at q
      exact q _ Hz1 H1 (E1.setO r ns h0) (Same.refl _)
end
end PL
namespace CT
open PySem PySem.Spec PySem.Calls PyProof.Rows L2 He
theorem meets_enumerate_newS {v : Value} {o : Obj} {Hc : Heap → Prop} (B : Begins v o Hc) :
    Meets (Builtin.«enumerate.__new__» ⟨[.type "enumerate", v], []⟩) (fun _ R s => Hc s.heap ∧
      R (.ok (.ret (.ref (s.heap.push o).objs.size))) { s with heap := (s.heap.push o).push { cls := .type "enumerate", data := .fields #[.none, .bool false, .ref s.heap.objs.size, rawInt 0, .none, .none] } }) :=
  .of_wp fun prog w A R s h => by
    obtain ⟨hp, g, d, tk, os⟩ := s; obtain ⟨h1, h⟩ := h
    have hsub := sub_enumerate
    have q1 : ∀ {A' : Around} {E : Value → Shared → Prop} {Q : Value → Shared → Prop}, Q (.ref hp.objs.size) ⟨hp.push o, g, d, tk, os⟩ → wpAny (model prog w) A' (pyIter v) Q E ⟨hp, g, d, tk, os⟩ :=
      fun q => B.iter prog w _ _ ⟨hp, g, d, tk, os⟩ _ h1 q
    wp_walk using q1
    refine wpAny_stack_any fun st => wpAny_pure ?_
    split
    · rename_i c _ _ _ _ _
      cases (c == Value.type "enumerate")
      · wp_walk using q1
        exact ⟨_, rfl, h⟩
      · wp_walk using q1
        exact ⟨_, rfl, h⟩
    · wp_walk using q1
      exact ⟨_, rfl, h⟩
section
variable {prog : Program} {w : World} {A : Around} {E : Value → Shared → Prop} {s : Shared}
theorem enum_begins1 {v : Value} {o : Obj} {Hc : Heap → Prop} {Q : Value → Shared → Prop} (B : Begins v o Hc) (h1 : Hc s.heap)
    (h : ∀ h', IsEnum h' (s.heap.objs.size + 1) s.heap.objs.size 0 .none → h'.get? s.heap.objs.size = some o → h'.objs.size = s.heap.objs.size + 2 →
      (∀ b o, s.heap.get? b = some o → h'.get? b = some o) → Q (.ref (s.heap.objs.size + 1)) { s with heap := h' }) :
    wpAny (model prog w) A (call (.type "enumerate") [v]) Q E s := by
  refine callType_new F.called_enumerate (by decide) (F.typeCall_enumerate_1 _) (F.newCall_enumerate_1 _) (fun obj => F.args_object_init_2 obj _) F.entry_enumerate_new
    (meets_enumerate_newS B) ⟨h1, ?_⟩
  have hz : (s.heap.push o).objs.size = s.heap.objs.size + 1 := Heap.size_push ..
  show _ ∧ _
  rw [hz]
  have he : IsEnum ((s.heap.push o).push { cls := .type "enumerate", data := .fields #[.none, .bool false, .ref s.heap.objs.size, rawInt 0, .none, .none] }) (s.heap.objs.size + 1) s.heap.objs.size 0 .none := by
    have := Heap.get?_push_size (s.heap.push o) (o := { cls := .type "enumerate", data := .fields #[.none, .bool false, .ref s.heap.objs.size, rawInt 0, .none, .none] }) rfl
    rw [hz] at this; exact this
  refine ⟨⟨_, he, rfl⟩, h _ he (Heap.get?_push_of_some _ (Heap.get?_push_size _ B.free)) (by rw [Heap.size_push, hz]) fun b o x => Heap.get?_push_of_some _ (Heap.get?_push_of_some _ x)⟩
end
/-- the signs of a text, each with its place -/
def IteS (z : Str) : It := ⟨fun i _ => i < z.cps.size, fun i H v H' => ∃ T c, v = .ref T ∧ H T = none ∧ H' = upd H T (.tup [.int (i : Nat), .str ⟨#[c]⟩]) ∧ z.cps[i]? = some c, fun i _ => i = z.cps.size⟩
theorem turn_enumS {P : Program} {w : World} {K : PySem.W.Frag} {elts : List Expr} {kk : Nat} {tpos : Pos} (e it : Addr) (hne : e ≠ it) (z : Str) (t : Tok) :
    Turn P w K (.Tuple elts kk tpos) (IteS z) [e, it] e (fun i h => (∃ old, IsEnum h e it (i : Int) old) ∧ h.IsStrIter it (strIterType z) z t i) where
  mem := by simp
  obj := fun i h ⟨⟨old, he⟩, hit⟩ b hb => by
    rcases (show b = e ∨ b = it by simpa using hb) with q | q <;> subst q
    · exact ⟨_, he, fun v q => nomatch q⟩
    · obtain ⟨o, e1, c, d⟩ := hit
      exact ⟨o, e1, fun v q => by rw [d] at q; cases q⟩
  keep := fun i h h' ⟨⟨old, he⟩, hit⟩ k => ⟨⟨old, k e (by simp) _ he⟩, let ⟨o, ho, r⟩ := hit; ⟨o, k it (by simp) o ho, r⟩⟩
  item := by
    intro X hP hw hK hc i pins s σ H E I hf st hg
    subst hP hw hK
    have W := WalksT.enumFrom (k₀ := 0) (Draws.text (prog := X.prog) (w := X.w) (A := X.A.in1) (I.ok.hd hc) it z t) e hne (by simp; exact hne) (by simp)
    obtain ⟨⟨old, he⟩, hit⟩ := st
    refine W.item i s _ _ hg ⟨⟨old, by rw [Int.zero_add]; exact he⟩, hit⟩ fun T vals h' tk hP hT hTup hMid kk1 => ⟨_, rfl, ?_⟩
    obtain ⟨tk2, x, ⟨c, u, hcx, rfl⟩, rfl⟩ := hP
    refine W.go elts kk tpos i T { s with heap := h', toks := tk } _ _ hMid fun h'' st'' kk2 => ?_
    have nT : T ∉ [e, it] := W.apart i T h' hMid
    have hTup2 : h''.IsTuple T #[.int (0 + (i : Int)) tk2, .str ⟨#[c]⟩ u] := by
      obtain ⟨o, ho, r⟩ := hTup
      exact ⟨o, kk2 T o nT ho, r⟩
    have Tn : H T = none := I.hok.fresh hT
    have J : Inv X pins σ (upd H T (.tup [.int (i : Nat), .str ⟨#[c]⟩])) { s with heap := h'', toks := tk } :=
      I.turnedNew (t' := tk) (ch := [e, it]) (fun b o hb q => kk2 b o hb (kk1 b o hb q)) hf hT ⟨by show 2 ≤ sizeLine; decide, _, .cons ⟨tk2, by rw [Int.zero_add]⟩ (.cons ⟨u, rfl⟩ .nil), hTup2⟩
    obtain ⟨⟨old2, he2⟩, hit2⟩ := st''
    refine ⟨.ref T, _, J, rfl, ⟨T, c, rfl, Tn, rfl, hcx⟩, ⟨⟨old2, by rw [Int.zero_add] at he2; exact he2⟩, hit2⟩, fun b hb => ?_⟩
    rw [upd_ne (fun q => nT (by rw [← q]; exact hb))]
    exact (hf b hb).1
  done := by
    intro X hP hw hK hc i pins s σ H E I hf st hg
    subst hP hw hK
    have W := WalksT.enumFrom (k₀ := 0) (Draws.text (prog := X.prog) (w := X.w) (A := X.A.in1) (I.ok.hd hc) it z t) e hne (by simp; exact hne) (by simp)
    obtain ⟨⟨old, he⟩, hit⟩ := st
    have hg : i = z.cps.size := hg
    subst hg
    exact W.done s _ _ ⟨⟨old, by rw [Int.zero_add]; exact he⟩, hit⟩ fun h' tk hk => ⟨rfl, I.turnedL (t' := tk) (ch := [e, it]) hk hf⟩
  self := fun A i s Q E st h => let ⟨⟨_, he⟩, _⟩ := st; wpAny_pyIter_enum he h
theorem pi_or {X : Cx} {tg e : Expr} {wi wi' : TI} (h : PI X tg e wi) (h' : PI X tg e wi') : PI X tg e (fun σ H R => wi σ H R ∨ wi' σ H R) := ⟨fun pins s σ H R I q => q.elim (fun q => h.run pins s σ H R I q) fun q => h'.run pins s σ H R I q⟩
theorem pi_enumG {X : Cx} {e : Expr} {ta : TA} {p pos tpos : Pos} {elts : List Expr} {kk : Nat} (hg : Gl X "enumerate") (hm : X.mg "enumerate" = none) (ha : PA X [e] ta) (hs : starEach [e] X.env = [(false, eval e X.env)] := by rfl) :
    PI X (.Tuple elts kk tpos) (.Call (.Name "enumerate" p) [e] [] pos) (fun σ H R => ta σ H fun vs H1 => (∃ b a xs, vs = [.ref a] ∧ SqB X.K b H1 a xs ∧ R (IteB X.K b a) H1) ∨ ∃ z, vs = [.str z] ∧ R (IteS z) H1) := by
  refine ⟨fun pins s σ H R I h => ?_⟩
  refine Call_ (ld_blt I hg hm boot_enumerate (PyProof.Rows.callWith_type1 (thn (ha.run pos pins s σ H _ I h) fun us s1 ⟨vs, H1, I1, r1, q1⟩ => ?_) hs rfl))
  rcases q1 with ⟨b, a, xs, ex, hq, q⟩ | ⟨z, ex, q⟩
  · subst ex
    cases r1 with
    | cons r rr =>
      cases rr
      cases r
      have hsz : ∀ c, c ∈ [s1.heap.objs.size + 1, s1.heap.objs.size] → s1.heap.objs.size ≤ c := fun c hb => by
        have e' : c = s1.heap.objs.size + 1 ∨ c = s1.heap.objs.size := by simpa using hb
        rcases e' with z | z
        · rw [z]; exact Nat.le_add_right _ _
        · rw [z]; exact Nat.le_refl _
      cases b with
      | false =>
        obtain ⟨its, rv, p', hz⟩ := I1.list hq
        refine call_enumerate_list p'.isList fun h' he hit hsz' hk => wpAny_pyIter_enum he ?_
        have I2 : Inv X pins σ H1 { s1 with heap := h' } := I1.kept (t' := s1.toks) hk
        exact ⟨s1.heap.objs.size + 1, [s1.heap.objs.size + 1, s1.heap.objs.size], _, _, H1, rfl, I2, turn_enum a (s1.heap.objs.size + 1) s1.heap.objs.size, ⟨⟨.none, he⟩, hit, Nat.succ_ne_self _⟩, fun b hb => I1.fpOk (hsz b hb) (I1.hok.fresh (hsz b hb)), q⟩
      | true =>
        obtain ⟨its, rv, p', hz⟩ := I1.tuple hq
        have hlt : a < s1.heap.objs.size := by obtain ⟨_, e, _⟩ := p'; exact Heap.lt_size e
        refine call_enumerate_tup p' fun h' he hit hsz' hk => wpAny_pyIter_enum he ?_
        have I2 : Inv X pins σ H1 { s1 with heap := h' } := I1.kept (t' := s1.toks) hk
        exact ⟨s1.heap.objs.size + 1, [s1.heap.objs.size + 1, s1.heap.objs.size], _, _, H1, rfl, I2, turn_enumT a (s1.heap.objs.size + 1) s1.heap.objs.size (Nat.ne_of_lt hlt) (Nat.ne_of_gt (Nat.lt_succ_of_lt hlt)), ⟨⟨.none, he⟩, hit, Nat.succ_ne_self _⟩, fun b hb => I1.fpOk (hsz b hb) (I1.hok.fresh (hsz b hb)), q⟩
  · subst ex
    cases r1 with
    | cons r rr =>
      cases rr
      obtain ⟨t, rfl⟩ := r
      have hsz : ∀ c, c ∈ [s1.heap.objs.size + 1, s1.heap.objs.size] → s1.heap.objs.size ≤ c := fun c hb => by
        have e' : c = s1.heap.objs.size + 1 ∨ c = s1.heap.objs.size := by simpa using hb
        rcases e' with z | z
        · rw [z]; exact Nat.le_add_right _ _
        · rw [z]; exact Nat.le_refl _
      refine enum_begins1 (begins_text z t) trivial fun h' he hit hsz' hk => wpAny_pyIter_enum he ?_
      have I2 : Inv X pins σ H1 { s1 with heap := h' } := I1.kept (t' := s1.toks) hk
      exact ⟨s1.heap.objs.size + 1, [s1.heap.objs.size + 1, s1.heap.objs.size], _, _, H1, rfl, I2, turn_enumS (s1.heap.objs.size + 1) s1.heap.objs.size (Nat.succ_ne_self _) z t, ⟨⟨.none, he⟩, ⟨_, hit, rfl, rfl⟩⟩, fun b hb => I1.fpOk (hsz b hb) (I1.hok.fresh (hsz b hb)), q⟩
end CT
namespace PL
open PySem PySem.Spec PySem.Calls PyProof.Rows L2 He CT
section
variable {K : PySem.W.Frag} {Hz : Hp}
theorem walkd_list {a : Addr} {xs : List V} {ds : List D} (h : ∀ H, Same Hz H → SqL K H a xs) (r : RpL K Hz xs ds) : WalkD K (Itl K a) Hz ds := by
  have w := walk_list (K := K) (a := a) (xs := xs)
  refine ⟨fun i H hi s => w.goes i H (by rw [r.length]; exact hi) (h H s), fun H s => by rw [← r.length]; exact w.stops H (h H s), fun T F Hz1 H σ ρ i x H' E s hi y => ?_⟩
  obtain ⟨e, hx⟩ := w.yields i H x H' (by rw [r.length]; exact hi) (h H (s.trans E.ext)) y
  subst e
  obtain ⟨d, hd, rd⟩ := r.get' hx
  exact ⟨Hz1, d, hd, E, Same.refl _, rd.same s⟩
theorem walkd_tup {a : Addr} {xs : List V} {ds : List D} (h : ∀ H, Same Hz H → SqT K H a xs) (r : RpL K Hz xs ds) : WalkD K (Itt K a) Hz ds := by
  have w := walk_tup (K := K) (a := a) (xs := xs)
  refine ⟨fun i H hi s => w.goes i H (by rw [r.length]; exact hi) (h H s), fun H s => by rw [← r.length]; exact w.stops H (h H s), fun T F Hz1 H σ ρ i x H' E s hi y => ?_⟩
  obtain ⟨e, hx⟩ := w.yields i H x H' (by rw [r.length]; exact hi) (h H (s.trans E.ext)) y
  subst e
  obtain ⟨d, hd, rd⟩ := r.get' hx
  exact ⟨Hz1, d, hd, E, Same.refl _, rd.same s⟩
def signs (z : Str) : List D := z.cps.toList.map fun c => .str ⟨#[c]⟩
theorem walkd_str {z : Str} : WalkD K (Its z) Hz (signs z) := by
  have hl : (signs z).length = z.cps.size := by unfold signs; rw [List.length_map, Array.length_toList]
  refine ⟨fun i H hi s => by rw [hl] at hi; exact hi, fun H s => by rw [hl]; exact Nat.le_refl _, fun T F Hz1 H σ ρ i x H' E s hi y => ?_⟩
  obtain ⟨e, c, hc, rfl⟩ := y
  subst e
  refine ⟨Hz1, .str ⟨#[c]⟩, ?_, E, Same.refl _, .str _⟩
  unfold signs
  rw [List.getElem?_map, Array.getElem?_toList, hc]
  rfl
def rng (lo : Int) (n : Nat) : List D := (List.range n).map fun (i : Nat) => .int (lo + (i : Int))
theorem walkd_rng {lo : Int} {n : Nat} : WalkD K (Itr lo n) Hz (rng lo n) := by
  have hl : (rng lo n).length = n := by unfold rng; rw [List.length_map, List.length_range]
  refine ⟨fun i H hi s => by rw [hl] at hi; exact hi, fun H s => by rw [hl]; exact Nat.le_refl _, fun T F Hz1 H σ ρ i x H' E s hi y => ?_⟩
  rw [hl] at hi
  obtain ⟨e, rfl⟩ := y
  subst e
  refine ⟨Hz1, .int (lo + i), ?_, E, Same.refl _, .int _⟩
  unfold rng
  rw [List.getElem?_map, List.getElem?_range hi]
  rfl
/-- pairs that are made turn by turn -/
theorem walkd_pair {J : It} {n : Nat} {G : Hp → Prop} {f g : Nat → Option V} {ds : List D} (w : Walk J n G (YPair f g)) (hn : ds.length = n) (hG : ∀ H, Same Hz H → G H)
    (hd : ∀ i x y, i < n → f i = some x → g i = some y → ∃ a b, ds[i]? = some (.tup [a, b]) ∧ Rp K Hz x a ∧ Rp K Hz y b) : WalkD K J Hz ds := by
  subst hn
  refine ⟨fun i H hi s => w.goes i H hi (hG H s), fun H s => w.stops H (hG H s), fun T F Hz1 H σ ρ i x H' E s hi y => ?_⟩
  obtain ⟨t, u, v, rfl, ht, rfl, hu, hv⟩ := w.yields i H x H' hi (hG H (s.trans E.ext)) y
  obtain ⟨a, b, e, ra, rb⟩ := hd i u v hi hu hv
  have s1 : Same Hz1 (upd Hz1 t (.tup [u, v])) := same_new (E.fresh ht).1
  exact ⟨_, _, e, E.new ht (fun _ z => by cases z), s1, .tup (.inl upd_same) (.cons ((ra.same s).same s1) (.cons ((rb.same s).same s1) .nil))⟩
def enumD : Nat → List D → List D
  | _, [] => []
  | n, d :: l => .tup [.int n, d] :: enumD (n + 1) l
theorem enumD_get : ∀ {l : List D} {n i : Nat} {d : D}, l[i]? = some d → (enumD n l)[i]? = some (.tup [.int ((n + i : Nat) : Int), d])
  | [], _, _, _, e => by simp at e
  | x :: l, n, 0, d, e => by cases e; rfl
  | x :: l, n, i + 1, d, e => by
    have := enumD_get (l := l) (n := n + 1) (i := i) (d := d) (by simpa using e)
    rw [show n + (i + 1) = n + 1 + i by omega]
    simpa [enumD] using this
theorem enumD_length : ∀ (l : List D) (n : Nat), (enumD n l).length = l.length
  | [], _ => rfl
  | _ :: l, n => congrArg Nat.succ (enumD_length l (n + 1))
end
def gIter (d : D) : M (List D) := fun ρ => match d with
  | .lst l => .ok l ρ
  | .tup l => .ok l ρ
  | .fz l => .ok l ρ
  | .str z => .ok (signs z) ρ
  | _ => .fault
section
variable {X : Cx} {T : List (Addr × Str)} {E : XK} {tg e e2 : Expr} {es : List Expr} {ge : M D} {gs : M (List D)} {pos p tpos : Pos} {elts : List Expr} {kk : Nat}
/-- for .. in a value -/
theorem i_val (h : DE X T E e ge) : DI X T E tg e (gBind ge gIter) := by
  obtain ⟨t, h1, h2⟩ := h
  refine ⟨_, pi_or (pi_list h1) (pi_or (pi_tup h1) (pi_str h1)), fun F Hz H σ ρ Q E0 q => ?_⟩
  unfold gBind at q
  cases eg : ge ρ with
  | exc z ρ' =>
    rw [eg] at q
    refine .inl (h2 F Hz H σ ρ _ E0 ?_)
    rw [eg]
    exact q
  | fault => rw [eg] at q; exact q.elim
  | ok d ρ' =>
    rw [eg] at q
    have q : Okx (RI X.K) X.K T E F Hz σ Q (gIter d ρ') := q
    cases d with
    | lst l =>
      refine .inl (h2 F Hz H σ ρ _ E0 ?_)
      rw [eg]
      intro x Hz' H' E1 s r
      cases r with
      | lst a1 r1 => exact ⟨_, rfl, ⟨_, .of (E1.ext _ _ a1)⟩, q _ Hz' H' E1 s (walkd_list (fun H s => .of (s _ _ a1)) r1)⟩
    | tup l =>
      refine .inr (.inl (h2 F Hz H σ ρ _ E0 ?_))
      rw [eg]
      intro x Hz' H' E1 s r
      cases r with
      | tup a1 r1 => exact ⟨_, rfl, ⟨_, (tp_same E1.ext a1).sq⟩, q _ Hz' H' E1 s (walkd_tup (fun H s => (tp_same s a1).sq) r1)⟩
    | fz l =>
      refine .inl (h2 F Hz H σ ρ _ E0 ?_)
      rw [eg]
      intro x Hz' H' E1 s r
      cases r with
      | fz a1 r1 => exact ⟨_, rfl, ⟨_, .inl (.inr ⟨_, E1.ext _ _ a1⟩)⟩, q _ Hz' H' E1 s (walkd_list (fun H s => .inl (.inr ⟨_, s _ _ a1⟩)) r1)⟩
    | str z =>
      refine .inr (.inr (h2 F Hz H σ ρ _ E0 ?_))
      rw [eg]
      intro x Hz' H' E1 s r
      cases r
      exact ⟨_, rfl, q _ Hz' H' E1 s walkd_str⟩
    | _ => exact q.elim
def okI (j : Int) : Bool := decide (-1000000 ≤ j ∧ j ≤ 1000000)
theorem okI_ok {j : Int} (h : okI j = true) : -1000000 ≤ j ∧ j ≤ 1000000 := of_decide_eq_true h
def gRange1 (ds : List D) : M (List D) := fun ρ => match ds with
  | [.int j] => if okI j = true then .ok (rng 0 j.toNat) ρ else .fault
  | _ => .fault
theorem i_range1 (hm : X.mg "range" = none) (ha : DA X T E [e] gs) (hg : Gl X "range" := by rfl) (hs : starEach [e] X.env = [(false, eval e X.env)] := by rfl) : DI X T E tg (.Call (.Name "range" p) [e] [] pos) (gBind gs gRange1) := by
  obtain ⟨t, a1, a2⟩ := ha
  refine ⟨_, pi_range1 hg hm a1 hs, fun F Hz H σ ρ Q E0 q => a2.step E0 q fun vs ds ρ1 Hz1 H1 E1 s r q => ?_⟩
  unfold gRange1 at q
  split at q
  · split at q
    · rename_i hb
      obtain ⟨v, rfl, r1⟩ := r.one
      cases r1
      have hb := okI_ok hb
      exact ⟨_, rfl, by omega, by omega, q _ Hz1 H1 E1 (Same.refl _) walkd_rng⟩
    · exact q.elim
  · exact q.elim
def gEnum (ds : List D) : M (List D) := fun ρ => match ds with
  | [.lst l] => .ok (enumD 0 l) ρ
  | [.tup l] => .ok (enumD 0 l) ρ
  | [.fz l] => .ok (enumD 0 l) ρ
  | [.str z] => .ok (enumD 0 (signs z)) ρ
  | _ => .fault
theorem i_enum (hm : X.mg "enumerate" = none) (ha : DA X T E [e] gs) (hg : Gl X "enumerate" := by rfl) (hs : starEach [e] X.env = [(false, eval e X.env)] := by rfl) : DI X T E (.Tuple elts kk tpos) (.Call (.Name "enumerate" p) [e] [] pos) (gBind gs gEnum) := by
  obtain ⟨t, a1, a2⟩ := ha
  refine ⟨_, pi_enumG hg hm a1 hs, fun F Hz H σ ρ Q E0 q => a2.step E0 q fun vs ds ρ1 Hz1 H1 E1 s r q => ?_⟩
  have pair : ∀ {xs : List V} {l : List D}, RpL X.K Hz1 xs l → ∀ i x y, i < xs.length → some (V.int (i : Nat)) = some x → xs[i]? = some y → ∃ a b, (enumD 0 l)[i]? = some (.tup [a, b]) ∧ Rp X.K Hz1 x a ∧ Rp X.K Hz1 y b := fun {xs l} r i x y hi ex ey => by
    cases ex
    obtain ⟨d, hd, rd⟩ := r.get' ey
    have := enumD_get (n := 0) hd
    rw [Nat.zero_add] at this
    exact ⟨_, _, this, .int _, rd⟩
  unfold gEnum at q
  split at q
  · obtain ⟨v, rfl, r1⟩ := r.one
    cases r1 with
    | lst h1 r1 => exact .inl ⟨false, _, _, rfl, .of (E1.ext _ _ h1), q _ Hz1 H1 E1 (Same.refl _) (walkd_pair (walk_enumB (b := false)) (by rw [enumD_length, r1.length]) (fun H s => .of (s _ _ h1)) (pair r1))⟩
  · obtain ⟨v, rfl, r1⟩ := r.one
    cases r1 with
    | tup h1 r1 => exact .inl ⟨true, _, _, rfl, (tp_same E1.ext h1).sq, q _ Hz1 H1 E1 (Same.refl _) (walkd_pair (walk_enumB (b := true)) (by rw [enumD_length, r1.length]) (fun H s => (tp_same s h1).sq) (pair r1))⟩
  · obtain ⟨v, rfl, r1⟩ := r.one
    cases r1 with
    | fz h1 r1 => exact .inl ⟨false, _, _, rfl, .inl (.inr ⟨_, E1.ext _ _ h1⟩), q _ Hz1 H1 E1 (Same.refl _) (walkd_pair (walk_enumB (b := false)) (by rw [enumD_length, r1.length]) (fun H s => .inl (.inr ⟨_, s _ _ h1⟩)) (pair r1))⟩
  · rename_i z
    obtain ⟨v, rfl, r1⟩ := r.one
    cases r1
    refine .inr ⟨z, rfl, q _ Hz1 H1 E1 (Same.refl _) ?_⟩
    have hl : (enumD 0 (signs z)).length = z.cps.size := by rw [enumD_length]; unfold signs; rw [List.length_map, Array.length_toList]
    refine ⟨fun i H hi s => by rw [hl] at hi; exact hi, fun H s => hl, fun T F Hz2 H σ ρ i x H' E s hi y => ?_⟩
    obtain ⟨t, c, rfl, ht, rfl, hc⟩ := y
    have s1 : Same Hz2 (upd Hz2 t (.tup [.int (i : Nat), .str ⟨#[c]⟩])) := same_new (E.fresh ht).1
    refine ⟨_, .tup [.int (i : Nat), .str ⟨#[c]⟩], ?_, E.new ht (fun _ z => by cases z), s1, .tup (.inl upd_same) (.cons (.int _) (.cons (.str _) .nil))⟩
    have hs : (signs z)[i]? = some (.str ⟨#[c]⟩) := by
      unfold signs
      rw [List.getElem?_map, Array.getElem?_toList, hc]
      rfl
    have := enumD_get (n := 0) hs
    rw [Nat.zero_add] at this
    exact this
  · exact q.elim
def items (d : D) : Option (Bool × List D) := match d with
  | .lst l => some (false, l)
  | .tup l => some (true, l)
  | .fz l => some (false, l)
  | _ => none
end
end PL
namespace PL
open PySem PySem.Spec PySem.Calls PyProof.Rows L2 He CT
inductive BRes where
  | ok (self : D) (r : D) | exc (e : Exc) (self : D) | fault
abbrev FnB := D → List D → BRes
def PostB (K : PySem.W.Frag) (Hz H : Hp) (a : Addr) (Q : VK) (E : XK) : BRes → Prop
  | .ok d' r => ∀ v Hz' H', NT Hz' → Same Hz Hz' → Same Hz' H' → (∀ b o, b ≠ a → H b = some o → H' b = some o) → (∀ b o, H b = some o → Hz b = none → HzN Hz' b o) → Top K Hz' H' a d' → Rp K Hz' v r → Q v H'
  | .exc e d' => ∀ cls dd Hz' H', NT Hz' → Same Hz Hz' → Same Hz' H' → (∀ b o, b ≠ a → H b = some o → H' b = some o) → (∀ b o, H b = some o → Hz b = none → HzN Hz' b o) → Top K Hz' H' a d' → ExcR K Hz' H' e cls dd → E cls dd H'
  | .fault => False
/-- the promise of a def that changes its first argument alone: n others -/
def spB (K : PySem.W.Frag) (n : Nat) (f : FnB) : Sp := fun vs H Q E => ∃ Hz a d0 us ds, vs = .ref a :: us ∧ NT Hz ∧ Same Hz H ∧ Hz a = none ∧ Top K Hz H a d0 ∧ RpL K Hz us ds ∧ ds.length = n ∧ PostB K Hz H a Q E (f d0 ds)
def finB : Out → BRes
  | .nx ρ => match ρ[0]? with
    | some (some (true, d)) => .ok d .non
    | _ => .fault
  | .rt _ r ρ => match ρ[0]? with
    | some (some (true, d)) => .ok d r
    | _ => .fault
  | .exc e ρ => match ρ[0]? with
    | some (some (true, d)) => .exc e d
    | _ => .fault
  | _ => .fault
def slotsB (N : List Str) (d0 : D) (ds : List D) : List Slot := some (true, d0) :: (ds.map (fun d => some (false, d)) ++ List.replicate (N.length - (ds.length + 1)) none)
def runB (N : List Str) (g : G) : FnB := fun d0 ds => finB (g (slotsB N d0 ds))
def frmB (Hz H : Hp) (a : Addr) : Frm := ⟨fun b => if b = a then none else if Hz b = none then H b else none, some a⟩
theorem frmB_of {Hz H : Hp} {a b : Addr} {o : HO} (n : b ≠ a) (h : H b = some o) (e : Hz b = none) : (frmB Hz H a).f b = some o := by
  unfold frmB
  simp only
  rw [if_neg n, if_pos e]
  exact h
theorem frmB_some {Hz H : Hp} {a b : Addr} {o : HO} (h : (frmB Hz H a).f b = some o) : b ≠ a ∧ H b = some o ∧ Hz b = none := by
  unfold frmB at h
  simp only at h
  split at h
  · cases h
  · rename_i n
    split at h
    · rename_i e
      exact ⟨n, h, e⟩
    · cases h
theorem envB {K : PySem.W.Frag} {N : List Str} {Hz H : Hp} {a : Addr} {d0 : D} {us : List V} {ds : List D} (nt : NT Hz) (s : Same Hz H) (hz : Hz a = none) (ht : Top K Hz H a d0) (r : RpL K Hz us ds) : EnvR K [] (frmB Hz H a) Hz H (L2.start N (.ref a :: us)) (slotsB N d0 ds) := by
  have get : ∀ {i : Nat} {b : Bool} {d : D}, (slotsB N d0 ds)[i + 1]? = some (some (b, d)) → b = false ∧ ds[i]? = some d := fun {i b d} e => by
    unfold slotsB at e
    rw [List.getElem?_cons_succ] at e
    by_cases hi : i < ds.length
    · rw [List.getElem?_append_left (by rw [List.length_map]; exact hi), List.getElem?_map, List.getElem?_eq_getElem hi] at e
      simp at e
      rw [List.getElem?_eq_getElem hi, e.2]
      exact ⟨e.1, rfl⟩
    · rw [List.getElem?_append_right (by rw [List.length_map]; omega), List.getElem?_replicate] at e
      split at e <;> simp at e
  have st : ∀ i : Nat, (L2.start N (.ref a :: us))[i + 1]? = (us.map some ++ List.replicate (N.length - (us.length + 1)) none)[i]? := fun i => by
    unfold L2.start
    rw [List.map_cons, List.cons_append, List.getElem?_cons_succ, List.length_cons]
  refine ⟨?_, s, fun b o e => ⟨(frmB_some e).2.1, .inl (frmB_some e).2.2⟩, fun p hp => (nomatch hp), fun p hp => (nomatch hp), fun i d e => ?_, fun i d e => ?_, fun i j d e b hij h1 h2 h3 => ?_, .inl rfl, nt, fun b d e _ => ?_⟩
  · unfold L2.start slotsB
    simp only [List.length_append, List.length_cons, List.length_map, List.length_replicate, r.length]
    omega
  · cases i with
    | zero => cases e
    | succ i =>
      obtain ⟨_, e⟩ := get e
      obtain ⟨v, h1, h2⟩ := r.get e
      refine ⟨v, ?_, h2⟩
      rw [st, List.getElem?_append_left (by rw [List.length_map]; exact (List.getElem?_eq_some_iff.mp h1).1), List.getElem?_map, h1]
      rfl
  · cases i with
    | zero =>
      cases e
      refine ⟨a, rfl, hz, ?_, ht⟩
      unfold frmB
      simp only [if_true]
    | succ i => exact nomatch (get e).1
  · cases i with
    | zero =>
      cases j with
      | zero => exact absurd rfl hij
      | succ j => exact nomatch (get h2).1
    | succ i => exact nomatch (get h1).1
  · cases e
    rfl
theorem keyB {K : PySem.W.Frag} {Hz H Hz' H' : Hp} {a : Addr} {σ : L2.St} {ρ : List Slot} {d : D} (s0 : Same Hz H) (E0 : EnvR K [] (frmB Hz H a) Hz' H' σ ρ) (s : Same Hz Hz') (e : ρ[0]? = some (some (true, d))) :
    (∀ b o, b ≠ a → H b = some o → H' b = some o) ∧ (∀ b o, H b = some o → Hz b = none → HzN Hz' b o) ∧ Top K Hz' H' a d := by
  have hp := E0.pn a d rfl e
  obtain ⟨a', h1, h2, h3, h4⟩ := E0.ow 0 d e
  rw [hp] at h1
  cases h1
  refine ⟨fun b o hb ho => ?_, fun b o ho hz => ?_, h4⟩
  · rcases q : Hz b with _ | u
    · exact (E0.fr b o (frmB_of hb ho q)).1
    · have q2 := s0 _ _ q
      rw [ho] at q2
      cases q2
      exact E0.ext _ _ (s _ _ q)
  · by_cases hb : b = a
    · subst hb
      exact .inl h2
    · exact (E0.fr b o (frmB_of hb ho hz)).2
theorem post_B {K : PySem.W.Frag} {Hz H : Hp} {a : Addr} {Q : VK} {E : XK} (s0 : Same Hz H) : ∀ {o : Out}, PostB K Hz H a Q E (finB o) → Oks K [] E (frmB Hz H a) Hz { nx := fun _ H' => Q .non H', rt := Q } o
  | .nx ρ, h => fun σ Hz' H' E0 s => by
    unfold finB at h
    simp only at h
    split at h
    · rename_i d e
      obtain ⟨k1, k2, k3⟩ := keyB s0 E0 s e
      exact h .non Hz' H' E0.nt s E0.ext k1 k2 k3 .non
    · exact h.elim
  | .rt false r ρ, h => fun v σ Hz' H' E0 s rv => by
    unfold finB at h
    simp only at h
    split at h
    · rename_i d e
      obtain ⟨k1, k2, k3⟩ := keyB s0 E0 s e
      exact h v Hz' H' E0.nt s E0.ext k1 k2 k3 rv
    · exact h.elim
  | .rt true r ρ, h => fun v σ Hz' H' E0 s rv ns => by
    unfold finB at h
    simp only at h
    split at h
    · rename_i d e
      obtain ⟨Hz2, E2, q2, r2⟩ := rv.join E0 ns
      obtain ⟨k1, k2, k3⟩ := keyB s0 E2 (s.trans q2) e
      exact h _ Hz2 H' E2.nt (s.trans q2) E2.ext k1 k2 k3 r2
    · exact h.elim
  | .exc x ρ, h => fun σ cls dd Hz' H' E0 s rv => by
    unfold finB at h
    simp only at h
    split at h
    · rename_i d e
      obtain ⟨k1, k2, k3⟩ := keyB s0 E0 s e
      exact h cls dd Hz' H' E0.nt s E0.ext k1 k2 k3 rv
    · exact h.elim
  | .bk _, h => h.elim
  | .ct _, h => h.elim
  | .fault, h => h.elim
section
variable {P : Program} {w : World} {K : PySem.W.Frag} {mg : Str → Option Value} {base : Heap} {n : Str} {st : Stmt} {N ps : List Str} {k : Nat} {g : G} {m : Nat}
theorem okB (D : Dn K mg n st []) (S : FnScope N ps (defScope st)) (bind : ∀ (kV doc pm : Value) (an : Option Addr) (cdv ct : Value) (us : List Value), us.length = ps.length → bindArgs (PySem.W.fnOf n n (defArgs st) (defBody st) (defScope st) .none kV doc pm an cdv ct) ⟨us, []⟩ = pure (ps.zip us))
    (hm : ps.length = m + 1) (hb : ∀ (cdv : Value) (A : Around) (outer : List Env) (s : Shared) (H : Hp) (E : XK), Room k (A.deeper (envOfC n (defScope st) s.heap.objs.size (ga K n) cdv)) → DSs (cxOf (L2.CX P w) P w K mg base N n (defScope st) (ga K n) cdv A outer s H E) [] E (defBody st) g) :
    FOkX (L2.CX P w) P w K mg base (k + 1) n ps (spB K m (runB N g)) :=
  D.okX S bind (fun vs H Q E ⟨Hz, a, d0, us, ds, e, nt, s, hz, t, r, el, h⟩ => by rw [e, hm, List.length_cons, r.length, el]) fun cdv A outer s H vs Q E hr ⟨Hz, a, d0, us, ds, e, nt, sm, hz, t, r, el, h⟩ => by
    obtain ⟨t', h1, h2⟩ := hb cdv A outer s H E hr
    subst e
    exact ⟨t', h1, h2 _ _ _ _ _ _ (envB nt sm hz t r) (post_B sm h)⟩
theorem okBm {a : Addr} {qual : Str} (D : Dm K a n qual st []) (S : FnScope N ps (defScope st)) (bind : ∀ (kV doc pm : Value) (an : Option Addr) (cdv ct : Value) (us : List Value), us.length = ps.length → bindArgs (PySem.W.fnOf n qual (defArgs st) (defBody st) (defScope st) .none kV doc pm an cdv ct) ⟨us, []⟩ = pure (ps.zip us))
    (hm : ps.length = m + 1) (hb : ∀ (cdv : Value) (A : Around) (outer : List Env) (s : Shared) (H : Hp) (E : XK), Room k (A.deeper (envOfC qual (defScope st) s.heap.objs.size a cdv)) → DSs (cxOf (L2.CX P w) P w K mg base N qual (defScope st) a cdv A outer s H E) [] E (defBody st) g) :
    MOk (L2.CX P w) P w K mg base (k + 1) a ps (spB K m (runB N g)) :=
  D.okX S bind (fun vs H Q E ⟨Hz, a, d0, us, ds, e, nt, s, hz, t, r, el, h⟩ => by rw [e, hm, List.length_cons, r.length, el]) fun cdv A outer s H vs Q E hr ⟨Hz, a, d0, us, ds, e, nt, sm, hz, t, r, el, h⟩ => by
    obtain ⟨t', h1, h2⟩ := hb cdv A outer s H E hr
    subst e
    exact ⟨t', h1, h2 _ _ _ _ _ _ (envB nt sm hz t r) (post_B sm h)⟩
end
theorem tabs_upd {T : List (Addr × Str)} {H H' : Hp} {a : Addr} {o : HO} (t : LamX.Tabs T H) (ha : H a = some o) (n1 : ∀ ps, o ≠ .tbl ps) (n2 : ∀ φ, o ≠ .ext φ) (e : ∀ b u, b ≠ a → H b = some u → H' b = some u) : LamX.Tabs T H' := fun p hp => by
  obtain ⟨ps, e1, e2, e3⟩ := t p hp
  refine ⟨ps, e _ _ (tabs_ne t ha n1 p hp) e1, e2, fun pos cv hc => ?_⟩
  obtain ⟨c, e4, e5⟩ := e3 pos cv hc
  exact ⟨c, e4, e _ _ (ne_of e5 ha fun z => n2 _ z.symm) e5⟩
/-- behind a call that changed the object of slot i -/
theorem EnvR.afterB {K : PySem.W.Frag} {T : List (Addr × Str)} {F : Frm} {Hz H Hz' H' : Hp} {σ : L2.St} {ρ : List Slot} {i : Nat} {d d' : D} {a : Addr} (E : EnvR K T F Hz H σ ρ) (q : ρ[i]? = some (some (true, d))) (ha : σ[i]? = some (some (.ref a))) (nt' : NT Hz') (s : Same Hz Hz') (s1 : Same Hz' H')
    (s2 : ∀ b o, b ≠ a → H b = some o → H' b = some o) (n : ∀ b o, H b = some o → Hz b = none → HzN Hz' b o) (t : Top K Hz' H' a d') : EnvR K T F Hz' H' σ (ρ.set i (some (true, d'))) := by
  obtain ⟨a', h1, h2, h3, h4⟩ := E.ow i d q
  rw [ha] at h1
  cases h1
  obtain ⟨o0, ho, nt, ne, nu⟩ := h4.kind
  have hi := (List.getElem?_eq_some_iff.mp q).1
  have fa : ∀ b o, F.f b = some o → b ≠ a := fun b o e z => by rw [z, h3] at e; cases e
  refine ⟨by rw [List.length_set, E.len], s1, fun b o e => ⟨s2 _ _ (fa b o e) (E.fr b o e).1, (E.fr b o e).2.elim (n b o (E.fr b o e).1) .inr⟩, tabs_upd E.tb ho nt ne s2, fun p hp => ⟨by
    obtain ⟨ps, e, _⟩ := E.tb p hp
    exact (n _ _ e (E.tz p hp).1).no fun _ z => (by cases z), (E.tz p hp).2⟩, fun j e z => ?_, fun j e z => ?_, fun j k e f b hjk z1 z2 z3 => ?_, E.fl, nt', fun b e eb z => ?_⟩
  · by_cases hj : i = j
    · subst hj
      rw [List.getElem?_set_self hi] at z
      cases z
    · rw [List.getElem?_set_ne hj] at z
      obtain ⟨v, k1, k2⟩ := E.sh j e z
      exact ⟨v, k1, k2.same s⟩
  · by_cases hj : i = j
    · subst hj
      rw [List.getElem?_set_self hi] at z
      cases z
      exact ⟨a, ha, (n _ _ ho h2).no nu, h3, t⟩
    · rw [List.getElem?_set_ne hj] at z
      obtain ⟨b, k1, k2, k3, k4⟩ := E.ow j e z
      obtain ⟨ob, hb, _, _, nb⟩ := k4.kind
      refine ⟨b, k1, (n _ _ hb k2).no nb, k3, k4.keep (.same s) (fun u w => s2 _ _ ?_ w)⟩
      exact fun y => E.dis i j d e a hj q z ha (by rw [k1, y])
  · have src : ∀ {j : Nat} {f : D}, (ρ.set i (some (true, d')))[j]? = some (some (true, f)) → ∃ g, ρ[j]? = some (some (true, g)) := fun {j f} z => by
      by_cases hj : i = j
      · subst hj
        exact ⟨d, q⟩
      · rw [List.getElem?_set_ne hj] at z
        exact ⟨f, z⟩
    obtain ⟨f', z1⟩ := src z1
    obtain ⟨g', z2⟩ := src z2
    exact E.dis j k f' g' b hjk z1 z2 z3
  · by_cases h0 : i = 0
    · subst h0
      exact E.pn b d eb q
    · rw [List.getElem?_set_ne h0] at z
      exact E.pn b e eb z
def owned (ρ : List Slot) (i : Nat) : Option D := match ρ[i]? with
  | some (some (true, d)) => some d
  | _ => none
theorem owned_some {ρ : List Slot} {i : Nat} {d : D} (h : owned ρ i = some d) : ρ[i]? = some (some (true, d)) := by
  unfold owned at h
  split at h
  · rename_i q
    cases h
    exact q
  · cases h
def gB1 (i n : Nat) (f : FnB) (gs : M (List D)) : M D := fun ρ => match owned ρ i with
  | none => .fault
  | some _ => (gs ρ).bind fun ds ρ => if ds.length = n then (match owned ρ i with
    | none => .fault
    | some d => match f d ds with
      | .ok d' r => .ok r (ρ.set i (some (true, d')))
      | .exc e d' => .exc e (ρ.set i (some (true, d')))
      | .fault => .fault) else .fault
section
variable {X : Cx} {T : List (Addr × Str)} {E : XK} {n x : Str} {ps : List Str} {m k : Nat} {f : FnB} {p p2 pos : Pos} {e : Expr} {es : List Expr} {gs : M (List D)} {i : Nat}
theorem run_spB {K : PySem.W.Frag} {F : Frm} {Hz H : Hp} {σ : L2.St} {ρ : List Slot} {Q : VK} {a : Addr} {d : D} {us : List V} {ds : List D} (E0 : EnvR K T F Hz H σ ρ) (q : ρ[i]? = some (some (true, d))) (ha : σ[i]? = some (some (.ref a))) (r : RpL K Hz us ds) (hn : ds.length = m)
    (h : Okx (RD K) K T E F Hz σ Q (match f d ds with
      | .ok d' r => .ok r (ρ.set i (some (true, d')))
      | .exc e d' => .exc e (ρ.set i (some (true, d')))
      | .fault => .fault)) : spB K m f (.ref a :: us) H Q E := by
  obtain ⟨a', h1, h2, h3, h4⟩ := E0.ow i d q
  rw [ha] at h1
  cases h1
  refine ⟨Hz, a, d, us, ds, rfl, E0.nt, E0.ext, h2, h4, r, hn, ?_⟩
  cases ef : f d ds with
  | ok d' r' =>
    rw [ef] at h
    exact fun v Hz' H' nt s1 s2 s3 nn t r2 => h v Hz' H' (E0.afterB q ha nt s1 s2 s3 nn t) s1 r2
  | exc x d' =>
    rw [ef] at h
    exact fun cls dd Hz' H' nt s1 s2 s3 nn t r2 => h cls dd Hz' H' (E0.afterB q ha nt s1 s2 s3 nn t) s1 r2
  | fault => rw [ef] at h; exact h.elim
theorem lift_B1 {K : PySem.W.Frag} {t : TA} (ht : LiftA K T E t gs) : LiftD K T E (tCall (spB K m f) [] E (tCons (tVar i) t)) (gB1 i m f gs) := by
  intro F Hz H σ ρ Q E0 h
  unfold gB1 at h
  cases e0 : owned ρ i with
  | none => rw [e0] at h; exact h.elim
  | some d0 =>
    rw [e0] at h
    obtain ⟨a, ha, _⟩ := E0.ow i d0 (owned_some e0)
    refine ⟨_, ha, ht.step E0 h fun us ds ρ1 Hz1 H1 E1 s r q => ?_⟩
    by_cases hn : ds.length = m
    · rw [if_pos hn] at q
      cases e1 : owned ρ1 i with
      | none => rw [e1] at q; exact q.elim
      | some d =>
        rw [e1] at q
        rw [List.append_nil]
        exact run_spB E1 (owned_some e1) ha r hn q
    · rw [if_neg hn] at q
      exact q.elim
theorem d_callB1 {CX : CXT} (F : FOkX CX X.prog X.w X.K X.mg X.base k n ps (spB X.K m f)) (hx : Passes CX X E) (hr : Room k X.A) (ha : DA X T E es gs) (hN : X.N[i]? = some x := by rfl) (hv : Vis X.env.scope x := by first | exact Or.inl rfl | exact Or.inr (Or.inl rfl) | exact Or.inr (Or.inr rfl)) (hd : (x == ("__debug__" : Str)) = false := by decide)
    (hcd : (x == ("__classdict__" : Str)) = false := by decide) (hg : Gl X n := by rfl) (hdb : (n == ("__debug__" : Str)) = false := by decide)
    (he : starEach (.Name x p2 :: es) X.env = (false, eval (.Name x p2) X.env) :: starEach es X.env := by rfl) (hpl : (backTo pos (starEach es X.env)).any (·.1) = false := by rfl) : DE X T E (.Call (.Name n p) (.Name x p2 :: es) [] pos) (gB1 i m f gs) := by
  obtain ⟨t, a1, a2⟩ := ha
  exact ⟨_, pe_callE F hx hr (pa_cons (pv i hN hv hd hcd) a1 he) hg hdb he hpl, lift_B1 a2⟩
end
end PL
namespace PL
open PySem PySem.Spec PySem.Calls PyProof.Rows L2 He CT
section
variable {X : Cx} {T : List (Addr × Str)} {E : XK} {n x : Str} {ps : List Str} {m k : Nat} {f : FnB} {p p2 pos : Pos} {e a b : Expr} {es : List Expr} {gs : M (List D)} {ga gb : M D} {i j : Nat}
/-- C(..) -/
def gMake (cn : Str) (m : Nat) (f : FnB) (gs : M (List D)) : M D := gBind gs fun ds ρ => if ds.length = m then (match f (.own cn []) ds with
  | .ok d' .non => .ok d' ρ
  | .exc e _ => .exc e ρ
  | _ => .fault) else .fault
theorem lift_make {K : PySem.W.Frag} {cn : Str} {t : TA} (ht : LiftA K T E t gs) : LiftO K T E (tMake (He.ga K cn) (spB K m f) [] E t) (gMake cn m f gs) := by
  intro F Hz H σ ρ Q E0 h
  refine ht.stepO E0 h fun us ds ρ1 Hz1 H1 E1 s r q => ?_
  by_cases hn : ds.length = m
  · rw [if_pos hn] at q
    intro y dx hy hdx hne
    rw [List.append_nil]
    have sA : Same H1 (upd H1 dx (.own y)) := same_new hdx
    have hyA : upd H1 dx (.own y) y = none := by rw [upd_ne (Ne.symm hne)]; exact hy
    have sB : Same H1 (upd (upd H1 dx (.own y)) y (.ins (He.ga K cn) dx [])) := sA.trans (same_new hyA)
    obtain ⟨f1, f2, f3⟩ := E1.fresh hy
    refine ⟨Hz1, y, .own cn [], us, ds, rfl, E1.nt, E1.ext.trans sB, f1, ⟨dx, [], upd_same, rfl, .nil⟩, r, hn, ?_⟩
    have EB := E1.grow sB
    have after : ∀ {Hz' H'}, NT Hz' → Same Hz1 Hz' → Same Hz' H' → (∀ b o, b ≠ y → upd (upd H1 dx (.own y)) y (.ins (He.ga K cn) dx []) b = some o → H' b = some o) → (∀ b o, upd (upd H1 dx (.own y)) y (.ins (He.ga K cn) dx []) b = some o → Hz1 b = none → HzN Hz' b o) → EnvR K T F Hz' H' σ ρ1 ∧ Hz' y = none ∧ NoSlot σ ρ1 y := fun {Hz' H'} nt s1 s2 s3 nn => by
      refine ⟨E1.after nt s1 s2 (fun b o e => s3 b o (ne_of_none e hy) (sB _ _ e)) (fun b o e z => nn b o (sB _ _ e) z), (nn y _ upd_same f1).no (fun _ z => by cases z), f3⟩
    cases ef : f (.own cn []) ds with
    | ok d' r' =>
      rw [ef] at q
      intro v Hz' H' nt s1 s2 s3 nn t r2
      obtain ⟨A1, A2, A3⟩ := after nt s1 s2 s3 nn
      cases r' with
      | non =>
        cases r2
        exact ⟨rfl, q y Hz' H' A1 s1 ⟨A2, f2, t⟩ A3⟩
      | _ => exact q.elim
    | exc x d' =>
      rw [ef] at q
      intro cls dd Hz' H' nt s1 s2 s3 nn t r2
      obtain ⟨A1, A2, A3⟩ := after nt s1 s2 s3 nn
      exact q cls dd Hz' H' A1 s1 r2
    | fault => rw [ef] at q; exact q.elim
  · rw [if_neg hn] at q
    exact q.elim
theorem d_make {CX : CXT} {cn : Str} {g : Addr} (Mk' : Mk X.K (He.ga X.K cn) g) (F : MOk CX X.prog X.w X.K X.mg X.base k g ps (spB X.K m f)) (hx : Passes CX X E) (hr : Room (k + 1) X.A) (hm : X.mg cn = some (.ref (He.ga X.K cn))) (ha : DA X T E (e :: es) gs) (hg : Gl X cn := by rfl) (hdb : (cn == ("__debug__" : Str)) = false := by decide)
    (he : starEach (e :: es) X.env = (false, eval e X.env) :: starEach es X.env := by rfl) (hpl : (backTo pos (starEach es X.env)).any (·.1) = false := by rfl) : DO X T E (.Call (.Name cn p) (e :: es) [] pos) (gMake cn m f gs) := by
  obtain ⟨t, a1, a2⟩ := ha
  exact ⟨_, pe_makeM Mk' F hx hr hm a1 hg hdb he hpl, lift_make a2⟩
/-- x.append(e) -/
def gApp (i : Nat) (ge : M D) : M D := fun ρ => match owned ρ i with
  | some (.lst _) => (ge ρ).bind fun d ρ => match owned ρ i with
    | some (.lst l) => if lim (l.length + 1) = true then .ok .non (ρ.set i (some (true, .lst (l ++ [d])))) else .fault
    | _ => .fault
  | _ => .fault
/-- x[e] = .. -/
def setIxR (i : Nat) (d : D) (k : D) : M Unit := fun ρ => match owned ρ i with
  | some (.lst l) => match k with
    | .int j => match ixN l.length j with
      | some q => .ok () (ρ.set i (some (true, .lst (l.set q d))))
      | none => .fault
    | _ => .fault
  | some (.dT l) => match k with
    | .tup ks => match keysOf ks with
      | some q => if lim (l.length + 1) = true then .ok () (ρ.set i (some (true, .dT (putT l q d)))) else .fault
      | none => .fault
    | _ => .fault
  | some (.dK l) => match keyOf k with
    | some q => if lim (l.length + 1) = true then .ok () (ρ.set i (some (true, .dK (putT l q d)))) else .fault
    | none => .fault
  | _ => .fault
theorem pset_or {X : Cx} {t t' : TSet} (h : PSet X t) (h' : PSet X t') : PSet X (fun o i v H Q => t o i v H Q ∨ t' o i v H Q) := by
  intro pins s σ H o i v ov iv u Q I ro ri rv q
  rcases q with q | q
  · exact h pins s σ H o i v ov iv u Q I ro ri rv q
  · exact h' pins s σ H o i v ov iv u Q I ro ri rv q
def gSetIx (i : Nat) (gi : M D) : D → M Unit := fun d ρ => match owned ρ i with
  | some _ => (gi ρ).bind fun k => setIxR i d k
  | _ => .fault
theorem g_setIx (hu : X.A.units + 1 < cLine) (hb : DE X T E e gb) (hN : X.N[i]? = some x := by rfl) (hv : Vis X.env.scope x := by first | exact Or.inl rfl | exact Or.inr (Or.inl rfl) | exact Or.inr (Or.inr rfl)) (hd : (x == ("__debug__" : Str)) = false := by decide) (hcd : (x == ("__classdict__" : Str)) = false := by decide)
    (ha : ∀ v, assign (.Subscript (.Name x p) e pos) X.env v = (do
      let ov ← holding [v] (eval (.Name x p) X.env)
      let iv ← holding [v, ov] (eval e X.env)
      standAt pos
      holding [v, ov, iv] (setItem ov iv v)
      release [v, ov, iv] []) := by intro _; rfl) : DG X T E (.Subscript (.Name x p) e pos) (gSetIx i gb) := by
  obtain ⟨t, b1, b2⟩ := hb
  refine ⟨_, pg_sub (pv i hN hv hd hcd) b1 (pset_or set_list (set_dict hu)) ha, fun F Hz H σ ρ v d Q E0 rv h => ?_⟩
  unfold gSetIx at h
  split at h
  · rename_i l0 e0
    obtain ⟨a, ha, _, _, ht⟩ := E0.ow i _ (owned_some e0)
    refine ⟨_, ha, ?_⟩
    refine b2 F Hz H σ ρ _ E0 ?_
    cases eb : gb ρ with
    | fault => rw [eb] at h; exact h.elim
    | exc z ρ' => rw [eb] at h; exact fun cls dd Hz' H' E' s' r' => h σ cls dd Hz' H' E' s' r'
    | ok kd ρ1 =>
      rw [eb] at h
      intro u Hz1 H1 E1 s ru
      have h := h.mono s
      have h : Okg X.K T E F Hz1 Q (setIxR i d kd ρ1) := h
      unfold setIxR at h
      split at h
      · rename_i l e1
        split at h
        · split at h
          · rename_i q eq
            cases ru
            obtain ⟨a', ha', hz, hf, xs, hx, rx⟩ := E1.ow i _ (owned_some e1)
            rw [ha] at ha'
            cases ha'
            refine .inl ⟨_, _, _, q, rfl, rfl, hx, by rw [rx.length]; exact eq, ?_⟩
            exact h σ Hz1 _ (E1.write (owned_some e1) ha (fun _ z => by cases z) ⟨_, upd_same, rx.set (rv.same s) q⟩) (Same.refl _)
          · exact h.elim
        · exact h.elim
      · rename_i l e1
        split at h
        · split at h
          · rename_i q eq
            split at h
            · rename_i hl
              cases ru with
              | tup hk rk =>
                have ev := keysOf_rp eq rk
                subst ev
                obtain ⟨a', ha', hz, hf, kvs, hx, rx1, rx2⟩ := E1.ow i _ (owned_some e1)
                rw [ha] at ha'
                cases ha'
                have re := RpE.of rx1 rx2
                have rp := re.put q (rv.same s)
                refine .inr ⟨a, _, rfl, .inr ⟨kvs, q, _, hx, rfl, E1.ext _ _ (hk.elim id False.elim), by rw [re.len]; exact lim_slt hl, rfl⟩, ?_⟩
                exact h σ Hz1 _ (E1.write (owned_some e1) ha (fun _ z => by cases z) ⟨_, upd_same, rp.fst, rp.snd⟩) (Same.refl _)
            · exact h.elim
          · exact h.elim
        · exact h.elim
      · rename_i l e1
        split at h
        · rename_i q eq
          split at h
          · rename_i hl
            have ev := keyOf_rp eq ru
            subst ev
            obtain ⟨a', ha', hz, hf, kvs, hx, rx1, rx2⟩ := E1.ow i _ (owned_some e1)
            rw [ha] at ha'
            cases ha'
            have re := RpE.of rx1 rx2
            have rp := re.put q (rv.same s)
            refine .inr ⟨a, _, rfl, .inl ⟨kvs, q, hx, rfl, by rw [re.len]; exact lim_slt hl, rfl⟩, ?_⟩
            exact h σ Hz1 _ (E1.write (owned_some e1) ha (fun _ z => by cases z) ⟨_, upd_same, rp.fst, rp.snd⟩) (Same.refl _)
          · exact h.elim
        · exact h.elim
      · exact h.elim
  · exact h.elim
/-- x.f = e, x an object of ours -/
def putD (f : Str) (d : D) : List (Str × D) → List (Str × D)
  | [] => [(f, d)]
  | (g, x) :: r => if g = f then (g, d) :: r else (g, x) :: putD f d r
theorem putD_keys {f : Str} {d : D} {v : V} : ∀ {l : List (Str × D)} {m : List (Str × V)}, m.map Prod.fst = l.map Prod.fst → (putF f v m).map Prod.fst = (putD f d l).map Prod.fst
  | [], [], _ => rfl
  | [], _ :: _, h => by cases h
  | _ :: _, [], h => by cases h
  | (k, u) :: l, (j, w) :: m, h => by
    simp only [List.map_cons, List.cons.injEq] at h
    obtain ⟨rfl, h⟩ := h
    unfold putF putD
    split
    · simp [h]
    · rw [List.map_cons, List.map_cons, putD_keys h]
theorem putD_rp {K : PySem.W.Frag} {H : Hp} {f : Str} {d : D} {v : V} (r : Rp K H v d) : ∀ {l : List (Str × D)} {m : List (Str × V)}, m.map Prod.fst = l.map Prod.fst → RpL K H (m.map Prod.snd) (l.map Prod.snd) → RpL K H ((putF f v m).map Prod.snd) ((putD f d l).map Prod.snd)
  | [], [], _, _ => .cons r .nil
  | [], _ :: _, h, _ => by cases h
  | _ :: _, [], h, _ => by cases h
  | (k, u) :: l, (j, w) :: m, h, q => by
    simp only [List.map_cons, List.cons.injEq] at h
    obtain ⟨rfl, h⟩ := h
    cases q with
    | cons q1 q2 =>
      unfold putF putD
      split
      · exact .cons r q2
      · exact .cons q1 (putD_rp r h q2)
def gSetF (cn f : Str) (i : Nat) (ge : M D) : G := gThen ge fun d ρ => match owned ρ i with
  | some (.own c l) => if c = cn ∧ l.length < 1000 then .nx (ρ.set i (some (true, .own c (putD f d l)))) else .fault
  | _ => .fault
theorem s_setF {cn f : Str} {pos' : Pos} (C : Cls X.K (He.ga X.K cn)) (na : NoAttr X.K (He.ga X.K cn) f) (hb : DE X T E e gb) (hs : swapsWith e (some (.Attribute (.Name x p) f pos')) pos.line X.env = pure false := by rfl) (hN : X.N[i]? = some x := by rfl) (hv : Vis X.env.scope x := by first | exact Or.inl rfl | exact Or.inr (Or.inl rfl) | exact Or.inr (Or.inr rfl))
    (hd : (x == ("__debug__" : Str)) = false := by decide) (hcd : (x == ("__classdict__" : Str)) = false := by decide) : DS X T E (.Assign [.Attribute (.Name x p) f pos'] e pos) (gSetF cn f i gb) := by
  obtain ⟨t, b1, b2⟩ := hb
  refine ⟨_, L2.ps_fld (pv i hN hv hd hcd) b1 hs, fun F Hz H σ ρ W E0 h => b2.stepS E0 h fun v d ρ1 Hz1 H1 E1 s r q => ?_⟩
  split at q
  · rename_i c l e1
    split at q
    · rename_i hc
      obtain ⟨rfl, hl⟩ := hc
      obtain ⟨a, ha, hz, hf, dx, fs, hx, hk, rx⟩ := E1.ow i _ (owned_some e1)
      have hlen : fs.length = l.length := by simpa using congrArg List.length hk
      exact ⟨_, ha, _, _, _, _, rfl, hx, C, na, by rw [hlen]; exact hl, q σ Hz1 _ (E1.write (owned_some e1) ha (fun _ z => by cases z) ⟨_, _, upd_same, putD_keys hk, putD_rp r hk rx⟩) (Same.refl _)⟩
    · exact q.elim
  · exact q.elim
theorem s_raise1 {n x : Str} {file : Str} {cp : Pos} (hc : X.calm = true) (tk : Takes X (fun cls d _ H => E cls d H)) (Er : ErrC X.K n (some x) file) (F : ∃ fd, FnOk X.prog X.w X.K X.mg X.base CX0 1 (ma X.K (He.ga X.K n) "__init__") fd ["self", x] (spInit1 (He.ga X.K n) x n) ∧ Binds X.K fd ["self", x] []) (hr : Room 2 X.A) (hg : Gl X n) (hm : X.mg n = some (.ref (He.ga X.K n)))
    (hb : DE X T E e gb) (hdb : (n == ("__debug__" : Str)) = false := by decide) (he : starEach [e] X.env = (false, eval e X.env) :: starEach [] X.env := by rfl) : DS X T E (.Raise (some (.Call (.Name n p) [e] [] cp)) none pos) (gThen gb fun d ρ => .exc ⟨n, some x, d⟩ ρ) := by
  obtain ⟨t, b1, b2⟩ := hb
  refine ⟨_, ps_raise hc tk (pmk_err1 Er F hr hg hm b1 hdb he), fun F Hz H σ ρ W E0 h => b2.stepS E0 h fun v d ρ1 Hz1 H1 E1 s r q => ?_⟩
  exact err_read fun dd hd => q σ _ _ (upd Hz1 dd (.xd [("tag", .str n), (x, v)])) _ (E1.new hd fun _ z => by cases z) (same_new (E1.fresh hd).1) ⟨rfl, dd, v, rfl, r.same (same_new (E1.fresh hd).1), upd_same, fun z => by cases z⟩
def gPar (i j : Nat) (gs : M (List D)) : G := gThen gs fun ds ρ => match ds with
  | [d, e] => .nx ((ρ.set i (some (false, d))).set j (some (false, e)))
  | _ => .fault
theorem s_par {y : Str} {px py pt : Pos} {kt k2 pt2} (hc : X.calm = true) (hN : X.N.Nodup) (hi : X.N[i]? = some x) (hj : X.N[j]? = some y) (hij : i ≠ j)
    (hx : X.env.scope.names.lookup x = some .local) (hy : X.env.scope.names.lookup y = some .local) (ha : DA X T E [a, b] gs)
    (hw : swappedStores [.Tuple [.Name x px, .Name y py] kt pt] (.Tuple [a, b] k2 pt2) X.env = pure (some [x, y]))
    (hs : swapsWithSole [.Tuple [.Name x px, .Name y py] kt pt] (.Tuple [a, b] k2 pt2) pos.line X.env = pure false := by rfl) : DS X T E (.Assign [.Tuple [.Name x px, .Name y py] kt pt] (.Tuple [a, b] k2 pt2) pos) (gPar i j gs) := by
  obtain ⟨t, a1, a2⟩ := ha
  refine ⟨_, ps_par hc hN hi hj hij hx hy a1 hw hs, fun F Hz H σ ρ W E0 h => a2.stepS E0 h fun vs ds ρ1 Hz1 H1 E1 s r q => ?_⟩
  split at q
  · obtain ⟨v, u, rfl, r1, r2⟩ := r.two
    exact ⟨v, u, rfl, q _ Hz1 H1 ((E1.setD r1).setD r2) (Same.refl _)⟩
  · exact q.elim
end
end PL
namespace PL
open PySem PySem.Spec PySem.Calls PyProof.Rows L2 He CT LamX
def ToldS (H : Hp) : List Addr → List (Str × V) → Prop
  | [], [] => True
  | a :: as, t :: ts => H a = some (.tup [.str t.1, t.2]) ∧ okT t = true ∧ ToldS H as ts
  | _, _ => False
theorem ToldS.len {H : Hp} : ∀ {as : List Addr} {ts : List (Str × V)}, ToldS H as ts → as.length = ts.length
  | [], [], _ => rfl
  | _ :: _, _ :: _, h => congrArg Nat.succ (ToldS.len h.2.2)
theorem ToldS.same {H H' : Hp} (e : Same H H') : ∀ {as : List Addr} {ts : List (Str × V)}, ToldS H as ts → ToldS H' as ts
  | [], [], _ => trivial
  | _ :: _, _ :: _, h => ⟨e _ _ h.1, h.2.1, ToldS.same e h.2.2⟩
theorem ToldS.but {H H' : Hp} (e : ∀ b xs, H b = some (.tup xs) → H' b = some (.tup xs)) : ∀ {as : List Addr} {ts : List (Str × V)}, ToldS H as ts → ToldS H' as ts
  | [], [], _ => trivial
  | _ :: _, _ :: _, h => ⟨e _ _ h.1, h.2.1, ToldS.but e h.2.2⟩
theorem ToldS.app {H : Hp} : ∀ {as bs : List Addr} {ts us : List (Str × V)}, ToldS H as ts → ToldS H bs us → ToldS H (as ++ bs) (ts ++ us)
  | [], _, [], _, _, h => h
  | _ :: _, _, _ :: _, _, h, h2 => ⟨h.1, h.2.1, ToldS.app h.2.2 h2⟩
theorem askedS {K : PySem.W.Frag} {T : List (Addr × Str)} {R : List (Str × Option Str)} {env : Env} {fam : List (LamD × (XK → TE))} {ja j : Nat} {σ : L2.St} {H : Hp} {Q : VK} {la : Addr} {fs : List Addr} {ts : List (Str × V)}
    (ha : σ[ja]? = some (some (.ref la))) (hl : H la = some (.lst (fs.map V.ref))) (hz : fs.length ≤ 1000) (hlen : ts.length = fs.length) (hj : j < σ.length) (hT : Tabs T H)
    (step : ∀ (i : Nat) (f : Addr) (t : Str × V), fs[i]? = some f → ts[i]? = some t → AskOk K T R env fam σ H f t)
    (fin : ∀ (Lw : Addr) (as : List Addr) (H' : Hp), H Lw = none → ExtN H H' → Tabs T H' → H' Lw = some (.lst (as.map V.ref)) → ToldS H' as ts → Q (.ref Lw) H') :
    tLcI (iList K (tVar ja)) (gName j) tYes (fun σ => tLamV env fam (TWhy K R) j σ) [j] σ H Q := by
  refine ⟨_, ha, la, rfl, ⟨_, .inl (.of hl)⟩, fun Lw hLw => ?_⟩
  have nL : ∀ {b : Addr} {o : HO}, H b = some o → b ≠ Lw := fun {b o} e => ne_of_none e hLw
  refine lc_it (walk_list (xs := fs.map V.ref)) (fun i H' => ∃ as : List Addr, H' Lw = some (.lst (as.map V.ref)) ∧ ToldS H' as (ts.take i) ∧ ExtN H H' ∧ Tabs T H') ⟨[], upd_same, trivial, fun b o e _ => by rw [upd_ne (ne_of_none e hLw)]; exact e, hT.ext (same_new hLw)⟩ (fun i H' _ hp => ?_) (fun i x H1 H2 hi hp hy => ?_) (fun H' hp => ?_)
  · obtain ⟨as, _, _, e, _⟩ := hp
    exact .inl (.of (e _ _ hl fun _ z => by cases z))
  · obtain ⟨as, h1, h2, e1, t1⟩ := hp
    obtain ⟨rfl, hx⟩ := hy
    rw [List.getElem?_map] at hx
    obtain ⟨f, hf, rfl⟩ := Option.map_eq_some_iff.mp hx
    have hi2 : i < ts.length := by
      rw [List.length_map] at hi
      omega
    have ht : ts[i]? = some ts[i] := List.getElem?_eq_getElem hi2
    obtain ⟨okt, q, hq, hla, body⟩ := step i f _ hf ht
    have et : ts.take (i + 1) = ts.take i ++ [ts[i]] := by rw [List.take_succ, ht]; rfl
    have las : as.length ≤ 1000 := by
      rw [h2.len, List.length_take]
      omega
    -- what a told tuple does
    have fini : ∀ (p : Addr) (H' : Hp), Same H2 H' → H' p = some (.tup [.str ts[i].1, ts[i].2]) → ∃ acc, H' Lw = some (.lst acc) ∧ acc.length < sizeLine ∧ ∃ as : List Addr, upd H' Lw (.lst (acc ++ [V.ref p])) Lw = some (.lst (as.map V.ref)) ∧ ToldS (upd H' Lw (.lst (acc ++ [V.ref p]))) as (ts.take (i + 1)) ∧ ExtN H (upd H' Lw (.lst (acc ++ [V.ref p]))) ∧ Tabs T (upd H' Lw (.lst (acc ++ [V.ref p]))) := by
      intro p H' s hp
      have eL := s _ _ h1
      have bu : ∀ b o, b ≠ Lw → H' b = some o → upd H' Lw (.lst (as.map V.ref ++ [V.ref p])) b = some o := fun b o h z => by
        rw [upd_ne h]
        exact z
      have tk : ∀ b xs, H' b = some (.tup xs) → upd H' Lw (.lst (as.map V.ref ++ [V.ref p])) b = some (.tup xs) := fun b xs h => bu b _ (ne_of h eL fun z => by cases z) h
      refine ⟨_, eL, by rw [List.length_map]; exact Nat.lt_of_le_of_lt las (by decide), as ++ [p], by rw [upd_same, List.map_append]; rfl, ?_, fun b o e n => ?_, CT.Tabs.but (t1.ext s) eL bu⟩
      · rw [et]
        exact ((h2.same s).but tk).app ⟨tk _ _ hp, okt, trivial⟩
      · exact bu _ _ (nL e) (s _ _ (e1 _ _ e n))
    refine ⟨?_, f, ?_, q, hq, hla.ext e1, fun p Hw hp s1 ew QQ EE hQ hE => body Hw QQ EE (e1.trans (ExtN.of s1)) (t1.ext s1) (fun x cls d H' hm htold hx s2 => hE cls d H' ⟨_, x, _, hm, htold, hx, fun q' H3 _ s3 e3 => fini q' H3 (s1.trans (s2.trans s3)) e3⟩) (fun e u H' s2 => hQ u H' (fini p H' (s1.trans s2) ?_))⟩
    · show ((σ.set j none).set j (some (V.ref f))).set j none = σ.set j none
      rw [List.set_set, List.set_set]
    · unfold wipe
      rw [List.getElem?_set_self]
      show j < (wipe σ [j]).length
      rw [wipe_length]
      exact hj
    · rw [e]
      exact s2 _ _ ew
  · obtain ⟨as, h1, h2, e1, t1⟩ := hp
    rw [List.take_of_length_le (by rw [List.length_map]; omega)] at h2
    exact fin Lw as H' hLw e1 t1 h1 h2
section
variable {K : PySem.W.Frag} {T : List (Addr × Str)} {F : Frm} {Hz H H1 : Hp} {σ : L2.St} {ρ : List Slot}
theorem EnvR.extN (E : EnvR K T F Hz H σ ρ) (hT : T ≠ []) (e : ExtN H H1) (t : Tabs T H1) : EnvR K T F Hz H1 σ ρ := by
  have fl := E.fl.resolve_left hT
  refine ⟨E.len, fun b o h => e _ _ (E.ext _ _ h) (E.nt b o h), fun b o h => ⟨e _ _ (E.fr b o h).1 (fl b o h).2.2, (E.fr b o h).2⟩, t, E.tz, E.sh, fun i d q => ?_, E.dis, E.fl, E.nt, E.pn⟩
  obtain ⟨a, h1, h2, h3, h4⟩ := E.ow i d q
  obtain ⟨o, ho, nt⟩ := h4.obj
  exact ⟨a, h1, h2, h3, h4.keep (.same (Same.refl _)) fun u hu => e _ _ hu (by rw [ho] at hu; cases hu; exact nt)⟩
/-- an object that is there joins what stands -/
theorem EnvR.addX (E : EnvR K T F Hz H σ ρ) (hT : T ≠ []) {p : Addr} {o : HO} (ho : H p = some o) (ht : (∃ φ, o = .ext φ) ∨ ∃ xs, o = .tup xs) : ∃ Hz', EnvR K T F Hz' H σ ρ ∧ Same Hz Hz' ∧ Hz' p = some o ∧ ∀ b u, Hz' b = some u → Hz b = some u ∨ u = o := by
  have fl := E.fl.resolve_left hT
  rcases q : Hz p with _ | u
  · have nt : ∀ ps, o ≠ .tbl ps := fun ps z => by
      rcases ht with ⟨_, h⟩ | ⟨_, h⟩
      · rw [z] at h; cases h
      · rw [z] at h; cases h
    have nf : F.f p = none := by
      rcases r : F.f p with _ | u
      · rfl
      · have := (E.fr p u r).1
        rw [ho] at this
        cases this
        rcases ht with ⟨φ, h⟩ | ⟨xs, h⟩
        · exact absurd h ((fl p _ r).1 φ)
        · exact absurd h ((fl p _ r).2.1 xs)
    have ns : NoSlot σ ρ p := fun i e z w => by
      obtain ⟨a, h1, _, _, h4⟩ := E.ow i e z
      rw [h1] at w
      cases w
      obtain ⟨u, hu, _, k2, k3⟩ := h4.kind
      rw [ho] at hu
      cases hu
      rcases ht with ⟨φ, h⟩ | ⟨xs, h⟩
      · exact k2 φ h
      · exact k3 xs h
    refine ⟨_, E.join q (.inl nf) ho nt ns, same_new q, upd_same, fun b u e => ?_⟩
    by_cases hb : b = p
    · subst hb
      rw [upd_same] at e
      exact .inr (Option.some.inj e).symm
    · rw [upd_ne hb] at e
      exact .inl e
  · have := E.ext _ _ q
    rw [ho] at this
    cases this
    exact ⟨Hz, E, Same.refl _, q, fun b u e => .inl e⟩
/-- the slots that are not ours -/
def shOnly (ρ : List Slot) : List Slot := ρ.map fun s => match s with
  | some (false, d) => some (false, d)
  | _ => none
theorem shOnly_some {ρ : List Slot} {i : Nat} {b : Bool} {d : D} (h : (shOnly ρ)[i]? = some (some (b, d))) : b = false ∧ ρ[i]? = some (some (false, d)) := by
  unfold shOnly at h
  rw [List.getElem?_map] at h
  obtain ⟨s, hs, e⟩ := Option.map_eq_some_iff.mp h
  split at e
  · cases e
    exact ⟨rfl, hs⟩
  · cases e
theorem EnvR.quiet (E : EnvR K T F Hz H σ ρ) : EnvR K [] (othF Hz H) Hz H σ (shOnly ρ) :=
  ⟨by unfold shOnly; rw [List.length_map]; exact E.len, E.ext, fun b o e => ⟨(othF_some e).1, .inl (othF_some e).2⟩, fun p hp => (nomatch hp), fun p hp => (nomatch hp), fun i d e => E.sh i d (shOnly_some e).2, fun i d e => (nomatch (shOnly_some e).1), fun i j d e a _ h => (nomatch (shOnly_some h).1), .inl rfl, E.nt, fun a d e _ => by cases e⟩
end
theorem d_mklam {X : Cx} {T : List (Addr × Str)} {E : XK} {e : Expr} {env : Env} {d : LamD} (hT : T ≠ []) (i : Nat) (h : PE X e (tMkLam T env d)) : DE X T E e (gC (.lam env d i)) := by
  refine ⟨_, h, fun F Hz H σ ρ Q E0 q => ⟨E0.tb, fun f H1 eN t1 hf hl => ?_⟩⟩
  have E1 := E0.extN hT eN t1
  obtain ⟨c', dv, h1, h2, h3⟩ := id hl
  obtain ⟨Hz1, E2, s1, z1, _⟩ := E1.addX hT h1 (.inl ⟨_, rfl⟩)
  obtain ⟨Hz2, E3, s2, z2, _⟩ := E2.addX hT h2 (.inl ⟨_, rfl⟩)
  have z1' := s2 _ _ z1
  cases hd : d.df with
  | none =>
    rw [hd] at h3
    exact q (.ref f) Hz2 H1 E3 (s1.trans s2) (.lam ⟨c', dv, z1', z2, by rw [hd]; exact h3⟩)
  | some x =>
    rw [hd] at h3
    obtain ⟨td, e1, e2⟩ := h3
    obtain ⟨Hz3, E4, s3, z3, _⟩ := E3.addX hT e2 (.inr ⟨_, rfl⟩)
    exact q (.ref f) Hz3 H1 E4 (s1.trans (s2.trans s3)) (.lam ⟨c', dv, s3 _ _ z1', s3 _ _ z2, by rw [hd]; exact ⟨td, e1, z3⟩⟩)
def flatD : D → Bool
  | .non | .bl _ | .int _ => true
  | .str x => (PyData.str x).canLay0
  | _ => false
theorem flat_ok {K : PySem.W.Frag} {H : Hp} {v : V} {d : D} (h : flatD d = true) (r : Rp K H v d) : okData v = true ∧ ∀ H', Rp K H' v d := by
  cases d with
  | non => cases r; exact ⟨rfl, fun _ => .non⟩
  | bl b => cases r; exact ⟨rfl, fun _ => .bl b⟩
  | int i => cases r; exact ⟨rfl, fun _ => .int i⟩
  | str x => cases r; exact ⟨h, fun _ => .str x⟩
  | _ => cases h
def whyRes (R : List (Str × Option Str)) (g : M D) (ρ : List Slot) : Option (Str × D) := match g (shOnly ρ) with
  | .ok _ _ => some ("", .non)
  | .exc e _ => if (decide ((e.n, e.x) ∈ R) && decide (e.x ≠ some ("tag" : Str)) && flatD e.d && okData (.str e.n)) = true then some (e.n, e.d) else none
  | .fault => none
def gWhy (R : List (Str × Option Str)) (g : M D) : M D := fun ρ => match whyRes R g ρ with
  | some (n, d) => .ok (.tup [.str n, d]) ρ
  | none => .fault
theorem told_of {K : PySem.W.Frag} {Hz H : Hp} {e : Exc} {cls : Value} {dd : Option Addr} (h : ExcR K Hz H e cls dd) (ht : e.x ≠ some ("tag" : Str)) : ∃ v, Told K e.n e.x v cls dd H ∧ Rp K Hz v e.d ∧ (e.x = none → v = .non) := by
  obtain ⟨h1, a, v, h2, h3, h4, h5⟩ := h
  refine ⟨v, ⟨h1, a, _, h2, h4, rfl, fun y hy => ?_⟩, h3, fun z => ?_⟩
  · rw [hy] at ht ⊢
    have : y ≠ "tag" := fun z => ht (by rw [z])
    unfold excFs
    simp only [List.lookup]
    have e1 : (y == ("tag" : Str)) = false := by simpa using this
    rw [e1]
    simp
  · have := h5 z
    rw [this] at h3
    cases h3
    rfl
theorem lift_why {K : PySem.W.Frag} {T : List (Addr × Str)} {R : List (Str × Option Str)} {E : XK} {t : XK → TE} {g : M D} (hT : T ≠ []) (hb : ∀ EE, LiftD K [] EE (t EE) g) : LiftD K T E (tLam T (TWhy K R) t) (gWhy R g) := by
  intro F Hz H σ ρ Q E0 q
  refine ⟨E0.tb, fun H1 eN t1 p H2 hp s2 e2 QQ EE hQ hE => ?_⟩
  have E1 := E0.extN hT eN t1
  have fp := E1.fresh hp
  have E2 := E1.grow s2
  have back : ∀ {Hz' H' σ' ρ'}, EnvR K [] (othF Hz H2) Hz' H' σ' ρ' → Same Hz Hz' → EnvR K T F Hz' H' σ ρ ∧ Same H2 H' := fun {Hz' H' σ' ρ'} E' s => by
    obtain ⟨a1, a2⟩ := same_of (F := othF Hz H2) E2.ext s E'.ext E'.fr
    exact ⟨E2.after E'.nt s E'.ext a1 a2, a1⟩
  unfold gWhy whyRes at q
  refine hb EE _ Hz H2 σ (shOnly ρ) QQ E2.quiet ?_
  cases eg : g (shOnly ρ) with
  | fault => rw [eg] at q; exact q.elim
  | ok d ρ' =>
    rw [eg] at q
    intro v Hz' H' E' s r
    obtain ⟨E3, sH⟩ := back E' s
    obtain ⟨Hz4, E4, s4, z4⟩ := E3.joinT (sH _ _ e2)
    exact hQ v H' (q (.ref p) _ H' E4 (s.trans s4) (.tup (.inl z4) (.cons (.str _) (.cons .non .nil))))
  | exc x ρ' =>
    rw [eg] at q
    intro cls dd Hz' H' E' s hx
    obtain ⟨E3, sH⟩ := back E' s
    simp only at q
    split at q
    · rename_i n d hw
      split at hw
      · rename_i hc
        cases hw
        simp only [Bool.and_eq_true, decide_eq_true_eq] at hc
        obtain ⟨v, ht, hv, hn⟩ := told_of hx hc.1.1.2
        obtain ⟨_, hv2⟩ := flat_ok hc.1.2 hv
        refine hE cls dd H' ⟨x.n, x.x, v, hc.1.1.1, ht, hn, fun b H3 hb3 s3 e3 => ?_⟩
        obtain ⟨g1, g2, g3⟩ := E3.fresh hb3
        exact q (.ref b) _ H3 ((E3.grow s3).join g1 (.inl g2) e3 (fun _ z => by cases z) g3) (s.trans (same_new g1)) (.tup (.inl upd_same) (.cons (.str _) (.cons (hv2 _) .nil)))
      · cases hw
    · exact q.elim
open Classical in
/-- what one ask tells -/
noncomputable def askRes (R : List (Str × Option Str)) (fam : List (LamD × M D)) (env : Env) (ρ : List Slot) : D → Option (Str × D)
  | .lam e d i => match fam[i]? with
    | some (d', g) => if e = env ∧ d = d' then whyRes R g ρ else none
    | none => none
  | _ => none
noncomputable def askAll (R : List (Str × Option Str)) (fam : List (LamD × M D)) (env : Env) (ρ : List Slot) : List D → Option (List (Str × D))
  | [] => some []
  | d :: l => match askRes R fam env ρ d, askAll R fam env ρ l with
    | some t, some ts => some (t :: ts)
    | _, _ => none
noncomputable def gAsked (R : List (Str × Option Str)) (fam : List (LamD × M D)) (env : Env) (ja j : Nat) : M D := fun ρ => match ρ[ja]? with
  | some (some (false, .lst l)) => if (decide (l.length ≤ 1000) && decide (j < ρ.length)) = true then (match askAll R fam env ρ l with
    | some ts => .ok (.lst (ts.map fun t => .tup [.str t.1, t.2])) ρ
    | none => .fault) else .fault
  | _ => .fault
def FamL (K : PySem.W.Frag) (fr : List (LamD × (XK → TE))) (fg : List (LamD × M D)) : Prop := ∀ (i : Nat) (d : LamD) (g : M D), fg[i]? = some (d, g) → ∃ t, (d, t) ∈ fr ∧ ∀ EE, LiftD K [] EE (t EE) g
theorem rp_lam {K : PySem.W.Frag} {H : Hp} {v : V} {e : Env} {d : LamD} {i : Nat} (r : Rp K H v (.lam e d i)) : ∃ f, v = .ref f ∧ LamAt e d f H := by
  cases r with
  | lam h => exact ⟨_, rfl, h⟩
open Classical in
theorem askRes_ok {K : PySem.W.Frag} {T : List (Addr × Str)} {R : List (Str × Option Str)} {fr : List (LamD × (XK → TE))} {fg : List (LamD × M D)} {env : Env} {F : Frm} {Hz H : Hp} {σ : L2.St} {ρ : List Slot} {f : Addr} {d : D} {t : Str × D} (hT : T ≠ []) (hF : FamL K fr fg) (E0 : EnvR K T F Hz H σ ρ) (r : Rp K Hz (.ref f) d) (h : askRes R fg env ρ d = some t) :
    ∃ v, AskOk K T R env fr σ H f (t.1, v) ∧ ∀ H', Rp K H' v t.2 := by
  cases d with
  | lam e d i =>
    replace h : (match fg[i]? with
      | some (d', g) => if e = env ∧ d = d' then whyRes R g ρ else none
      | none => none) = some t := h
    cases hg : fg[i]? with
    | none => rw [hg] at h; cases h
    | some q =>
      rw [hg] at h
      obtain ⟨d', g⟩ := q
      replace h : (if e = env ∧ d = d' then whyRes R g ρ else none) = some t := h
      by_cases hc : e = env ∧ d = d'
      · rw [if_pos hc] at h
        obtain ⟨rfl, rfl⟩ := hc
        · obtain ⟨f', ef, hl⟩ := rp_lam r
          cases ef
          obtain ⟨tt, hm, hb⟩ := hF i _ _ hg
          have hlH : LamAt e d f H := hl.same E0.ext
          unfold whyRes at h
          have run : ∀ (Hw : Hp) (QQ : VK) (EE : XK), ExtN H Hw → Tabs T Hw → Okx (RD K) K [] EE (othF Hz Hw) Hz σ QQ (g (shOnly ρ)) → tt EE σ Hw QQ := fun Hw QQ EE eN tw hq => hb EE _ Hz Hw σ (shOnly ρ) QQ (E0.extN hT eN tw).quiet hq
          have back : ∀ {Hw Hz' H' σ' ρ'}, ExtN H Hw → Tabs T Hw → EnvR K [] (othF Hz Hw) Hz' H' σ' ρ' → Same Hz Hz' → Same Hw H' := fun {Hw Hz' H' σ' ρ'} eN tw E' s => (same_of (F := othF Hz Hw) (E0.extN hT eN tw).ext s E'.ext E'.fr).1
          cases eg : g (shOnly ρ) with
          | fault => rw [eg] at h; cases h
          | ok d2 ρ' =>
            rw [eg] at h
            cases h
            refine ⟨.non, ⟨by decide +kernel, (d, tt), hm, hlH, fun Hw QQ EE eN tw hE hQ => run Hw QQ EE eN tw ?_⟩, fun _ => .non⟩
            rw [eg]
            exact fun v Hz' H' E' s _ => hQ rfl v H' (back eN tw E' s)
          | exc x ρ' =>
            rw [eg] at h
            simp only at h
            split at h
            · rename_i hc
              cases h
              simp only [Bool.and_eq_true, decide_eq_true_eq] at hc
              -- the value: flat data
              obtain ⟨v, hv, hok⟩ : ∃ v : V, (∀ H', Rp K H' v x.d) ∧ okData v = true ∧ ∀ u H', Rp K H' u x.d → u = v := by
                have hf := hc.1.2
                cases hd : x.d with
                | non => exact ⟨.non, fun _ => .non, rfl, fun u H' r => by cases r; rfl⟩
                | bl b => exact ⟨.bl b, fun _ => .bl b, rfl, fun u H' r => by cases r; rfl⟩
                | int b => exact ⟨.int b, fun _ => .int b, rfl, fun u H' r => by cases r; rfl⟩
                | str b => rw [hd] at hf; exact ⟨.str b, fun _ => .str b, hf, fun u H' r => by cases r; rfl⟩
                | _ => rw [hd] at hf; cases hf
              refine ⟨v, ⟨by unfold okT; rw [hc.2, hok.1]; rfl, (d, tt), hm, hlH, fun Hw QQ EE eN tw hE hQ => run Hw QQ EE eN tw ?_⟩, hv⟩
              rw [eg]
              intro cls dd Hz' H' E' s hx
              obtain ⟨u, ht, hu, hn⟩ := told_of hx hc.1.1.2
              have := hok.2 u _ hu
              subst this
              exact hE x.x cls dd H' hc.1.1.1 ht hn (back eN tw E' s)
            · cases h
      · rw [if_neg hc] at h
        cases h
  | _ => exact absurd h (by intro z; cases z)
theorem askAll_ok {K : PySem.W.Frag} {T : List (Addr × Str)} {R : List (Str × Option Str)} {fr : List (LamD × (XK → TE))} {fg : List (LamD × M D)} {env : Env} {F : Frm} {Hz H : Hp} {σ : L2.St} {ρ : List Slot} (hT : T ≠ []) (hF : FamL K fr fg) (E0 : EnvR K T F Hz H σ ρ) :
    ∀ {l : List D} {xs : List V} {ts : List (Str × D)}, RpL K Hz xs l → askAll R fg env ρ l = some ts → ∃ (fs : List Addr) (us : List (Str × V)), xs = fs.map V.ref ∧ us.length = fs.length ∧ us.length = ts.length ∧
      (∀ (i : Nat) (f : Addr) (u : Str × V), fs[i]? = some f → us[i]? = some u → AskOk K T R env fr σ H f u) ∧ ∀ (i : Nat) (u : Str × V) (t : Str × D), us[i]? = some u → ts[i]? = some t → u.1 = t.1 ∧ ∀ H', Rp K H' u.2 t.2
  | [], _, _, .nil, h => by
    cases h
    exact ⟨[], [], rfl, rfl, rfl, fun i f u e => by simp at e, fun i u t e => by simp at e⟩
  | d :: l, _, _, .cons (v := v) (vs := vs) r rs, h => by
    unfold askAll at h
    split at h
    · rename_i t ts h1 h2
      cases h
      obtain ⟨fs, us, e1, e2, e3, e4, e5⟩ := askAll_ok hT hF E0 rs h2
      have hv : ∃ f, v = .ref f := by
        cases d with
        | lam e d i => exact ⟨_, (rp_lam r).choose_spec.1⟩
        | _ => cases h1
      obtain ⟨f, rfl⟩ := hv
      obtain ⟨u, k1, k2⟩ := askRes_ok hT hF E0 r h1
      refine ⟨f :: fs, (t.1, u) :: us, by rw [e1]; rfl, by simp [e2], by simp [e3], fun i f' u' q1 q2 => ?_, fun i u' t' q1 q2 => ?_⟩
      · cases i with
        | zero => cases q1; cases q2; exact k1
        | succ i => exact e4 i f' u' (by simpa using q1) (by simpa using q2)
      · cases i with
        | zero => cases q1; cases q2; exact ⟨rfl, k2⟩
        | succ i => exact e5 i u' t' (by simpa using q1) (by simpa using q2)
    · cases h
theorem told_join {K : PySem.W.Frag} {T : List (Addr × Str)} {F : Frm} {H : Hp} {σ : L2.St} {ρ : List Slot} (hT : T ≠ []) : ∀ {as : List Addr} {us : List (Str × V)} {ts : List (Str × D)} {Hz : Hp}, EnvR K T F Hz H σ ρ → ToldS H as us → us.length = ts.length → (∀ (i : Nat) (u : Str × V) (t : Str × D), us[i]? = some u → ts[i]? = some t → u.1 = t.1 ∧ ∀ H', Rp K H' u.2 t.2) →
    ∃ Hz', EnvR K T F Hz' H σ ρ ∧ Same Hz Hz' ∧ RpL K Hz' (as.map V.ref) (ts.map fun t => .tup [.str t.1, t.2]) ∧ ∀ b o, Hz' b = some o → Hz b = some o ∨ ∃ xs, o = .tup xs
  | [], [], [], Hz, E, _, _, _ => ⟨Hz, E, Same.refl _, .nil, fun b o e => .inl e⟩
  | a :: as, u :: us, t :: ts, Hz, E, h, hl, hr => by
    obtain ⟨h1, _, h3⟩ := h
    obtain ⟨Hz1, E1, s1, z1, n1⟩ := E.addX hT h1 (.inr ⟨_, rfl⟩)
    obtain ⟨Hz2, E2, s2, r2, n2⟩ := told_join hT E1 h3 (Nat.succ.inj hl) fun i u t q1 q2 => hr (i + 1) u t (by simpa using q1) (by simpa using q2)
    obtain ⟨k1, k2⟩ := hr 0 u t rfl rfl
    refine ⟨Hz2, E2, s1.trans s2, .cons ?_ r2, fun b o e => (n2 b o e).elim (fun e => (n1 b o e).elim .inl fun z => .inr ⟨_, z⟩) .inr⟩
    rw [k1] at z1
    exact .tup (.inl (s2 _ _ z1)) (.cons (.str _) (.cons (k2 _) .nil))
  | [], _ :: _, _, _, _, h, _, _ => h.elim
  | _ :: _, [], _, _, _, h, _, _ => h.elim
  | [], [], _ :: _, _, _, _, h, _ => by cases h
  | _ :: _, _ :: _, [], _, _, _, h, _ => by cases h
theorem lift_asked {K : PySem.W.Frag} {T : List (Addr × Str)} {R : List (Str × Option Str)} {E : XK} {fr : List (LamD × (XK → TE))} {fg : List (LamD × M D)} {env : Env} {ja j : Nat} (hT : T ≠ []) (hF : FamL K fr fg) :
    LiftO K T E (tLcI (iList K (tVar ja)) (gName j) tYes (fun σ => tLamV env fr (TWhy K R) j σ) [j]) (gAsked R fg env ja j) := by
  intro F Hz H σ ρ Q E0 q
  unfold gAsked at q
  split at q
  · rename_i l hl
    split at q
    · rename_i hb
      simp only [Bool.and_eq_true, decide_eq_true_eq] at hb
      split at q
      · rename_i ts hts
        obtain ⟨v, hv, hr⟩ := E0.sh ja _ hl
        cases hr with
        | lst h1 r1 =>
          obtain ⟨fs, us, rfl, e2, e3, e4, e5⟩ := askAll_ok hT hF E0 r1 hts
          have fl2 : fs.length ≤ 1000 := by
            have := r1.length
            rw [List.length_map] at this
            omega
          refine askedS hv (E0.ext _ _ h1) fl2 e2 (by rw [E0.len]; exact hb.2) E0.tb e4 fun Lw as H' hLn eN tw hLw htold => ?_
          have E1 := E0.extN hT eN tw
          obtain ⟨f1, f2, f3⟩ := E0.fresh hLn
          obtain ⟨Hz1, E2, s1, r2, n2⟩ := told_join hT E1 htold e3 e5
          refine q Lw Hz1 H' E2 s1 ⟨?_, f2, _, hLw, r2⟩ f3
          rcases z : Hz1 Lw with _ | o
          · rfl
          · rcases n2 _ _ z with z2 | ⟨xs, z2⟩
            · rw [f1] at z2
              cases z2
            · have := E2.ext _ _ z
              rw [hLw, z2] at this
              cases this
      · exact q.elim
    · exact q.elim
  · exact q.elim
end PL
namespace PL
open PySem PySem.Spec PySem.Calls PyProof.Rows L2 He CT
def strsOf : List D → Option (List Str)
  | [] => some []
  | .str b :: l => (strsOf l).map (b :: ·)
  | _ => none
theorem strs_ok {K : PySem.W.Frag} {H : Hp} : ∀ {l : List D} {bs : List Str} {vs : List V}, strsOf l = some bs → RpL K H vs l → vs = bs.map V.str
  | [], bs, vs, e, r => by cases e; cases r; rfl
  | d :: l, bs, vs, e, r => by
    cases d with
    | str b =>
      simp only [strsOf, Option.map_eq_some_iff] at e
      obtain ⟨cs, e, rfl⟩ := e
      cases r with
      | cons h r => cases h; rw [strs_ok e r]; rfl
    | _ => cases e
def gJoin (a b : D) : M D := fun ρ => match a, b with
  | .str x, .lst l => match strsOf l with
    | some ys => if decide ((ys.map (·.length)).sum + ys.length * x.length ≤ 16777216) = true then .ok (.str (Txt.join x ys)) ρ else .fault
    | none => .fault
  | _, _ => .fault
def gIndex (a b : D) : M D := fun ρ => match a, b with
  | .str x, .str y => match Builtin.Str.occurrences x y 0 x.length 1 with
    | i :: _ => .ok (.int (i : Nat)) ρ
    | [] => .fault
  | _, _ => .fault
/-- a text's method of one argument -/
def gS1 (go : D → D → M D) (ga gb : M D) : M D := gBind ga fun a => match a with
  | .str x => gBind gb fun b => go (.str x) b
  | _ => fun _ => .fault
section
variable {X : Cx} {T : List (Addr × Str)} {E : XK} {a b e o : Expr} {es : List Expr} {ga gb : M D} {gs : M (List D)} {pos p apos : Pos} {x : Str}
theorem lift_m1 {K : PySem.W.Frag} {r : V → List V → Hp → VK → Prop} {go : D → D → M D} {to te : TE} (ho : ∀ T E F Hz H σ ρ Q x dx y dy, EnvR K T F Hz H σ ρ → Rp K Hz (.str x) dx → dx = .str x → Rp K Hz y dy → Okx (RD K) K T E F Hz σ Q (go dx dy ρ) → r (.str x) [y] H Q) (ha : LiftD K T E to ga) (hb : LiftD K T E te gb) : LiftD K T E (tM1 r to te) (gS1 go ga gb) :=
  fun F Hz H σ ρ Q E0 h => ha.step E0 h fun v d ρ1 Hz1 H1 E1 sa r1 h1 => by
    cases d with
    | str x =>
      cases r1
      exact ⟨⟨x, rfl⟩, hb.step E1 h1 fun y e ρ2 Hz2 H2 E2 sb r2 h2 => ho T E F Hz2 H2 σ ρ2 Q x _ y e E2 (.str x) rfl r2 h2⟩
    | _ => exact h1.elim
theorem d_join (ha : DE X T E o ga) (hb : DE X T E e gb) (hs : starEach [e] X.env = [(false, eval e X.env)] := by rfl) (hbase : attributeBase o "join" X.env (eval o X.env) = eval o X.env := by rfl) (hline : (apos.endLine == pos.line) = true := by rfl) : DE X T E (.Call (.Attribute o "join" apos) [e] [] pos) (gS1 gJoin ga gb) := by
  obtain ⟨t, a1, a2⟩ := ha
  obtain ⟨u, b1, b2⟩ := hb
  refine ⟨_, pe_join a1 b1 hs hbase hline, lift_m1 (fun T E F Hz H σ ρ Q x dx y dy E0 _ ed ry h => ?_) a2 b2⟩
  subst ed
  cases dy with
  | lst l =>
    have h : Okx (RD X.K) X.K T E F Hz σ Q (match strsOf l with
      | some ys => if decide ((ys.map (·.length)).sum + ys.length * x.length ≤ 16777216) = true then .ok (.str (Txt.join x ys)) ρ else .fault
      | none => .fault) := h
    cases es : strsOf l with
    | none => rw [es] at h; exact h.elim
    | some ys =>
      rw [es] at h
      have h : Okx (RD X.K) X.K T E F Hz σ Q (if decide ((ys.map (·.length)).sum + ys.length * x.length ≤ 16777216) = true then .ok (.str (Txt.join x ys)) ρ else .fault) := h
      by_cases hl : decide ((ys.map (·.length)).sum + ys.length * x.length ≤ 16777216) = true
      · rw [if_pos hl] at h
        cases ry with
        | lst h1 r1 =>
          have := strs_ok es r1
          exact ⟨_, _, ys, rfl, rfl, .inl (by rw [← this]; exact .of (E0.ext _ _ h1)), of_decide_eq_true hl, okd_here E0 h (.str _)⟩
      · rw [if_neg hl] at h
        exact h.elim
  | _ => exact h.elim
theorem d_index (ha : DE X T E o ga) (hb : DE X T E e gb) (hs : starEach [e] X.env = [(false, eval e X.env)] := by rfl) (hbase : attributeBase o "index" X.env (eval o X.env) = eval o X.env := by rfl) (hline : (apos.endLine == pos.line) = true := by rfl) : DE X T E (.Call (.Attribute o "index" apos) [e] [] pos) (gS1 gIndex ga gb) := by
  obtain ⟨t, a1, a2⟩ := ha
  obtain ⟨u, b1, b2⟩ := hb
  refine ⟨_, pe_m1 PySem.F.slot_str_index PySem.F.type_str_index mt_sindex a1 b1 hs hbase hline, lift_m1 (fun T E F Hz H σ ρ Q x dx y dy E0 _ ed ry h => ?_) a2 b2⟩
  subst ed
  cases dy with
  | str z =>
    have h : Okx (RD X.K) X.K T E F Hz σ Q (match Builtin.Str.occurrences x z 0 x.length 1 with
      | i :: _ => .ok (.int (i : Nat)) ρ
      | [] => .fault) := h
    cases hoc : Builtin.Str.occurrences x z 0 x.length 1 with
    | nil => rw [hoc] at h; exact h.elim
    | cons i rest =>
      rw [hoc] at h
      cases ry
      exact ⟨_, _, i, rest, rfl, rfl, hoc, okd_here E0 h (.int _)⟩
  | _ => exact h.elim
end
end PL
namespace PL
open PySem PySem.Spec PySem.Calls PyProof.Rows L2 He CT
def PostO (K : PySem.W.Frag) (Hz H : Hp) (Q : VK) (E : XK) : FRes → Prop
  | .ok d => ∀ a Hz' H', NT Hz' → Same Hz Hz' → Same Hz' H' → Same H H' → (∀ b o, H b = some o → Hz b = none → HzN Hz' b o) → H a = none → Hz' a = none → Top K Hz' H' a d → Q (.ref a) H'
  | .exc e => ∀ cls dd Hz' H', NT Hz' → Same Hz Hz' → Same Hz' H' → Same H H' → (∀ b o, H b = some o → Hz b = none → HzN Hz' b o) → ExcR K Hz' H' e cls dd → E cls dd H'
  | .fault => False
def spO (K : PySem.W.Frag) (n : Nat) (f : Fn) : Sp := fun vs H Q E => ∃ Hz ds, NT Hz ∧ Same Hz H ∧ RpL K Hz vs ds ∧ ds.length = n ∧ PostO K Hz H Q E (f ds)
def finO : Out → FRes
  | .rt true d _ => .ok d
  | .exc e _ => .exc e
  | _ => .fault
def runO (N : List Str) (g : G) : Fn := fun ds => finO (g (slots0 N ds))
theorem post_O {K : PySem.W.Frag} {Hz H : Hp} {Q : VK} {E : XK} (s : Same Hz H) : ∀ {o : Out}, PostO K Hz H Q E (finO o) → Oks K [] E (othF Hz H) Hz { nx := fun _ H' => Q .non H', rt := Q } o
  | .rt true d ρ, h => fun v σ Hz' H' e q r ns => by
    obtain ⟨a, b⟩ := same_of (F := othF Hz H) s q e.ext e.fr
    have hn : H v = none := by
      rcases z : H v with _ | o
      · rfl
      · rcases z2 : Hz v with _ | u
        · have : (othF Hz H).f v = some o := othF_of z z2
          rw [r.2.1] at this
          cases this
        · have := q _ _ z2
          rw [r.1] at this
          cases this
    exact h v Hz' H' e.nt q e.ext a b hn r.1 r.2.2
  | .exc x ρ, h => fun σ cls dd Hz' H' e q r => let ⟨a, b⟩ := same_of (F := othF Hz H) s q e.ext e.fr; h cls dd Hz' H' e.nt q e.ext a b r
  | .nx _, h => h.elim
  | .rt false _ _, h => h.elim
  | .bk _, h => h.elim
  | .ct _, h => h.elim
  | .fault, h => h.elim
section
variable {P : Program} {w : World} {K : PySem.W.Frag} {mg : Str → Option Value} {base : Heap} {n : Str} {st : Stmt} {N ps : List Str} {k : Nat} {g : G}
theorem okO (D : Dn K mg n st []) (S : FnScope N ps (defScope st)) (bind : ∀ (kV doc pm : Value) (an : Option Addr) (cdv ct : Value) (us : List Value), us.length = ps.length → bindArgs (PySem.W.fnOf n n (defArgs st) (defBody st) (defScope st) .none kV doc pm an cdv ct) ⟨us, []⟩ = pure (ps.zip us))
    (hl : ps.length ≤ N.length) (hb : ∀ (cdv : Value) (A : Around) (outer : List Env) (s : Shared) (H : Hp) (E : XK), Room k (A.deeper (envOfC n (defScope st) s.heap.objs.size (ga K n) cdv)) → DSs (cxOf (L2.CX P w) P w K mg base N n (defScope st) (ga K n) cdv A outer s H E) [] E (defBody st) g) :
    FOkX (L2.CX P w) P w K mg base (k + 1) n ps (spO K ps.length (runO N g)) :=
  D.okX S bind (fun vs H Q E ⟨Hz, ds, nt, s, r, e, h⟩ => by rw [r.length, e]) fun cdv A outer s H vs Q E hr ⟨Hz, ds, nt, sm, r, e, h⟩ => by
    obtain ⟨t, h1, h2⟩ := hb cdv A outer s H E hr
    exact ⟨t, h1, h2 _ _ _ _ _ _ (env0 nt sm r (by rw [e]; exact hl)) (post_O sm h)⟩
end
section
variable {X : Cx} {T : List (Addr × Str)} {E : XK} {e : Expr} {es : List Expr} {gb : M D} {gs : M (List D)} {pos p : Pos} {x : Str}
theorem run_spO {K : PySem.W.Frag} {F : Frm} {Hz H : Hp} {σ : L2.St} {ρ : List Slot} {Q : VK} {n : Nat} {f : Fn} {vs : List V} {ds : List D} (E0 : EnvR K T F Hz H σ ρ) (r : RpL K Hz vs ds) (hn : ds.length = n) (h : Oko K T E F Hz σ Q (match f ds with
    | .ok d => .ok d ρ
    | .exc e => .exc e ρ
    | .fault => .fault)) : spO K n f vs H Q E := by
  refine ⟨Hz, ds, E0.nt, E0.ext, r, hn, ?_⟩
  cases ef : f ds with
  | ok d =>
    rw [ef] at h
    intro a Hz' H' nt s1 s2 s3 nn hn hz ht
    obtain ⟨_, f2, f3⟩ := E0.fresh hn
    exact h a Hz' H' (E0.after nt s1 s2 s3 nn) s1 ⟨hz, f2, ht⟩ f3
  | exc x =>
    rw [ef] at h
    exact fun cls dd Hz' H' nt s1 s2 s3 nn r2 => h cls dd Hz' H' (E0.after nt s1 s2 s3 nn) s1 r2
  | fault => rw [ef] at h; exact h.elim
theorem d_callO {CX : CXT} {n : Str} {ps : List Str} {m k : Nat} {f : Fn} (F : FOkX CX X.prog X.w X.K X.mg X.base k n ps (spO X.K m f)) (hx : Passes CX X E) (hr : Room k X.A) (ha : DA X T E (e :: es) gs) (hg : Gl X n := by rfl) (hdb : (n == ("__debug__" : Str)) = false := by decide)
    (he : starEach (e :: es) X.env = (false, eval e X.env) :: starEach es X.env := by rfl) (hpl : (backTo pos (starEach es X.env)).any (·.1) = false := by rfl) : DO X T E (.Call (.Name n p) (e :: es) [] pos) (gCall m f gs) := by
  obtain ⟨t, a1, a2⟩ := ha
  refine ⟨_, pe_callE F hx hr a1 hg hdb he hpl, fun F' Hz H σ ρ Q E0 h => a2.stepO E0 h fun vs ds ρ1 Hz1 H1 E1 s r q => ?_⟩
  by_cases hn : ds.length = m
  · rw [if_pos hn] at q
    rw [List.append_nil]
    exact run_spO E1 r hn q
  · rw [if_neg hn] at q
    exact q.elim
end
end PL
namespace PL
open PySem PySem.Spec PySem.Calls PyProof.Rows L2 He CT
section
variable {K : PySem.W.Frag} {T : List (Addr × Str)} {F : Frm} {Hz H : Hp} {σ : L2.St} {ρ : List Slot}
/-- an owned slot is forgotten: its object is nobody's -/
theorem EnvR.drop (E : EnvR K T F Hz H σ ρ) {i : Nat} {d : D} (q : ρ[i]? = some (some (true, d))) : ∃ a, σ[i]? = some (some (.ref a)) ∧ Own K F Hz H a d ∧ EnvR K T F Hz H σ (ρ.set i none) ∧ NoSlot σ (ρ.set i none) a := by
  obtain ⟨a, h1, o⟩ := E.ow i d q
  have hi := (List.getElem?_eq_some_iff.mp q).1
  have ne : ∀ {j : Nat} {y : Bool × D}, (ρ.set i none)[j]? = some (some y) → i ≠ j := fun {j y} z w => by
    subst w
    rw [List.getElem?_set_self hi] at z
    cases z
  refine ⟨a, h1, o, E.less (by rw [List.length_set]; exact E.len) fun j y z => ⟨?_, rfl⟩, fun j f z w => ?_⟩
  · rw [List.getElem?_set_ne (ne z)] at z
    exact z
  · have := ne z
    rw [List.getElem?_set_ne this] at z
    exact E.dis i j d f a this q z h1 w
end
theorem passZ {X : Cx} {E : XK} : Passes CX0 X E := fun _ _ _ _ _ _ _ h => h.elim
section
variable {P : Program} {w : World} {K : PySem.W.Frag} {mg : Str → Option Value} {base : Heap} {n : Str} {st : Stmt} {N ps : List Str} {k : Nat} {g : G}
/-- a method that lets nothing out -/
theorem okGm0 {a : Addr} {qual : Str} (D : Dm K a n qual st []) (S : FnScope N ps (defScope st)) (bind : ∀ (kV doc pm : Value) (an : Option Addr) (cdv ct : Value) (us : List Value), us.length = ps.length → bindArgs (PySem.W.fnOf n qual (defArgs st) (defBody st) (defScope st) .none kV doc pm an cdv ct) ⟨us, []⟩ = pure (ps.zip us))
    (hl : ps.length ≤ N.length) (hb : ∀ (cdv : Value) (A : Around) (outer : List Env) (s : Shared) (H : Hp) (E : XK), Room k (A.deeper (envOfC qual (defScope st) s.heap.objs.size a cdv)) → DSs (cxOf CX0 P w K mg base N qual (defScope st) a cdv A outer s H E).nox [] E (defBody st) g) :
    MOk CX0 P w K mg base (k + 1) a ps (spG K ps.length (runF N g)) :=
  D.ok S bind (fun vs H Q E ⟨Hz, ds, nt, s, r, e, h⟩ => by rw [r.length, e]) fun cdv A outer s H vs Q E hr ⟨Hz, ds, nt, sm, r, e, h⟩ => by
    obtain ⟨t, h1, h2⟩ := hb cdv A outer s H E hr
    exact ⟨t, h1, h2 _ _ _ _ _ _ (env0 nt sm r (by rw [e]; exact hl)) (post_of sm h)⟩
end
section
variable {X : Cx} {T : List (Addr × Str)} {E : XK} {e : Expr} {ga : M D} {p pos : Pos}
/-- len of an own object -/
@[irreducible] def gLenO (cn : Str) (f : Fn) (ds : List D) : M D := fun ρ => match ds with
  | [.own c l] => if c = cn then (match f [.own c l] with
    | .ok (.int n) => if 0 ≤ n ∧ n < 1000000 then .ok (.int n) ρ else .fault
    | _ => .fault) else .fault
  | _ => .fault
end
end PL
namespace PL
open PySem PySem.Spec PySem.Calls PyProof.Rows L2 He CT
section
variable {X : Cx} {T : List (Addr × Str)} {E : XK} {e : Expr} {es : List Expr} {ga : M D} {gs : M (List D)} {p pos p2 : Pos}
theorem d_lenO {CX : CXT} {cn : Str} {g : Addr} {k : Nat} {f : Fn} {ps : List Str} (hm : Meth X.K (He.ga X.K cn) "__len__" g) (F : MOk CX X.prog X.w X.K X.mg X.base k g ps (spG X.K 1 f)) (hx : Passes CX X E) (hr : Room (k + 1) X.A) (hmm : X.mg "len" = none) (ha : DA X T E (e :: es) gs) (hg : Gl X "len" := by rfl)
    (he : starEach (e :: es) X.env = (false, eval e X.env) :: starEach es X.env := by rfl) (hpl : (backTo pos (starEach es X.env)).any (·.1) = false := by rfl) : DE X T E (.Call (.Name "len" p) (e :: es) [] pos) (gBind gs (gLenO cn f)) := by
  obtain ⟨t, a1, a2⟩ := ha
  refine ⟨_, pe_callB (call_lenOwn hm F hx hr) hg hmm (by decide +kernel) a1 (by decide) (by decide) he hpl, fun F Hz H σ ρ Q E0 h => a2.step E0 h fun vs ds ρ1 Hz1 H1 E1 s r q => ?_⟩
  unfold gLenO at q
  split at q
  · rename_i c l
    by_cases hc : c = cn
    · rw [if_pos hc] at q
      subst hc
      cases r with
      | cons r rs =>
        cases rs
        cases r with
        | own h1 h2 h3 =>
          refine ⟨_, _, _, rfl, E1.ext _ _ h1, run_spG (F := F) (σ := σ) (ρ := ρ1) E1 (.cons (Rp.own h1 h2 h3) .nil) rfl ?_⟩
          split at q
          · rename_i n en
            split at q
            · rename_i hn
              rw [en]
              intro v Hz2 H2 E2 s2 r2
              cases r2
              exact ⟨n, rfl, hn.1, by omega, q _ Hz2 H2 E2 s2 (.int n)⟩
            · exact q.elim
          · exact q.elim
    · rw [if_neg hc] at q
      exact q.elim
  · exact q.elim
def gCutC (a : D) (lo hi : Option Int) : M D := fun ρ => match a with
  | .scr l => .ok (.lst (cutD (l.map .int) lo hi)) ρ
  | _ => .fault
def gSlC (ga : M D) (gl gh : M (Option Int)) : M D := gBind ga fun d => gBind gl fun lo => gBind gh fun hi => gCutC d lo hi
theorem d_sliceC {a : Expr} {lo hi : Option Expr} {gl gh : M (Option Int)} (ha : DE X T E a ga) (hl : DB X T E lo gl) (hh : DB X T E hi gh) : DE X T E (.Subscript a (.Slice lo hi none p2) pos) (gSlC ga gl gh) := by
  obtain ⟨t, a1, a2⟩ := ha
  obtain ⟨u, b1, b2⟩ := hl
  obtain ⟨v, c1, c2⟩ := hh
  refine ⟨_, pe_slice sl_list a1 b1 c1, fun F Hz H σ ρ Q E0 h => a2.step E0 h fun x d ρ1 Hz1 H1 E1 s1 r q => b2.step E1 q fun lo lo' ρ2 Hz2 H2 E2 s2 r2 q2 => c2.step E2 q2 fun hi hi' ρ3 Hz3 H3 E3 s3 r3 q3 => ?_⟩
  cases r2
  cases r3
  unfold gCutC at q3
  split at q3
  · cases r with
    | scr hs =>
      exact ⟨_, _, rfl, sqL_same (s2.trans (s3.trans E3.ext)) hs, fun p hp => okd_new E3 q3 hp (fun _ z => by cases z) (.lst upd_same (((RpL.ints _).cut lo hi)))⟩
  · exact q3.elim
end
def flatEq : D → D → Bool
  | .non, .non => true
  | .bl a, .bl b => a == b
  | .int a, .int b => a == b
  | .str a, .str b => a == b
  | _, _ => false
def listsOf : D → D → Option (List D × List D)
  | .tup a, .tup b => some (a, b)
  | .ktup a, .tup b => some (a, b)
  | .tup a, .ktup b => some (a, b)
  | .ktup a, .ktup b => some (a, b)
  | .lst a, .lst b => some (a, b)
  | _, _ => none
def eqdD : Nat → D → D → Bool
  | 0, a, b => flatEq a b
  | n + 1, a, b => flatEq a b || match listsOf a b with
    | some (as, bs) => decide (as.length ≤ 10000) && (decide (as.length = bs.length) && (as.zip bs).all fun p => eqdD n p.1 p.2)
    | none => false
theorem flatEq_ok {K : PySem.W.Frag} {H : Hp} {n : Nat} {a b : D} {x y : V} (h : flatEq a b = true) (r1 : Rp K H x a) (r2 : Rp K H y b) : EqD K H n x y := by
  unfold flatEq at h
  split at h
  · cases r1; cases r2; exact EqD.flat rfl
  · rw [eq_of_beq h] at r1; cases r1; cases r2; exact EqD.flat rfl
  · rw [eq_of_beq h] at r1; cases r1; cases r2; exact EqD.flat rfl
  · rw [eq_of_beq h] at r1; cases r1; cases r2; exact EqD.flat rfl
  · cases h
theorem listsOf_ok {K : PySem.W.Frag} {H : Hp} {a b : D} {x y : V} {as bs : List D} (h : listsOf a b = some (as, bs)) (r1 : Rp K H x a) (r2 : Rp K H y b) : ∃ (p q : Addr) (xs ys : List V), x = .ref p ∧ y = .ref q ∧ ((SqT K H p xs ∧ SqT K H q ys) ∨ (SqL K H p xs ∧ SqL K H q ys)) ∧ RpL K H xs as ∧ RpL K H ys bs := by
  unfold listsOf at h
  split at h
  · cases h
    cases r1 with
    | tup h1 s1 =>
      cases r2 with
      | tup h2 s2 => exact ⟨_, _, _, _, rfl, rfl, .inl ⟨h1.sq, h2.sq⟩, s1, s2⟩
  · cases h
    cases r1 with
    | ktup h1 s1 =>
      cases r2 with
      | tup h2 s2 => exact ⟨_, _, _, _, rfl, rfl, .inl ⟨h1.sq, h2.sq⟩, s1, s2⟩
  · cases h
    cases r1 with
    | tup h1 s1 =>
      cases r2 with
      | ktup h2 s2 => exact ⟨_, _, _, _, rfl, rfl, .inl ⟨h1.sq, h2.sq⟩, s1, s2⟩
  · cases h
    cases r1 with
    | ktup h1 s1 =>
      cases r2 with
      | ktup h2 s2 => exact ⟨_, _, _, _, rfl, rfl, .inl ⟨h1.sq, h2.sq⟩, s1, s2⟩
  · cases h
    cases r1 with
    | lst h1 s1 =>
      cases r2 with
      | lst h2 s2 => exact ⟨_, _, _, _, rfl, rfl, .inr ⟨.of h1, .of h2⟩, s1, s2⟩
  · cases h
theorem eqdD_ok {K : PySem.W.Frag} {H : Hp} : ∀ {n : Nat} {a b : D} {x y : V}, eqdD n a b = true → Rp K H x a → Rp K H y b → EqD K H n x y
  | 0, a, b, x, y, h, r1, r2 => flatEq_ok h r1 r2
  | n + 1, a, b, x, y, h, r1, r2 => by
    unfold eqdD at h
    rw [Bool.or_eq_true] at h
    rcases h with h | h
    · exact flatEq_ok h r1 r2
    · split at h
      · rename_i as bs e
        rw [Bool.and_eq_true, Bool.and_eq_true, decide_eq_true_eq, decide_eq_true_eq, List.all_eq_true] at h
        obtain ⟨p, q, xs, ys, e1, e2, k, s1, s2⟩ := listsOf_ok e r1 r2
        refine .inr ⟨p, q, xs, ys, e1, e2, k, by rw [s1.length, s2.length]; exact h.2.1, by rw [s1.length]; exact h.1, fun i x y q1 q2 => ?_⟩
        obtain ⟨d1, f1, g1⟩ := s1.get' q1
        obtain ⟨d2, f2, g2⟩ := s2.get' q2
        refine eqdD_ok (h.2.2 (d1, d2) ?_) g1 g2
        refine List.mem_iff_getElem?.mpr ⟨i, ?_⟩
        rw [List.getElem?_zip_eq_some]
        exact ⟨f1, f2⟩
      · cases h
/-- _law_same of equal data -/
def f_same (n : Nat) : Fn := fun ds => match ds with
  | [a, b] => if eqdD n a b = true then .ok (.bl true) else .fault
  | _ => .fault
theorem two_of {K : PySem.W.Frag} {H : Hp} {vs : List V} {a b : D} (r : RpL K H vs [a, b]) : ∃ x y, vs = [x, y] ∧ Rp K H x a ∧ Rp K H y b := by
  cases r with
  | cons r1 s1 =>
    cases s1 with
    | cons r2 s2 =>
      cases s2
      exact ⟨_, _, rfl, r1, r2⟩
theorem same_spG {P : Program} {w : World} {K : PySem.W.Frag} {mg : Str → Option Value} {base : Heap} {k n : Nat} {nm : Str} {ps : List Str} {CX : CXT} {sp : Sp} (hs : ∀ vs H Q E x y, vs = [x, y] → EqD K H n x y → (∀ H', Same H H' → Q (.bl true) H') → sp vs H Q E) (F : FOkX CX P w K mg base k nm ps sp) : FOkX CX P w K mg base k nm ps (spG K 2 (f_same n)) :=
  F.imp fun vs H Q E ⟨Hz, ds, nt, s, r, el, h⟩ => by
    unfold f_same at h
    split at h
    · rename_i a b
      split at h
      · rename_i he
        obtain ⟨x, y, rfl, r1, r2⟩ := two_of r
        exact hs _ H Q E x y rfl ((eqdD_ok he r1 r2).same s) fun H' s' => h (.bl true) Hz H' nt (Same.refl _) (s.trans s') s' (fun _ _ _ z => .inl z) (.bl true)
      · exact h.elim
    · exact h.elim
end PL
namespace PL
open PySem PySem.Spec PySem.Calls PyProof.Rows L2 He CT
section
variable {X : Cx}
def rRepB (K : PySem.W.Frag) : R2 := fun x y H Q => ∃ l k xs, x = .ref l ∧ y = .int k ∧ SqT K H l xs ∧ xs ≠ [] ∧ 0 ≤ k ∧ k ≤ 1000 ∧ xs.length ≤ 1000 ∧ (k = 1 → Q (.ref l) H) ∧ (k ≠ 1 → ∀ p, H p = none → Q (.ref p) (upd H p (.tup (List.replicate k.toNat xs).flatten)))
theorem op_repB : OpR X (binaryOp .Mult) (rRepB X.K) := by
  intro pins s σ H x y v u Q I rx ry h
  obtain ⟨l, k, xs, rfl, rfl, hT, hne, h1, h2, hz, q1, q2⟩ := h
  by_cases hk : 2 ≤ k
  · exact op_repT pins s σ H _ _ v u Q I rx ry ⟨l, k, xs, rfl, rfl, hT, hne, hk, h2, hz, q2 (by omega)⟩
  · cases rx
    obtain ⟨t, rfl⟩ := ry
    obtain ⟨its, r, ⟨⟨cls, dd, data, sl⟩, ho, hc, n, hd⟩, hs⟩ := I.tuple hT
    simp only at hc hd
    subst hc hd
    have hle : its.length = xs.length := r.length.symm
    have hi : its.toArray.isEmpty = false := by
      cases its with
      | nil => exact absurd (List.eq_nil_of_length_eq_zero hle.symm) hne
      | cons a b => rfl
    have go : ∀ {R : PySem.Spec}, Meets (Builtin.«tuple.__mul__» ⟨[.ref l, .int k t], []⟩) R → R X.A (wants (EP X pins σ Q) X.xe) s → wpAny (model X.prog X.w) X.A (binaryOp .Mult (.ref l) (.int k t)) (EP X pins σ Q) X.xe s := fun m h => by
      exact wpAny_binaryOp_repeat_ref (T := "tuple") (U := "int") (by decide) ⟨_, ho, rfl⟩ (fun s' => typeIs_int s' k t) noFill_tuple_mul F.fills_int_mul F.slot_int_rmul repeat_tuple F.slot_int_index.lookup
        (call_meets F.slot_int_rmul (typeIs_int s k t) F.entry_int_rmul (F.args_int_rmul_2 _ _) (int_rmul_tuple k t l its.toArray n dd sl)
          ⟨ho, rfl, ⟨_, ho, rfl⟩, call_meets F.slot_tuple_mul ⟨_, ho, rfl⟩ F.entry_tuple_mul (F.args_tuple_mul_2 _ _) m h⟩)
    by_cases h0 : k = 0
    · subst h0
      refine go (tuple_mul0 l its.toArray n dd sl 0 t (by decide) (by rw [hi]; rfl) (by simp)) ⟨ho, ?_⟩
      refine ⟨.ref s.heap.objs.size, _, I.laid (t' := s.toks) (o := .tup []) (fun b ob q => Heap.get?_push_of_some _ q) (Nat.le_refl _) ?_, rfl, q2 (by decide) _ (I.hok.fresh (Nat.le_refl _))⟩
      exact ⟨by show 0 ≤ sizeLine; decide, [], .nil, IsTup.new _ _⟩
    · obtain rfl : k = 1 := by omega
      refine go (tuple_mul1 l its.toArray n sl dd t) ⟨ho, ?_⟩
      exact ⟨.ref l, H, I, rfl, q1 rfl⟩
end
theorem rep_one {α : Type} {x : List α} : (List.replicate 1 x).flatten = x := by simp
def gMulX (a b : D) : M D := match a, b with
  | .tup x, .int k => fun ρ => if decide (x ≠ [] ∧ 0 ≤ k ∧ k ≤ 1000 ∧ x.length ≤ 1000) = true then .ok (.tup (List.replicate k.toNat x).flatten) ρ else .fault
  | .str z, .int k => fun ρ => if decide (z.length ≤ 1000 ∧ 0 ≤ k ∧ k ≤ 1000) = true then .ok (.str (Txt.mul z k)) ρ else .fault
  | a, b => gMul a b
def rRepS : R2 := fun x y H Q => ∃ z n, x = .str z ∧ y = .int n ∧ MulOk z n ∧ Q (.str (Txt.mul z n)) H
def rMulX (K : PySem.W.Frag) : R2 := fun x y H Q => rMulG x y H Q ∨ (rRepB K x y H Q ∨ rRepS x y H Q)
theorem op_mulX {X : Cx} : OpR X (binaryOp .Mult) (rMulX X.K) := opr_or op_mulG (opr_or op_repB op_repS)
theorem mulX {K : PySem.W.Frag} : OpD K (rMulX K) gMulX := by
  intro T E F Hz H σ ρ Q x y dx dy E0 rx ry h
  unfold gMulX at h
  split at h
  · rename_i xs k
    split at h
    · rename_i hc
      obtain ⟨hne, h0, h1, hl⟩ := of_decide_eq_true hc
      cases rx with
      | tup hp r1 =>
        cases ry
        refine .inr (.inl ⟨_, _, _, rfl, rfl, (tp_same E0.ext hp).sq, fun z => hne ?_, h0, h1, by rw [r1.length]; exact hl, fun hk => ?_, fun _ p hp' => ?_⟩)
        · have := r1.length
          rw [z] at this
          exact List.eq_nil_of_length_eq_zero this.symm
        · subst hk
          refine okd_here E0 h ?_
          rw [show (1 : Int).toNat = 1 from rfl, rep_one]
          exact .tup hp r1
        · exact okd_new E0 h hp' (fun _ z => by cases z) (.tup (.inl upd_same) ((r1.rep _).same (same_new (E0.fresh hp').1)))
    · exact h.elim
  · split at h
    · rename_i hc
      obtain ⟨h1, h2, h3⟩ := of_decide_eq_true hc
      cases rx
      cases ry
      exact .inr (.inr ⟨_, _, rfl, rfl, mulOk_small h1 h2 h3, okd_here E0 h (.str _)⟩)
    · exact h.elim
  · exact .inl (mulG T E F Hz H σ ρ Q x y dx dy E0 rx ry h)
def famR (K : PySem.W.Frag) (fg : List (CT.LamD × M D)) : List (CT.LamD × (XK → TE)) := fg.map fun p => (p.1, fun EE => tOf K [] EE p.2)
theorem famL_of {K : PySem.W.Frag} (fg : List (CT.LamD × M D)) : FamL K (famR K fg) fg := fun i d g e => ⟨fun EE => tOf K [] EE g, List.mem_map.mpr ⟨(d, g), List.mem_of_getElem? e, rfl⟩, fun EE => lift_tOf⟩
theorem envLaw {K : PySem.W.Frag} {T : List (Addr × Str)} {N : List Str} {H : Hp} {a : Addr} {ns : List Int} (hN : 0 < N.length) (ht : LamX.Tabs T H) (hs : SqL K H a (ns.map V.int)) : ∃ Hz, EnvR K T ⟨fun _ => none, none⟩ Hz H (L2.start N [.ref a]) (slots0 N [.scr ns]) := by
  obtain ⟨Hz, h1, h2, h3, h4⟩ : ∃ Hz : Hp, Same Hz H ∧ NT Hz ∧ (∀ p ∈ T, Hz p.1 = none) ∧ SqL K Hz a (ns.map V.int) := by
    rcases hs with hs | hs
    · obtain ⟨o, ho, hr, hn⟩ : ∃ o, H a = some o ∧ (∀ H' : Hp, H' a = some o → Rd H' a (.lst (ns.map V.int))) ∧ ∀ ps, o ≠ .tbl ps := by
        rcases hs with h | ⟨z, h⟩
        · exact ⟨_, h, fun H' e => .inl e, fun _ z => by cases z⟩
        · exact ⟨_, h, fun H' e => .inr ⟨z, e⟩, fun _ z => by cases z⟩
      refine ⟨fun b => if b = a then some o else none, fun b u e => ?_, fun b u e => ?_, fun p hp => ?_, .inl (hr _ (by simp))⟩
      · simp only at e
        split at e
        · rename_i hb
          cases e
          rw [hb]
          exact ho
        · cases e
      · simp only at e
        split at e
        · cases e
          exact hn
        · cases e
      · simp only
        rw [if_neg (tabs_ne ht ho hn p hp)]
    · exact ⟨fun _ => none, fun b u e => (by cases e), fun b u e => (by cases e), fun p _ => rfl, .inr hs⟩
  refine ⟨Hz, ?_⟩
  have get : ∀ {i : Nat} {b : Bool} {d : D}, (slots0 N [.scr ns])[i]? = some (some (b, d)) → i = 0 ∧ b = false ∧ d = .scr ns := fun {i b d} e => by
    cases i with
    | zero => cases e; exact ⟨rfl, rfl, rfl⟩
    | succ i =>
      unfold slots0 at e
      simp only [List.map_cons, List.map_nil, List.cons_append, List.nil_append, List.getElem?_cons_succ, List.getElem?_replicate] at e
      split at e <;> simp at e
  refine ⟨?_, h1, fun b o e => (by cases e), ht, fun p hp => ⟨h3 p hp, rfl⟩, fun i d e => ?_, fun i d e => ?_, fun i j d e b hij e1 => ?_, .inr fun b o e => (by cases e), h2, fun b d eb => by cases eb⟩
  · unfold L2.start slots0
    simp
  · obtain ⟨rfl, _, rfl⟩ := get e
    exact ⟨.ref a, rfl, .scr h4⟩
  · exact nomatch (get e).2.1
  · exact nomatch (get e1).2.1
def spLawP (K : PySem.W.Frag) (P : Addr) : Sp := fun vs H Q _ => ∃ (a : Addr) (ns : List Int), vs = [.ref a] ∧ SqL K H a (ns.map V.int) ∧ ns.length ≤ 63 ∧ H P = some (.tbl #[]) ∧ ∀ H', Q (.bl true) H'
theorem ok_lawP {P : Program} {w : World} {K : PySem.W.Frag} {mg : Str → Option Value} {base : Heap} {st : Stmt} {N : List Str} {k : Nat} {fd : FuncData} (F : FunD K "law" "law" (defArgs st) (defBody st) (defScope st) [] [] (ga K "law") fd) (S : FnScope N ["_law_script"] (defScope st)) (T : List (Addr × Str)) (Pa : Addr) (hT : ∀ H : Hp, H Pa = some (.tbl #[]) → LamX.Tabs T H) (hN : 0 < N.length) (g : Env → G)
    (hb : ∀ (A : Around) (outer : List Env) (s : Shared) (H : Hp), Room k (A.deeper (envOfC "law" (defScope st) s.heap.objs.size (ga K "law") (.ref (codeOf K ("law", none))))) →
      DSs (cxOf CX0 P w K mg base N "law" (defScope st) (ga K "law") (.ref (codeOf K ("law", none))) A outer s H E0).nox T E0 (defBody st) (g (envOfC "law" (defScope st) s.heap.objs.size (ga K "law") (.ref (codeOf K ("law", none))))))
    (hg : ∀ (env : Env) (ns : List Int), ns.length ≤ 63 → runF N (g env) [.scr ns] = .ok (.bl true)) : FnOk P w K mg base CX0 (k + 1) (ga K "law") fd ["_law_script"] (spLawP K Pa) := by
  refine okC F S (fun vs H Q E h => ?_) (fun A outer s H vs Q E hr h => ?_)
  · obtain ⟨_, _, rfl, _⟩ := h
    rfl
  · obtain ⟨a, ns, rfl, hs, hl, hP, hq⟩ := h
    obtain ⟨t, h1, h2⟩ := hb A outer s H hr
    refine ⟨t, h1, ?_⟩
    obtain ⟨Hz, E1⟩ := envLaw (N := N) hN (hT H hP) hs
    refine h2 _ Hz H _ _ _ E1 ?_
    have e := hg (envOfC "law" (defScope st) s.heap.objs.size (ga K "law") (.ref (codeOf K ("law", none)))) ns hl
    unfold runF at e
    revert e
    cases g (envOfC "law" (defScope st) s.heap.objs.size (ga K "law") (.ref (codeOf K ("law", none)))) (slots0 N [.scr ns]) with
    | rt o d ρ =>
      intro e
      cases e
      cases o with
      | false =>
        intro v σ Hz' H' _ _ r
        cases r
        exact hq H'
      | true => exact fun v σ Hz' H' _ _ r => r.2.2.elim
    | nx ρ => intro e; cases e
    | exc x ρ => intro e; cases e
    | bk ρ => intro e; cases e
    | ct ρ => intro e; cases e
    | fault => intro e; cases e
end PL
namespace PL
open PySem PySem.Spec PySem.Calls PyProof.Rows L2 He CT
/-- some slots written -/
def setS (ρ : List Slot) (cs : List (Nat × Slot)) : List Slot := cs.foldl (fun ρ c => ρ.set c.1 c.2) ρ
theorem wipe1 {s : Slot} {ρ : List Slot} {v : Nat} : wipeP (s :: ρ) [v] = (s :: ρ).set v none := rfl
theorem wipe2 {s : Slot} {ρ : List Slot} {u v : Nat} : wipeP (s :: ρ) [u, v] = ((s :: ρ).set v none).set u none := rfl
theorem wipe3 {s : Slot} {ρ : List Slot} {t u v : Nat} : wipeP (s :: ρ) [t, u, v] = (((s :: ρ).set v none).set u none).set t none := rfl
abbrev sh (d : D) : Slot := some (false, d)
abbrev ow (d : D) : Slot := some (true, d)
structure Po where
  nx : List Slot → Prop
  rt : Bool → D → List Slot → Prop
  exc : Exc → List Slot → Prop
  bk : List Slot → Prop
  ct : List Slot → Prop
def WM {α : Type} (g : M α) (ρ : List Slot) (Q : α → List Slot → Prop) (X : Exc → List Slot → Prop) : Prop := match g ρ with
  | .ok a ρ' => Q a ρ'
  | .exc e ρ' => X e ρ'
  | .fault => False
def WG (g : G) (ρ : List Slot) (P : Po) : Prop := match g ρ with
  | .nx ρ' => P.nx ρ'
  | .rt o d ρ' => P.rt o d ρ'
  | .exc e ρ' => P.exc e ρ'
  | .bk ρ' => P.bk ρ'
  | .ct ρ' => P.ct ρ'
  | .fault => False
def WF (f : Fn) (ds : List D) (Q : D → Prop) (X : Exc → Prop) : Prop := match f ds with
  | .ok d => Q d
  | .exc e => X e
  | .fault => False
def WB (f : FnB) (d : D) (ds : List D) (Q : D → D → Prop) (X : Exc → D → Prop) : Prop := match f d ds with
  | .ok d' r => Q d' r
  | .exc e d' => X e d'
  | .fault => False
section
variable {α β : Type} {ρ ρ' : List Slot} {X : Exc → List Slot → Prop} {P : Po}
theorem W_ok {g : M α} {a : α} {Q : α → List Slot → Prop} (e : g ρ = .ok a ρ') (h : Q a ρ') : WM g ρ Q X := by
  unfold WM
  rw [e]
  exact h
theorem WM.mono {g : M α} {Q Q' : α → List Slot → Prop} {X' : Exc → List Slot → Prop} (h : WM g ρ Q X) (q : ∀ a ρ, Q a ρ → Q' a ρ) (x : ∀ e ρ, X e ρ → X' e ρ) : WM g ρ Q' X' := by
  unfold WM at h ⊢
  cases e : g ρ with
  | ok a ρ' => rw [e] at h; exact q _ _ h
  | exc z ρ' => rw [e] at h; exact x _ _ h
  | fault => rw [e] at h; exact h
theorem W_bind {g : M α} {k : α → M β} {Q : β → List Slot → Prop} (h : WM g ρ (fun a ρ' => WM (k a) ρ' Q X) X) : WM (gBind g k) ρ Q X := by
  unfold WM at h
  unfold WM gBind Res.bind
  cases e : g ρ with
  | ok a ρ' => rw [e] at h; exact h
  | exc z ρ' => rw [e] at h; exact h
  | fault => rw [e] at h; exact h
variable {Q : D → List Slot → Prop} {QB : Bool → List Slot → Prop} {QL : List D → List Slot → Prop} {ga gb gc : M D} {gs : M (List D)} {g h : G} {c c' : M Bool} {i j n : Nat} {d : D}
theorem W_var (e : ρ[i]? = some (some (false, d))) (h : Q d ρ) : WM (gVar i) ρ Q X := W_ok (by unfold gVar; rw [e]) h
theorem W_give (e : ρ[i]? = some (some (true, d))) (h : Q d (ρ.set i (some (false, d)))) : WM (gVar i) ρ Q X := W_ok (by unfold gVar; rw [e]) h
theorem W_c (h : Q d ρ) : WM (gC d) ρ Q X := h
theorem W_nil (h : QL [] ρ) : WM PL.gNil ρ QL X := h
theorem W_cons (h : WM ga ρ (fun d ρ1 => WM gs ρ1 (fun ds ρ2 => QL (d :: ds) ρ2) X) X) : WM (PL.gCons ga gs) ρ QL X := W_bind (h.mono (fun d ρ1 h => W_bind (h.mono (fun ds ρ2 h => h) fun _ _ h => h)) fun _ _ h => h)
theorem W_tup (h : WM gs ρ (fun ds ρ1 => lim ds.length = true ∧ Q (.tup ds) ρ1) X) : WM (gTup gs) ρ Q X := W_bind (h.mono (fun ds ρ1 h => W_ok (if_pos h.1) h.2) fun _ _ h => h)
theorem W_lst (h : WM gs ρ (fun ds ρ1 => lim ds.length = true ∧ Q (.lst ds) ρ1) X) : WM (gLst gs) ρ Q X := W_bind (h.mono (fun ds ρ1 h => W_ok (if_pos h.1) h.2) fun _ _ h => h)
theorem W_op {go : D → D → M D} (h : WM ga ρ (fun a ρ1 => WM gb ρ1 (fun b ρ2 => WM (go a b) ρ2 Q X) X) X) : WM (gOp go ga gb) ρ Q X := W_bind (h.mono (fun d ρ1 h => W_bind h) fun _ _ h => h)
theorem W_un {go : D → M D} (h : WM ga ρ (fun a ρ1 => WM (go a) ρ1 Q X) X) : WM (gUn go ga) ρ Q X := W_bind h
theorem W_fn {gf : List D → M D} (h : WM gs ρ (fun ds ρ1 => WM (gf ds) ρ1 Q X) X) : WM (gFn gf gs) ρ Q X := W_bind h
theorem W_B (h : WM ga ρ (fun d ρ1 => ∃ b, d = .bl b ∧ QB b ρ1) X) : WM (gB ga) ρ QB X := W_bind (h.mono (fun d ρ1 ⟨b, e, h⟩ => by subst e; exact h) fun _ _ h => h)
theorem W_andT (h : WM c ρ (fun b ρ1 => (b = true → WM c' ρ1 QB X) ∧ (b = false → QB false ρ1)) X) : WM (gAndT c c') ρ QB X := W_bind (h.mono (fun b ρ1 h => by
  cases b with
  | true => exact h.1 rfl
  | false => exact h.2 rfl) fun _ _ h => h)
theorem W_orT (h : WM c ρ (fun b ρ1 => (b = true → QB true ρ1) ∧ (b = false → WM c' ρ1 QB X)) X) : WM (gOrT c c') ρ QB X := W_bind (h.mono (fun b ρ1 h => by
  cases b with
  | true => exact h.1 rfl
  | false => exact h.2 rfl) fun _ _ h => h)
theorem W_notT (h : WM c ρ (fun b ρ1 => QB (!b) ρ1) X) : WM (gNotT c) ρ QB X := W_bind (h.mono (fun b ρ1 h => h) fun _ _ h => h)
theorem W_if (h : WM c ρ (fun b ρ1 => (b = true → WM ga ρ1 Q X) ∧ (b = false → WM gb ρ1 Q X)) X) : WM (gIf c ga gb) ρ Q X := W_bind (h.mono (fun b ρ1 h => by
  cases b with
  | true => exact h.1 rfl
  | false => exact h.2 rfl) fun _ _ h => h)
theorem W_andV (h : WM ga ρ (fun d ρ1 => ∃ b, d = .bl b ∧ (b = true → WM gb ρ1 Q X) ∧ (b = false → Q (.bl false) ρ1)) X) : WM (gAndV ga gb) ρ Q X := W_bind (h.mono (fun d ρ1 ⟨b, e, h⟩ => by
  subst e
  cases b with
  | true => exact h.1 rfl
  | false => exact h.2 rfl) fun _ _ h => h)
theorem W_notV (h : WM ga ρ (fun d ρ1 => ∃ b, d = .bl b ∧ Q (.bl (!b)) ρ1) X) : WM (gNotV ga) ρ Q X := W_bind (h.mono (fun d ρ1 ⟨b, e, h⟩ => by subst e; exact h) fun _ _ h => h)
theorem W_chain {go go' : D → D → M D} (h : WM ga ρ (fun x ρ1 => WM gb ρ1 (fun y ρ2 => WM (go x y) ρ2 (fun z ρ3 => ∃ b, z = .bl b ∧ (b = true → WM gc ρ3 (fun w ρ4 => WM (go' y w) ρ4 Q X) X) ∧ (b = false → Q (.bl false) ρ3)) X) X) X) : WM (gChain go go' ga gb gc) ρ Q X :=
  W_bind (h.mono (fun x ρ1 h => W_bind (h.mono (fun y ρ2 h => W_bind (h.mono (fun z ρ3 ⟨b, e, h⟩ => by
    subst e
    cases b with
    | true => exact W_bind (h.1 rfl)
    | false => exact h.2 rfl) fun _ _ h => h)) fun _ _ h => h)) fun _ _ h => h)
theorem W_opV {go : D → D → M D} (e : look ρ i = some d) (h : WM gb ρ (fun b ρ1 => ∃ d', look ρ1 i = some d' ∧ WM (go d' b) ρ1 Q X) X) : WM (gOpV go i gb) ρ Q X := by
  unfold WM gOpV
  rw [e]
  refine W_bind (h.mono (fun k ρ1 ⟨d, h2, h3⟩ => ?_) fun _ _ h => h)
  unfold WM
  simp only [h2]
  exact h3
theorem W_call {m : Nat} {f : Fn} (h : WM gs ρ (fun ds ρ1 => ds.length = m ∧ WF f ds (fun d => Q d ρ1) (fun e => X e ρ1)) X) : WM (gCall m f gs) ρ Q X := W_bind (h.mono (fun ds ρ1 ⟨h1, h2⟩ => by
  unfold WM
  simp only [if_pos h1]
  unfold WF at h2
  cases e : f ds with
  | ok a => rw [e] at h2; exact h2
  | exc z => rw [e] at h2; exact h2
  | fault => rw [e] at h2; exact h2) fun _ _ h => h)
theorem W_b1 {m : Nat} {f : FnB} {d0 : D} (e0 : owned ρ i = some d0) (h : WM gs ρ (fun ds ρ1 => ds.length = m ∧ ∃ d, owned ρ1 i = some d ∧ WB f d ds (fun d' r => Q r (ρ1.set i (some (true, d')))) (fun e d' => X e (ρ1.set i (some (true, d'))))) X) : WM (gB1 i m f gs) ρ Q X := by
  unfold WM gB1
  rw [e0]
  refine W_bind (h.mono (fun ds ρ1 ⟨h1, d, h2, h3⟩ => ?_) fun _ _ h => h)
  unfold WM
  simp only [if_pos h1, h2]
  unfold WB at h3
  cases e : f d ds with
  | ok d' r => rw [e] at h3; exact h3
  | exc z d' => rw [e] at h3; exact h3
  | fault => rw [e] at h3; exact h3
theorem WG.mono {P' : Po} (h : WG g ρ P) (h1 : ∀ ρ, P.nx ρ → P'.nx ρ) (h2 : ∀ o d ρ, P.rt o d ρ → P'.rt o d ρ) (h3 : ∀ e ρ, P.exc e ρ → P'.exc e ρ) (h4 : ∀ ρ, P.bk ρ → P'.bk ρ) (h5 : ∀ ρ, P.ct ρ → P'.ct ρ) : WG g ρ P' := by
  unfold WG at h ⊢
  cases e : g ρ with
  | nx ρ' => rw [e] at h; exact h1 _ h
  | rt o d ρ' => rw [e] at h; exact h2 _ _ _ h
  | exc z ρ' => rw [e] at h; exact h3 _ _ h
  | bk ρ' => rw [e] at h; exact h4 _ h
  | ct ρ' => rw [e] at h; exact h5 _ h
  | fault => rw [e] at h; exact h
theorem WG_then {gm : M α} {k : α → G} (h : WM gm ρ (fun a ρ1 => WG (k a) ρ1 P) P.exc) : WG (gThen gm k) ρ P := by
  unfold WM at h
  unfold WG gThen
  cases e : gm ρ with
  | ok a ρ' => rw [e] at h; exact h
  | exc z ρ' => rw [e] at h; exact h
  | fault => rw [e] at h; exact h
theorem WG_next (h : P.nx ρ) : WG gNext ρ P := h
theorem WG_seq (h1 : WG g ρ { P with nx := fun ρ1 => WG h ρ1 P }) : WG (gSeq g h) ρ P := by
  unfold WG at h1
  unfold WG gSeq
  cases e : g ρ with
  | nx ρ' => rw [e] at h1; exact h1
  | rt o d ρ' => rw [e] at h1; exact h1
  | exc z ρ' => rw [e] at h1; exact h1
  | bk ρ' => rw [e] at h1; exact h1
  | ct ρ' => rw [e] at h1; exact h1
  | fault => rw [e] at h1; exact h1
theorem WG_ret (h : WM ga ρ (fun d ρ1 => P.rt false d ρ1) P.exc) : WG (gRet ga) ρ P := WG_then h
theorem WG_retO (h : WM ga ρ (fun d ρ1 => P.rt true d ρ1) P.exc) : WG (gRetO ga) ρ P := WG_then h
theorem WG_drop (h : WM ga ρ (fun d ρ1 => P.nx ρ1) P.exc) : WG (gDrop ga) ρ P := WG_then h
theorem WG_set (h : WM ga ρ (fun d ρ1 => P.nx (ρ1.set i (some (false, d)))) P.exc) : WG (gSet i ga) ρ P := WG_then h
theorem WG_setO (h0 : i ≠ 0) (h : WM ga ρ (fun d ρ1 => P.nx (ρ1.set i (some (true, d)))) P.exc) : WG (gSetO i ga) ρ P := WG_then (h.mono (fun d ρ1 h => by unfold WG; simp only [if_neg h0]; exact h) fun _ _ h => h)
theorem WG_if (h1 : WM c ρ (fun b ρ1 => (b = true → WG g ρ1 P) ∧ (b = false → WG h ρ1 P)) P.exc) : WG (gIfS c g h) ρ P := WG_then (h1.mono (fun b ρ1 h => by
  cases b with
  | true => exact h.1 rfl
  | false => exact h.2 rfl) fun _ _ h => h)
theorem WG_asg {gg : D → M Unit} (h : WM ga ρ (fun d ρ1 => WM (gg d) ρ1 (fun _ ρ2 => P.nx ρ2) P.exc) P.exc) : WG (gAsg ga gg) ρ P := WG_then (h.mono (fun d ρ1 h => WG_then (h.mono (fun _ ρ2 h => h) fun _ _ h => h)) fun _ _ h => h)
theorem WG_exc {e : Exc} (h : P.exc e ρ) : WG (fun ρ => .exc e ρ) ρ P := h
theorem WG_loop {gg : D → M Unit} {b : G} (I : Nat → List Slot → Prop) : ∀ (ds : List D) (k : Nat) {ρ : List Slot}, I k ρ → (∀ i d ρ, ds[i]? = some d → I (k + i) ρ → WM (gg d) ρ (fun _ ρ1 => WG b ρ1 { P with nx := I (k + i + 1), ct := I (k + i + 1), bk := P.nx }) P.exc) → (∀ ρ, I (k + ds.length) ρ → P.nx ρ) → WG (gLoop gg b ds) ρ P
  | [], k, ρ, h, _, q => q ρ h
  | d :: ds, k, ρ, h, step, q => by
    have h1 := step 0 d ρ rfl h
    unfold WM at h1
    unfold WG gLoop
    cases e : gg d ρ with
    | exc z ρ' => rw [e] at h1; exact h1
    | fault => rw [e] at h1; exact h1
    | ok u ρ1 =>
      rw [e] at h1
      simp only at h1
      have again : ∀ ρ2, I (k + 0 + 1) ρ2 → WG (gLoop gg b ds) ρ2 P := fun ρ2 h2 => WG_loop I ds (k + 1) h2 (fun i d ρ e hi => by
        have := step (i + 1) d ρ (by simpa using e) (by rw [show k + (i + 1) = k + 1 + i by omega]; exact hi)
        rw [show k + (i + 1) + 1 = k + 1 + i + 1 by omega] at this
        exact this) (fun ρ h => q ρ (by rw [List.length_cons, show k + (ds.length + 1) = k + 1 + ds.length by omega]; exact h))
      unfold WG at h1
      cases e2 : b ρ1 with
      | nx ρ2 => rw [e2] at h1; simp only [e2]; exact again ρ2 h1
      | ct ρ2 => rw [e2] at h1; simp only [e2]; exact again ρ2 h1
      | bk ρ2 => rw [e2] at h1; simp only [e2]; exact h1
      | rt o d ρ2 => rw [e2] at h1; simp only [e2]; exact h1
      | exc z ρ2 => rw [e2] at h1; simp only [e2]; exact h1
      | fault => rw [e2] at h1; simp only [e2]; exact h1
theorem WG_for {gi : M (List D)} {gg : D → M Unit} {b : G} (h : WM gi ρ (fun ds ρ1 => ∃ I : Nat → List Slot → Prop, I 0 ρ1 ∧ (∀ i d ρ, ds[i]? = some d → I i ρ → WM (gg d) ρ (fun _ ρ1 => WG b ρ1 { P with nx := I (i + 1), ct := I (i + 1), bk := P.nx }) P.exc) ∧ (∀ ρ, I ds.length ρ → P.nx ρ)) P.exc) : WG (gFor gi gg b) ρ P :=
  WG_then (h.mono (fun ds ρ1 ⟨I, h1, h2, h3⟩ => WG_loop I ds 0 h1 (fun i d ρ e hi => by simp only [Nat.zero_add] at hi ⊢; exact h2 i d ρ e hi) (fun ρ h => h3 ρ (by simpa using h))) fun _ _ h => h)
theorem W_lcL {vs : List Nat} {gg : D → M Unit} {gt : M Bool} {ge : M D} (I : Nat → List D → List Slot → Prop) : ∀ (ds : List D) (k : Nat) (acc : List D) {ρ : List Slot}, I k acc ρ → (∀ i d acc ρ, ds[i]? = some d → I (k + i) acc ρ → WM (gg d) ρ (fun _ ρ1 => WM gt ρ1 (fun b ρ2 => (b = false → I (k + i + 1) acc (wipeP ρ2 vs)) ∧ (b = true → WM ge ρ2 (fun y ρ3 => lim (acc.length + 1) = true ∧ I (k + i + 1) (acc ++ [y]) (wipeP ρ3 vs)) fun _ _ => False)) fun _ _ => False) fun _ _ => False) → (∀ acc ρ, I (k + ds.length) acc ρ → Q (.lst acc) ρ) → WM (gLcL vs gg gt ge ds acc) ρ Q X
  | [], k, acc, ρ, h, _, q => q acc ρ h
  | d :: ds, k, acc, ρ, h, step, q => by
    have h1 := step 0 d acc ρ rfl h
    have again : ∀ acc ρ2, I (k + 0 + 1) acc ρ2 → WM (gLcL vs gg gt ge ds acc) ρ2 Q X := fun acc ρ2 h2 => W_lcL I ds (k + 1) acc h2 (fun i d acc ρ e hi => by
      have := step (i + 1) d acc ρ (by simpa using e) (by rw [show k + (i + 1) = k + 1 + i by omega]; exact hi)
      rw [show k + (i + 1) + 1 = k + 1 + i + 1 by omega] at this
      exact this) (fun acc ρ h => q acc ρ (by rw [List.length_cons, show k + (ds.length + 1) = k + 1 + ds.length by omega]; exact h))
    unfold WM at h1
    unfold WM gLcL
    cases e : gg d ρ with
    | exc z ρ' => rw [e] at h1; exact h1.elim
    | fault => rw [e] at h1; exact h1.elim
    | ok u ρ1 =>
      rw [e] at h1
      simp only at h1
      cases e2 : gt ρ1 with
      | exc z ρ' => rw [e2] at h1; exact h1.elim
      | fault => rw [e2] at h1; exact h1.elim
      | ok b ρ2 =>
        rw [e2] at h1
        cases b with
        | false => simp only [e2]; exact again acc _ (h1.1 rfl)
        | true =>
          have h2 := h1.2 rfl
          cases e3 : ge ρ2 with
          | exc z ρ' => rw [e3] at h2; exact h2.elim
          | fault => rw [e3] at h2; exact h2.elim
          | ok y ρ3 =>
            rw [e3] at h2
            simp only [e2, e3]
            rw [if_pos h2.1]
            exact again _ _ h2.2
theorem W_lc {vs : List Nat} {gi : M (List D)} {gg : D → M Unit} {gt : M Bool} {ge : M D} (h : WM gi ρ (fun ds ρ1 => ∃ I : Nat → List D → List Slot → Prop, I 0 [] (wipeP ρ1 vs) ∧ (∀ i d acc ρ, ds[i]? = some d → I i acc ρ → WM (gg d) ρ (fun _ ρ1 => WM gt ρ1 (fun b ρ2 => (b = false → I (i + 1) acc (wipeP ρ2 vs)) ∧ (b = true → WM ge ρ2 (fun y ρ3 => lim (acc.length + 1) = true ∧ I (i + 1) (acc ++ [y]) (wipeP ρ3 vs)) fun _ _ => False)) fun _ _ => False) fun _ _ => False) ∧ (∀ acc ρ, I ds.length acc ρ → Q (.lst acc) ρ)) X) : WM (gLc vs gi gg gt ge) ρ Q X :=
  W_bind (h.mono (fun ds ρ1 ⟨I, h1, h2, h3⟩ => W_lcL I ds 0 [] h1 (fun i d acc ρ e hi => by simp only [Nat.zero_add] at hi ⊢; exact h2 i d acc ρ e hi) (fun acc ρ h => h3 acc ρ (by simpa using h))) fun _ _ h => h)
theorem WF_run {N : List Str} {ds : List D} {QF : D → Prop} {XF : Exc → Prop} (h : WG g (slots0 N ds) ⟨fun _ => QF .non, fun _ d _ => QF d, fun e _ => XF e, fun _ => False, fun _ => False⟩) : WF (runF N g) ds QF XF := by
  unfold WG at h
  unfold WF runF fin
  cases e : g (slots0 N ds) with
  | nx ρ' => rw [e] at h; exact h
  | rt o d ρ' => rw [e] at h; exact h
  | exc z ρ' => rw [e] at h; exact h
  | bk ρ' => rw [e] at h; exact h
  | ct ρ' => rw [e] at h; exact h
  | fault => rw [e] at h; exact h
theorem WF_runO {N : List Str} {ds : List D} {QF : D → Prop} {XF : Exc → Prop} (h : WG g (slots0 N ds) ⟨fun _ => False, fun o d _ => o = true ∧ QF d, fun e _ => XF e, fun _ => False, fun _ => False⟩) : WF (runO N g) ds QF XF := by
  unfold WG at h
  unfold WF runO finO
  cases e : g (slots0 N ds) with
  | nx ρ' => rw [e] at h; exact h
  | rt o d ρ' =>
    rw [e] at h
    obtain ⟨rfl, h⟩ := h
    exact h
  | exc z ρ' => rw [e] at h; exact h
  | bk ρ' => rw [e] at h; exact h
  | ct ρ' => rw [e] at h; exact h
  | fault => rw [e] at h; exact h
theorem WB_run {N : List Str} {d0 : D} {ds : List D} {QF : D → D → Prop} {XF : Exc → D → Prop} (h : WG g (slotsB N d0 ds) ⟨fun ρ => ∃ d, ρ[0]? = some (some (true, d)) ∧ QF d .non, fun _ r ρ => ∃ d, ρ[0]? = some (some (true, d)) ∧ QF d r, fun e ρ => ∃ d, ρ[0]? = some (some (true, d)) ∧ XF e d, fun _ => False, fun _ => False⟩) : WB (runB N g) d0 ds QF XF := by
  unfold WG at h
  unfold WB runB finB
  cases e : g (slotsB N d0 ds) with
  | nx ρ' => rw [e] at h; obtain ⟨d, h1, h2⟩ := h; simp only [h1]; exact h2
  | rt o d ρ' => rw [e] at h; obtain ⟨d, h1, h2⟩ := h; simp only [h1]; exact h2
  | exc z ρ' => rw [e] at h; obtain ⟨d, h1, h2⟩ := h; simp only [h1]; exact h2
  | bk ρ' => rw [e] at h; exact h
  | ct ρ' => rw [e] at h; exact h
  | fault => rw [e] at h; exact h
end
end PL
namespace PL
open PySem PySem.Spec PySem.Calls PyProof.Rows L2 He CT
section
variable {ρ : List Slot} {X : Exc → List Slot → Prop} {Q : D → List Slot → Prop} {i j : Int}
theorem W_mod (h : j ≠ 0) (q : Q (.int (i.fmod j)) ρ) : WM (gMod (.int i) (.int j)) ρ Q X := W_ok (if_pos (decide_eq_true h)) q
theorem W_fdiv (h : j ≠ 0) (hs : j.natAbs.log2 < 9000) (q : Q (.int (i.fdiv j)) ρ) : WM (gFdiv (.int i) (.int j)) ρ Q X := W_ok (if_pos (decide_eq_true ⟨h, hs⟩)) q
theorem W_mul (h : i.natAbs.log2 + j.natAbs.log2 < 1000000) (q : Q (.int (i * j)) ρ) : WM (gMulX (.int i) (.int j)) ρ Q X := W_ok (if_pos (decide_eq_true h)) q
theorem log2_le {n m : Nat} (h : n < 2 ^ (m + 1)) : n.log2 ≤ m := by
  rcases Nat.eq_zero_or_pos n with rfl | hp
  · simp
  · have := (Nat.log2_lt (by omega)).mpr h
    omega
theorem W_mul_small (h1 : i.natAbs < 2 ^ 64) (h2 : j.natAbs < 2 ^ 64) (q : Q (.int (i * j)) ρ) : WM (gMulX (.int i) (.int j)) ρ Q X := W_mul (by
  have := log2_le (m := 63) h1
  have := log2_le (m := 63) h2
  omega) q
theorem eqD_int {a b : Int} : eqD (.int a) (.int b) = decide (a = b) := by
  unfold eqD py PyData.eqv
  rfl
theorem W_eq_int (q : Q (.bl (decide (i = j))) ρ) : WM (gEq (.int i) (.int j)) ρ Q X := W_ok (by unfold gEq; rw [if_pos (by rfl), eqD_int]) q
theorem W_ne_int (q : Q (.bl (!decide (i = j))) ρ) : WM (gNe (.int i) (.int j)) ρ Q X := W_ok (by unfold gNe; rw [if_pos (by rfl), eqD_int]) q
end
theorem W_ixL {ρ : List Slot} {X : Exc → List Slot → Prop} {Q : D → List Slot → Prop} {l : List D} {i : Int} {d : D} (h : atI l i = some d) (q : Q d ρ) : WM (gIx (.lst l) (.int i)) ρ Q X := W_ok (by unfold gIx; simp only [h]) q
theorem W_modG {ρ : List Slot} {X : Exc → List Slot → Prop} {Q : D → List Slot → Prop} {i j : Int} (h : 0 < j) (q : ∀ r : Int, 0 ≤ r → r < j → Q (.int r) ρ) : WM (gMod (.int i) (.int j)) ρ Q X := W_mod (by omega) (q _ (Int.fmod_nonneg_of_pos i h) (Int.fmod_lt_of_pos i h))
theorem W_fdivG {ρ : List Slot} {X : Exc → List Slot → Prop} {Q : D → List Slot → Prop} {i j : Int} (hi : 0 ≤ i) (h : 0 < j) (h2 : j < 1000000) (q : ∀ r : Int, 0 ≤ r → Q (.int r) ρ) : WM (gFdiv (.int i) (.int j)) ρ Q X := W_fdiv (by omega) (by
  have := log2_le (n := j.natAbs) (m := 19) (by omega)
  omega) (q _ (Int.fdiv_nonneg hi (by omega)))
theorem atI_map {α : Type} {f : α → D} {cs : List α} {i : Int} (h0 : 0 ≤ i) (h1 : i < cs.length) : L2.atI (cs.map f) i = some (f (cs[i.toNat]'(by omega))) := by
  unfold L2.atI
  have e : L2.ixN (cs.map f).length i = some i.toNat := by
    unfold L2.ixN
    rw [List.length_map, if_pos h0, if_pos h1]
  rw [e]
  have : i.toNat < cs.length := by omega
  simp [this]
theorem ex_bl {b : Bool} {Q : Bool → Prop} (h : Q b) : ∃ b', D.bl b = .bl b' ∧ Q b' := ⟨b, rfl, h⟩
theorem ex_look {ρ : List Slot} {i : Nat} {d : D} {Q : D → Prop} (e : look ρ i = some d) (h : Q d) : ∃ d', look ρ i = some d' ∧ Q d' := ⟨d, e, h⟩
theorem ex_own {ρ : List Slot} {d : D} {Q : D → Prop} {i : Nat} (e : ρ[i]? = some (some (true, d))) (h : Q d) : ∃ d', ρ[i]? = some (some (true, d')) ∧ Q d' := ⟨d, e, h⟩
section
variable {ρ : List Slot} {X : Exc → List Slot → Prop} {Q : D → List Slot → Prop} {gs : M (List D)} {ga gb : M D} {gl gh : M (Option Int)} {QO : Option Int → List Slot → Prop} {i j l : Nat} {P : Po}
theorem W_list (h : WM gs ρ (fun ds ρ1 => ∃ l, (ds = [.lst l] ∨ ds = [.tup l]) ∧ Q (.lst l) ρ1) X) : WM (gList gs) ρ Q X := W_bind (h.mono (fun ds ρ1 ⟨l, e, h⟩ => by
  rcases e with e | e
  · subst e; exact h
  · subst e; exact h) fun _ _ h => h)
theorem ex_l {l : List D} {Q : List D → Prop} (h : Q l) : ∃ l', ([D.lst l] = [.lst l'] ∨ [D.lst l] = [.tup l']) ∧ Q l' := ⟨l, .inl rfl, h⟩
theorem ex_t {l : List D} {Q : List D → Prop} (h : Q l) : ∃ l', ([D.tup l] = [.lst l'] ∨ [D.tup l] = [.tup l']) ∧ Q l' := ⟨l, .inr rfl, h⟩
theorem W_nob (h : QO none ρ) : WM gNoB ρ QO X := h
theorem W_bnd (h : WM ga ρ (fun d ρ1 => ∃ i, d = .int i ∧ QO (some i) ρ1) X) : WM (gBnd ga) ρ QO X := W_bind (h.mono (fun d ρ1 ⟨i, e, h⟩ => by subst e; exact h) fun _ _ h => h)
theorem ex_i {i : Int} {Q : Int → Prop} (h : Q i) : ∃ i', D.int i = .int i' ∧ Q i' := ⟨i, rfl, h⟩
theorem W_slC (h : WM ga ρ (fun d ρ1 => WM gl ρ1 (fun lo ρ2 => WM gh ρ2 (fun hi ρ3 => WM (gCutC d lo hi) ρ3 Q X) X) X) X) : WM (gSlC ga gl gh) ρ Q X := W_bind (h.mono (fun d ρ1 h => W_bind (h.mono (fun lo ρ2 h => W_bind h) fun _ _ h => h)) fun _ _ h => h)
theorem W_sl (h : WM ga ρ (fun d ρ1 => WM gl ρ1 (fun lo ρ2 => WM gh ρ2 (fun hi ρ3 => WM (gCut d lo hi) ρ3 Q X) X) X) X) : WM (gSl ga gl gh) ρ Q X := W_bind (h.mono (fun d ρ1 h => W_bind (h.mono (fun lo ρ2 h => W_bind h) fun _ _ h => h)) fun _ _ h => h)
theorem W_s1 {go : D → D → M D} (h : WM ga ρ (fun a ρ1 => ∃ x, a = .str x ∧ WM gb ρ1 (fun b ρ2 => WM (go (.str x) b) ρ2 Q X) X) X) : WM (gS1 go ga gb) ρ Q X := W_bind (h.mono (fun a ρ1 ⟨x, e, h⟩ => by subst e; exact W_bind h) fun _ _ h => h)
theorem ex_s {x : Str} {Q : Str → Prop} (h : Q x) : ∃ x', D.str x = .str x' ∧ Q x' := ⟨x, rfl, h⟩
theorem W_app {d0 : List D} (e0 : owned ρ i = some (.lst d0)) (h : WM ga ρ (fun d ρ1 => ∃ l, owned ρ1 i = some (.lst l) ∧ lim (l.length + 1) = true ∧ Q .non (ρ1.set i (some (true, .lst (l ++ [d]))))) X) : WM (gApp i ga) ρ Q X := by
  unfold WM gApp
  rw [e0]
  refine W_bind (h.mono (fun d ρ1 ⟨l, h2, h3, h4⟩ => ?_) fun _ _ h => h)
  unfold WM
  simp only [h2, if_pos h3]
  exact h4
theorem ex_ol {ρ : List Slot} {l : List D} {Q : List D → Prop} {i : Nat} (e : owned ρ i = some (.lst l)) (h : Q l) : ∃ l', owned ρ i = some (.lst l') ∧ Q l' := ⟨l, e, h⟩
theorem ex_o {ρ : List Slot} {d : D} {Q : D → Prop} {i : Nat} (e : owned ρ i = some d) (h : Q d) : ∃ d', owned ρ i = some d' ∧ Q d' := ⟨d, e, h⟩
theorem W_yes {QB : Bool → List Slot → Prop} (h : QB true ρ) : WM gYes ρ QB X := h
theorem W_gN {d : D} {QU : Unit → List Slot → Prop} (h : QU () (ρ.set i (some (false, d)))) : WM (gN i d) ρ QU X := h
theorem WF.mono {f : Fn} {ds : List D} {QF QF' : D → Prop} {XF XF' : Exc → Prop} (hf : WF f ds QF XF) (q : ∀ d, QF d → QF' d) (x : ∀ e, XF e → XF' e) : WF f ds QF' XF' := by
  unfold WF at hf ⊢
  cases e : f ds with
  | ok a => rw [e] at hf; exact q _ hf
  | exc z => rw [e] at hf; exact x _ hf
  | fault => rw [e] at hf; exact hf
theorem WB.mono {f : FnB} {d : D} {ds : List D} {QF QF' : D → D → Prop} {XF XF' : Exc → D → Prop} (hf : WB f d ds QF XF) (q : ∀ d r, QF d r → QF' d r) (x : ∀ e d, XF e d → XF' e d) : WB f d ds QF' XF' := by
  unfold WB at hf ⊢
  cases e : f d ds with
  | ok a r => rw [e] at hf; exact q _ _ hf
  | exc z a => rw [e] at hf; exact x _ _ hf
  | fault => rw [e] at hf; exact hf
end
theorem cut_map {α : Type} {f : α → D} {l : List α} {lo hi : Option Int} : ∃ l' : List α, cutD (l.map f) lo hi = l'.map f ∧ l'.length ≤ l.length := by
  refine ⟨(l.drop (HT.sIx l.length 0 lo)).take (HT.sIx l.length l.length hi - HT.sIx l.length 0 lo), ?_, ?_⟩
  · unfold cutD
    rw [List.length_map, List.map_take, List.map_drop]
  · rw [List.length_take, List.length_drop]
    omega
theorem pow18 : (10 : Int) ^ Int.toNat 18 = 1000000000000000000 := by decide
end PL
namespace PL
open PySem PySem.Spec PySem.Calls PyProof.Rows L2 He CT
section
variable {ρ : List Slot} {X : Exc → List Slot → Prop} {Q : D → List Slot → Prop} {QL : List D → List Slot → Prop}
theorem W_range1 {j : Int} (h1 : -1000000 ≤ j) (h2 : j ≤ 1000000) (q : QL (rng 0 j.toNat) ρ) : WM (gRange1 [.int j]) ρ QL X := W_ok (if_pos (decide_eq_true ⟨h1, h2⟩)) q
theorem rng_at {n i : Nat} {d : D} (h : (rng 0 n)[i]? = some d) : d = .int i ∧ i < n := by
  unfold rng at h
  rw [List.getElem?_map] at h
  obtain ⟨k, hk, rfl⟩ := Option.map_eq_some_iff.mp h
  obtain ⟨hl, e⟩ := List.getElem?_eq_some_iff.mp hk
  rw [List.getElem_range] at e
  rw [List.length_range] at hl
  subst e
  exact ⟨by simp, hl⟩
theorem rng_len {n : Nat} : (rng 0 n).length = n := by unfold rng; rw [List.length_map, List.length_range]
theorem W_ixS {z : Str} {i : Int} {c : Nat} (hl : lim z.length = true) (h : L2.atI z.cps.toList i = some c) (q : Q (.str ⟨#[c]⟩) ρ) : WM (gIx (.str z) (.int i)) ρ Q X := W_ok (by unfold gIx; simp only [if_pos hl, h]) q
theorem strsOf_map : ∀ ls : List (List Nat), strsOf (ls.map fun l => .str (S l)) = some (ls.map S)
  | [] => rfl
  | l :: ls => by
    rw [List.map_cons, strsOf, strsOf_map ls]
    rfl
theorem joinL_nil : ∀ ls : List (List Nat), TL.joinL [] ls = ls.flatten
  | [] => rfl
  | [l] => by simp [TL.joinL]
  | l :: m :: r => by
    show l ++ ([] ++ TL.joinL [] (m :: r)) = _
    rw [joinL_nil (m :: r)]
    rfl
theorem W_join {ls : List (List Nat)} (h : (ls.map (·.length)).sum ≤ 100000) (q : Q (.str (S ls.flatten)) ρ) : WM (gJoin (.str (Str.ofString "")) (.lst (ls.map fun l => .str (S l)))) ρ Q X := by
  have e := SX.join_S [] ls
  rw [joinL_nil] at e
  refine W_ok (a := .str (S ls.flatten)) ?_ q
  unfold gJoin
  simp only [strsOf_map]
  have hs : ((ls.map S).map (·.length)).sum = (ls.map (·.length)).sum := by
    rw [List.map_map]
    congr 1
  have h0 : (Str.ofString "").length = 0 := by decide
  rw [if_pos (decide_eq_true (by rw [hs, h0]; omega))]
  exact congrArg (fun z => Res.ok (D.str z) ρ) e
end
theorem lim_of {n : Nat} (h : n ≤ 100000) : lim n = true := decide_eq_true h
theorem atI_get {α : Type} {l : List α} {j : Nat} (h : j < l.length) : L2.atI l (j : Int) = some l[j] := by
  unfold L2.atI
  have e : L2.ixN l.length (j : Int) = some j := by
    unfold L2.ixN
    rw [if_pos (by omega), if_pos (by omega)]
    simp
  rw [e]
  simp [h]
theorem W_lenS {ρ : List Slot} {X : Exc → List Slot → Prop} {Q : D → List Slot → Prop} {l : List Nat} (h : l.length ≤ 100000) (q : Q (.int l.length) ρ) : WM (gLen [.str (S l)]) ρ Q X := W_ok (by show (if lim (S l).length = true then Res.ok (D.int ((S l).length : Nat)) ρ else Res.fault) = _; rw [show (S l).length = l.length by simp [S, Str.length], if_pos (lim_of h)]) q
end PL
namespace PL
open PySem PySem.Spec PySem.Calls PyProof.Rows L2 He CT
section
variable {ρ : List Slot} {X : Exc → List Slot → Prop} {Q : D → List Slot → Prop} {QL : List D → List Slot → Prop} {ga gb : M D} {gs : M (List D)} {i j k : Nat} {P : Po}
theorem S_list {l : List Nat} : (S l).cps.toList = l := by simp [S]
theorem S_len {l : List Nat} : (S l).length = l.length := by simp [S, Str.length]
theorem S_app {l m : List Nat} : S l ++ S m = S (l ++ m) := by
  show Str.append (S l) (S m) = _
  simp [S, Str.append]
theorem W_addS {l m : List Nat} (h : l.length + m.length ≤ 100000) (q : Q (.str (S (l ++ m))) ρ) : WM (gAdd (.str (S l)) (.str (S m))) ρ Q X := W_ok (by
  show (if lim ((S l).length + (S m).length) = true then Res.ok (D.str (S l ++ S m)) ρ else Res.fault) = _
  rw [S_len, S_len, if_pos (lim_of h), S_app]) q
theorem cutS_take {l : List Nat} {n : Nat} : L2.cutS (S l) none (some (n : Int)) = S (l.take n) := by
  unfold L2.cutS
  rw [HT.sIx_none, HT.sIx_nat, S_list, S_len, List.drop_zero, Nat.sub_zero]
  show S (l.take (min n l.length)) = _
  congr 1
  rw [List.take_eq_take_iff]
  omega
theorem W_cutS {l : List Nat} {n : Nat} (h : l.length ≤ 100000) (q : Q (.str (S (l.take n))) ρ) : WM (gCut (.str (S l)) none (some (n : Int))) ρ Q X := W_ok (by
  show (if lim (S l).length = true then Res.ok (D.str (L2.cutS (S l) none (some (n : Int)))) ρ else Res.fault) = _
  rw [S_len, if_pos (lim_of h), cutS_take]) q
theorem W_ne {a b : D} (h : (eqB a && eqB b) = true) (q : Q (.bl (!eqD a b)) ρ) : WM (gNe a b) ρ Q X := W_ok (if_pos h) q
theorem signs_S {l : List Nat} : signs (S l) = l.map fun c => .str (S [c]) := by
  unfold signs
  rw [S_list]
theorem enum_at {l : List D} {i : Nat} {d : D} (h : (enumD 0 l)[i]? = some d) : ∃ x, l[i]? = some x ∧ d = .tup [.int i, x] := by
  have hi := (List.getElem?_eq_some_iff.mp h).1
  rw [enumD_length] at hi
  have e := enumD_get (n := 0) (List.getElem?_eq_getElem hi)
  rw [h] at e
  refine ⟨l[i], List.getElem?_eq_getElem hi, ?_⟩
  rw [Option.some.inj e, Nat.zero_add]
theorem WG_par (h : WM gs ρ (fun ds ρ1 => ∃ d e, ds = [d, e] ∧ P.nx ((ρ1.set i (some (false, d))).set j (some (false, e)))) P.exc) : WG (gPar i j gs) ρ P := WG_then (h.mono (fun ds ρ1 ⟨d, e, z, h⟩ => by subst z; exact h) fun _ _ h => h)
theorem mem_snoc {α : Type} {p : α → Prop} {l : List α} {x : α} (h : ∀ y ∈ l, p y) (hx : p x) : ∀ y ∈ l ++ [x], p y := fun y hy => by
  rcases List.mem_append.mp hy with hy | hy
  · exact h y hy
  · rw [List.mem_singleton.mp hy]
    exact hx
/-- a comprehension that changes nothing -/
theorem I_map {α : Type} {l : List α} {g f : α → D} {ρ0 : List Slot} {gg : D → M Unit} {ge : M D} {vs : List Nat} {QQ : List D → List Slot → Prop} (hl : l.length ≤ 50000) (step : ∀ c ∈ l, WM (gg (g c)) ρ0 (fun _ ρ1 => WM ge ρ1 (fun y ρ2 => y = f c ∧ wipeP ρ2 vs = ρ0) fun _ _ => False) fun _ _ => False) (q : QQ (l.map f) ρ0) :
    ∃ I : Nat → List D → List Slot → Prop, I 0 [] ρ0 ∧ (∀ i d acc ρ, (l.map g)[i]? = some d → I i acc ρ → WM (gg d) ρ (fun _ ρ1 => WM gYes ρ1 (fun b ρ2 => (b = false → I (i + 1) acc (wipeP ρ2 vs)) ∧ (b = true → WM ge ρ2 (fun y ρ3 => lim (acc.length + 1) = true ∧ I (i + 1) (acc ++ [y]) (wipeP ρ3 vs)) fun _ _ => False)) fun _ _ => False) fun _ _ => False) ∧ (∀ acc ρ, I (l.map g).length acc ρ → QQ acc ρ) := by
  refine ⟨fun i acc ρ => acc = (l.take i).map f ∧ ρ = ρ0, ⟨rfl, rfl⟩, fun i d acc ρ hd ⟨he, hρ⟩ => ?_, fun acc ρ ⟨he, hρ⟩ => ?_⟩
  · subst hρ
    rw [List.getElem?_map] at hd
    obtain ⟨c, hc, rfl⟩ := Option.map_eq_some_iff.mp hd
    have hi := (List.getElem?_eq_some_iff.mp hc).1
    refine (step c (List.mem_of_getElem? hc)).mono (fun _ ρ1 h => W_yes ⟨fun z => (by cases z), fun _ => h.mono (fun y ρ2 ⟨h1, h2⟩ => ⟨lim_of ?_, ?_, h2⟩) (fun _ _ => False.elim)⟩) (fun _ _ => False.elim)
    · rw [he, List.length_map, List.length_take]
      omega
    · rw [he, h1, List.take_add_one, hc]
      simp
  · rw [List.length_map, List.take_length] at he
    rw [he, hρ]
    exact q
theorem boolsOf_map {α : Type} (p : α → Bool) : ∀ l : List α, boolsOf (l.map fun c => .bl (p c)) = some (l.map p)
  | [] => rfl
  | c :: l => by
    rw [List.map_cons, boolsOf, boolsOf_map p l]
    rfl
theorem W_all {α : Type} {p : α → Bool} {l : List α} (q : Q (.bl (l.all p)) ρ) : WM (gAll [.lst (l.map fun c => .bl (p c))]) ρ Q X := W_ok (a := .bl (l.all p)) (by
  unfold gAll
  simp only [boolsOf_map]
  congr 2
  rw [List.all_map]
  rfl) q
end
end PL
namespace PL
open PySem PySem.Spec PySem.Calls PyProof.Rows L2 He CT
section
variable {ρ : List Slot} {P : Po}
theorem WG_setF {cn f : Str} {i : Nat} {ge : M D} (h : WM ge ρ (fun d ρ1 => ∃ l, owned ρ1 i = some (.own cn l) ∧ l.length < 1000 ∧ P.nx (ρ1.set i (some (true, .own cn (putD f d l))))) P.exc) : WG (gSetF cn f i ge) ρ P := WG_then (h.mono (fun d ρ1 ⟨l, e, hl, h⟩ => by
  unfold WG
  simp only [e, hl, and_self, if_true]
  exact h) fun _ _ h => h)
end
end PL
namespace PL
open PySem PySem.Spec PySem.Calls PyProof.Rows L2 He CT
section
variable {ρ : List Slot} {X : Exc → List Slot → Prop} {Q : D → List Slot → Prop} {QL : List D → List Slot → Prop} {ga gb : M D} {gs : M (List D)} {i j k : Nat} {P : Po}
theorem W_addL {x y : List D} (h : x.length + y.length ≤ 100000) (q : Q (.lst (x ++ y)) ρ) : WM (gAdd (.lst x) (.lst y)) ρ Q X := W_ok (by
  show (if lim (x.length + y.length) = true then Res.ok (D.lst (x ++ y)) ρ else Res.fault) = _
  rw [if_pos (lim_of h)]) q
theorem W_repL {x : List D} {k : Nat} (hk : k ≤ 1000) (h : x.length * k ≤ 100000) (q : Q (.lst (List.replicate k x).flatten) ρ) : WM (gMulX (.lst x) (.int k)) ρ Q X := W_ok (by
  show (if decide (-1000000 ≤ (k : Int) ∧ (k : Int) ≤ 1000000) = true then (if lim (x.length * (k : Int).toNat) = true then Res.ok (D.lst (List.replicate (k : Int).toNat x).flatten) ρ else Res.fault) else Res.fault) = _
  rw [if_pos (decide_eq_true (by omega)), Int.toNat_natCast, if_pos (lim_of h)]) q
theorem W_rep1 {x : D} {k : Nat} (hk : k ≤ 1000) (q : Q (.lst (List.replicate k x)) ρ) : WM (gMulX (.lst [x]) (.int k)) ρ Q X := W_repL hk (by show 1 * k ≤ 100000; omega) (by rw [List.flatten_replicate_singleton]; exact q)
theorem W_lenL {x : List D} (q : Q (.int x.length) ρ) : WM (gLen [.lst x]) ρ Q X := q
theorem W_lenT {x : List D} (q : Q (.int x.length) ρ) : WM (gLen [.tup x]) ρ Q X := q
theorem cutD_drop (xs : List D) (j : Nat) : PL.cutD xs (some (j : Int)) none = xs.drop j := by
  unfold PL.cutD
  rw [HT.sIx_nat, HT.sIx_none, List.take_of_length_le (by rw [List.length_drop]; omega)]
  by_cases h : j ≤ xs.length
  · rw [Nat.min_eq_left h]
  · rw [Nat.min_eq_right (by omega), List.drop_eq_nil_of_le (Nat.le_refl _), List.drop_eq_nil_of_le (by omega)]
theorem cutD_take (xs : List D) (j : Nat) : PL.cutD xs none (some (j : Int)) = xs.take j := by
  unfold PL.cutD
  rw [HT.sIx_none, HT.sIx_nat, List.drop_zero, Nat.sub_zero, List.take_eq_take_iff]
  omega
theorem W_make {cn : Str} {m : Nat} {f : FnB} (h : WM gs ρ (fun ds ρ1 => ds.length = m ∧ WB f (.own cn []) ds (fun d' r => r = .non ∧ Q d' ρ1) (fun e _ => X e ρ1)) X) : WM (gMake cn m f gs) ρ Q X := W_bind (h.mono (fun ds ρ1 ⟨h1, h2⟩ => by
  unfold WM
  simp only [if_pos h1]
  unfold WB at h2
  cases e : f (.own cn []) ds with
  | ok d' r =>
    rw [e] at h2
    obtain ⟨rfl, h2⟩ := h2
    exact h2
  | exc z d' => rw [e] at h2; exact h2
  | fault => rw [e] at h2; exact h2) fun _ _ h => h)
theorem W_meth {cn m : Str} {n : Nat} {f : Fn} (h : WM ga ρ (fun d ρ1 => ∃ l, d = .own cn l ∧ l.lookup m = none ∧ WM gs ρ1 (fun ds ρ2 => ds.length + 1 = n ∧ WF f (.own cn l :: ds) (fun r => Q r ρ2) (fun e => X e ρ2)) X) X) : WM (gMeth cn m n f ga gs) ρ Q X := W_bind (h.mono (fun d ρ1 ⟨l, e, hl, h⟩ => by
  subst e
  unfold WM
  simp only [hl, and_self, if_true]
  refine W_bind (h.mono (fun ds ρ2 ⟨h1, h2⟩ => ?_) fun _ _ h => h)
  unfold WM
  simp only [if_pos h1]
  unfold WF at h2
  cases e : f (.own cn l :: ds) with
  | ok a => rw [e] at h2; exact h2
  | exc z => rw [e] at h2; exact h2
  | fault => rw [e] at h2; exact h2) fun _ _ h => h)
/-- an error that _law_why tells of -/
def Tells (R : List (Str × Option Str)) (e : Exc) : Prop := (decide ((e.n, e.x) ∈ R) && decide (e.x ≠ some ("tag" : Str)) && flatD e.d && okData (.str e.n)) = true
theorem whyRes_ok {R : List (Str × Option Str)} {g : M D} {QS : Str × D → Prop} (h : WM g (shOnly ρ) (fun _ _ => QS ("", .non)) (fun e _ => Tells R e ∧ QS (e.n, e.d))) : ∃ t, whyRes R g ρ = some t ∧ QS t := by
  unfold WM at h
  unfold whyRes
  cases e : g (shOnly ρ) with
  | ok a ρ' => rw [e] at h; exact ⟨_, rfl, h⟩
  | exc z ρ' =>
    rw [e] at h
    refine ⟨(z.n, z.d), ?_, h.2⟩
    simp only
    have h1 := h.1
    unfold Tells at h1
    rw [if_pos h1]
  | fault => rw [e] at h; exact h.elim
theorem W_why {R : List (Str × Option Str)} {g : M D} (h : WM g (shOnly ρ) (fun _ _ => Q (.tup [.str "", .non]) ρ) (fun e _ => Tells R e ∧ Q (.tup [.str e.n, e.d]) ρ)) : WM (gWhy R g) ρ Q X := by
  obtain ⟨t, e, h⟩ := whyRes_ok (QS := fun t => Q (.tup [.str t.1, t.2]) ρ) h
  unfold WM gWhy
  rw [e]
  exact h
/-- asks that are kept: what each of them tells -/
theorem askAll_of {R : List (Str × Option Str)} {fam : List (LamD × M D)} {env : Env} : ∀ {ds : List D} {ts : List (Str × D)}, ds.length = ts.length → (∀ (k : Nat) (d : D) (t : Str × D), ds[k]? = some d → ts[k]? = some t → ∃ (e : LamD) (i : Nat) (g : M D), d = D.lam env e i ∧ fam[i]? = some (e, g) ∧ whyRes R g ρ = some t) → askAll R fam env ρ ds = some ts
  | [], [], _, _ => rfl
  | [], _ :: _, h, _ => by cases h
  | _ :: _, [], h, _ => by cases h
  | d :: ds, t :: ts, h, hk => by
    obtain ⟨e, i, g, rfl, hf, hw⟩ := hk 0 d t rfl rfl
    have ih := askAll_of (ds := ds) (ts := ts) (Nat.succ.inj h) fun k d t h1 h2 => hk (k + 1) d t h1 h2
    have h1 : askRes R fam env ρ (.lam env e i) = some t := by
      unfold askRes
      simp only [hf, and_self, if_true]
      exact hw
    unfold askAll
    rw [h1, ih]
theorem W_asked {R : List (Str × Option Str)} {fam : List (LamD × M D)} {env : Env} {ja j : Nat} {l : List D} {ts : List (Str × D)} (e : ρ[ja]? = some (some (false, .lst l))) (hl : l.length ≤ 1000) (hj : j < ρ.length) (ht : l.length = ts.length)
    (hk : ∀ (k : Nat) (d : D) (t : Str × D), l[k]? = some d → ts[k]? = some t → ∃ (e : LamD) (i : Nat) (g : M D), d = D.lam env e i ∧ fam[i]? = some (e, g) ∧ whyRes R g ρ = some t) (q : Q (.lst (ts.map fun t => .tup [.str t.1, t.2])) ρ) : WM (gAsked R fam env ja j) ρ Q X := by
  unfold WM gAsked
  rw [e]
  simp only [hl, hj, decide_true, Bool.and_self, if_true]
  rw [askAll_of ht hk]
  exact q
theorem WF_of {f : Fn} {ds : List D} {r : D} {QF : D → Prop} {XF : Exc → Prop} (e : f ds = .ok r) (h : QF r) : WF f ds QF XF := by
  unfold WF
  rw [e]
  exact h
end
end PL
namespace PL
open PySem PySem.Spec PySem.Calls PyProof.Rows L2 He CT
abbrev MT := List (List L2.Key × D)
def Keep (H H' : Hp) : Prop := (∀ b C dx fs, H b = some (.ins C dx fs) → H' b = some (.ins C dx fs)) ∧ ∀ b xs, H b = some (.tup xs) → H' b = some (.tup xs)
theorem Keep.refl (H : Hp) : Keep H H := ⟨fun _ _ _ _ z => z, fun _ _ z => z⟩
end PL
namespace PL
open PySem PySem.Spec PySem.Calls PyProof.Rows L2 He CT
def gDict0 : M D := fun ρ => .ok (.dT []) ρ
end PL
namespace PL
open PySem PySem.Spec PySem.Calls PyProof.Rows L2 He CT
section
variable {ρ : List Slot} {X : Exc → List Slot → Prop} {Q : D → List Slot → Prop} {QU : Unit → List Slot → Prop} {QL : List D → List Slot → Prop} {ga gb gk gx : M D} {gs : M (List D)} {i j k : Nat} {P : Po} {l : MT}
theorem W_dict0 (q : Q (.dT []) ρ) : WM gDict0 ρ Q X := q
theorem W_lenN {cn : Str} {f : Fn} {l : List (Str × D)} {n : Nat} (h : f [.own cn l] = .ok (.int (n : Int))) (hn : n ≤ 1000) (q : Q (.int (n : Int)) ρ) : WM (gLenO cn f [.own cn l]) ρ Q X := by
  unfold WM gLenO
  simp only [if_true, h]
  rw [if_pos (by omega)]
  exact q
theorem W_prop {cn : Str} {f : Fn} (h : WM ga ρ (fun d ρ1 => ∃ l, d = .own cn l ∧ WF f [.own cn l] (fun r => Q r ρ1) (fun e => X e ρ1)) X) : WM (gProp cn f ga) ρ Q X := W_bind (h.mono (fun d ρ1 ⟨l, e, h⟩ => by
  subst e
  unfold WM
  simp only [if_true]
  unfold WF at h
  cases e : f [.own cn l] with
  | ok a => rw [e] at h; exact h
  | exc z => rw [e] at h; exact h
  | fault => rw [e] at h; exact h) fun _ _ h => h)
end
section gk
/-- one step of the plain logic, found by its head -/
class GK (G : Prop) (P : outParam Prop) : Prop where
  pf : P → G
class IsAt (ρ : List Slot) (i : Nat) (s : outParam Slot) : Prop where
  e : ρ[i]? = some s
instance gk_at0 {s : Slot} {ρ : List Slot} : IsAt (s :: ρ) 0 s := ⟨rfl⟩
instance gk_at1 {s t : Slot} {ρ : List Slot} {i : Nat} [h : IsAt ρ i s] : IsAt (t :: ρ) (i + 1) s := ⟨by simpa using h.e⟩
instance i_var {ρ : List Slot} {X : Exc → List Slot → Prop} {Q : D → List Slot → Prop} {i : Nat} {d : D} [h : IsAt ρ i (some (false, d))] : GK (WM (gVar i) ρ Q X) (Q d ρ) := ⟨W_var h.e⟩
instance i_W_c {ρ : List Slot} {X : Exc → List Slot → Prop} {Q : D → List Slot → Prop} {d : D}  : GK (WM (gC d) ρ Q X) (Q d ρ) := ⟨W_c⟩
instance i_W_cons {ρ : List Slot} {X : Exc → List Slot → Prop} {QL : List D → List Slot → Prop} {ga : M D} {gs : M (List D)}  : GK (WM (PL.gCons ga gs) ρ QL X) (WM ga ρ (fun d ρ1 => WM gs ρ1 (fun ds ρ2 => QL (d :: ds) ρ2) X) X) := ⟨W_cons⟩
instance i_W_nil {ρ : List Slot} {X : Exc → List Slot → Prop} {QL : List D → List Slot → Prop}  : GK (WM PL.gNil ρ QL X) (QL [] ρ) := ⟨W_nil⟩
instance i_W_op {ρ : List Slot} {X : Exc → List Slot → Prop} {Q : D → List Slot → Prop} {ga : M D} {gb : M D} {go : D → D → M D} : GK (WM (gOp go ga gb) ρ Q X) (WM ga ρ (fun a ρ1 => WM gb ρ1 (fun b ρ2 => WM (go a b) ρ2 Q X) X) X) := ⟨W_op⟩
instance i_WG_seq {ρ : List Slot} {P : Po} {g : G} {h : G}  : GK (WG (gSeq g h) ρ P) (WG g ρ { P with nx := fun ρ1 => WG h ρ1 P }) := ⟨WG_seq⟩
instance i_W_B {ρ : List Slot} {X : Exc → List Slot → Prop} {QB : Bool → List Slot → Prop} {ga : M D}  : GK (WM (gB ga) ρ QB X) (WM ga ρ (fun d ρ1 => ∃ b, d = .bl b ∧ QB b ρ1) X) := ⟨W_B⟩
instance i_WG_set {ρ : List Slot} {P : Po} {ga : M D} {i : Nat}  : GK (WG (gSet i ga) ρ P) (WM ga ρ (fun d ρ1 => P.nx (ρ1.set i (some (false, d)))) P.exc) := ⟨WG_set⟩
instance i_WG_if {ρ : List Slot} {P : Po} {g : G} {h : G} {c : M Bool}  : GK (WG (gIfS c g h) ρ P) (WM c ρ (fun b ρ1 => (b = true → WG g ρ1 P) ∧ (b = false → WG h ρ1 P)) P.exc) := ⟨WG_if⟩
instance i_W_call {ρ : List Slot} {X : Exc → List Slot → Prop} {Q : D → List Slot → Prop} {gs : M (List D)} {m : Nat} {f : Fn} : GK (WM (gCall m f gs) ρ Q X) (WM gs ρ (fun ds ρ1 => ds.length = m ∧ WF f ds (fun d => Q d ρ1) (fun e => X e ρ1)) X) := ⟨W_call⟩
instance i_W_fn {ρ : List Slot} {X : Exc → List Slot → Prop} {Q : D → List Slot → Prop} {gs : M (List D)} {gf : List D → M D} : GK (WM (gFn gf gs) ρ Q X) (WM gs ρ (fun ds ρ1 => WM (gf ds) ρ1 Q X) X) := ⟨W_fn⟩
instance i_W_meth {ρ : List Slot} {X : Exc → List Slot → Prop} {Q : D → List Slot → Prop} {ga : M D} {gs : M (List D)} {cn m : Str} {n : Nat} {f : Fn} : GK (WM (gMeth cn m n f ga gs) ρ Q X) (WM ga ρ (fun d ρ1 => ∃ l, d = .own cn l ∧ l.lookup m = none ∧ WM gs ρ1 (fun ds ρ2 => ds.length + 1 = n ∧ WF f (.own cn l :: ds) (fun r => Q r ρ2) (fun e => X e ρ2)) X) X) := ⟨W_meth⟩
instance i_W_bind {α : Type} {β : Type} {ρ : List Slot} {X : Exc → List Slot → Prop} {g : M α} {k : α → M β} {Q : β → List Slot → Prop} : GK (WM (gBind g k) ρ Q X) (WM g ρ (fun a ρ' => WM (k a) ρ' Q X) X) := ⟨W_bind⟩
instance i_W_if {ρ : List Slot} {X : Exc → List Slot → Prop} {Q : D → List Slot → Prop} {ga : M D} {gb : M D} {c : M Bool}  : GK (WM (gIf c ga gb) ρ Q X) (WM c ρ (fun b ρ1 => (b = true → WM ga ρ1 Q X) ∧ (b = false → WM gb ρ1 Q X)) X) := ⟨W_if⟩
instance i_W_tup {ρ : List Slot} {X : Exc → List Slot → Prop} {Q : D → List Slot → Prop} {gs : M (List D)}  : GK (WM (gTup gs) ρ Q X) (WM gs ρ (fun ds ρ1 => lim ds.length = true ∧ Q (.tup ds) ρ1) X) := ⟨W_tup⟩
instance i_W_lst {ρ : List Slot} {X : Exc → List Slot → Prop} {Q : D → List Slot → Prop} {gs : M (List D)}  : GK (WM (gLst gs) ρ Q X) (WM gs ρ (fun ds ρ1 => lim ds.length = true ∧ Q (.lst ds) ρ1) X) := ⟨W_lst⟩
instance i_W_lenL {ρ : List Slot} {X : Exc → List Slot → Prop} {Q : D → List Slot → Prop} {x : List D} : GK (WM (gLen [.lst x]) ρ Q X) (Q (.int x.length) ρ) := ⟨W_lenL⟩
instance i_W_lenT {ρ : List Slot} {X : Exc → List Slot → Prop} {Q : D → List Slot → Prop} {x : List D} : GK (WM (gLen [.tup x]) ρ Q X) (Q (.int x.length) ρ) := ⟨W_lenT⟩
instance i_W_make {ρ : List Slot} {X : Exc → List Slot → Prop} {Q : D → List Slot → Prop} {gs : M (List D)} {cn : Str} {m : Nat} {f : FnB} : GK (WM (gMake cn m f gs) ρ Q X) (WM gs ρ (fun ds ρ1 => ds.length = m ∧ WB f (.own cn []) ds (fun d' r => r = .non ∧ Q d' ρ1) (fun e _ => X e ρ1)) X) := ⟨W_make⟩
instance i_W_prop {ρ : List Slot} {X : Exc → List Slot → Prop} {Q : D → List Slot → Prop} {ga : M D} {cn : Str} {f : Fn} : GK (WM (gProp cn f ga) ρ Q X) (WM ga ρ (fun d ρ1 => ∃ l, d = .own cn l ∧ WF f [.own cn l] (fun r => Q r ρ1) (fun e => X e ρ1)) X) := ⟨W_prop⟩
instance i_W_dict0 {ρ : List Slot} {X : Exc → List Slot → Prop} {Q : D → List Slot → Prop}  : GK (WM gDict0 ρ Q X) (Q (.dT []) ρ) := ⟨W_dict0⟩
instance i_W_andT {ρ : List Slot} {X : Exc → List Slot → Prop} {QB : Bool → List Slot → Prop} {c : M Bool} {c' : M Bool}  : GK (WM (gAndT c c') ρ QB X) (WM c ρ (fun b ρ1 => (b = true → WM c' ρ1 QB X) ∧ (b = false → QB false ρ1)) X) := ⟨W_andT⟩
instance i_W_orT {ρ : List Slot} {X : Exc → List Slot → Prop} {QB : Bool → List Slot → Prop} {c : M Bool} {c' : M Bool}  : GK (WM (gOrT c c') ρ QB X) (WM c ρ (fun b ρ1 => (b = true → QB true ρ1) ∧ (b = false → WM c' ρ1 QB X)) X) := ⟨W_orT⟩
instance i_W_notT {ρ : List Slot} {X : Exc → List Slot → Prop} {QB : Bool → List Slot → Prop} {c : M Bool}  : GK (WM (gNotT c) ρ QB X) (WM c ρ (fun b ρ1 => QB (!b) ρ1) X) := ⟨W_notT⟩
instance i_W_andV {ρ : List Slot} {X : Exc → List Slot → Prop} {Q : D → List Slot → Prop} {ga : M D} {gb : M D}  : GK (WM (gAndV ga gb) ρ Q X) (WM ga ρ (fun d ρ1 => ∃ b, d = .bl b ∧ (b = true → WM gb ρ1 Q X) ∧ (b = false → Q (.bl false) ρ1)) X) := ⟨W_andV⟩
instance i_W_notV {ρ : List Slot} {X : Exc → List Slot → Prop} {Q : D → List Slot → Prop} {ga : M D}  : GK (WM (gNotV ga) ρ Q X) (WM ga ρ (fun d ρ1 => ∃ b, d = .bl b ∧ Q (.bl (!b)) ρ1) X) := ⟨W_notV⟩
instance i_W_chain {ρ : List Slot} {X : Exc → List Slot → Prop} {Q : D → List Slot → Prop} {ga : M D} {gb : M D} {gc : M D} {go go' : D → D → M D} : GK (WM (gChain go go' ga gb gc) ρ Q X) (WM ga ρ (fun x ρ1 => WM gb ρ1 (fun y ρ2 => WM (go x y) ρ2 (fun z ρ3 => ∃ b, z = .bl b ∧ (b = true → WM gc ρ3 (fun w ρ4 => WM (go' y w) ρ4 Q X) X) ∧ (b = false → Q (.bl false) ρ3)) X) X) X) := ⟨W_chain⟩
instance i_W_un {ρ : List Slot} {X : Exc → List Slot → Prop} {Q : D → List Slot → Prop} {ga : M D} {go : D → M D} : GK (WM (gUn go ga) ρ Q X) (WM ga ρ (fun a ρ1 => WM (go a) ρ1 Q X) X) := ⟨W_un⟩
instance i_W_list {ρ : List Slot} {X : Exc → List Slot → Prop} {Q : D → List Slot → Prop} {gs : M (List D)}  : GK (WM (gList gs) ρ Q X) (WM gs ρ (fun ds ρ1 => ∃ l, (ds = [.lst l] ∨ ds = [.tup l]) ∧ Q (.lst l) ρ1) X) := ⟨W_list⟩
instance i_W_nob {ρ : List Slot} {X : Exc → List Slot → Prop} {QO : Option Int → List Slot → Prop}  : GK (WM gNoB ρ QO X) (QO none ρ) := ⟨W_nob⟩
instance i_W_bnd {ρ : List Slot} {X : Exc → List Slot → Prop} {ga : M D} {QO : Option Int → List Slot → Prop}  : GK (WM (gBnd ga) ρ QO X) (WM ga ρ (fun d ρ1 => ∃ i, d = .int i ∧ QO (some i) ρ1) X) := ⟨W_bnd⟩
instance i_W_slC {ρ : List Slot} {X : Exc → List Slot → Prop} {Q : D → List Slot → Prop} {ga : M D} {gl : M (Option Int)} {gh : M (Option Int)}  : GK (WM (gSlC ga gl gh) ρ Q X) (WM ga ρ (fun d ρ1 => WM gl ρ1 (fun lo ρ2 => WM gh ρ2 (fun hi ρ3 => WM (gCutC d lo hi) ρ3 Q X) X) X) X) := ⟨W_slC⟩
instance i_W_sl {ρ : List Slot} {X : Exc → List Slot → Prop} {Q : D → List Slot → Prop} {ga : M D} {gl : M (Option Int)} {gh : M (Option Int)}  : GK (WM (gSl ga gl gh) ρ Q X) (WM ga ρ (fun d ρ1 => WM gl ρ1 (fun lo ρ2 => WM gh ρ2 (fun hi ρ3 => WM (gCut d lo hi) ρ3 Q X) X) X) X) := ⟨W_sl⟩
instance i_W_s1 {ρ : List Slot} {X : Exc → List Slot → Prop} {Q : D → List Slot → Prop} {ga : M D} {gb : M D} {go : D → D → M D} : GK (WM (gS1 go ga gb) ρ Q X) (WM ga ρ (fun a ρ1 => ∃ x, a = .str x ∧ WM gb ρ1 (fun b ρ2 => WM (go (.str x) b) ρ2 Q X) X) X) := ⟨W_s1⟩
instance i_W_yes {ρ : List Slot} {X : Exc → List Slot → Prop} {QB : Bool → List Slot → Prop} : GK (WM gYes ρ QB X) (QB true ρ) := ⟨W_yes⟩
instance i_W_gN {ρ : List Slot} {X : Exc → List Slot → Prop} {i : Nat} {d : D} {QU : Unit → List Slot → Prop} : GK (WM (gN i d) ρ QU X) (QU () (ρ.set i (some (false, d)))) := ⟨W_gN⟩
instance i_W_lc {ρ : List Slot} {X : Exc → List Slot → Prop} {Q : D → List Slot → Prop} {vs : List Nat} {gi : M (List D)} {gg : D → M Unit} {gt : M Bool} {ge : M D} : GK (WM (gLc vs gi gg gt ge) ρ Q X) (WM gi ρ (fun ds ρ1 => ∃ I : Nat → List D → List Slot → Prop, I 0 [] (wipeP ρ1 vs) ∧ (∀ i d acc ρ, ds[i]? = some d → I i acc ρ → WM (gg d) ρ (fun _ ρ1 => WM gt ρ1 (fun b ρ2 => (b = false → I (i + 1) acc (wipeP ρ2 vs)) ∧ (b = true → WM ge ρ2 (fun y ρ3 => lim (acc.length + 1) = true ∧ I (i + 1) (acc ++ [y]) (wipeP ρ3 vs)) fun _ _ => False)) fun _ _ => False) fun _ _ => False) ∧ (∀ acc ρ, I ds.length acc ρ → Q (.lst acc) ρ)) X) := ⟨W_lc⟩
instance i_W_eq_int {ρ : List Slot} {X : Exc → List Slot → Prop} {Q : D → List Slot → Prop} {i : Int} {j : Int}  : GK (WM (gEq (.int i) (.int j)) ρ Q X) (Q (.bl (decide (i = j))) ρ) := ⟨W_eq_int⟩
instance i_W_ne_int {ρ : List Slot} {X : Exc → List Slot → Prop} {Q : D → List Slot → Prop} {i : Int} {j : Int}  : GK (WM (gNe (.int i) (.int j)) ρ Q X) (Q (.bl (!decide (i = j))) ρ) := ⟨W_ne_int⟩
instance i_WG_ret {ρ : List Slot} {P : Po} {ga : M D}  : GK (WG (gRet ga) ρ P) (WM ga ρ (fun d ρ1 => P.rt false d ρ1) P.exc) := ⟨WG_ret⟩
instance i_WG_retO {ρ : List Slot} {P : Po} {ga : M D}  : GK (WG (gRetO ga) ρ P) (WM ga ρ (fun d ρ1 => P.rt true d ρ1) P.exc) := ⟨WG_retO⟩
instance i_WG_drop {ρ : List Slot} {P : Po} {ga : M D}  : GK (WG (gDrop ga) ρ P) (WM ga ρ (fun d ρ1 => P.nx ρ1) P.exc) := ⟨WG_drop⟩
instance i_WG_asg {ρ : List Slot} {P : Po} {ga : M D} {gg : D → M Unit} : GK (WG (gAsg ga gg) ρ P) (WM ga ρ (fun d ρ1 => WM (gg d) ρ1 (fun _ ρ2 => P.nx ρ2) P.exc) P.exc) := ⟨WG_asg⟩
instance i_WG_then {α : Type} {ρ : List Slot} {P : Po} {gm : M α} {k : α → G} : GK (WG (gThen gm k) ρ P) (WM gm ρ (fun a ρ1 => WG (k a) ρ1 P) P.exc) := ⟨WG_then⟩
instance i_WG_next {ρ : List Slot} {P : Po}  : GK (WG gNext ρ P) (P.nx ρ) := ⟨WG_next⟩
instance i_WG_for {ρ : List Slot} {P : Po} {gi : M (List D)} {gg : D → M Unit} {b : G} : GK (WG (gFor gi gg b) ρ P) (WM gi ρ (fun ds ρ1 => ∃ I : Nat → List Slot → Prop, I 0 ρ1 ∧ (∀ i d ρ, ds[i]? = some d → I i ρ → WM (gg d) ρ (fun _ ρ1 => WG b ρ1 { P with nx := I (i + 1), ct := I (i + 1), bk := P.nx }) P.exc) ∧ (∀ ρ, I ds.length ρ → P.nx ρ)) P.exc) := ⟨WG_for⟩
instance i_ex_l  {l : List D} {Q : List D → Prop} : GK (∃ l', ([D.lst l] = [.lst l'] ∨ [D.lst l] = [.tup l']) ∧ Q l') (Q l) := ⟨ex_l⟩
instance i_ex_t  {l : List D} {Q : List D → Prop} : GK (∃ l', ([D.tup l] = [.lst l'] ∨ [D.tup l] = [.tup l']) ∧ Q l') (Q l) := ⟨ex_t⟩
instance i_ex_i  {i : Int} {Q : Int → Prop} : GK (∃ i', D.int i = .int i' ∧ Q i') (Q i) := ⟨ex_i⟩
instance i_ex_s  {x : Str} {Q : Str → Prop} : GK (∃ x', D.str x = .str x' ∧ Q x') (Q x) := ⟨ex_s⟩
instance i_ex_bl  {b : Bool} {Q : Bool → Prop} : GK (∃ b', D.bl b = .bl b' ∧ Q b') (Q b) := ⟨ex_bl⟩
instance gk_lim0 {Q : Prop} : GK (lim ([] : List D).length = true ∧ Q) Q := ⟨fun q => ⟨rfl, q⟩⟩
instance gk_len0 {Q : Prop} : GK (([] : List D).length = 0 ∧ Q) Q := ⟨fun q => ⟨rfl, q⟩⟩
instance gk_lim1 {a0 : D} {Q : Prop} : GK (lim ([a0] : List D).length = true ∧ Q) Q := ⟨fun q => ⟨rfl, q⟩⟩
instance gk_len1 {a0 : D} {Q : Prop} : GK (([a0] : List D).length = 1 ∧ Q) Q := ⟨fun q => ⟨rfl, q⟩⟩
instance gk_lim2 {a0 a1 : D} {Q : Prop} : GK (lim ([a0, a1] : List D).length = true ∧ Q) Q := ⟨fun q => ⟨rfl, q⟩⟩
instance gk_len2 {a0 a1 : D} {Q : Prop} : GK (([a0, a1] : List D).length = 2 ∧ Q) Q := ⟨fun q => ⟨rfl, q⟩⟩
instance gk_lim3 {a0 a1 a2 : D} {Q : Prop} : GK (lim ([a0, a1, a2] : List D).length = true ∧ Q) Q := ⟨fun q => ⟨rfl, q⟩⟩
instance gk_len3 {a0 a1 a2 : D} {Q : Prop} : GK (([a0, a1, a2] : List D).length = 3 ∧ Q) Q := ⟨fun q => ⟨rfl, q⟩⟩
instance gk_lim4 {a0 a1 a2 a3 : D} {Q : Prop} : GK (lim ([a0, a1, a2, a3] : List D).length = true ∧ Q) Q := ⟨fun q => ⟨rfl, q⟩⟩
instance gk_len4 {a0 a1 a2 a3 : D} {Q : Prop} : GK (([a0, a1, a2, a3] : List D).length = 4 ∧ Q) Q := ⟨fun q => ⟨rfl, q⟩⟩
instance gk_lim5 {a0 a1 a2 a3 a4 : D} {Q : Prop} : GK (lim ([a0, a1, a2, a3, a4] : List D).length = true ∧ Q) Q := ⟨fun q => ⟨rfl, q⟩⟩
instance gk_len5 {a0 a1 a2 a3 a4 : D} {Q : Prop} : GK (([a0, a1, a2, a3, a4] : List D).length = 5 ∧ Q) Q := ⟨fun q => ⟨rfl, q⟩⟩
instance gk_lim6 {a0 a1 a2 a3 a4 a5 : D} {Q : Prop} : GK (lim ([a0, a1, a2, a3, a4, a5] : List D).length = true ∧ Q) Q := ⟨fun q => ⟨rfl, q⟩⟩
instance gk_lim7 {a0 a1 a2 a3 a4 a5 a6 : D} {Q : Prop} : GK (lim ([a0, a1, a2, a3, a4, a5, a6] : List D).length = true ∧ Q) Q := ⟨fun q => ⟨rfl, q⟩⟩
instance gk_lim8 {a0 a1 a2 a3 a4 a5 a6 a7 : D} {Q : Prop} : GK (lim ([a0, a1, a2, a3, a4, a5, a6, a7] : List D).length = true ∧ Q) Q := ⟨fun q => ⟨rfl, q⟩⟩
end gk
end PL
namespace PL
open PySem PySem.Spec PySem.Calls PyProof.Rows L2 He CT
section
variable {ρ : List Slot} {X : Exc → List Slot → Prop} {Q : D → List Slot → Prop} {P : Po} {b : G} {gg : D → M Unit} {gt : M Bool} {ge : M D} {ds : List D} {vs : List Nat} {QQ : List D → List Slot → Prop}
/-- an invariant of a loop: c tells the slots that change, p what is known -/
theorem inv_for {nx : List Slot → Prop} {rt : Bool → D → List Slot → Prop} {ex : Exc → List Slot → Prop} {J : Type} (c : Nat → J → List (Nat × Slot)) (p : Nat → J → Prop) (h0 : ∃ j, p 0 j ∧ ρ = setS ρ (c 0 j))
    (step : ∀ i d j, ds[i]? = some d → p i j → WM (gg d) (setS ρ (c i j)) (fun _ ρ1 => WG b ρ1 { nx := fun ρ2 => ∃ j', p (i + 1) j' ∧ ρ2 = setS ρ (c (i + 1) j'), rt := rt, exc := ex, bk := nx, ct := fun ρ2 => ∃ j', p (i + 1) j' ∧ ρ2 = setS ρ (c (i + 1) j') }) ex)
    (q : ∀ j, p ds.length j → nx (setS ρ (c ds.length j))) :
    ∃ I : Nat → List Slot → Prop, I 0 ρ ∧ (∀ i d ρ, ds[i]? = some d → I i ρ → WM (gg d) ρ (fun _ ρ1 => WG b ρ1 { nx := I (i + 1), rt := rt, exc := ex, bk := nx, ct := I (i + 1) }) ex) ∧ (∀ ρ, I ds.length ρ → nx ρ) :=
  ⟨fun i ρ2 => ∃ j, p i j ∧ ρ2 = setS ρ (c i j), h0, fun i d ρ2 e ⟨j, h, e2⟩ => by
    subst e2
    exact step i d j e h, fun ρ2 ⟨j, h, e2⟩ => by
    subst e2
    exact q j h⟩
/-- an invariant of a comprehension -/
theorem inv_lc {J : Type} (c : Nat → J → List (Nat × Slot)) (p : Nat → List D → J → Prop) (h0 : ∃ j, p 0 [] j ∧ ρ = setS ρ (c 0 j))
    (step : ∀ i d acc j, ds[i]? = some d → p i acc j → WM (gg d) (setS ρ (c i j)) (fun _ ρ1 => WM gt ρ1 (fun b ρ2 => (b = false → ∃ j', p (i + 1) acc j' ∧ wipeP ρ2 vs = setS ρ (c (i + 1) j')) ∧ (b = true → WM ge ρ2 (fun y ρ3 => lim (acc.length + 1) = true ∧ ∃ j', p (i + 1) (acc ++ [y]) j' ∧ wipeP ρ3 vs = setS ρ (c (i + 1) j')) fun _ _ => False)) fun _ _ => False) fun _ _ => False)
    (q : ∀ acc j, p ds.length acc j → QQ acc (setS ρ (c ds.length j))) :
    ∃ I : Nat → List D → List Slot → Prop, I 0 [] ρ ∧ (∀ i d acc ρ, ds[i]? = some d → I i acc ρ → WM (gg d) ρ (fun _ ρ1 => WM gt ρ1 (fun b ρ2 => (b = false → I (i + 1) acc (wipeP ρ2 vs)) ∧ (b = true → WM ge ρ2 (fun y ρ3 => lim (acc.length + 1) = true ∧ I (i + 1) (acc ++ [y]) (wipeP ρ3 vs)) fun _ _ => False)) fun _ _ => False) fun _ _ => False) ∧ (∀ acc ρ, I ds.length acc ρ → QQ acc ρ) :=
  ⟨fun i acc ρ2 => ∃ j, p i acc j ∧ ρ2 = setS ρ (c i j), h0, fun i d acc ρ2 e ⟨j, h, e2⟩ => by
    subst e2
    exact step i d acc j e h, fun acc ρ2 ⟨j, h, e2⟩ => by
    subst e2
    exact q acc j h⟩
end
end PL
namespace PL
open PySem PySem.Spec PySem.Calls PyProof.Rows L2 He CT
section
variable {K : PySem.W.Frag} {T : List (Addr × Str)} {F : Frm} {Hz H : Hp} {σ : L2.St} {ρ : List Slot}
/-- an object that is neither stable nor ours is written -/
theorem EnvR.otherX (E : EnvR K T F Hz H σ ρ) {p : Addr} {u o : HO} (hz : Hz p = none) (hf : F.f p = none) (ho : H p = some u) (n1 : ∀ ps, u ≠ .tbl ps) (n2 : ∀ φ, u ≠ .ext φ) (ns : NoSlot σ ρ p) : EnvR K T F Hz (upd H p o) σ ρ := by
  refine ⟨E.len, fun b u e => ?_, fun b u e => ?_, tabs_upd E.tb ho n1 n2 fun b u hb h => by rw [upd_ne hb]; exact h, E.tz, E.sh, fun i d e => ?_, E.dis, E.fl, E.nt, E.pn⟩
  · rw [upd_ne (ne_of_none e hz)]
    exact E.ext _ _ e
  · have := E.fr b u e
    rw [upd_ne (ne_of_none e hf)]
    exact this
  · obtain ⟨a, h1, h2, h3, h4⟩ := E.ow i d e
    refine ⟨a, h1, h2, h3, h4.keep (.same (Same.refl _)) fun u w => ?_⟩
    rw [upd_ne (fun z => ns i d e (by rw [← z]; exact h1))]
    exact w
end
end PL
namespace CT
open PySem PySem.Spec PySem.Calls PyProof.Rows L2
end CT
namespace CT
open PySem PySem.Spec PySem.Calls PyProof.Rows L2 PySem.W
end CT
namespace CT
open PySem PySem.Spec PySem.Calls PyProof.Rows L2 He
end CT
namespace PL
open PySem PySem.Spec PySem.Calls PyProof.Rows L2 He CT
end PL
namespace PL
open PySem PySem.Spec PySem.Calls PyProof.Rows L2 He CT
end PL
namespace PL
open PySem PySem.Spec PySem.Calls PyProof.Rows L2 He CT
end PL
namespace PL
open PySem PySem.Spec PySem.Calls PyProof.Rows L2 He CT
end PL
namespace PL
open PySem PySem.Spec PySem.Calls PyProof.Rows L2 He CT
end PL
namespace PL
open PySem PySem.Spec PySem.Calls PyProof.Rows L2 He CT
end PL
namespace CT
open PySem PySem.Spec PySem.Calls PyProof.Rows L2
end CT
namespace PL
open PySem PySem.Spec PySem.Calls PyProof.Rows L2 He CT
end PL
namespace PL
open PySem PySem.Spec PySem.Calls PyProof.Rows L2 He CT
end PL
namespace CT
open PySem PySem.Spec PySem.Calls PyProof.Rows L2 He PySem.W
end CT
namespace CT
open PySem PySem.Spec PySem.Calls PyProof.Rows L2 He
end CT
namespace PL
open PySem PySem.Spec PySem.Calls PyProof.Rows L2 He CT
end PL
namespace PL
open PySem PySem.Spec PySem.Calls PyProof.Rows L2 He CT
end PL
namespace PL
open PySem PySem.Spec PySem.Calls PyProof.Rows L2 He CT
end PL
namespace PL
open PySem PySem.Spec PySem.Calls PyProof.Rows L2 He CT
end PL
namespace PL
open PySem PySem.Spec PySem.Calls PyProof.Rows L2 He CT
end PL
namespace L2.DX
open PySem PySem.Spec PySem.W PySem.Calls PyProof.Rows
end L2.DX
namespace PL
open PySem PySem.Spec PySem.Calls PyProof.Rows L2 He CT
end PL
namespace PL
open PySem PySem.Spec PySem.Calls PyProof.Rows L2 He CT
theorem NoSlot.set {σ : L2.St} {ρ : List Slot} {a b : Addr} {i : Nat} {d : D} (h : NoSlot σ ρ a) (ne : b ≠ a) : NoSlot (σ.set i (some (.ref b))) (ρ.set i (some (true, d))) a := fun k e q z => by
  by_cases hk : i = k
  · subst hk
    have hl := (List.getElem?_eq_some_iff.mp z).1
    rw [List.length_set] at hl
    rw [List.getElem?_set_self hl] at z
    cases z
    exact ne rfl
  · rw [List.getElem?_set_ne hk] at q z
    exact h k e q z
end PL
namespace PL
open PySem PySem.Spec PySem.Calls PyProof.Rows L2 He CT
end PL
namespace PL
open PySem PySem.Spec PySem.Calls PyProof.Rows L2 He CT
inductive OutT where
  | rt (x : D) (ys : List D) (ρ : List Slot) | exc (e : Exc) (ρ : List Slot) | fault
def OksT (K : PySem.W.Frag) (T : List (Addr × Str)) (E : XK) (F : Frm) (Hz : Hp) (W : Ends) : OutT → Prop
  | .rt x ys ρ => ∀ t l vx σ Hz' H', EnvR K T F Hz' H' σ ρ → Same Hz Hz' → Rp K Hz' vx x → Own K F Hz' H' l (.lst ys) → NoSlot σ ρ l → H' t = some (.tup [vx, .ref l]) → Hz' t = none → F.f t = none → W.rt (.ref t) H'
  | .exc e ρ => ∀ σ cls dd Hz' H', EnvR K T F Hz' H' σ ρ → Same Hz Hz' → ExcR K Hz' H' e cls dd → E cls dd H'
  | .fault => False
theorem OksT.mono {K : PySem.W.Frag} {T : List (Addr × Str)} {E : XK} {F : Frm} {Hz Hz1 : Hp} {W : Ends} (s : Same Hz Hz1) : ∀ {o : OutT}, OksT K T E F Hz W o → OksT K T E F Hz1 W o
  | .rt _ _ _, h => fun t l vx σ Hz' H' e q => h t l vx σ Hz' H' e (s.trans q)
  | .exc _ _, h => fun σ cls dd Hz' H' e q r => h σ cls dd Hz' H' e (s.trans q) r
  | .fault, h => h
end PL
namespace CT
open PySem PySem.Spec PySem.Calls PyProof.Rows L2 He
section
variable {X : Cx} {pins : List (Addr × Obj)} {σ : L2.St} {H : Hp} {s : Shared} {CX : CXT} {k : Nat} {C f : Addr} {ps : List Str} {sp : Sp} {E : XK}
/-- the pairs that are left are alike -/
def AlikeL (K : PySem.W.Frag) (C : Addr) (sp : Sp) (E : XK) (a b : Addr) (as bs : List V) (Q : VK) : List V → List V → Hp → Prop
  | x :: xs, y :: ys, H => H a = some (.lst as) ∧ H b = some (.lst bs) ∧ ∃ p q, x = .ref p ∧ y = .ref q ∧ (p = q → AlikeL K C sp E a b as bs Q xs ys H) ∧ (p ≠ q → rEqOwn K C sp E x y H (fun z H' => z = .bl true ∧ AlikeL K C sp E a b as bs Q xs ys H'))
  | _, _, H => H a = some (.lst as) ∧ H b = some (.lst bs) ∧ Q (.bl false) H
theorem AlikeL.at {K : PySem.W.Frag} {a b : Addr} {as bs : List V} {Q : VK} {xs ys : List V} (h : AlikeL K C sp E a b as bs Q xs ys H) : H a = some (.lst as) ∧ H b = some (.lst bs) := by
  unfold AlikeL at h
  split at h <;> exact ⟨h.1, h.2.1⟩
end
end CT
namespace PL
open PySem PySem.Spec PySem.Calls PyProof.Rows L2 He CT
end PL
namespace PL
open PySem PySem.Spec PySem.Calls PyProof.Rows L2 He CT
end PL
namespace PL
open PySem PySem.Spec PySem.Calls PyProof.Rows L2 He CT LamX
end PL
namespace CT
open PySem PySem.Spec PySem.Calls PyProof.Rows L2 He
end CT
namespace PL
open PySem PySem.Spec PySem.Calls PyProof.Rows L2 He CT
end PL
namespace PL
open PySem PySem.Spec PySem.Calls PyProof.Rows L2 He CT
end PL
namespace PL
open PySem PySem.Spec PySem.Calls PyProof.Rows L2 He CT
end PL
namespace PL
open PySem PySem.Spec PySem.Calls PyProof.Rows L2 He CT
end PL
namespace PL
open PySem PySem.Spec PySem.Calls PyProof.Rows L2 He CT
/-- the parts one behind the other -/
def gJs : List (M D) → Str → M D
  | [], acc => fun ρ => .ok (.str acc) ρ
  | g :: gs, acc => gBind g fun d => match d with
    | .str y => if decide ((acc ++ y).length ≤ 16777216) = true then gJs gs (acc ++ y) else fun _ => .fault
    | _ => fun _ => .fault
section
variable {X : Cx} {T : List (Addr × Str)} {E : XK} {e : Expr} {es : List Expr} {ga : M D} {gs : M (List D)} {pos p : Pos}
/-- the parts' judgements -/
inductive DJ (X : Cx) (T : List (Addr × Str)) (E : XK) : List Expr → List TE → List (M D) → Prop where
  | nil : DJ X T E [] [] []
  | cons {e : Expr} {t : TE} {g : M D} {es : List Expr} {ts : List TE} {gs : List (M D)} (h : PE X e t) (l : LiftD X.K T E t g) (r : DJ X T E es ts gs) : DJ X T E (e :: es) (t :: ts) (g :: gs)
theorem DJ.lift {ts : List TE} {gs : List (M D)} (h : DJ X T E es ts gs) : ∀ acc : Str, LiftD X.K T E (fun σ H Q => tJs ts acc σ H fun out H1 => Q (.str out) H1) (gJs gs acc) := by
  induction h with
  | nil => exact fun acc F Hz H σ ρ Q E0 h => okd_here E0 h (.str _)
  | @cons e t g es ts gs h l r ih =>
    intro acc F Hz H σ ρ Q E0 h
    refine l.step E0 h fun x d ρ1 Hz1 H1 E1 sa r h1 => ?_
    cases d with
    | str y =>
      cases r
      have h1 : Okx (RD X.K) X.K T E F Hz1 σ Q ((if decide ((acc ++ y).length ≤ 16777216) = true then gJs gs (acc ++ y) else fun _ => .fault) ρ1) := h1
      by_cases hl : decide ((acc ++ y).length ≤ 16777216) = true
      · rw [if_pos hl] at h1
        exact ⟨y, rfl, of_decide_eq_true hl, ih (acc ++ y) F Hz1 H1 σ ρ1 Q E1 h1⟩
      · rw [if_neg hl] at h1
        exact h1.elim
    | _ => exact h1.elim
end
end PL
namespace PL
open PySem PySem.Spec PySem.Calls PyProof.Rows L2 He CT
end PL
namespace PL
open PySem PySem.Spec PySem.Calls PyProof.Rows L2 He CT
end PL
namespace PL
open PySem PySem.Spec PySem.Calls PyProof.Rows L2 He CT
end PL
namespace PL
open PySem PySem.Spec PySem.Calls PyProof.Rows L2 He CT
end PL
namespace PL
open PySem PySem.Spec PySem.Calls PyProof.Rows L2 He CT
end PL
namespace PL
open PySem PySem.Spec PySem.Calls PyProof.Rows L2 He CT
end PL
namespace CT
open PySem PySem.Spec PySem.Calls PyProof.Rows L2 L2H
end CT
namespace CT
open PySem PySem.Spec PySem.Calls PyProof.Rows L2 He L2H
end CT
namespace PL
open PySem PySem.Spec PySem.Calls PyProof.Rows L2 L2H He CT
end PL
namespace PL
open PySem PySem.Spec PySem.Calls PyProof.Rows L2 He CT
end PL
namespace CT
open PySem PySem.Spec PySem.Calls PyProof.Rows L2 He
/-- the name gn of the module is the def n, the statement st -/
structure DnA (K : PySem.W.Frag) (mg : Str → Option Value) (gn n : Str) (st : Stmt) (dvs : List V) : Prop where
  f : ∃ fd, FunD K n n (defArgs st) (defBody st) (defScope st) dvs [] (ga K gn) fd
  g : mg gn = some (.ref (ga K gn))
section
variable {P : Program} {w : World} {K : PySem.W.Frag} {mg : Str → Option Value} {base : Heap} {gn n : Str} {st : Stmt} {CX : CXT} {N ps : List Str} {k : Nat} {sp : Sp}
theorem DnA.okX (D : DnA K mg gn n st []) (S : FnScope N ps (defScope st)) (bind : ∀ (kV doc pm : Value) (an : Option Addr) (cdv ct : Value) (us : List Value), us.length = ps.length → bindArgs (PySem.W.fnOf n n (defArgs st) (defBody st) (defScope st) .none kV doc pm an cdv ct) ⟨us, []⟩ = pure (ps.zip us))
    (len : ∀ vs H Q E, sp vs H Q E → vs.length = ps.length)
    (hbody : ∀ (cdv : Value) (A : Around) (outer : List Env) (s : Shared) (H : Hp) (vs : List V) (Q : VK) (E : XK), Room k (A.deeper (envOfC n (defScope st) s.heap.objs.size (ga K gn) cdv)) → sp vs H Q E →
      ∃ t, PSs (cxOf CX P w K mg base N n (defScope st) (ga K gn) cdv A outer s H E) (defBody st) t ∧ t { nx := fun _ H' => Q .non H', rt := Q } (L2.start N vs) H) : FOkX CX P w K mg base (k + 1) gn ps sp := by
  obtain ⟨fd, F⟩ := D.f
  exact ⟨D.g, F.kp, fd, F.ok S len hbody, F.bindsN bind⟩
end
end CT
namespace PL
open PySem PySem.Spec PySem.Calls PyProof.Rows L2 He CT
end PL
namespace PL
open PySem PySem.Spec PySem.Calls PyProof.Rows L2 He CT
end PL
namespace PL
open PySem PySem.Spec PySem.Calls PyProof.Rows L2 He CT
end PL
namespace CT
open PySem PySem.Spec PySem.Calls PyProof.Rows L2 He PL
structure Pyk (k : Nat) (d : D) : Prop where
  b : PL.pyB d = true
  c : PyData.canLay0 (PL.py d) = true
  d : PyData.depth (PL.py d) ≤ k
theorem Pyk.mono {k j : Nat} {d : D} (h : Pyk k d) (hk : k ≤ j) : Pyk j d := ⟨h.b, h.c, Nat.le_trans h.d hk⟩
theorem Pyk.non : Pyk 0 .non := ⟨rfl, rfl, Nat.le_refl _⟩
theorem Pyk.int (i : Int) : Pyk 0 (.int i) := ⟨rfl, rfl, Nat.le_refl _⟩
theorem Pyk.str {l : List Nat} (h : ∀ c ∈ l, c < 1114112) : Pyk 0 (.str (S l)) := by
  refine ⟨rfl, ?_, Nat.le_refl _⟩
  show ((S l).cps.all fun c => decide (c < 1114112)) = true
  simp [S]
  exact h
theorem Pyk.all {k : Nat} : ∀ {l : List D}, (∀ d ∈ l, Pyk k d) → PL.pyBL l = true ∧ PyData.canLayAll0 (PL.pyL l) = true ∧ PyData.depthAll (PL.pyL l) ≤ k
  | [], _ => ⟨rfl, rfl, Nat.zero_le _⟩
  | d :: l, h => by
    have a := h d List.mem_cons_self
    obtain ⟨b1, b2, b3⟩ := Pyk.all (l := l) fun x hx => h x (List.mem_cons_of_mem _ hx)
    refine ⟨by rw [PL.pyBL, a.b, b1]; rfl, ?_, ?_⟩
    · show (PyData.canLay0 (PL.py d) && PyData.canLayAll0 (PL.pyL l)) = true
      rw [a.c, b2]
      rfl
    · show max (PyData.depth (PL.py d)) (PyData.depthAll (PL.pyL l)) ≤ k
      exact Nat.max_le.mpr ⟨a.d, b3⟩
theorem Pyk.lst {k : Nat} {l : List D} (h : ∀ d ∈ l, Pyk k d) : Pyk (k + 1) (.lst l) := by
  obtain ⟨a, b, c⟩ := Pyk.all h
  exact ⟨by rw [PL.pyB]; exact a, by rw [PL.py]; exact b, by rw [PL.py]; exact Nat.succ_le_succ c⟩
theorem Pyk.tup {k : Nat} {l : List D} (h : ∀ d ∈ l, Pyk k d) : Pyk (k + 1) (.tup l) := by
  obtain ⟨a, b, c⟩ := Pyk.all h
  exact ⟨by rw [PL.pyB]; exact a, by rw [PL.py]; exact b, by rw [PL.py]; exact Nat.succ_le_succ c⟩
theorem Pyk.eqB {k : Nat} {d : D} (h : Pyk k d) (hk : k ≤ 64) : PL.eqB d = true := by
  unfold PL.eqB
  rw [h.b]
  show (true && (PyData.canLay0 (PL.py d) && decide (PyData.depth (PL.py d) ≤ 64))) = true
  rw [h.c, decide_eq_true (Nat.le_trans h.d hk)]
  rfl
theorem Pyk.eqD {k : Nat} {d : D} (h : Pyk k d) : PL.eqD d d = true := PySem.SeqAt.eqv_refl _ h.c
end CT
namespace PL
open PySem PySem.Spec PySem.Calls PyProof.Rows L2 He CT
end PL
namespace PL
open PySem PySem.Spec PySem.Calls PyProof.Rows L2 He CT
theorem wp_execs_app {M : Model} {A : Around} {env : Env} {b : List Stmt} {Q : Flow → Shared → Prop} {E : Value → Shared → Prop} : ∀ (a : List Stmt) (Γ : PySem.Ctx) (p : Pos) (s : Shared), Γ.In A →
    Sem.wp M Γ (execs a env) (fun f _ s' => match f with | .next => wpAny M A (execs b env) Q E s' | f => Q f s') (fun e _ s' => E e s') p s → Sem.wp M Γ (execs (a ++ b) env) (fun f _ s' => Q f s') (fun e _ s' => E e s') p s
  | [], Γ, p, s, hΓ, h => h Γ p hΓ
  | st :: a, Γ, p, s, hΓ, h => by
    rw [execs_cons, Sem.wp_bind'] at h
    rw [List.cons_append, execs_cons, Sem.wp_bind']
    refine Sem.wp_mono M Γ _ (fun f p' s' h' => ?_) (fun _ _ _ h' => h') _ _ h
    cases f with
    | next => exact wp_execs_app a Γ p' s' hΓ h'
    | _ => exact h'
theorem pss_app {X : Cx} {a b : List Stmt} {t u : TS} (h1 : PSs X a t) (h2 : PSs X b u) : PSs X (a ++ b) (tSeq t u) := by
  refine ⟨fun pins s σ H D I h Γ p hΓ => ?_⟩
  refine wp_execs_app a Γ p s hΓ ?_
  refine Sem.wp_mono _ Γ _ (fun f p' s' h' => ?_) (fun _ _ _ h' => h') _ _ (h1.run pins s σ H { D with nx := u D } I h Γ p hΓ)
  cases f with
  | next =>
    obtain ⟨σ', H', I', q⟩ := h'
    exact h2.run pins s' σ' H' D I' q
  | ret v => exact h'
  | brk => exact h'
  | cont => exact h'
def tFz (t : TE) : TE := fun σ H Q => t σ H fun v H1 => ∃ p xs, v = .ref p ∧ H1 p = some (.lst xs) ∧ ∀ o, Q v (upd H1 p (.frz o (.lst xs)))
theorem pe_fz {X : Cx} {e : Expr} {t : TE} (h : PE X e t) : PE X e (tFz t) := by
  refine ⟨fun pins s σ H Q I hw => ?_⟩
  refine thn (h.run pins s σ H _ I hw) fun v s1 ⟨x, H1, I1, r, p, xs, ep, hp, q⟩ => ?_
  obtain ⟨od, I2⟩ := I1.lock hp trivial
  exact ⟨x, _, I2, r, q od⟩
def gFz (g : M D) : M D := gBind g fun d ρ => match d with
  | .lst l => .ok (.fz l) ρ
  | _ => .fault
section
variable {K : PySem.W.Frag} {T : List (Addr × Str)} {F : Frm} {Hz H : Hp} {σ : L2.St} {ρ : List Slot}
/-- an object of ours is frozen and joins what stands -/
theorem EnvR.joinF (E : EnvR K T F Hz H σ ρ) {a : Addr} {xs : List V} (o : Obj) (hz : Hz a = none) (hf : F.f a = none) (ho : H a = some (.lst xs)) (ns : NoSlot σ ρ a) : EnvR K T F (upd Hz a (.frz o (.lst xs))) (upd H a (.frz o (.lst xs))) σ ρ :=
  (E.other (o := .frz o (.lst xs)) hz hf ho ns).join hz (.inl hf) upd_same (fun _ z => by cases z) ns
end
theorem DO.fz {X : Cx} {T : List (Addr × Str)} {E : XK} {e : Expr} {g : M D} (h : DO X T E e g) : DE X T E e (gFz g) := by
  obtain ⟨t, h1, h2⟩ := h
  refine ⟨_, pe_fz h1, fun F Hz H σ ρ Q E0 q => h2 F Hz H σ ρ _ E0 ?_⟩
  unfold gFz gBind at q
  cases e : g ρ with
  | ok d ρ' =>
    rw [e] at q
    intro a Hz' H' E1 s o ns
    cases d with
    | lst l =>
      obtain ⟨z1, z2, xs, z3, z4⟩ := o
      refine ⟨a, xs, rfl, z3, fun od => q (.ref a) _ _ (E1.joinF od z1 z2 z3 ns) (s.trans (same_new z1)) (.fz upd_same (z4.same (same_new z1)))⟩
    | _ => exact q.elim
  | exc x ρ' => rw [e] at q; exact q
  | fault => rw [e] at q; exact q.elim
/-- no frozen list, no script within -/
def noF : D → Bool
  | .fz _ => false
  | .scr _ => false
  | .tup l => noFs l
  | .ktup l => noFs l
  | .lst l => noFs l
  | .dK l => noFk l
  | .dT l => noFt l
  | .own _ l => noFo l
  | _ => true
where
  noFs : List D → Bool
    | [] => true
    | d :: l => noF d && noFs l
  noFk : List (L2.Key × D) → Bool
    | [] => true
    | (_, d) :: l => noF d && noFk l
  noFt : List (List L2.Key × D) → Bool
    | [] => true
    | (_, d) :: l => noF d && noFt l
  noFo : List (Str × D) → Bool
    | [] => true
    | (_, d) :: l => noF d && noFo l
theorem noFk_eq : ∀ l : List (L2.Key × D), noF.noFk l = noF.noFs (l.map Prod.snd)
  | [] => rfl
  | (_, d) :: l => congrArg (noF d && ·) (noFk_eq l)
theorem noFt_eq : ∀ l : List (List L2.Key × D), noF.noFt l = noF.noFs (l.map Prod.snd)
  | [] => rfl
  | (_, d) :: l => congrArg (noF d && ·) (noFt_eq l)
theorem noFo_eq : ∀ l : List (Str × D), noF.noFo l = noF.noFs (l.map Prod.snd)
  | [] => rfl
  | (_, d) :: l => congrArg (noF d && ·) (noFo_eq l)
def isF : Option HO → Bool
  | some (.frz _ (.lst _)) => true
  | _ => false
def isZ : Option HO → Bool
  | some (.frz _ _) => true
  | _ => false
def dropF (Hz : Hp) : Hp := fun b => if isF (Hz b) = true then none else Hz b
theorem dropF_some {Hz : Hp} {b : Addr} {o : HO} (h : dropF Hz b = some o) : Hz b = some o ∧ isF (some o) = false := by
  unfold dropF at h
  split at h
  · cases h
  · rename_i n
    refine ⟨h, ?_⟩
    rw [← h]
    simpa using n
theorem dropF_of {Hz : Hp} {b : Addr} {o : HO} (h : Hz b = some o) (n : isF (some o) = false) : dropF Hz b = some o := by
  unfold dropF
  rw [h, n]
  rfl
theorem dropF_none {Hz : Hp} {b : Addr} (h : Hz b = none) : dropF Hz b = none := by
  unfold dropF
  rw [h]
  rfl
section
variable {K : PySem.W.Frag} {Hz : Hp}
mutual
theorem Rp.noF : ∀ {v : V} {d : D}, Rp K Hz v d → PL.noF d = true → Rp K (dropF Hz) v d
  | _, _, .non, _ => .non
  | _, _, .bl b, _ => .bl b
  | _, _, .int i, _ => .int i
  | _, _, .str x, _ => .str x
  | _, _, .ty n, _ => .ty n
  | _, _, .cls n, _ => .cls n
  | _, _, .tup h r, n => .tup (h.elim (fun h => .inl (dropF_of h rfl)) fun h => .inr h) (r.noF n)
  | _, _, .ktup h r, n => .ktup h (r.noF n)
  | _, _, .scr h, n => nomatch n
  | _, _, .lam h, _ => .lam (let ⟨c', dv, h1, h2, h3⟩ := h; ⟨c', dv, dropF_of h1 rfl, dropF_of h2 rfl, h3.keep fun b xs e => dropF_of e rfl⟩)
  | _, _, .lst h r, n => .lst (dropF_of h rfl) (r.noF n)
  | _, _, .fz h r, n => nomatch n
  | _, _, .dK h e r, n => .dK (h.elim (fun h => .inl (dropF_of h rfl)) fun ⟨z, h⟩ => .inr ⟨z, dropF_of h rfl⟩) e (r.noF (by rw [← noFk_eq]; exact n))
  | _, _, .dT h e r, n => .dT (h.elim (fun h => .inl (dropF_of h rfl)) fun ⟨z, h⟩ => .inr ⟨z, dropF_of h rfl⟩) e (r.noF (by rw [← noFt_eq]; exact n))
  | _, _, .own h e r, n => .own (dropF_of h rfl) e (r.noF (by rw [← noFo_eq]; exact n))
theorem RpL.noF : ∀ {vs : List V} {ds : List D}, RpL K Hz vs ds → PL.noF.noFs ds = true → RpL K (dropF Hz) vs ds
  | _, _, .nil, _ => .nil
  | _, _, .cons h r, n => .cons (h.noF (Bool.and_eq_true _ _ ▸ n).1) (r.noF (Bool.and_eq_true _ _ ▸ n).2)
end
theorem Top.noF {H : Hp} {a : Addr} {d : D} (h : Top K Hz H a d) (n : PL.noF d = true) : Top K (dropF Hz) H a d := by
  cases d with
  | lst ds => obtain ⟨xs, e, r⟩ := h; exact ⟨xs, e, r.noF n⟩
  | dK l => obtain ⟨xs, e, w, r⟩ := h; exact ⟨xs, e, w, r.noF (by rw [← noFk_eq]; exact n)⟩
  | dT l => obtain ⟨xs, e, w, r⟩ := h; exact ⟨xs, e, w, r.noF (by rw [← noFt_eq]; exact n)⟩
  | own C l => obtain ⟨dx, fs, e, w, r⟩ := h; exact ⟨dx, fs, e, w, r.noF (by rw [← noFo_eq]; exact n)⟩
  | _ => exact h.elim
end
def killF (ρ : List Slot) : List Slot := ρ.map fun s => match s with
  | some (b, d) => if noF d = true then some (b, d) else none
  | none => none
theorem killF_some {ρ : List Slot} {i : Nat} {x : Bool × D} (h : (killF ρ)[i]? = some (some x)) : ρ[i]? = some (some x) ∧ noF x.2 = true := by
  unfold killF at h
  rw [List.getElem?_map] at h
  obtain ⟨s, hs, e⟩ := Option.map_eq_some_iff.mp h
  split at e
  · split at e
    · rename_i n
      cases e
      exact ⟨hs, n⟩
    · cases e
  · cases e
def fenceF (F : Frm) (Hz H : Hp) : Frm := ⟨fun b => match F.f b with
  | some o => some o
  | none => if (isZ (H b) && (dropF Hz b).isNone) = true then H b else none, F.a⟩
theorem fenceF_in {F : Frm} {Hz H : Hp} {b : Addr} {o : HO} (h : F.f b = some o) : (fenceF F Hz H).f b = some o := by
  unfold fenceF
  simp only [h]
theorem fenceF_z {F : Frm} {Hz H : Hp} {b : Addr} {o : Obj} {u : HO} (h : H b = some (.frz o u)) (z : dropF Hz b = none) (n : F.f b = none) : (fenceF F Hz H).f b = some (.frz o u) := by
  unfold fenceF
  simp only [n, h, z, isZ, Option.isNone_none, Bool.and_self, if_true]
theorem fenceF_out {F : Frm} {Hz H : Hp} {b : Addr} {u : HO} (h : (fenceF F Hz H).f b = some u) : F.f b = some u ∨ F.f b = none ∧ H b = some u ∧ dropF Hz b = none ∧ ∃ o w, u = .frz o w := by
  unfold fenceF at h
  simp only at h
  split at h
  · rename_i e
    cases h
    exact .inl e
  · rename_i e
    split at h
    · rename_i q
      refine .inr ⟨e, h, ?_, ?_⟩
      · have := (Bool.and_eq_true _ _ ▸ q).2
        simpa using this
      · have := (Bool.and_eq_true _ _ ▸ q).1
        rw [h] at this
        unfold isZ at this
        split at this
        · rename_i o w z
          cases z
          exact ⟨_, _, rfl⟩
        · cases this
    · cases h
def mixF (Hz Hz1 : Hp) : Hp := fun b => if isF (Hz b) = true then Hz b else dropF Hz1 b
section
variable {K : PySem.W.Frag} {T : List (Addr × Str)} {F : Frm} {Hz Hz1 H H1 : Hp} {σ0 σ : L2.St} {ρ0 ρ : List Slot}
theorem EnvR.aside (E : EnvR K T F Hz H σ ρ) : EnvR K T (fenceF F Hz H) (dropF Hz) H σ (killF ρ) := by
  refine ⟨by unfold killF; rw [List.length_map]; exact E.len, fun b o e => E.ext _ _ (dropF_some e).1, fun b u e => ?_, E.tb, fun p hp => ⟨dropF_none (E.tz p hp).1, ?_⟩, fun i d e => ?_, fun i d e => ?_, fun i j d e a hij q1 q2 q3 => E.dis i j d e a hij (killF_some q1).1 (killF_some q2).1 q3, E.fl.imp id (fun f b u e => ?_), fun b u e => E.nt b u (dropF_some e).1, fun a d ea q => E.pn a d ea (killF_some q).1⟩
  · rcases fenceF_out e with e | ⟨_, h1, h2, _⟩
    · obtain ⟨h1, h2⟩ := E.fr b u e
      exact ⟨h1, h2.imp dropF_none id⟩
    · exact ⟨h1, .inl h2⟩
  · rcases q : (fenceF F Hz H).f p.1 with _ | u
    · rfl
    · exfalso
      rcases fenceF_out q with e | ⟨_, h1, _, o, w, rfl⟩
      · rw [(E.tz p hp).2] at e
        cases e
      · exact tabs_ne E.tb h1 (fun _ z => by cases z) p hp rfl
  · obtain ⟨h1, h2⟩ := killF_some e
    obtain ⟨v, h3, h4⟩ := E.sh i d h1
    exact ⟨v, h3, h4.noF h2⟩
  · obtain ⟨h1, h2⟩ := killF_some e
    obtain ⟨a, h3, h4, h5, h6⟩ := E.ow i d h1
    refine ⟨a, h3, dropF_none h4, ?_, h6.noF h2⟩
    rcases q : (fenceF F Hz H).f a with _ | u
    · rfl
    · exfalso
      rcases fenceF_out q with e | ⟨_, k1, _, o, w, rfl⟩
      · rw [h5] at e
        cases e
      · cases d with
        | lst ds => obtain ⟨xs, e, _⟩ := h6; rw [k1] at e; cases e
        | dK l => obtain ⟨xs, e, _⟩ := h6; rw [k1] at e; cases e
        | dT l => obtain ⟨xs, e, _⟩ := h6; rw [k1] at e; cases e
        | own C l => obtain ⟨dx, fs, e, _⟩ := h6; rw [k1] at e; cases e
        | _ => exact h6.elim
  · rcases fenceF_out e with e | ⟨_, _, _, o, w, rfl⟩
    · exact f b u e
    · exact ⟨fun _ z => (by cases z), fun _ z => (by cases z), fun _ z => by cases z⟩
/-- a frozen list that is there at the end and may be touched -/
structure NewF (F : Frm) (Hz Hz1 H : Hp) (σ : L2.St) (ρ : List Slot) (b : Addr) : Prop where
  nz : ∀ o u, H b ≠ some (.frz o u)
  f : F.f b = none
  m : mixF Hz Hz1 b = none
  ns : NoSlot σ (killF ρ) b
theorem EnvR.newF (E : EnvR K T F Hz H σ0 ρ0) (E1 : EnvR K T (fenceF F Hz H) Hz1 H1 σ ρ) (s : Same (dropF Hz) Hz1) {b : Addr} {o : Obj} {xs : List V} (h : Hz1 b = some (.frz o (.lst xs))) : NewF F Hz Hz1 H σ ρ b := by
  have nf : F.f b = none := by
    rcases q : F.f b with _ | u
    · rfl
    · exfalso
      obtain ⟨h1, h2⟩ := E1.fr b u (fenceF_in q)
      rcases h2 with h2 | ⟨ys, rfl⟩
      · rw [h] at h2; cases h2
      · rw [E1.ext _ _ h] at h1; cases h1
  have nz : ∀ o u, H b ≠ some (.frz o u) := fun o' u' q => by
    rcases z : dropF Hz b with _ | w
    · rcases (E1.fr b _ (fenceF_z q z nf)).2 with h2 | ⟨ys, h2⟩
      · rw [h] at h2; cases h2
      · cases h2
    · have := s _ _ z
      rw [h] at this
      cases this
      have := (dropF_some z).2
      cases this
  refine ⟨nz, nf, ?_, fun i e q z => ?_⟩
  · unfold mixF
    rw [if_neg]
    · unfold dropF
      rw [h]
      rfl
    · intro q
      unfold isF at q
      split at q
      · rename_i e
        exact nz _ _ (E.ext _ _ e)
      · cases q
  · obtain ⟨a, h1, h2, _⟩ := E1.ow i e (killF_some q).1
    rw [z] at h1
    cases h1
    rw [h] at h2
    cases h2
theorem mixF_same (E : EnvR K T F Hz H σ0 ρ0) (E1 : EnvR K T (fenceF F Hz H) Hz1 H1 σ ρ) : Same (dropF Hz1) (mixF Hz Hz1) := fun b o e => by
  unfold mixF
  rw [if_neg, e]
  intro q
  unfold isF at q
  split at q
  · rename_i x ys z
    rcases nf : F.f b with _ | u
    · rcases (E1.fr b _ (fenceF_z (E.ext _ _ z) (by unfold dropF; rw [z]; rfl) nf)).2 with h2 | ⟨ys, h2⟩
      · rw [(dropF_some e).1] at h2; cases h2
      · cases h2
    · rcases (E.fr b _ nf).2 with h2 | ⟨ys, rfl⟩
      · rw [z] at h2; cases h2
      · have := (E.fr b _ nf).1
        rw [E.ext _ _ z] at this
        cases this
  · cases q
theorem EnvR.back (E : EnvR K T F Hz H σ0 ρ0) (E1 : EnvR K T (fenceF F Hz H) Hz1 H1 σ ρ) (s : Same (dropF Hz) Hz1) : EnvR K T F (mixF Hz Hz1) H1 σ (killF ρ) ∧ Same Hz (mixF Hz Hz1) := by
  have sm := mixF_same E E1
  -- an old frozen list
  have old : ∀ {b : Addr}, isF (Hz b) = true → F.f b = none ∧ ∃ o xs, Hz b = some (.frz o (.lst xs)) ∧ Hz1 b = none ∧ H1 b = some (.frz o (.lst xs)) := fun {b} q => by
    unfold isF at q
    split at q
    · rename_i x ys z
      have nf : F.f b = none := by
        rcases nf : F.f b with _ | u
        · rfl
        · exfalso
          obtain ⟨h1, h2⟩ := E.fr b _ nf
          rcases h2 with h2 | ⟨ys, rfl⟩
          · rw [z] at h2; cases h2
          · rw [E.ext _ _ z] at h1; cases h1
      obtain ⟨h1, h2⟩ := E1.fr b _ (fenceF_z (E.ext _ _ z) (by unfold dropF; rw [z]; rfl) nf)
      refine ⟨nf, _, _, z, ?_, h1⟩
      rcases h2 with h2 | ⟨ys, h2⟩
      · exact h2
      · cases h2
    · cases q
  have sub : ∀ {b : Addr} {u : HO}, mixF Hz Hz1 b = some u → isF (Hz b) = true ∧ Hz b = some u ∨ Hz1 b = some u := fun {b u} e => by
    unfold mixF at e
    split at e
    · rename_i q
      exact .inl ⟨q, e⟩
    · exact .inr (dropF_some e).1
  have non : ∀ {b : Addr}, Hz b = none → Hz1 b = none → mixF Hz Hz1 b = none := fun {b} h1 h2 => by
    unfold mixF
    rw [h1]
    exact dropF_none h2
  refine ⟨⟨by unfold killF; rw [List.length_map]; exact E1.len, fun b u e => ?_, fun b u e => ?_, E1.tb, fun p hp => ⟨non (E.tz p hp).1 (E1.tz p hp).1, (E.tz p hp).2⟩, fun i d e => ?_, fun i d e => ?_, fun i j d e a hij q1 q2 q3 => E1.dis i j d e a hij (killF_some q1).1 (killF_some q2).1 q3, E.fl, fun b u e => ?_, fun a d ea q => E1.pn a d ea (killF_some q).1⟩, fun b u e => ?_⟩
  · rcases sub e with ⟨q, z⟩ | z
    · obtain ⟨_, o, xs, h1, _, h2⟩ := old q
      rw [z] at h1
      cases h1
      exact h2
    · exact E1.ext _ _ z
  · obtain ⟨h1, h2⟩ := E1.fr b u (fenceF_in e)
    refine ⟨h1, ?_⟩
    rcases h2 with h2 | h2
    · rcases (E.fr b u e).2 with h3 | h3
      · exact .inl (non h3 h2)
      · exact .inr h3
    · exact .inr h2
  · obtain ⟨h1, h2⟩ := killF_some e
    obtain ⟨v, h3, h4⟩ := E1.sh i d h1
    exact ⟨v, h3, (h4.noF h2).same sm⟩
  · obtain ⟨h1, h2⟩ := killF_some e
    obtain ⟨a, h3, h4, h5, h6⟩ := E1.ow i d h1
    refine ⟨a, h3, ?_, ?_, (h6.noF h2).keep (.same sm) fun _ z => z⟩
    · rcases q : mixF Hz Hz1 a with _ | u
      · rfl
      · exfalso
        rcases sub q with ⟨q, z⟩ | z
        · obtain ⟨nf, o, xs, k1, _, k2⟩ := old q
          have := fenceF_z (F := F) (E.ext _ _ k1) (by unfold dropF; rw [k1]; rfl : dropF Hz a = none) nf
          rw [h5] at this
          cases this
        · rw [h4] at z; cases z
    · rcases q : F.f a with _ | u
      · rfl
      · rw [fenceF_in q] at h5; cases h5
  · rcases sub e with ⟨q, z⟩ | z
    · exact E.nt _ _ z
    · exact E1.nt _ _ z
  · rcases q : isF (Hz b) with _ | _
    · refine sm _ _ (dropF_of (s _ _ (dropF_of e ?_)) ?_)
      · rw [← e]; exact q
      · rw [← e]; exact q
    · unfold mixF
      rw [q, if_pos rfl]
      exact e
end
def thawL (as : List Addr) (H : Hp) : Hp := as.foldl (fun H a => match H a with
  | some (.frz _ (.lst xs)) => upd H a (.lst xs)
  | _ => H) H
def tThaw (t : TS) : TS := fun D σ H => t ⟨fun σ' H' => ∃ as : List Addr, (∀ a ∈ as, ∀ o u, H a ≠ some (.frz o u)) ∧ D.nx σ' (thawL as H'), D.rt, D.bk, D.ct⟩ σ H
theorem inv_thawL {X : Cx} {pins : List (Addr × Obj)} {σ : L2.St} {s : Shared} : ∀ (as : List Addr) {H : Hp}, (∀ a ∈ as, ∀ o u, X.H_0 a ≠ some (.frz o u)) → Inv X pins σ H s → Inv X pins σ (thawL as H) s
  | [], _, _, I => I
  | a :: as, H, h, I => by
    unfold thawL
    rw [List.foldl_cons]
    refine inv_thawL as (fun b hb => h b (List.mem_cons_of_mem _ hb)) ?_
    split
    · rename_i o xs e
      exact I.unlock e (h a List.mem_cons_self)
    · exact I
theorem pss_thaw {X : Cx} {sts : List Stmt} {t : TS} (h : PSs X sts t) : PSs X sts (tThaw t) := by
  refine ⟨fun pins s σ H D I hw => ?_⟩
  refine thn (h.run pins s σ H _ I hw) fun f s1 q => ?_
  cases f with
  | next =>
    obtain ⟨σ', H', I2, as, ha, q⟩ := q
    refine ⟨σ', _, inv_thawL as (fun a hm o u e => ha a hm o u (I.base.frzs a o u e)) I2, q⟩
  | brk => exact q
  | cont => exact q
  | ret v => exact q
def reach (K : PySem.W.Frag) (H : Hp) : V → List Nat → V → Prop
  | v, [], w => v = w
  | v, k :: ks, w => ∃ p xs x, v = .ref p ∧ (SqL K H p xs ∨ SqT K H p xs) ∧ L2.atI xs k = some x ∧ reach K H x ks w
theorem reach_end {K : PySem.W.Frag} {H : Hp} {k : Nat} {w : V} : ∀ {ks : List Nat} {v : V}, reach K H v (ks ++ [k]) w → ∃ u, reach K H v ks u ∧ reach K H u [k] w
  | [], v, h => ⟨v, rfl, h⟩
  | j :: ks, v, ⟨p, xs, x, e, q, a, h⟩ => let ⟨u, h1, h2⟩ := reach_end h; ⟨u, ⟨p, xs, x, e, q, a, h1⟩, h2⟩
def tPth (K : PySem.W.Frag) (i : Nat) (ks : List Nat) : TE := fun σ H Q => ∃ v w, σ[i]? = some (some v) ∧ reach K H v ks w ∧ Q w H
def tMut (K : PySem.W.Frag) (i : Nat) (ks : List Nat) (op : List V → List V) : TS := fun D σ H => ∃ v l xs, σ[i]? = some (some v) ∧ reach K H v ks (.ref l) ∧ H l = some (.lst xs) ∧ D.nx σ (upd H l (.lst (op xs)))
section
variable {X : Cx} {e : Expr} {x : Str} {i j : Nat} {k : Nat} {ks : List Nat} {p pos pos' cpos apos : Pos}
theorem p_name (hN : X.N[i]? = some x := by rfl) (hv : Vis X.env.scope x := by first | exact Or.inl rfl | exact Or.inr (Or.inl rfl) | exact Or.inr (Or.inr rfl)) (hd : (x == ("__debug__" : Str)) = false := by decide) (hcd : (x == ("__classdict__" : Str)) = false := by decide) :
    PE X (.Name x p) (tPth X.K i []) :=
  ⟨fun pins s σ H Q I ⟨v, w, h1, h2, h3⟩ => (pv i hN hv hd hcd).run pins s σ H Q I (by cases h2; exact ⟨_, h1, h3⟩)⟩
theorem p_ix {u : Nat} (h : PE X e (tPth X.K i ks)) (hs : PlainIx (.Constant (.int k) u p) := by exact fun _ _ => rfl) : PE X (.Subscript e (.Constant (.int k) u p) pos) (tPth X.K i (ks ++ [k])) := by
  refine ⟨fun pins s σ H Q I ⟨v, w, h1, h2, h3⟩ => ?_⟩
  obtain ⟨y, h4, a, xs, z, e1, e2, e3, e4⟩ := reach_end h2
  have e4 : z = w := e4
  subst e4
  refine (pe_ix (X := X) ix_seq h pe_int hs).run pins s σ H Q I ⟨v, y, h1, h4, ?_⟩
  rcases e2 with e2 | e2
  · exact .inl ⟨a, xs, k, z, e1, rfl, e2, e3, h3⟩
  · exact .inr (.inl ⟨a, xs, k, z, e1, rfl, e2, e3, h3⟩)
theorem m_clear (h : PE X e (tPth X.K i ks)) (hbase : attributeBase e "clear" X.env (eval e X.env) = eval e X.env := by rfl) (hline : (apos.endLine == cpos.line) = true := by rfl)
    (hs : swapsWith (.Call (.Attribute e "clear" apos) [] [] cpos) none pos.line X.env = pure false := by rfl) : PS X (.Expr (.Call (.Attribute e "clear" apos) [] [] cpos) pos) (tMut X.K i ks fun _ => []) := by
  refine ⟨fun pins s σ H D I ⟨v, l, xs, h1, h2, h3, h4⟩ => ?_⟩
  refine (ps_expr (pe_bm0 PySem.F.plainAttrs_list PySem.F.slot_list_clear PySem.F.type_list_clear mt_clear h hbase hline) hs).run pins s σ H D I ?_
  exact ⟨v, .ref l, h1, h2, .inl ⟨rfl, xs, .of h3⟩, l, xs, rfl, rfl, h3, h4⟩
theorem m_reverse (h : PE X e (tPth X.K i ks)) (hbase : attributeBase e "reverse" X.env (eval e X.env) = eval e X.env := by rfl) (hline : (apos.endLine == cpos.line) = true := by rfl)
    (hs : swapsWith (.Call (.Attribute e "reverse" apos) [] [] cpos) none pos.line X.env = pure false := by rfl) : PS X (.Expr (.Call (.Attribute e "reverse" apos) [] [] cpos) pos) (tMut X.K i ks List.reverse) := by
  refine ⟨fun pins s σ H D I ⟨v, l, xs, h1, h2, h3, h4⟩ => ?_⟩
  refine (ps_expr (pe_bm0 PySem.F.plainAttrs_list PySem.F.slot_list_reverse PySem.F.type_list_reverse mt_reverse h hbase hline) hs).run pins s σ H D I ?_
  exact ⟨v, .ref l, h1, h2, .inl ⟨rfl, xs, .of h3⟩, l, xs, rfl, rfl, h3, h4⟩
end
abbrev Mu := Nat × List Nat × (List V → List V)
def tMuts (K : PySem.W.Frag) : List Mu → TS
  | [] => tNext
  | m :: ms => tSeq (tMut K m.1 m.2.1 m.2.2) (tMuts K ms)
theorem ms_nil {X : Cx} : PSs X [] (tMuts X.K []) := pss_nil
theorem ms_cons {X : Cx} {st : Stmt} {rest : List Stmt} {i : Nat} {ks : List Nat} {op : List V → List V} {ms : List Mu} (h1 : PS X st (tMut X.K i ks op)) (h2 : PSs X rest (tMuts X.K ms)) : PSs X (st :: rest) (tMuts X.K ((i, ks, op) :: ms)) := pss_cons h1 h2
/-- m finds a list -/
def Find (K : PySem.W.Frag) (A : Addr → Prop) (σ : L2.St) (H : Hp) (i : Nat) (ks : List Nat) : Prop := ∃ v l xs, σ[i]? = some (some v) ∧ reach K H v ks (.ref l) ∧ H l = some (.lst xs) ∧ A l
theorem muts_run {K : PySem.W.Frag} {A : Addr → Prop} {P : Hp → Prop} {σ : L2.St} {D : Ends} (step : ∀ H l xs ys, P H → A l → H l = some (.lst xs) → P (upd H l (.lst ys))) (fin : ∀ H, P H → D.nx σ H) : ∀ (ms : List Mu) (H : Hp), P H →
    (∀ m ∈ ms, Find K A σ H m.1 m.2.1) → (∀ m ∈ ms.tail, m.2.1 = []) → tMuts K ms D σ H
  | [], H, hp, _, _ => fin H hp
  | m :: ms, H, hp, hf, ht => by
    obtain ⟨v, l, xs, h1, h2, h3, h4⟩ := hf m List.mem_cons_self
    refine ⟨v, l, xs, h1, h2, h3, muts_run step fin ms _ (step _ _ _ _ hp h4 h3) (fun n hn => ?_) fun n hn => ht n (List.mem_of_mem_tail hn)⟩
    obtain ⟨v', l', xs', k1, k2, k3, k4⟩ := hf n (List.mem_cons_of_mem _ hn)
    rw [ht n hn] at k2 ⊢
    by_cases z : l' = l
    · subst z
      exact ⟨v', l', _, k1, k2, upd_same, k4⟩
    · exact ⟨v', l', _, k1, k2, by rw [upd_ne z]; exact k3, k4⟩
/-- a frozen list stands at the end of the path -/
def fzAt : D → List Nat → Bool
  | .fz _, [] => true
  | .fz l, k :: ks => match L2.atI l k with
    | some d => fzAt d ks
    | none => false
  | .tup l, k :: ks => match L2.atI l k with
    | some d => fzAt d ks
    | none => false
  | _, _ => false
theorem fz_find {K : PySem.W.Frag} {Hz H : Hp} (s : Same Hz H) : ∀ (ks : List Nat) {v : V} {d : D}, Rp K Hz v d → fzAt d ks = true → ∃ l o xs, reach K H v ks (.ref l) ∧ Hz l = some (.frz o (.lst xs))
  | [], v, d, r, h => by
    unfold fzAt at h
    split at h
    · cases r with
      | fz h1 r1 => exact ⟨_, _, _, rfl, h1⟩
    · rename_i e; cases e
    · rename_i e; cases e
    · cases h
  | k :: ks, v, d, r, h => by
    unfold fzAt at h
    split at h
    · rename_i e; cases e
    · rename_i e
      cases e
      cases r with
      | fz h1 r1 =>
        split at h
        · rename_i d' e
          obtain ⟨w, e1, e2⟩ := r1.atI e
          obtain ⟨l, o, xs, h3, h4⟩ := fz_find s ks e2 h
          exact ⟨l, o, xs, ⟨_, _, w, rfl, .inl (.inl (.inr ⟨_, s _ _ h1⟩)), e1, h3⟩, h4⟩
        · cases h
    · rename_i e
      cases e
      cases r with
      | tup h1 r1 =>
        split at h
        · rename_i d' e
          obtain ⟨w, e1, e2⟩ := r1.atI e
          obtain ⟨l, o, xs, h3, h4⟩ := fz_find s ks e2 h
          exact ⟨l, o, xs, ⟨_, _, w, rfl, .inr (tp_same s h1).sq, e1, h3⟩, h4⟩
        · cases h
    · cases h
theorem thaw1_cases {H : Hp} {a : Addr} : (∃ o xs, H a = some (.frz o (.lst xs)) ∧ (match H a with
  | some (.frz _ (.lst xs)) => upd H a (.lst xs)
  | _ => H) = upd H a (.lst xs)) ∨ (match H a with
  | some (.frz _ (.lst xs)) => upd H a (.lst xs)
  | _ => H) = H := by
  split
  · rename_i o xs e
    exact .inl ⟨o, xs, e, rfl⟩
  · exact .inr rfl
theorem thawL_run {P : Hp → Prop} : ∀ (as : List Addr) {H : Hp}, P H → (∀ (H : Hp) a o xs, a ∈ as → P H → H a = some (.frz o (.lst xs)) → P (upd H a (.lst xs))) → P (thawL as H)
  | [], _, h, _ => h
  | a :: as, H, h, st => by
    unfold thawL
    rw [List.foldl_cons]
    refine thawL_run (P := P) as ?_ fun H b o xs hb => st H b o xs (List.mem_cons_of_mem _ hb)
    rcases thaw1_cases (H := H) (a := a) with ⟨o, xs, e, z⟩ | z
    · rw [z]
      exact st H a o xs List.mem_cons_self h e
    · rw [z]
      exact h
theorem thawL_in : ∀ (as : List Addr) {H : Hp} {a : Addr} {o : Obj} {xs : List V}, a ∈ as → H a = some (.frz o (.lst xs)) ∨ H a = some (.lst xs) → thawL as H a = some (.lst xs)
  | [], _, _, _, _, h, _ => nomatch h
  | b :: as, H, a, o, xs, h, e => by
    have gen : ∀ {H : Hp}, H a = some (.lst xs) → thawL as H a = some (.lst xs) := fun {H} e => thawL_run (P := fun H => H a = some (.lst xs)) as e fun H c o ys _ e z => by
      by_cases q : a = c
      · subst q
        rw [e] at z
        cases z
      · rw [upd_ne q]; exact e
    unfold thawL
    rw [List.foldl_cons]
    by_cases q : a = b
    · subst q
      refine gen ?_
      rcases e with e | e
      · rw [e]; exact upd_same
      · rw [e]; exact e
    · have hm : a ∈ as := (List.mem_cons.mp h).resolve_left q
      refine thawL_in as (o := o) hm ?_
      rcases thaw1_cases (H := H) (a := b) with ⟨o, ys, _, z⟩ | z
      · rw [z, upd_ne q]; exact e
      · rw [z]; exact e
theorem thaw_reach {K : PySem.W.Frag} {H : Hp} {a : Addr} {o : Obj} {ys : List V} (h : H a = some (.frz o (.lst ys))) {w : V} : ∀ {ks : List Nat} {v : V}, reach K H v ks w → reach K (upd H a (.lst ys)) v ks w
  | [], v, e => e
  | k :: ks, v, ⟨p, xs, x, e, q, ha, r⟩ => by
    refine ⟨p, xs, x, e, ?_, ha, thaw_reach h r⟩
    rcases q with (q | q) | (q | q)
    · refine .inl (.inl ?_)
      by_cases z : p = a
      · subst z
        rcases q with q | ⟨o', q⟩
        · rw [h] at q; cases q
        · rw [h] at q
          cases q
          exact .inl upd_same
      · exact q.elim (fun q => .inl (by rw [upd_ne z]; exact q)) fun ⟨o', q⟩ => .inr ⟨o', by rw [upd_ne z]; exact q⟩
    · exact .inl (.inr q)
    · refine .inr (.inl ?_)
      rcases q with q | ⟨o', q⟩
      · exact .inl (by rw [upd_ne (fun z => by rw [z, h] at q; cases q)]; exact q)
      · exact .inr ⟨o', by rw [upd_ne (fun z => by rw [z, h] at q; cases q)]; exact q⟩
    · exact .inr (.inr q)
def okM (ρ : List Slot) (m : Mu) : Bool := match ρ[m.1]? with
  | some (some (false, d)) => fzAt d m.2.1
  | _ => false
/-- statements that hand lists out, and what is done to the lists afterwards -/
def gBlk (g : G) (ms : List Mu) : G := fun ρ => match g (killF ρ) with
  | .nx ρ1 => if ms.all (okM ρ1) = true then .nx (killF ρ1) else .fault
  | .rt false (.bl b) ρ1 => .rt false (.bl b) (killF ρ1)
  | _ => .fault
theorem s_blk {X : Cx} {T : List (Addr × Str)} {E : XK} {sts sms : List Stmt} {g : G} {ms : List Mu} (h1 : DSs X T E sts g) (h2 : PSs X sms (tMuts X.K ms)) (hp : ∀ m ∈ ms.tail, m.2.1 = []) : DSs X T E (sts ++ sms) (gBlk g ms) := by
  obtain ⟨t, a1, a2⟩ := h1
  refine ⟨_, pss_app (pss_thaw a1) h2, fun F Hz H σ ρ W E0 h => ?_⟩
  refine a2 (fenceF F Hz H) (dropF Hz) H σ (killF ρ) _ E0.aside ?_
  unfold gBlk at h
  cases e : g (killF ρ) with
  | nx ρ1 =>
    rw [e] at h
    simp only at h
    split at h
    · rename_i hm
      intro σ1 Hz1 H1 E1 s1
      obtain ⟨E2, s2⟩ := E0.back E1 s1
      have hm := List.all_eq_true.mp hm
      -- where the paths end
      have fd : ∀ m ∈ ms, ∃ v l o xs, σ1[m.1]? = some (some v) ∧ reach X.K H1 v m.2.1 (.ref l) ∧ Hz1 l = some (.frz o (.lst xs)) := fun m hmm => by
        have := hm m hmm
        unfold okM at this
        split at this
        · rename_i d ed
          obtain ⟨v, e1, r⟩ := E1.sh _ _ ed
          obtain ⟨l, o, xs, h3, h4⟩ := fz_find E1.ext _ r this
          exact ⟨v, l, o, xs, e1, h3, h4⟩
        · cases this
      have ex : ∀ ms' : List Mu, (∀ m ∈ ms', m ∈ ms) → ∃ as : List Addr, (∀ a ∈ as, ∃ o xs, Hz1 a = some (.frz o (.lst xs))) ∧ ∀ m ∈ ms', ∃ v l o xs, σ1[m.1]? = some (some v) ∧ reach X.K H1 v m.2.1 (.ref l) ∧ Hz1 l = some (.frz o (.lst xs)) ∧ l ∈ as := by
        intro ms'
        induction ms' with
        | nil => exact fun _ => ⟨[], (fun a z => (nomatch z)), (fun m z => (nomatch z))⟩
        | cons m ms' ih =>
          intro hs
          obtain ⟨as, k1, k2⟩ := ih fun n hn => hs n (List.mem_cons_of_mem _ hn)
          obtain ⟨v, l, o, xs, k3, k4, k5⟩ := fd m (hs m List.mem_cons_self)
          refine ⟨l :: as, fun a ha => ?_, fun n hn => ?_⟩
          · rcases List.mem_cons.mp ha with rfl | ha
            · exact ⟨o, xs, k5⟩
            · exact k1 a ha
          · rcases List.mem_cons.mp hn with rfl | hn
            · exact ⟨v, l, o, xs, k3, k4, k5, List.mem_cons_self⟩
            · obtain ⟨v, l, o, xs, q1, q2, q3, q4⟩ := k2 n hn
              exact ⟨v, l, o, xs, q1, q2, q3, List.mem_cons_of_mem _ q4⟩
      obtain ⟨as, k1, k2⟩ := ex ms fun _ h => h
      have nw : ∀ a ∈ as, NewF F Hz Hz1 H σ1 ρ1 a := fun a ha => let ⟨o, xs, z⟩ := k1 a ha; E0.newF E1 s1 z
      refine ⟨as, fun a ha => (nw a ha).nz, ?_⟩
      have E3 : EnvR X.K T F (mixF Hz Hz1) (thawL as H1) σ1 (killF ρ1) := thawL_run (P := fun H' => EnvR X.K T F (mixF Hz Hz1) H' σ1 (killF ρ1)) as E2 fun H' a o xs ha E' z => E'.otherX (nw a ha).m (nw a ha).f z (fun _ z => by cases z) (fun _ z => by cases z) (nw a ha).ns
      refine muts_run (A := fun l => l ∈ as) (P := fun H' => EnvR X.K T F (mixF Hz Hz1) H' σ1 (killF ρ1)) (fun H' l xs ys E' ha z => E'.otherX (nw l ha).m (nw l ha).f z (fun _ z => by cases z) (fun _ z => by cases z) (nw l ha).ns) (fun H' E' => h σ1 _ H' E' s2) ms _ E3 (fun m hmm => ?_) hp
      obtain ⟨v, l, o, xs, q1, q2, q3, q4⟩ := k2 m hmm
      refine ⟨v, l, xs, q1, ?_, thawL_in as q4 (.inl (E1.ext _ _ q3)), q4⟩
      exact thawL_run (P := fun H' => reach X.K H' v m.2.1 (.ref l)) as q2 fun H' a o ys _ q z => thaw_reach z q
    · exact h.elim
  | rt o d ρ1 =>
    rw [e] at h
    cases o with
    | true => exact h.elim
    | false =>
      cases d with
      | bl b =>
        intro v σ1 Hz1 H1 E1 s1 r
        cases r
        obtain ⟨E2, s2⟩ := E0.back E1 s1
        exact h (.bl b) σ1 _ H1 E2 s2 (.bl b)
      | _ => exact h.elim
  | bk ρ1 => rw [e] at h; exact h.elim
  | ct ρ1 => rw [e] at h; exact h.elim
  | exc x ρ1 => rw [e] at h; exact h.elim
  | fault => rw [e] at h; exact h.elim
theorem s_app {X : Cx} {T : List (Addr × Str)} {E : XK} {a b : List Stmt} {g h : G} (h1 : DSs X T E a g) (h2 : DSs X T E b h) : DSs X T E (a ++ b) (gSeq g h) := let ⟨_, a1, a2⟩ := h1; let ⟨_, b1, b2⟩ := h2; ⟨_, pss_app a1 b1, lift_seq a2 b2⟩
theorem s_blkT {X : Cx} {T : List (Addr × Str)} {E : XK} {sts : List Stmt} {g h : G} {ms : List Mu} (n m : Nat) (h1 : DSs X T E (sts.take n) g) (h2 : PSs X ((sts.drop n).take m) (tMuts X.K ms)) (h3 : DSs X T E ((sts.drop n).drop m) h) (hp : ∀ m ∈ ms.tail, m.2.1 = []) : DSs X T E sts (gSeq (gBlk g ms) h) := by
  have := s_app (s_blk h1 h2 hp) h3
  rw [List.append_assoc, List.take_append_drop, List.take_append_drop] at this
  exact this
end PL
namespace PL
open PySem PySem.Spec PySem.Calls PyProof.Rows L2 He CT
/-- a list, a tuple or a frozen list -/
inductive Sq : D → List D → Prop
  | lst (l : List D) : Sq (.lst l) l
  | tup (l : List D) : Sq (.tup l) l
  | fz (l : List D) : Sq (.fz l) l
section
variable {ρ : List Slot} {X : Exc → List Slot → Prop} {Q : D → List Slot → Prop} {QL : List D → List Slot → Prop} {d : D} {l : List D} {gs : M (List D)} {g : M D} {P : Po}
theorem W_enumQ (h : Sq d l) (q : WM (gEnum [.lst l]) ρ QL X) : WM (gEnum [d]) ρ QL X := by cases h <;> exact q
theorem W_iterQ (h : Sq d l) (q : WM (gIter (.lst l)) ρ QL X) : WM (gIter d) ρ QL X := by cases h <;> exact q
theorem W_lenQ (h : Sq d l) (q : Q (.int l.length) ρ) : WM (gLen [d]) ρ Q X := by cases h <;> exact q
theorem W_listQ (h : WM gs ρ (fun ds ρ1 => ∃ d l, ds = [d] ∧ Sq d l ∧ Q (.lst l) ρ1) X) : WM (gList gs) ρ Q X := W_bind (h.mono (fun ds ρ1 ⟨d, l, e, s, h⟩ => by
  subst e
  cases s <;> exact h) fun _ _ h => h)
theorem W_fz (h : WM g ρ (fun d ρ1 => ∃ l, d = .lst l ∧ Q (.fz l) ρ1) X) : WM (gFz g) ρ Q X := W_bind (h.mono (fun d ρ1 ⟨l, e, h⟩ => by
  subst e
  exact h) fun _ _ h => h)
instance i_W_fz : GK (WM (gFz g) ρ Q X) (WM g ρ (fun d ρ1 => ∃ l, d = .lst l ∧ Q (.fz l) ρ1) X) := ⟨W_fz⟩
theorem WG_blk {g : G} {ms : List Mu} (h : WG g (killF ρ) { nx := fun ρ1 => ms.all (okM ρ1) = true ∧ P.nx (killF ρ1), rt := fun o d ρ1 => ∃ b, o = false ∧ d = .bl b ∧ P.rt false (.bl b) (killF ρ1), exc := fun _ _ => False, bk := fun _ => False, ct := fun _ => False }) : WG (gBlk g ms) ρ P := by
  unfold WG at h
  unfold WG gBlk
  cases e : g (killF ρ) with
  | nx ρ1 =>
    rw [e] at h
    simp only [if_pos h.1]
    exact h.2
  | rt o d ρ1 =>
    rw [e] at h
    obtain ⟨b, rfl, rfl, h⟩ := h
    exact h
  | bk ρ1 => rw [e] at h; exact h.elim
  | ct ρ1 => rw [e] at h; exact h.elim
  | exc x ρ1 => rw [e] at h; exact h.elim
  | fault => rw [e] at h; exact h.elim
end
theorem py_fz {α : Type} {f g : α → D} (h : ∀ x, py (f x) = py (g x) ∧ pyB (f x) = pyB (g x)) : ∀ l : List α, pyL (l.map f) = pyL (l.map g) ∧ pyBL (l.map f) = pyBL (l.map g)
  | [] => ⟨rfl, rfl⟩
  | x :: l => by
    obtain ⟨a, b⟩ := py_fz h l
    rw [List.map_cons, List.map_cons, pyL, pyL, pyBL, pyBL, a, b, (h x).1, (h x).2]
    exact ⟨rfl, rfl⟩
theorem eq_fz {a b : D} (h : py a = py b ∧ pyB a = pyB b) : eqB a = eqB b ∧ eqD a b = eqD b b := by
  unfold eqB eqD
  rw [h.1, h.2]
  exact ⟨rfl, rfl⟩
end PL
namespace CT
open PySem PySem.Spec PySem.Calls PyProof.Rows L2 He
theorem gives_whyG {X : Cx} {g : Addr} {cdg : Value} {R : List (Str × Option Str)} (gE : ∀ m ∈ whyNames, X.mg m = some (.ref (ga X.K m))) (hR : ∀ n x, (n, x) ∈ R → WhyC X.K n x ∧ (∀ c ∈ whyCl, n ∈ c.1 → c.2 = x) ∧ ∃ c ∈ whyCl, n ∈ c.1) :
    GivesG X n_law_why "_law_why" (defScope s_law_why) g cdg (defBody s_law_why) (TWhy X.K R) "_law_ask" := by
  intro f Gd s H Q tl hGd act hc h
  refine ⟨_, pss_cons (ps_set (i := 1) sc_law_why.nd rfl (.inl rfl) (pe_tup (pa_cons pe_str (pa_cons pe_non pa_nil))))
      (pss_cons (ps_try_manyAs (i := 2) (n := "e") (l := whyL X.K whyCl) (tb := fun W D σ H => tSeq (tDrop (fun σ H Q => σ[0]? = some (some (.ref f)) ∧ Gd H ∧ ∃ E : XK, (∀ cls d H', E cls d H' → W cls d σ H') ∧ tl E H Q)) tNext D σ H)
        rfl rfl sc_law_why.nd rfl rfl L2.takes0 (fun W pn xe tk _ => pss_one (ps_expr (act W pn xe _ _ tk)))
        (HdsAs.cons (ClTest.tup (NamesL.cons ⟨rfl, by decide, .inl (gE "InvalidRatio" (by decide +kernel))⟩ (NamesL.cons ⟨rfl, by decide, .inl (gE "InvalidDegree" (by decide +kernel))⟩ (NamesL.cons ⟨rfl, by decide, .inl (gE "InvalidLimit" (by decide +kernel))⟩ NamesL.nil))) (by show 3 ≤ 100; decide)) (fun a oe cls d pn hz hf => pss_one (ps_set (i := 1) sc_law_why.nd rfl (.inl rfl) (pe_tup (pa_cons (pe_xg hz hf (pv 2)) (pa_cons (pe_xg hz hf (pv 2)) pa_nil))))) (HdsAs.cons (ClTest.tup (NamesL.cons ⟨rfl, by decide, .inl (gE "InvalidTerm" (by decide +kernel))⟩ (NamesL.cons ⟨rfl, by decide, .inl (gE "ParseError" (by decide +kernel))⟩ (NamesL.cons ⟨rfl, by decide, .inl (gE "InvalidLetters" (by decide +kernel))⟩ (NamesL.cons ⟨rfl, by decide, .inl (gE "InvalidBegin" (by decide +kernel))⟩ (NamesL.cons ⟨rfl, by decide, .inl (gE "InvalidMode" (by decide +kernel))⟩ NamesL.nil))))) (by show 5 ≤ 100; decide)) (fun a oe cls d pn hz hf => pss_one (ps_set (i := 1) sc_law_why.nd rfl (.inl rfl) (pe_tup (pa_cons (pe_xg hz hf (pv 2)) (pa_cons (pe_xg hz hf (pv 2)) pa_nil))))) (HdsAs.cons (ClTest.tup (NamesL.cons ⟨rfl, by decide, .inl (gE "InvalidGuard" (by decide +kernel))⟩ (NamesL.cons ⟨rfl, by decide, .inl (gE "UnknownLetter" (by decide +kernel))⟩ (NamesL.cons ⟨rfl, by decide, .inl (gE "InvalidRecoding" (by decide +kernel))⟩ NamesL.nil))) (by show 3 ≤ 100; decide)) (fun a oe cls d pn hz hf => pss_one (ps_set (i := 1) sc_law_why.nd rfl (.inl rfl) (pe_tup (pa_cons (pe_xg hz hf (pv 2)) (pa_cons (pe_xg hz hf (pv 2)) pa_nil))))) (HdsAs.cons (ClTest.one ⟨rfl, by decide, .inl (gE "Mismatch" (by decide +kernel))⟩) (fun a oe cls d pn hz hf => pss_one (ps_set (i := 1) sc_law_why.nd rfl (.inl rfl) (pe_tup (pa_cons (pe_xg hz hf (pv 2)) (pa_cons (pe_xg hz hf (pv 2)) pa_nil))))) (HdsAs.cons (ClTest.tup (NamesL.cons ⟨rfl, by decide, .inl (gE "InvalidName" (by decide +kernel))⟩ (NamesL.cons ⟨rfl, by decide, .inl (gE "DuplicateName" (by decide +kernel))⟩ (NamesL.cons ⟨rfl, by decide, .inl (gE "WrongSort" (by decide +kernel))⟩ (NamesL.cons ⟨rfl, by decide, .inl (gE "UnknownName" (by decide +kernel))⟩ NamesL.nil)))) (by show 4 ≤ 100; decide)) (fun a oe cls d pn hz hf => pss_one (ps_set (i := 1) sc_law_why.nd rfl (.inl rfl) (pe_tup (pa_cons (pe_xg hz hf (pv 2)) (pa_cons (pe_xg hz hf (pv 2)) pa_nil))))) (HdsAs.cons (ClTest.one ⟨rfl, by decide, .inl (gE "CapacityExceeded" (by decide +kernel))⟩) (fun a oe cls d pn hz hf => pss_one (ps_set (i := 1) sc_law_why.nd rfl (.inl rfl) (pe_tup (pa_cons (pe_xg hz hf (pv 2)) (pa_cons (pe_xg hz hf (pv 2)) pa_nil))))) (HdsAs.cons (ClTest.one ⟨rfl, by decide, .inl (gE "InvalidCommand" (by decide +kernel))⟩) (fun a oe cls d pn hz hf => pss_one (ps_set (i := 1) sc_law_why.nd rfl (.inl rfl) (pe_tup (pa_cons (pe_xg hz hf (pv 2)) (pa_cons (pe_xg hz hf (pv 2)) pa_nil))))) (HdsAs.cons (ClTest.one ⟨rfl, by decide, .inl (gE "InUse" (by decide +kernel))⟩) (fun a oe cls d pn hz hf => pss_one (ps_set (i := 1) sc_law_why.nd rfl (.inl rfl) (pe_tup (pa_cons (pe_xg hz hf (pv 2)) (pa_cons (pe_xg hz hf (pv 2)) pa_nil))))) (HdsAs.cons (ClTest.one ⟨rfl, by decide, .inl (gE "Fails" (by decide +kernel))⟩) (fun a oe cls d pn hz hf => pss_one (ps_set (i := 1) sc_law_why.nd rfl (.inl rfl) (pe_tup (pa_cons (pe_xg hz hf (pv 2)) (pa_cons (pe_xg hz hf (pv 2)) pa_nil))))) (HdsAs.cons (ClTest.tup (NamesL.cons ⟨rfl, by decide, .inl (gE "NoLead" (by decide +kernel))⟩ (NamesL.cons ⟨rfl, by decide, .inl (gE "LettersDiffer" (by decide +kernel))⟩ (NamesL.cons ⟨rfl, by decide, .inl (gE "NoText" (by decide +kernel))⟩ (NamesL.cons ⟨rfl, by decide, .inl (gE "NothingLeft" (by decide +kernel))⟩ NamesL.nil)))) (by show 4 ≤ 100; decide)) (fun a oe cls d pn hz hf => pss_one (ps_set (i := 1) sc_law_why.nd rfl (.inl rfl) (pe_tup (pa_cons (pe_xg hz hf (pv 2)) (pa_cons pe_non pa_nil))))) HdsAs.nil)))))))))))
      (pss_one (ps_ret (pv 1)))), ?_⟩
  refine ⟨by decide, fun p hp => ⟨rfl, hGd _ _ (same_new hp) hc, _, fun cls d H' he => ?_, h p _ hp (same_new hp) upd_same _ _ (fun v H' hq => ⟨_, rfl, hq⟩) fun cls d H' he => he⟩⟩
  obtain ⟨n, x, v, hm, ht, hv, hq⟩ := he
  obtain ⟨C, h1, h2⟩ := hR n x hm
  refine why_reads C ht hv ?_ whyCl why_all h1 h2
  exact fun p hp => ⟨_, rfl, hq p _ hp (same_new hp) upd_same⟩
/-- [_law_why(y) for y in ..]: the element -/
theorem pe_whyK {X : Cx} {R : List (Str × Option Str)} {k j : Nat} {fam : List (LamD × (XK → TE))} {pins : List (Addr × Obj)} {σ : L2.St} {s : Shared} {H : Hp} {fp : List Addr} {scope : Scope} {ce : Env} {y : Str} {p py pos : Pos} (B : BlkAt X pins σ H s fp) (D : Dn X.K X.mg "_law_why" s_law_why [])
    (gE : ∀ m ∈ whyNames, X.mg m = some (.ref (ga X.K m))) (hR : ∀ n x, (n, x) ∈ R → WhyC X.K n x ∧ (∀ c ∈ whyCl, n ∈ c.1 → c.2 = x) ∧ ∃ c ∈ whyCl, n ∈ c.1) (hr : Room (k + 2) X.A) (hF : FamOk X k fam) (hy : PE (X.blk s H scope ce fp) (.Name y py) (tVar j)) (hg : Gl (X.blk s H scope ce fp) "_law_why" := by rfl) :
    PE (X.blk s H scope ce fp) (.Call (.Name "_law_why" p) [.Name y py] [] pos) (tLamV X.env fam (TWhy X.K R) j σ) := by
  obtain ⟨fd, F⟩ := D.f
  have kp := F.kp
  have b := F.bindsN (ps := ["_law_ask"]) (fun _ _ _ _ _ _ us hl => match us, hl with | [_], _ => rfl)
  obtain ⟨oc, od, dV, kV, doc, pm, an, cdv, ct, osl, rfl, lk, hcd, _, _⟩ := F.ex
  exact pe_keptB (a := "_law_ask") B hg D.g kp lk hcd b sc_law_why rfl (.inl rfl) (gives_whyG gE hR) hr hF hy
/-- _law_why(lambda: body) -/
theorem pe_why {X : Cx} {R : List (Str × Option Str)} {T : List (Addr × Str)} {c P : Addr} {k : Nat} {params : Arguments} {body : Expr} {scope : Scope} {t : XK → TE} {p lpos pos : Pos} (D : Dn X.K X.mg "_law_why" s_law_why [])
    (gE : ∀ m ∈ whyNames, X.mg m = some (.ref (ga X.K m))) (hR : ∀ n x, (n, x) ∈ R → WhyC X.K n x ∧ (∀ c ∈ whyCl, n ∈ c.1 → c.2 = x) ∧ ∃ c ∈ whyCl, n ∈ c.1)
    (TB : LamX.TabB X.base X.mg c P) (hcode : X.env.code = .ref c) (hmT : (P, X.env.qual ++ "<lambda>") ∈ T) (hu : ∀ p ∈ T, p.1 = P → p.2 = X.env.qual ++ "<lambda>") (hr : Room (k + 2) X.A) (L : LamX.LamS X.env.scope scope) (hdef : defaultsOf params X.env = ([], []))
    (hbind : ∀ (q : Str) (cl : List (Str × Addr)) (pm cv ctv : Value), bindArgs (PySem.W.kla_fn "<lambda>" q params body scope cl pm cv ctv) ⟨[], []⟩ = pure [])
    (hbody : ∀ (A : Around) (outer : List Env) (s : Shared) (H : Hp) (E : XK) (f c' : Addr), Room k (A.deeper (LamX.lamEnv X scope s.heap.objs.size f c')) → PE (LamX.lamCx X A outer s H E scope f c') body (t E)) (hg : Gl X "_law_why" := by rfl) :
    PE X (.Call (.Name "_law_why" p) [.Lambda params body scope lpos] [] pos) (LamX.tLam T (TWhy X.K R) t) := by
  obtain ⟨fd, F⟩ := D.f
  have kp := F.kp
  have b := F.bindsN (ps := ["_law_ask"]) (fun _ _ _ _ _ _ us hl => match us, hl with | [_], _ => rfl)
  obtain ⟨oc, od, dV, kV, doc, pm, an, cdv, ct, osl, rfl, lk, hcd, _, _⟩ := F.ex
  exact pe_lamcallS (k := k) hg D.g kp lk hcd b sc_law_why rfl (.inl rfl) (gives_whyG gE hR).s TB hcode hmT hu hr L hdef hbind hbody
def spSame (K : PySem.W.Frag) : Nat → Sp
  | 0 => fun _ _ _ _ => False
  | n + 1 => fun vs H Q _ => ∃ x y, vs = [x, y] ∧ EqD K H n x y ∧ ∀ H', Same H H' → Q (.bl true) H'
theorem tyx_t {K : PySem.W.Frag} {H : Hp} {a : Addr} {xs : List V} (h : SqT K H a xs) : TyX K H (.ref a) (.type "tuple") := by
  rcases h with (h | ⟨o, h⟩) | ⟨o, its, n, h, c, _⟩
  · exact .base (.tup h)
  · exact .fTuple h
  · exact .kTuple h c
theorem tyx_l {K : PySem.W.Frag} {H : Hp} {a : Addr} {xs : List V} (h : SqL K H a xs) : TyX K H (.ref a) (.type "list") := by
  rcases h with (h | ⟨o, h⟩) | ⟨o, its, n, h, c, _⟩
  · exact .base (.lst h)
  · exact .base (.frz h)
  · exact .kList h c
theorem kit_is {K : PySem.W.Frag} {t : String} {b1 b2 : Bool} (e1 : kitB t "int" = some b1) (e2 : kitB t "str" = some b2) : PySem.W.kitAny K (.type t) [.type "int", .type "str"] = some (b1 || b2) := by
  refine kitAny_cons (kit_ty e1) (fun h => kitAny_cons (r := b1 || b2) (kit_ty e2) (fun h2 => ?_) fun h2 => ?_) fun h => ?_
  · rw [h, h2]
    rfl
  · rw [h2, Bool.or_true]
  · rw [h]
    rfl
theorem walk_zipT {K : PySem.W.Frag} {a b : Addr} {xs ys : List V} {n : Nat} (hn : n = min xs.length ys.length) : Walk (RZ.ItzT K a b) n (fun H => SqT K H a xs ∧ SqT K H b ys) (YPair (fun i => xs[i]?) (fun i => ys[i]?)) := by
  subst hn
  refine ⟨fun i _ hi q => ?_, fun _ q => ⟨xs, ys, q.1, q.2, by omega⟩, fun i H v H' _ q y => ?_⟩
  · have h1 : i < xs.length := by omega
    have h2 : i < ys.length := by omega
    exact ⟨xs, ys, xs[i], ys[i], q.1, q.2, by simp [h1], by simp [h2]⟩
  · obtain ⟨T, x, z, h1, h2, h3, h4, h5⟩ := y
    exact ⟨T, x, z, h1, h2, h3, h4 xs q.1, h5 ys q.2⟩
section
variable {P : Program} {w : World} {K : PySem.W.Frag} {mg : Str → Option Value} {base : Heap}
theorem ok_law_same (D : Dn K mg "_law_same" s_law_same []) (m_isinstance : mg "isinstance" = none) (m_bool : mg "bool" = none) (m_int : mg "int" = none) (m_str : mg "str" = none) (m_tuple : mg "tuple" = none) (m_list : mg "list" = none) (m_len : mg "len" = none) (m_all : mg "all" = none) (m_zip : mg "zip" = none) :
    ∀ n : Nat, FOk P w K mg base n "_law_same" ["_law_found", "_law_due"] (spSame K n)
  | 0 => by
    obtain ⟨fd, F⟩ := D.f
    exact ⟨D.g, F.kp, fd, ⟨fun _ _ _ _ h => h.elim, fun _ _ _ _ _ _ _ _ _ _ _ _ _ h => h.elim⟩, F.bindsN (fun _ _ _ _ _ _ us hl => match us, hl with | [_, _], _ => rfl)⟩
  | n + 1 => by
    have h_law_same := ok_law_same D m_isinstance m_bool m_int m_str m_tuple m_list m_len m_all m_zip n
    refine D.ok sc_law_same (fun _ _ _ _ _ _ us hl => match us, hl with | [_, _], _ => rfl) (fun vs H Q E h => ?_) (fun cdv A outer s H vs Q E hr h => ?_)
    · obtain ⟨_, _, rfl, _⟩ := h
      rfl
    · obtain ⟨x, y, rfl, hd, hq⟩ := h
      refine ⟨_, (pss_cons 
    (ps_if (pt_cmpR op_isN (pv 1) pe_non (nomark _)) (pss_one 
      (ps_ret (pe_cmpR op_isN (pv 0) pe_non (nomark _)))) pss_nil) (pss_cons 
    (ps_if (PW.pt (pw_or (pt_val (pe_callB call_isi (by rfl) m_isinstance (by decide +kernel) (pa_cons (pv 1) (pa_cons (pe_bty (T := "bool") m_bool) pa_nil)))) (pw_or1 (pt_val (pe_callB call_isi (by rfl) m_isinstance (by decide +kernel) (pa_cons (pv 0) (pa_cons (pe_bty (T := "bool") m_bool) pa_nil))))))) (pss_one 
      (ps_ret (pe_and (pe_callB call_isi (by rfl) m_isinstance (by decide +kernel) (pa_cons (pv 1) (pa_cons (pe_bty (T := "bool") m_bool) pa_nil))) (pe_and (pe_callB call_isi (by rfl) m_isinstance (by decide +kernel) (pa_cons (pv 0) (pa_cons (pe_bty (T := "bool") m_bool) pa_nil))) (pe_one (pe_cmpR op_eq (pv 0) (pv 1) (nomark _))))))) pss_nil) (pss_cons 
    (ps_if (pt_val (pe_callB call_isiT (by rfl) m_isinstance (by decide +kernel) (pa_cons (pv 1) (pa_cons (pe_tup (pa_cons (pe_bty (T := "int") m_int) (pa_cons (pe_bty (T := "str") m_str) pa_nil))) pa_nil)))) (pss_one 
      (ps_ret (pe_and (pe_callB call_isiT (by rfl) m_isinstance (by decide +kernel) (pa_cons (pv 0) (pa_cons (pe_tup (pa_cons (pe_bty (T := "int") m_int) (pa_cons (pe_bty (T := "str") m_str) pa_nil))) pa_nil))) (pe_and (pe_cmpR op_eq (pe_callB call_isi (by rfl) m_isinstance (by decide +kernel) (pa_cons (pv 0) (pa_cons (pe_bty (T := "int") m_int) pa_nil))) (pe_callB call_isi (by rfl) m_isinstance (by decide +kernel) (pa_cons (pv 1) (pa_cons (pe_bty (T := "int") m_int) pa_nil))) (nomark _)) (pe_one (pe_cmpR op_eq (pv 0) (pv 1) (nomark _))))))) pss_nil) (pss_cons 
    (ps_if (PW.pt (pw_or (pt_cmpR op_ne (pe_callB call_isi (by rfl) m_isinstance (by decide +kernel) (pa_cons (pv 1) (pa_cons (pe_bty (T := "tuple") m_tuple) pa_nil))) (pe_callB call_isi (by rfl) m_isinstance (by decide +kernel) (pa_cons (pv 0) (pa_cons (pe_bty (T := "tuple") m_tuple) pa_nil))) (nomark _)) (pw_or1 (pt_cmpR op_ne (pe_callB call_isi (by rfl) m_isinstance (by decide +kernel) (pa_cons (pv 1) (pa_cons (pe_bty (T := "list") m_list) pa_nil))) (pe_callB call_isi (by rfl) m_isinstance (by decide +kernel) (pa_cons (pv 0) (pa_cons (pe_bty (T := "list") m_list) pa_nil))) (nomark _))))) (pss_one 
      (ps_ret pe_bl)) pss_nil) (pss_one 
    (ps_ret (pe_and (pe_cmpR op_eq (pe_callB call_len_seq (by rfl) m_len (by decide +kernel) (pa_cons (pv 0) pa_nil)) (pe_callB call_len_seq (by rfl) m_len (by decide +kernel) (pa_cons (pv 1) pa_nil)) (nomark _)) (pe_one (pe_callB (cr_all rfl) (by rfl) m_all (by decide +kernel) (pa_cons (pe_lc (own := [("_law_one", 2), ("_law_two", 3)]) (g := (gTup K 2 (gCons (gName 2) (gCons (gName 3) gNil)))) (tt := tYes) (by rfl) sc_law_same.nd (RZ.pi_zipA (by rfl) m_zip (pa_cons (pv 0) (pa_cons (pv 1) pa_nil))) (blkOk_by (own := [("_law_one", 2), ("_law_two", 3)]) (N := n_law_same) (sc := defScope s_law_same) (by decide +kernel)) (fun _ _ _ _ _ => (pg_tup (by rfl) (pgs_cons (pg_name (i := 2) sc_law_same.nd rfl (Or.inl rfl)) (pgs_cons (pg_name (i := 3) sc_law_same.nd rfl (Or.inl rfl)) pgs_nil)))) (fun _ _ _ _ _ => pts_nil) (fun _ _ _ _ _ => (pe_callF h_law_same (hr.mono (by first | decide | omega)) (pa_cons (pv 2) (pa_cons (pv 3) pa_nil))))) pa_nil)))))))))), ?_⟩
      have key : (x = y ∧ flat x = true) ∨ ∃ (a b : Addr) (xs ys : List V), x = .ref a ∧ y = .ref b ∧ ((SqT K H a xs ∧ SqT K H b ys) ∨ (SqL K H a xs ∧ SqL K H b ys)) ∧ xs.length = ys.length ∧ xs.length ≤ 10000 ∧ ∀ (i : Nat) (x y : V), xs[i]? = some x → ys[i]? = some y → spSame K n = spSame K (n - 1 + 1) ∧ EqD K H (n - 1) x y := by
        cases n with
        | zero => exact .inl hd
        | succ m =>
          rcases hd with h | ⟨a, b, xs, ys, h1, h2, h3, h4, h5, h6⟩
          · exact .inl h
          · exact .inr ⟨a, b, xs, ys, h1, h2, h3, h4, h5, fun i x y q1 q2 => ⟨rfl, h6 i x y q1 q2⟩⟩
      have q0 := hq H (Same.refl H)
      rcases key with ⟨rfl, hfl⟩ | ⟨a, b, xs, ys, rfl, rfl, h3, h4, h5, h6⟩
      · cases x with
        | non => exact ⟨_, rfl, rfl, _, rfl, itT rfl ⟨_, rfl, rfl, q0⟩⟩
        | bl c =>
          refine ⟨_, rfl, rfl, _, rfl, itF rfl ?_⟩
          refine ⟨_, rfl, ⟨_, _, _, _, true, rfl, .ty _, .base (.bl c), kit_ty (by decide +kernel), ⟨_, rfl, itT rfl (itT rfl ?_)⟩⟩⟩
          refine ⟨_, rfl, ⟨_, _, _, _, true, rfl, .ty _, .base (.bl c), kit_ty (by decide +kernel), ⟨_, rfl, itT rfl ⟨_, rfl, ⟨_, _, _, _, true, rfl, .ty _, .base (.bl c), kit_ty (by decide +kernel), ⟨_, rfl, itT rfl ⟨_, rfl, _, rfl, rfl, ?_⟩⟩⟩⟩⟩⟩⟩
          rw [decide_eq_true rfl]
          exact q0
        | int c =>
          refine ⟨_, rfl, rfl, _, rfl, itF rfl ?_⟩
          refine ⟨_, rfl, ⟨_, _, _, _, false, rfl, .ty _, .base (.int c), kit_ty (by decide +kernel), ⟨_, rfl, itF rfl ⟨_, rfl, ⟨_, _, _, _, false, rfl, .ty _, .base (.int c), kit_ty (by decide +kernel), ⟨_, rfl, itF rfl ?_⟩⟩⟩⟩⟩⟩
          refine ⟨_, rfl, sl 2, fun t1 ht1 => ⟨_, _, _, _, [.type "int", .type "str"], (true || false), rfl, upd_same, .cons (.ty _) (.cons (.ty _) .nil), (.base (.int c)), kit_is (by decide +kernel) (by decide +kernel), ⟨_, rfl, itT rfl ?_⟩⟩⟩
          refine ⟨_, rfl, sl 2, fun t2 ht2 => ⟨_, _, _, _, [.type "int", .type "str"], (true || false), rfl, upd_same, .cons (.ty _) (.cons (.ty _) .nil), (.base (.int c)), kit_is (by decide +kernel) (by decide +kernel), ⟨_, rfl, itT rfl ?_⟩⟩⟩
          refine ⟨_, rfl, ⟨_, _, _, _, true, rfl, .ty _, .base (.int c), kit_ty (by decide +kernel), ⟨_, rfl, ⟨_, _, _, _, true, rfl, .ty _, .base (.int c), kit_ty (by decide +kernel), ⟨rfl, _, rfl, itT rfl ⟨_, rfl, _, rfl, rfl, ?_⟩⟩⟩⟩⟩⟩
          rw [decide_eq_true rfl]
          exact hq _ ((same_new ht1).trans (same_new ht2))
        | str c =>
          refine ⟨_, rfl, rfl, _, rfl, itF rfl ?_⟩
          refine ⟨_, rfl, ⟨_, _, _, _, false, rfl, .ty _, .base (.str c), kit_ty (by decide +kernel), ⟨_, rfl, itF rfl ⟨_, rfl, ⟨_, _, _, _, false, rfl, .ty _, .base (.str c), kit_ty (by decide +kernel), ⟨_, rfl, itF rfl ?_⟩⟩⟩⟩⟩⟩
          refine ⟨_, rfl, sl 2, fun t1 ht1 => ⟨_, _, _, _, [.type "int", .type "str"], (false || true), rfl, upd_same, .cons (.ty _) (.cons (.ty _) .nil), (.base (.str c)), kit_is (by decide +kernel) (by decide +kernel), ⟨_, rfl, itT rfl ?_⟩⟩⟩
          refine ⟨_, rfl, sl 2, fun t2 ht2 => ⟨_, _, _, _, [.type "int", .type "str"], (false || true), rfl, upd_same, .cons (.ty _) (.cons (.ty _) .nil), (.base (.str c)), kit_is (by decide +kernel) (by decide +kernel), ⟨_, rfl, itT rfl ?_⟩⟩⟩
          refine ⟨_, rfl, ⟨_, _, _, _, false, rfl, .ty _, .base (.str c), kit_ty (by decide +kernel), ⟨_, rfl, ⟨_, _, _, _, false, rfl, .ty _, .base (.str c), kit_ty (by decide +kernel), ⟨rfl, _, rfl, itT rfl ⟨_, rfl, _, rfl, rfl, ?_⟩⟩⟩⟩⟩⟩
          rw [decide_eq_true rfl]
          exact hq _ ((same_new ht1).trans (same_new ht2))
        | _ => cases hfl
      · rcases h3 with ⟨k1, k2⟩ | ⟨k1, k2⟩
        · refine ⟨_, rfl, rfl, _, rfl, itF rfl ?_⟩
          refine ⟨_, rfl, ⟨_, _, _, _, false, rfl, .ty _, tyx_t k2, kit_ty (by decide +kernel), ⟨_, rfl, itF rfl ⟨_, rfl, ⟨_, _, _, _, false, rfl, .ty _, tyx_t k1, kit_ty (by decide +kernel), ⟨_, rfl, itF rfl ?_⟩⟩⟩⟩⟩⟩
          refine ⟨_, rfl, sl 2, fun t1 ht1 => ?_⟩
          have s1 := same_new (o := .tup [.ty "int", .ty "str"]) ht1
          refine ⟨_, _, _, _, [.type "int", .type "str"], (false || false), rfl, upd_same, .cons (.ty _) (.cons (.ty _) .nil), (tyx_t (sqT_same s1 k2)), kit_is (by decide +kernel) (by decide +kernel), ⟨_, rfl, itF rfl ?_⟩⟩
          generalize hH1 : upd H t1 (.tup [.ty "int", .ty "str"]) = H1 at s1
          have j1 := sqT_same s1 k1
          have j2 := sqT_same s1 k2
          refine ⟨_, rfl, ⟨_, _, _, _, true, rfl, .ty _, tyx_t j2, kit_ty (by decide +kernel), ⟨_, rfl, ⟨_, _, _, _, true, rfl, .ty _, tyx_t j1, kit_ty (by decide +kernel), ⟨rfl, _, rfl, itF rfl ?_⟩⟩⟩⟩⟩
          refine ⟨_, rfl, ⟨_, _, _, _, false, rfl, .ty _, tyx_t j2, kit_ty (by decide +kernel), ⟨_, rfl, ⟨_, _, _, _, false, rfl, .ty _, tyx_t j1, kit_ty (by decide +kernel), ⟨rfl, _, rfl, itF rfl ?_⟩⟩⟩⟩⟩
          refine ⟨_, rfl, a, xs, rfl, .inr j1, _, rfl, b, ys, rfl, .inr j2, rfl, _, rfl, itT (by rw [h4]; exact decide_eq_true rfl) ?_⟩
          refine ⟨_, rfl, _, rfl, a, b, xs, ys, rfl, .inr ⟨j1, j2, fun L hL => ?_⟩⟩
          refine lc_it (walk_zipT (n := xs.length) (by omega)) (fun i H' => Same H1 H' ∧ H' L = some (.lst ((List.replicate i true).map V.bl))) ⟨same_new hL, upd_same⟩ (fun i H' _ hp => ⟨sqT_same hp.1 j1, sqT_same hp.1 j2⟩) (fun i v H2 H' hi hp hy => ?_) (fun H' hp => ?_)
          · obtain ⟨T, x, y, rfl, hT, rfl, q1, q2⟩ := hy
            obtain ⟨e1, e2⟩ := h6 i x y q1 q2
            have s3 := same_new (o := .tup [x, y]) hT
            refine ⟨T, _, rfl, .of upd_same, rfl, _, _, rfl, _, _, rfl, rfl, rfl, ?_⟩
            refine ⟨_, rfl, _, rfl, ?_⟩
            rw [e1]
            refine ⟨x, y, rfl, e2.same (s1.trans (hp.1.trans s3)), fun H5 s5 => ⟨_, s5 _ _ (s3 _ _ hp.2), ?_, fun bb o e => ?_, ?_⟩⟩
            · rw [List.length_map, List.length_replicate]
              exact slt' (by omega)
            · rw [upd_ne (ne_of_none e hL)]
              exact s5 _ _ (s3 _ _ (hp.1 _ _ e))
            · rw [upd_same, List.replicate_succ', List.map_append]
              rfl
          · refine ⟨L, _, rfl, .of hp.2, ?_⟩
            rw [all_rep]
            exact hq _ (s1.trans hp.1)
        · refine ⟨_, rfl, rfl, _, rfl, itF rfl ?_⟩
          refine ⟨_, rfl, ⟨_, _, _, _, false, rfl, .ty _, tyx_l k2, kit_ty (by decide +kernel), ⟨_, rfl, itF rfl ⟨_, rfl, ⟨_, _, _, _, false, rfl, .ty _, tyx_l k1, kit_ty (by decide +kernel), ⟨_, rfl, itF rfl ?_⟩⟩⟩⟩⟩⟩
          refine ⟨_, rfl, sl 2, fun t1 ht1 => ?_⟩
          have s1 := same_new (o := .tup [.ty "int", .ty "str"]) ht1
          refine ⟨_, _, _, _, [.type "int", .type "str"], (false || false), rfl, upd_same, .cons (.ty _) (.cons (.ty _) .nil), (tyx_l (sqL_same s1 k2)), kit_is (by decide +kernel) (by decide +kernel), ⟨_, rfl, itF rfl ?_⟩⟩
          generalize hH1 : upd H t1 (.tup [.ty "int", .ty "str"]) = H1 at s1
          have j1 := sqL_same s1 k1
          have j2 := sqL_same s1 k2
          refine ⟨_, rfl, ⟨_, _, _, _, false, rfl, .ty _, tyx_l j2, kit_ty (by decide +kernel), ⟨_, rfl, ⟨_, _, _, _, false, rfl, .ty _, tyx_l j1, kit_ty (by decide +kernel), ⟨rfl, _, rfl, itF rfl ?_⟩⟩⟩⟩⟩
          refine ⟨_, rfl, ⟨_, _, _, _, true, rfl, .ty _, tyx_l j2, kit_ty (by decide +kernel), ⟨_, rfl, ⟨_, _, _, _, true, rfl, .ty _, tyx_l j1, kit_ty (by decide +kernel), ⟨rfl, _, rfl, itF rfl ?_⟩⟩⟩⟩⟩
          refine ⟨_, rfl, a, xs, rfl, .inl j1, _, rfl, b, ys, rfl, .inl j2, rfl, _, rfl, itT (by rw [h4]; exact decide_eq_true rfl) ?_⟩
          refine ⟨_, rfl, _, rfl, a, b, xs, ys, rfl, .inl ⟨j1, j2, fun L hL => ?_⟩⟩
          refine lc_it (walk_zip (n := xs.length) (by omega)) (fun i H' => Same H1 H' ∧ H' L = some (.lst ((List.replicate i true).map V.bl))) ⟨same_new hL, upd_same⟩ (fun i H' _ hp => ⟨sqL_same hp.1 j1, sqL_same hp.1 j2⟩) (fun i v H2 H' hi hp hy => ?_) (fun H' hp => ?_)
          · obtain ⟨T, x, y, rfl, hT, rfl, q1, q2⟩ := hy
            obtain ⟨e1, e2⟩ := h6 i x y q1 q2
            have s3 := same_new (o := .tup [x, y]) hT
            refine ⟨T, _, rfl, .of upd_same, rfl, _, _, rfl, _, _, rfl, rfl, rfl, ?_⟩
            refine ⟨_, rfl, _, rfl, ?_⟩
            rw [e1]
            refine ⟨x, y, rfl, e2.same (s1.trans (hp.1.trans s3)), fun H5 s5 => ⟨_, s5 _ _ (s3 _ _ hp.2), ?_, fun bb o e => ?_, ?_⟩⟩
            · rw [List.length_map, List.length_replicate]
              exact slt' (by omega)
            · rw [upd_ne (ne_of_none e hL)]
              exact s5 _ _ (s3 _ _ (hp.1 _ _ e))
            · rw [upd_same, List.replicate_succ', List.map_append]
              rfl
          · refine ⟨L, _, rfl, .of hp.2, ?_⟩
            rw [all_rep]
            exact hq _ (s1.trans hp.1)
end
theorem d_why {X : Cx} {T : List (Addr × Str)} {E : XK} {R : List (Str × Option Str)} {c P : Addr} {k : Nat} {params : Arguments} {body : Expr} {scope : Scope} {g : PL.M PL.D} {p lpos pos : Pos} (hT : T ≠ []) (D : Dn X.K X.mg "_law_why" s_law_why [])
    (gE : ∀ m ∈ whyNames, X.mg m = some (.ref (ga X.K m))) (hR : ∀ n x, (n, x) ∈ R → WhyC X.K n x ∧ (∀ c ∈ whyCl, n ∈ c.1 → c.2 = x) ∧ ∃ c ∈ whyCl, n ∈ c.1)
    (TB : LamX.TabB X.base X.mg c P) (hcode : X.env.code = .ref c) (hmT : (P, X.env.qual ++ "<lambda>") ∈ T) (hu : ∀ p ∈ T, p.1 = P → p.2 = X.env.qual ++ "<lambda>") (hr : Room (k + 2) X.A) (L : LamX.LamS X.env.scope scope) (hdef : defaultsOf params X.env = ([], []))
    (hbind : ∀ (q : Str) (cl : List (Str × Addr)) (pm cv ctv : Value), bindArgs (PySem.W.kla_fn "<lambda>" q params body scope cl pm cv ctv) ⟨[], []⟩ = pure [])
    (hbody : ∀ (A : Around) (outer : List Env) (s : Shared) (H : Hp) (E : XK) (f c' : Addr), Room k (A.deeper (LamX.lamEnv X scope s.heap.objs.size f c')) → PL.DE (LamX.lamCx X A outer s H E scope f c') [] E body g) (hg : Gl X "_law_why" := by rfl) :
    PL.DE X T E (.Call (.Name "_law_why" p) [.Lambda params body scope lpos] [] pos) (PL.gWhy R g) :=
  ⟨_, pe_why (t := fun EE => PL.tOf X.K [] EE g) D gE hR TB hcode hmT hu hr L hdef hbind (fun A outer s H E f c' h => (hbody A outer s H E f c' h).pe) hg, PL.lift_why hT fun EE => PL.lift_tOf⟩
theorem do_mk {X : Cx} {T : List (Addr × Str)} {E : XK} {e : Expr} {t : TE} {g : PL.M PL.D} (h1 : PE X e t) (h2 : PL.LiftO X.K T E t g) : PL.DO X T E e g := ⟨t, h1, h2⟩
section
open PL
def why1 : List (Str × Option Str) := [("InvalidLetters", some "at"), ("InvalidGuard", some "at"), ("UnknownLetter", some "at")]
def g_law_feed_body : G := (gSeq (gSet 1 (gList (PL.gCons (gSlC (gVar 0) gNoB (gBnd (gC (.int 63)))) PL.gNil))) (gSeq (gSet 2 (gOp gAdd (gC (.int 3826)) (gOp gMulX (gC (.int 11)) (gFn gLen (PL.gCons (gVar 1) PL.gNil))))) (gSeq (gFor (gBind (gVar 1) gIter) ((gN 3)) (gSet 2 (gOp gMod (gFn gInt (PL.gCons (gOp gAdd (gOp gAdd (gOp gMulX (gVar 2) (gC (.int 16807))) (gOp gMod (gFn gInt (PL.gCons (gVar 3) PL.gNil)) (gC (.int 1000003)))) (gC (.int 7))) PL.gNil)) (gC (.int 2147483629))))) (gRetO (gLst (PL.gCons (gVar 1) (PL.gCons (gC (.int 0)) (PL.gCons (gC (.int 0)) (PL.gCons (gVar 2) PL.gNil)))))))))
def f_law_feed : Fn := runO n_law_feed g_law_feed_body
theorem ok_law_feed {P : Program} {w : World} {K : PySem.W.Frag} {mg : Str → Option Value} {base : Heap} (D : Dn K mg "_law_feed" s_law_feed []) (m_int : mg "int" = none) (m_len : mg "len" = none) (m_list : mg "list" = none) :
    FOkX (L2.CX P w) P w K mg base 1 "_law_feed" ["_law_script"] (spO K 1 f_law_feed) :=
  okO D sc_law_feed (fun _ _ _ _ _ _ us hl => match us, hl with | [_], _ => rfl) (by decide) fun cdv A outer s H E hr => (s_cons 
    (s_set (i := 1) sc_law_feed.nd rfl (Or.inl rfl) (DO.d (d_list m_list (d_cons (d_sliceC (d_var 0) b_none (b_some d_int)) d_nil)))) (s_cons 
    (s_set (i := 2) sc_law_feed.nd rfl (Or.inl rfl) (d_op op_addG addG d_int (d_op op_mulX mulX d_int (d_callB call_len lenG m_len (d_cons (d_var 1) d_nil))))) (s_cons 
    (s_for (passes_of rfl) rfl (i_val (d_var 1)) (g_name (i := 3) sc_law_feed.nd rfl (Or.inl rfl)) (s_one 
      (s_set (i := 2) sc_law_feed.nd rfl (Or.inl rfl) (d_op op_modN modG (d_callTy call_int1 intG m_int (d_cons (d_op op_addG addG (d_op op_addG addG (d_op op_mulX mulX (d_var 2) d_int) (d_op op_modN modG (d_callTy call_int1 intG m_int (d_cons (d_var 3) d_nil)) d_int)) d_int) d_nil)) d_int)))) (s_one 
    (s_retO (d_lst (d_cons (d_var 1) (d_cons d_int (d_cons d_int (d_cons (d_var 2) d_nil))))))))))
def g_law_take_body : G := (gSeq (gIfS (gAndT (gB (gOp gEq (gOpV gIx 0 (gC (.int 2))) (gC (.int 0)))) (gB (gOp gLt (gOpV gIx 0 (gC (.int 1))) (gFn gLen (PL.gCons (gOpV gIx 0 (gC (.int 0))) PL.gNil))))) (gSeq (gSet 2 (gOp gIx (gOpV gIx 0 (gC (.int 0))) (gOpV gIx 0 (gC (.int 1))))) (gSeq (gAsg (gOp gAdd (gOpV gIx 0 (gC (.int 1))) (gC (.int 1))) ((gSetIx 0 (gC (.int 1))))) (gIfS (gB (gOp gGe (gVar 2) (gOp gPow (gC (.int 10)) (gC (.int 18))))) (gAsg (gVar 2) ((gSetIx 0 (gC (.int 2))))) (gSeq (gSet 3 (gOp gAdd (gOp gMulX (gOpV gIx 0 (gC (.int 3))) (gC (.int 48271))) (gOp gMod (gFn gInt (PL.gCons (gVar 2) PL.gNil)) (gC (.int 2147483563))))) (gAsg (gOp gMod (gFn gInt (PL.gCons (gOp gAdd (gVar 3) (gOp gMulX (gOpV gIx 0 (gC (.int 1))) (gC (.int 907)))) PL.gNil)) (gC (.int 2147483647))) ((gSetIx 0 (gC (.int 3))))))))) gNext) (gSeq (gIfS (gB (gOp gGt (gOpV gIx 0 (gC (.int 2))) (gC (.int 0)))) (gSeq (gSet 4 (gOp gMod (gFn gInt (PL.gCons (gOpV gIx 0 (gC (.int 2))) PL.gNil)) (gVar 1))) (gSeq (gAsg (gOp gFdiv (gOpV gIx 0 (gC (.int 2))) (gVar 1)) ((gSetIx 0 (gC (.int 2))))) (gRet (gVar 4)))) gNext) (gSeq (gAsg (gOp gMod (gFn gInt (PL.gCons (gOp gAdd (gOp gMulX (gOpV gIx 0 (gC (.int 3))) (gC (.int 69621))) (gC (.int 17))) PL.gNil)) (gC (.int 2147483647))) ((gSetIx 0 (gC (.int 3))))) (gRet (gOp gMod (gFn gInt (PL.gCons (gOp gFdiv (gOp gMod (gFn gInt (PL.gCons (gOp gMulX (gOpV gIx 0 (gC (.int 3))) (gOpV gIx 0 (gC (.int 3)))) PL.gNil)) (gC (.int 998244353))) (gC (.int 19))) PL.gNil)) (gVar 1))))))
def f_law_take : FnB := runB n_law_take g_law_take_body
theorem ok_law_take {P : Program} {w : World} {K : PySem.W.Frag} {mg : Str → Option Value} {base : Heap} (D : Dn K mg "_law_take" s_law_take []) (m_int : mg "int" = none) (m_len : mg "len" = none) :
    FOkX (L2.CX P w) P w K mg base 1 "_law_take" ["_law_feed_here", "_law_many"] (spB K 1 f_law_take) :=
  okB D sc_law_take (fun _ _ _ _ _ _ us hl => match us, hl with | [_, _], _ => rfl) rfl fun cdv A outer s H E hr => (s_cons 
    (s_if (DW.t (w_and (t_cmp (op_eqD hr.units) eqG (d_ixV (u1 hr) (i := 0) d_int) d_int) (w_and1 (t_cmp op_lt ltG (d_ixV (u1 hr) (i := 0) d_int) (d_callB call_len lenG m_len (d_cons (d_ixV (u1 hr) (i := 0) d_int) d_nil)))))) (s_cons 
      (s_set (i := 2) sc_law_take.nd rfl (Or.inl rfl) (d_ix (u1 hr) (d_ixV (u1 hr) (i := 0) d_int) (d_ixV (u1 hr) (i := 0) d_int))) (s_cons 
      (s_asg (d_op op_addG addG (d_ixV (u1 hr) (i := 0) d_int) d_int) (g_setIx (u1 hr) (i := 0) d_int)) (s_one 
      (s_if (t_cmp op_ge geG (d_var 2) (d_op op_pow powG d_int d_int)) (s_one 
        (s_asg (d_var 2) (g_setIx (u1 hr) (i := 0) d_int))) (s_cons 
        (s_set (i := 3) sc_law_take.nd rfl (Or.inl rfl) (d_op op_addG addG (d_op op_mulX mulX (d_ixV (u1 hr) (i := 0) d_int) d_int) (d_op op_modN modG (d_callTy call_int1 intG m_int (d_cons (d_var 2) d_nil)) d_int))) (s_one 
        (s_asg (d_op op_modN modG (d_callTy call_int1 intG m_int (d_cons (d_op op_addG addG (d_var 3) (d_op op_mulX mulX (d_ixV (u1 hr) (i := 0) d_int) d_int)) d_nil)) d_int) (g_setIx (u1 hr) (i := 0) d_int)))))))) s_nil) (s_cons 
    (s_if (t_cmp op_gt gtG (d_ixV (u1 hr) (i := 0) d_int) d_int) (s_cons 
      (s_set (i := 4) sc_law_take.nd rfl (Or.inl rfl) (d_op op_modN modG (d_callTy call_int1 intG m_int (d_cons (d_ixV (u1 hr) (i := 0) d_int) d_nil)) (d_var 1))) (s_cons 
      (s_asg (d_op op_fdivZ fdivG (d_ixV (u1 hr) (i := 0) d_int) (d_var 1)) (g_setIx (u1 hr) (i := 0) d_int)) (s_one 
      (s_ret (d_var 4))))) s_nil) (s_cons 
    (s_asg (d_op op_modN modG (d_callTy call_int1 intG m_int (d_cons (d_op op_addG addG (d_op op_mulX mulX (d_ixV (u1 hr) (i := 0) d_int) d_int) d_int) d_nil)) d_int) (g_setIx (u1 hr) (i := 0) d_int)) (s_one 
    (s_ret (d_op op_modN modG (d_callTy call_int1 intG m_int (d_cons (d_op op_fdivZ fdivG (d_op op_modN modG (d_callTy call_int1 intG m_int (d_cons (d_op op_mulX mulX (d_ixV (u1 hr) (i := 0) d_int) (d_ixV (u1 hr) (i := 0) d_int)) d_nil)) d_int) d_int) d_nil)) (d_var 1)))))))
def g_law_letters_body : G := (gSeq (gSet 1 (gB1 0 1 f_law_take (PL.gCons (gC (.int 26)) PL.gNil))) (gRet (gS1 gJoin (gC (.str "")) (gLc [2] (gBind (PL.gCons (gOp gAdd (gC (.int 1)) (gB1 0 1 f_law_take (PL.gCons (gC (.int 3)) PL.gNil))) PL.gNil) gRange1) (gN 2) gYes (gOp gIx (gC (.str "abcdefghijklmnopqrstuvwxyz")) (gOp gMod (gFn gInt (PL.gCons (gOp gAdd (gVar 1) (gOp gMulX (gC (.int 5)) (gVar 2))) PL.gNil)) (gC (.int 26))))))))
def f_law_letters : FnB := runB n_law_letters g_law_letters_body
theorem ok_law_letters {P : Program} {w : World} {K : PySem.W.Frag} {mg : Str → Option Value} {base : Heap} (D : Dn K mg "_law_letters" s_law_letters []) (h_law_take : FOkX (L2.CX P w) P w K mg base 1 "_law_take" ["_law_feed_here", "_law_many"] (spB K 1 f_law_take)) (m_range : mg "range" = none) (m_int : mg "int" = none) :
    FOkX (L2.CX P w) P w K mg base 2 "_law_letters" ["_law_feed_here"] (spB K 0 f_law_letters) :=
  okB D sc_law_letters (fun _ _ _ _ _ _ us hl => match us, hl with | [_], _ => rfl) rfl fun cdv A outer s H E hr => (s_cons 
    (s_set (i := 1) sc_law_letters.nd rfl (Or.inr rfl) (d_callB1 (i := 0) h_law_take (passes_call (takes_of rfl rfl rfl rfl) fun _ _ _ _ h => h) (hr.mono (by first | decide | omega)) (d_cons d_int d_nil))) (s_one 
    (s_ret (d_join d_str (DO.d (d_lc (own := [("_law_k", 2)]) (g := (L2.gName 2)) rfl sc_law_letters.nd (i_range1 m_range (d_cons (d_op op_addG addG d_int (d_callB1 (i := 0) h_law_take (passes_call (takes_of rfl rfl rfl rfl) fun _ _ _ _ h => h) (hr.mono (by first | decide | omega)) (d_cons d_int d_nil))) d_nil)) (blkOk_by (own := [("_law_k", 2)]) (N := n_law_letters) (sc := defScope s_law_letters) (by decide +kernel)) (fun _ _ _ _ _ => (c_name (i := 2) sc_law_letters.nd rfl (Or.inl rfl))) (fun _ _ _ _ _ => ts_nil) (fun _ _ _ _ _ => (d_ix (u1 hr) d_str (d_op op_modN modG (d_callTy call_int1 intG m_int (d_cons (d_op op_addG addG (d_var 1) (d_op op_mulX mulX d_int (d_var 2))) d_nil)) d_int))) (s0 := s) (H0 := H)))))))
def g_law_rooms_body : G := (gSeq (gAsg (gTup (PL.gCons (gB1 0 0 f_law_letters PL.gNil) (PL.gCons (gOp gAdd (gC (.int 1)) (gB1 0 1 f_law_take (PL.gCons (gC (.int 4)) PL.gNil))) PL.gNil))) ((gTs fun ds => if ds.length = 2 then (gsCons (gN 1) (gsCons (gN 2) gsNil)) ds else fun _ => .fault))) (gSeq (gSetO 3 (gLc [5] (gBind (PL.gCons (gVar 2) PL.gNil) gRange1) (gN 5) gYes (gLc [4] (gBind (gVar 1) gIter) (gN 4) gYes (gB1 0 1 f_law_take (PL.gCons (gVar 2) PL.gNil))))) (gRet (gTup (PL.gCons (gVar 1) (PL.gCons (gVar 3) (PL.gCons (gLc [5] (gBind (PL.gCons (gVar 2) PL.gNil) gRange1) (gN 5) gYes (gOp gEq (gB1 0 1 f_law_take (PL.gCons (gC (.int 2)) PL.gNil)) (gC (.int 0)))) PL.gNil)))))))
def f_law_rooms : FnB := runB n_law_rooms g_law_rooms_body
theorem ok_law_rooms {P : Program} {w : World} {K : PySem.W.Frag} {mg : Str → Option Value} {base : Heap} (D : Dn K mg "_law_rooms" s_law_rooms []) (m_range : mg "range" = none) (h_law_take : FOkX (L2.CX P w) P w K mg base 1 "_law_take" ["_law_feed_here", "_law_many"] (spB K 1 f_law_take)) (h_law_letters : FOkX (L2.CX P w) P w K mg base 2 "_law_letters" ["_law_feed_here"] (spB K 0 f_law_letters)) :
    FOkX (L2.CX P w) P w K mg base 3 "_law_rooms" ["_law_feed_here"] (spB K 0 f_law_rooms) :=
  okB D sc_law_rooms (fun _ _ _ _ _ _ us hl => match us, hl with | [_], _ => rfl) rfl fun cdv A outer s H E hr => (s_cons 
    (s_asg (d_tup (d_cons (d_callB1 (i := 0) h_law_letters (passes_call (takes_of rfl rfl rfl rfl) fun _ _ _ _ h => h) (hr.mono (by first | decide | omega)) d_nil) (d_cons (d_op op_addG addG d_int (d_callB1 (i := 0) h_law_take (passes_call (takes_of rfl rfl rfl rfl) fun _ _ _ _ h => h) (hr.mono (by first | decide | omega)) (d_cons d_int d_nil))) d_nil))) (g_tup rfl (g_cons (g_name (i := 1) sc_law_rooms.nd rfl (Or.inr rfl)) (g_cons (g_name (i := 2) sc_law_rooms.nd rfl (Or.inr rfl)) g_nil)))) (s_cons 
    (s_setLc (own := [("_law_k", 5)]) (g := (L2.gName 5)) rfl sc_law_rooms.nd (i := 3) rfl rfl (sw_true rfl rfl (by rfl) (by decide +kernel)) (i_range1 m_range (d_cons (d_var 2) d_nil)) (blkOk_by (own := [("_law_k", 5)]) (N := n_law_rooms) (sc := defScope s_law_rooms) (by decide +kernel)) (fun _ _ _ _ _ => (c_name (i := 5) sc_law_rooms.nd rfl (Or.inl rfl))) (fun _ _ _ _ _ => ts_nil) (fun _ _ _ _ _ => (DO.d (d_lc (own := [("_law_letter", 4)]) (g := (L2.gName 4)) rfl sc_law_rooms.nd (i_val (d_var 1)) (blkOk_by (own := [("_law_letter", 4)]) (N := n_law_rooms) (sc := L2.relS (compAt (defBody s_law_rooms) [1] []) (defScope s_law_rooms)) (by decide +kernel)) (fun _ _ _ _ _ => (c_name (i := 4) sc_law_rooms.nd rfl (Or.inl rfl))) (fun _ _ _ _ _ => ts_nil) (fun _ _ _ _ _ => (d_callB1 (i := 0) h_law_take passL (hr.mono (by first | decide | omega)) (d_cons (d_var 2) d_nil))) (s0 := s) (H0 := H)))) (s0 := s) (H0 := H)) (s_one 
    (s_ret (d_tup (d_cons (d_var 1) (d_cons (d_var 3) (d_cons (DO.d (d_lc (own := [("_law_k", 5)]) (g := (L2.gName 5)) rfl sc_law_rooms.nd (i_range1 m_range (d_cons (d_var 2) d_nil)) (blkOk_by (own := [("_law_k", 5)]) (N := n_law_rooms) (sc := defScope s_law_rooms) (by decide +kernel)) (fun _ _ _ _ _ => (c_name (i := 5) sc_law_rooms.nd rfl (Or.inl rfl))) (fun _ _ _ _ _ => ts_nil) (fun _ _ _ _ _ => (d_cmp (op_eqD hr.units) eqG (d_callB1 (i := 0) h_law_take passL (hr.mono (by first | decide | omega)) (d_cons d_int d_nil)) d_int)) (s0 := s) (H0 := H))) d_nil))))))))
def g_check_letters_body : G := (gSeq (gFor (gBind (PL.gCons (gVar 0) PL.gNil) gEnum) ((gTs fun ds => if ds.length = 2 then (gsCons (gN 2) (gsCons (gN 3) gsNil)) ds else fun _ => .fault)) (gIfS (gOrT (gB (gOp gGe (gVar 2) (gVar 1))) (gOrT (gB (gOp (gInL true) (gVar 3) (gC (.str "abcdefghijklmnopqrstuvwxyz")))) (gB (gOp (gInL false) (gVar 3) (gSl (gVar 0) gNoB (gBnd (gVar 2))))))) (gThen (gVar 2) fun d ρ => .exc ⟨"InvalidLetters", some "at", d⟩ ρ) gNext)) (gIfS (gB (gOp gEq (gVar 0) (gC (.str "")))) (gThen (gC (.int 0)) fun d ρ => .exc ⟨"InvalidLetters", some "at", d⟩ ρ) gNext))
def f_check_letters : Fn := runF n_check_letters g_check_letters_body
theorem ok_check_letters {P : Program} {w : World} {K : PySem.W.Frag} {mg : Str → Option Value} {base : Heap} (D : Dn K mg "check_letters" s_check_letters []) (e_InvalidLetters : ErrC K "InvalidLetters" (some "at") "/claim/cut.py") (g_InvalidLetters : mg "InvalidLetters" = some (.ref (He.ga K "InvalidLetters"))) (x_InvalidLetters : ∃ fd, FnOk P w K mg base CX0 1 (ma K (He.ga K "InvalidLetters") "__init__") fd ["self", "at"] (spInit1 (He.ga K "InvalidLetters") "at" "InvalidLetters") ∧ Binds K fd ["self", "at"] []) (m_enumerate : mg "enumerate" = none) (g_SMALL : ∃ u, mg "SMALL" = some u ∧ RelV (.str "abcdefghijklmnopqrstuvwxyz") u) :
    FOkX (L2.CX P w) P w K mg base 3 "check_letters" ["letters", "most"] (spG K 2 f_check_letters) :=
  okG D sc_check_letters (fun _ _ _ _ _ _ us hl => match us, hl with | [_, _], _ => rfl) (by decide) fun cdv A outer s H E hr => (s_cons 
    (s_for (passes_of rfl) rfl (i_enum m_enumerate (d_cons (d_var 0) d_nil)) (g_tup rfl (g_cons (g_name (i := 2) sc_check_letters.nd rfl (Or.inl rfl)) (g_cons (g_name (i := 3) sc_check_letters.nd rfl (Or.inl rfl)) g_nil))) (s_one 
      (s_if (DW.t (w_or (t_cmp op_ge geG (d_var 2) (d_var 1)) (w_or (t_cmp (op_notInG (u65 hr)) notInG (d_var 3) (d_gl g_SMALL (fun _ => .str _))) (w_or1 (t_cmp (op_inG (u65 hr)) inG (d_var 3) (d_slice (d_var 0) b_none (b_some (d_var 2)))))))) (s_one 
        (s_raise1 rfl (takes_of rfl rfl rfl rfl) e_InvalidLetters x_InvalidLetters (hr.mono (by first | decide | omega)) rfl g_InvalidLetters (d_var 2))) s_nil))) (s_one 
    (s_if (t_cmp (op_eqD hr.units) eqG (d_var 0) d_str) (s_one 
      (s_raise1 rfl (takes_of rfl rfl rfl rfl) e_InvalidLetters x_InvalidLetters (hr.mono (by first | decide | omega)) rfl g_InvalidLetters d_int)) s_nil)))
def g_Guard_init_body : G := (gSeq (gDrop (gCall 2 f_check_letters (PL.gCons (gVar 1) (PL.gCons (gC (.int 3)) PL.gNil)))) (gSeq (gFor (gBind (PL.gCons (gVar 2) PL.gNil) gEnum) ((gTs fun ds => if ds.length = 2 then (gsCons (gN 4) (gsCons (gN 5) gsNil)) ds else fun _ => .fault)) (gSeq (gSet 6 (gAndV (gOp gEq (gFn gLen (PL.gCons (gVar 5) PL.gNil)) (gFn gLen (PL.gCons (gVar 1) PL.gNil))) (gFn gAll (PL.gCons (gLc [7] (gBind (gVar 5) gIter) (gN 7) gYes (gChain gLe gLt (gC (.int 0)) (gVar 7) (gFn gLen (PL.gCons (gVar 2) PL.gNil)))) PL.gNil)))) (gIfS (gOrT (gB (gOp gGe (gVar 4) (gC (.int 4)))) (gOrT (gNotT (gB (gVar 6))) (gB (gOp gGe (gVar 4) (gFn gLen (PL.gCons (gVar 3) PL.gNil)))))) (gThen (gVar 4) fun d ρ => .exc ⟨"InvalidGuard", some "at", d⟩ ρ) gNext))) (gSeq (gIfS (gOrT (gB (gOp gEq (gFn gLen (PL.gCons (gVar 2) PL.gNil)) (gC (.int 0)))) (gB (gOp gGt (gFn gLen (PL.gCons (gVar 3) PL.gNil)) (gFn gLen (PL.gCons (gVar 2) PL.gNil))))) (gThen (gFn gLen (PL.gCons (gVar 2) PL.gNil)) fun d ρ => .exc ⟨"InvalidGuard", some "at", d⟩ ρ) gNext) (gSeq (gSetF "Guard" "signs" 0 (gVar 1)) (gSeq (gSetF "Guard" "rows" 0 (gLc [5] (gBind (gVar 2) gIter) (gN 5) gYes (gList (PL.gCons (gVar 5) PL.gNil)))) (gSetF "Guard" "ends" 0 (gList (PL.gCons (gVar 3) PL.gNil))))))))
def f_Guard_init : FnB := runB n_Guard_init g_Guard_init_body
theorem ok_Guard_init {P : Program} {w : World} {K : PySem.W.Frag} {mg : Str → Option Value} {base : Heap} (D : Dm K (fAd K ("Guard", some "__init__")) "__init__" "Guard.__init__" s_Guard_init []) (C_Guard : Cls K (He.ga K "Guard")) (nf_Guard_ends : NoAttr K (He.ga K "Guard") "ends") (m_list : mg "list" = none) (nf_Guard_rows : NoAttr K (He.ga K "Guard") "rows") (nf_Guard_signs : NoAttr K (He.ga K "Guard") "signs") (m_len : mg "len" = none) (e_InvalidGuard : ErrC K "InvalidGuard" (some "at") "/claim/cut.py") (g_InvalidGuard : mg "InvalidGuard" = some (.ref (He.ga K "InvalidGuard"))) (x_InvalidGuard : ∃ fd, FnOk P w K mg base CX0 1 (ma K (He.ga K "InvalidGuard") "__init__") fd ["self", "at"] (spInit1 (He.ga K "InvalidGuard") "at" "InvalidGuard") ∧ Binds K fd ["self", "at"] []) (m_enumerate : mg "enumerate" = none) (g_MOST_ROOMS : ∃ u, mg "MOST_ROOMS" = some u ∧ RelV (.int 4) u) (m_all : mg "all" = none) (h_check_letters : FOkX (L2.CX P w) P w K mg base 3 "check_letters" ["letters", "most"] (spG K 2 f_check_letters)) (g_MOST_LETTERS : ∃ u, mg "MOST_LETTERS" = some u ∧ RelV (.int 3) u) :
    MOk (L2.CX P w) P w K mg base 4 (fAd K ("Guard", some "__init__")) ["self", "letters", "rows", "good"] (spB K 3 f_Guard_init) :=
  okBm D sc_Guard_init (fun _ _ _ _ _ _ us hl => match us, hl with | [_, _, _, _], _ => rfl) rfl fun cdv A outer s H E hr => (s_cons 
    (s_expr (d_call h_check_letters (passes_call (takes_of rfl rfl rfl rfl) fun _ _ _ _ h => h) (hr.mono (by first | decide | omega)) (d_cons (d_var 1) (d_cons (d_gl g_MOST_LETTERS (fun _ => .int _)) d_nil)))) (s_cons 
    (s_for (passes_of rfl) rfl (i_enum m_enumerate (d_cons (d_var 2) d_nil)) (g_tup rfl (g_cons (g_name (i := 4) sc_Guard_init.nd rfl (Or.inl rfl)) (g_cons (g_name (i := 5) sc_Guard_init.nd rfl (Or.inl rfl)) g_nil))) (s_cons 
      (s_set (i := 6) sc_Guard_init.nd rfl (Or.inl rfl) (d_and (d_cmp (op_eqD hr.units) eqG (d_callB call_len lenG m_len (d_cons (d_var 5) d_nil)) (d_callB call_len lenG m_len (d_cons (d_var 1) d_nil))) (d_one (d_callB (cr_all rfl) allG m_all (d_cons (DO.d (d_lc (own := [("later", 7)]) (g := (L2.gName 7)) rfl sc_Guard_init.nd (i_val (d_var 5)) (blkOk_by (own := [("later", 7)]) (N := n_Guard_init) (sc := defScope s_Guard_init) (by decide +kernel)) (fun _ _ _ _ _ => (c_name (i := 7) sc_Guard_init.nd rfl (Or.inl rfl))) (fun _ _ _ _ _ => ts_nil) (fun _ _ _ _ _ => (d_chain op_le leG op_lt ltG d_int (d_var 7) (d_callB call_len lenG m_len (d_cons (d_var 2) d_nil)))) (s0 := s) (H0 := H))) d_nil))))) (s_one 
      (s_if (DW.t (w_or (t_cmp op_ge geG (d_var 4) (d_gl g_MOST_ROOMS (fun _ => .int _))) (w_or (t_not (t_val (d_var 6))) (w_or1 (t_cmp op_ge geG (d_var 4) (d_callB call_len lenG m_len (d_cons (d_var 3) d_nil))))))) (s_one 
        (s_raise1 rfl (takes_of rfl rfl rfl rfl) e_InvalidGuard x_InvalidGuard (hr.mono (by first | decide | omega)) rfl g_InvalidGuard (d_var 4))) s_nil)))) (s_cons 
    (s_if (DW.t (w_or (t_cmp (op_eqD hr.units) eqG (d_callB call_len lenG m_len (d_cons (d_var 2) d_nil)) d_int) (w_or1 (t_cmp op_gt gtG (d_callB call_len lenG m_len (d_cons (d_var 3) d_nil)) (d_callB call_len lenG m_len (d_cons (d_var 2) d_nil)))))) (s_one 
      (s_raise1 rfl (takes_of rfl rfl rfl rfl) e_InvalidGuard x_InvalidGuard (hr.mono (by first | decide | omega)) rfl g_InvalidGuard (d_callB call_len lenG m_len (d_cons (d_var 2) d_nil)))) s_nil) (s_cons 
    (s_setF (cn := "Guard") (i := 0) C_Guard nf_Guard_signs (d_var 1)) (s_cons 
    (s_setF (cn := "Guard") (i := 0) C_Guard nf_Guard_rows (DO.d (d_lc (own := [("row", 5)]) (g := (L2.gName 5)) rfl sc_Guard_init.nd (i_val (d_var 2)) (blkOk_by (own := [("row", 5)]) (N := n_Guard_init) (sc := defScope s_Guard_init) (by decide +kernel)) (fun _ _ _ _ _ => (c_name (i := 5) sc_Guard_init.nd rfl (Or.inl rfl))) (fun _ _ _ _ _ => ts_nil) (fun _ _ _ _ _ => (DO.d (d_list m_list (d_cons (d_var 5) d_nil)))) (s0 := s) (H0 := H)))) (s_one 
    (s_setF (cn := "Guard") (i := 0) C_Guard nf_Guard_ends (DO.d (d_list m_list (d_cons (d_var 3) d_nil))))))))))
def g_law_pick_body : G := (gRet (gOpV gIx 1 (gB1 0 1 f_law_take (PL.gCons (gFn gLen (PL.gCons (gVar 1) PL.gNil)) PL.gNil))))
def f_law_pick : FnB := runB n_law_pick g_law_pick_body
theorem ok_law_pick {P : Program} {w : World} {K : PySem.W.Frag} {mg : Str → Option Value} {base : Heap} (D : Dn K mg "_law_pick" s_law_pick []) (h_law_take : FOkX (L2.CX P w) P w K mg base 1 "_law_take" ["_law_feed_here", "_law_many"] (spB K 1 f_law_take)) (m_len : mg "len" = none) :
    FOkX (L2.CX P w) P w K mg base 2 "_law_pick" ["_law_feed_here", "_law_things"] (spB K 1 f_law_pick) :=
  okB D sc_law_pick (fun _ _ _ _ _ _ us hl => match us, hl with | [_, _], _ => rfl) rfl fun cdv A outer s H E hr => (s_one 
    (s_ret (d_ixV (u1 hr) (i := 1) (d_callB1 (i := 0) h_law_take (passes_call (takes_of rfl rfl rfl rfl) fun _ _ _ _ h => h) (hr.mono (by first | decide | omega)) (d_cons (d_callB call_len lenG m_len (d_cons (d_var 1) d_nil)) d_nil)))))
def g_law_word_body : G := (gRet (gS1 gJoin (gC (.str "")) (gLc [3] (gBind (PL.gCons (gB1 0 1 f_law_take (PL.gCons (gOp gAdd (gVar 2) (gC (.int 1))) PL.gNil)) PL.gNil) gRange1) (gN 3) gYes (gB1 0 1 f_law_pick (PL.gCons (gVar 1) PL.gNil)))))
def f_law_word : FnB := runB n_law_word g_law_word_body
theorem ok_law_word {P : Program} {w : World} {K : PySem.W.Frag} {mg : Str → Option Value} {base : Heap} (D : Dn K mg "_law_word" s_law_word []) (h_law_take : FOkX (L2.CX P w) P w K mg base 1 "_law_take" ["_law_feed_here", "_law_many"] (spB K 1 f_law_take)) (m_range : mg "range" = none) (h_law_pick : FOkX (L2.CX P w) P w K mg base 2 "_law_pick" ["_law_feed_here", "_law_things"] (spB K 1 f_law_pick)) :
    FOkX (L2.CX P w) P w K mg base 3 "_law_word" ["_law_feed_here", "_law_letters_here", "_law_most"] (spB K 2 f_law_word) :=
  okB D sc_law_word (fun _ _ _ _ _ _ us hl => match us, hl with | [_, _, _], _ => rfl) rfl fun cdv A outer s H E hr => (s_one 
    (s_ret (d_join d_str (DO.d (d_lc (own := [("_law_k", 3)]) (g := (L2.gName 3)) rfl sc_law_word.nd (i_range1 m_range (d_cons (d_callB1 (i := 0) h_law_take (passes_call (takes_of rfl rfl rfl rfl) fun _ _ _ _ h => h) (hr.mono (by first | decide | omega)) (d_cons (d_op op_addG addG (d_var 2) d_int) d_nil)) d_nil)) (blkOk_by (own := [("_law_k", 3)]) (N := n_law_word) (sc := defScope s_law_word) (by decide +kernel)) (fun _ _ _ _ _ => (c_name (i := 3) sc_law_word.nd rfl (Or.inl rfl))) (fun _ _ _ _ _ => ts_nil) (fun _ _ _ _ _ => (d_callB1 (i := 0) h_law_pick passL (hr.mono (by first | decide | omega)) (d_cons (d_var 1) d_nil))) (s0 := s) (H0 := H))))))
def g_Guard_later_body : G := (gRet (gOp gIx (gOp gIx (gFldV "Guard" "rows" 0) (gVar 1)) (gS1 gIndex (gFldV "Guard" "signs" 0) (gVar 2))))
def f_Guard_later : Fn := runF n_Guard_later g_Guard_later_body
theorem ok_Guard_later {P : Program} {w : World} {K : PySem.W.Frag} {mg : Str → Option Value} {base : Heap} (D : Dm K (fAd K ("Guard", some "later")) "later" "Guard.later" s_Guard_later []) (C_Guard : Cls K (He.ga K "Guard")) (nf_Guard_signs : NoAttr K (He.ga K "Guard") "signs") (nf_Guard_rows : NoAttr K (He.ga K "Guard") "rows") :
    MOk (L2.CX P w) P w K mg base 1 (fAd K ("Guard", some "later")) ["self", "room", "letter"] (spG K 3 f_Guard_later) :=
  okGm D sc_Guard_later (fun _ _ _ _ _ _ us hl => match us, hl with | [_, _, _], _ => rfl) (by decide) fun cdv A outer s H E hr => (s_one 
    (s_ret (d_ix (u1 hr) (d_ix (u1 hr) (d_fldV (cn := "Guard") (i := 0) C_Guard nf_Guard_rows) (d_var 1)) (d_index (d_fldV (cn := "Guard") (i := 0) C_Guard nf_Guard_signs) (d_var 2)))))
def g_Guard_accepts_body : G := (gSeq (gSet 2 (gC (.int 0))) (gSeq (gFor (gBind (PL.gCons (gVar 1) PL.gNil) gEnum) ((gTs fun ds => if ds.length = 2 then (gsCons (gN 3) (gsCons (gN 4) gsNil)) ds else fun _ => .fault)) (gSeq (gIfS (gB (gOp (gInL true) (gVar 4) (gFldV "Guard" "signs" 0))) (gThen (gVar 3) fun d ρ => .exc ⟨"UnknownLetter", some "at", d⟩ ρ) gNext) (gSet 2 (gMeth "Guard" "later" 3 f_Guard_later (gVar 0) (PL.gCons (gVar 2) (PL.gCons (gVar 4) PL.gNil)))))) (gRet (gOp gIx (gFldV "Guard" "ends" 0) (gVar 2)))))
def f_Guard_accepts : Fn := runF n_Guard_accepts g_Guard_accepts_body
theorem ok_Guard_accepts {P : Program} {w : World} {K : PySem.W.Frag} {mg : Str → Option Value} {base : Heap} (D : Dm K (fAd K ("Guard", some "accepts")) "accepts" "Guard.accepts" s_Guard_accepts []) (C_Guard : Cls K (He.ga K "Guard")) (nf_Guard_ends : NoAttr K (He.ga K "Guard") "ends") (m_enumerate : mg "enumerate" = none) (h_Guard_later : MOk (L2.CX P w) P w K mg base 1 (fAd K ("Guard", some "later")) ["self", "room", "letter"] (spG K 3 f_Guard_later)) (M_Guard_later : Meth K (He.ga K "Guard") "later" (fAd K ("Guard", some "later"))) (nf_Guard_signs : NoAttr K (He.ga K "Guard") "signs") (e_UnknownLetter : ErrC K "UnknownLetter" (some "at") "/claim/cut.py") (g_UnknownLetter : mg "UnknownLetter" = some (.ref (He.ga K "UnknownLetter"))) (x_UnknownLetter : ∃ fd, FnOk P w K mg base CX0 1 (ma K (He.ga K "UnknownLetter") "__init__") fd ["self", "at"] (spInit1 (He.ga K "UnknownLetter") "at" "UnknownLetter") ∧ Binds K fd ["self", "at"] []) :
    MOk (L2.CX P w) P w K mg base 3 (fAd K ("Guard", some "accepts")) ["self", "word"] (spG K 2 f_Guard_accepts) :=
  okGm D sc_Guard_accepts (fun _ _ _ _ _ _ us hl => match us, hl with | [_, _], _ => rfl) (by decide) fun cdv A outer s H E hr => (s_cons 
    (s_set (i := 2) sc_Guard_accepts.nd rfl (Or.inl rfl) d_int) (s_cons 
    (s_for (passes_of rfl) rfl (i_enum m_enumerate (d_cons (d_var 1) d_nil)) (g_tup rfl (g_cons (g_name (i := 3) sc_Guard_accepts.nd rfl (Or.inl rfl)) (g_cons (g_name (i := 4) sc_Guard_accepts.nd rfl (Or.inl rfl)) g_nil))) (s_cons 
      (s_if (t_cmp (op_notInG (u65 hr)) notInG (d_var 4) (d_fldV (cn := "Guard") (i := 0) C_Guard nf_Guard_signs)) (s_one 
        (s_raise1 rfl (takes_of rfl rfl rfl rfl) e_UnknownLetter x_UnknownLetter (hr.mono (by first | decide | omega)) rfl g_UnknownLetter (d_var 3))) s_nil) (s_one 
      (s_set (i := 2) sc_Guard_accepts.nd rfl (Or.inl rfl) (d_meth (d_var 0) C_Guard M_Guard_later h_Guard_later (passes_call (takes_of rfl rfl rfl rfl) fun _ _ _ _ h => h) (hr.mono (by first | decide | omega)) (d_cons (d_var 2) (d_cons (d_var 4) d_nil))))))) (s_one 
    (s_ret (d_ix (u1 hr) (d_fldV (cn := "Guard") (i := 0) C_Guard nf_Guard_ends) (d_var 2))))))
def g_Guard_letters_body : G := (gRet (gFldV "Guard" "signs" 0))
def f_Guard_letters : Fn := runF n_Guard_letters g_Guard_letters_body
theorem ok_Guard_letters {P : Program} {w : World} {K : PySem.W.Frag} {mg : Str → Option Value} {base : Heap} (D : Dm K (He5.wf K (ga K "Guard") "property" "letters") "letters" "Guard.letters" s_Guard_letters []) (C_Guard : Cls K (He.ga K "Guard")) (nf_Guard_signs : NoAttr K (He.ga K "Guard") "signs") :
    MOk CX0 P w K mg base 1 (He5.wf K (ga K "Guard") "property" "letters") ["self"] (spG K 1 f_Guard_letters) :=
  okGm0 D sc_Guard_letters (fun _ _ _ _ _ _ us hl => match us, hl with | [_], _ => rfl) (by decide) fun cdv A outer s H E hr => (s_one 
    (s_ret (d_fldV (cn := "Guard") (i := 0) C_Guard nf_Guard_signs)))
def g_Guard_len_body : G := (gRet (gFn gLen (PL.gCons (gFldV "Guard" "rows" 0) PL.gNil)))
def f_Guard_len : Fn := runF n_Guard_len g_Guard_len_body
theorem ok_Guard_len {P : Program} {w : World} {K : PySem.W.Frag} {mg : Str → Option Value} {base : Heap} (D : Dm K (fAd K ("Guard", some "__len__")) "__len__" "Guard.__len__" s_Guard_len []) (C_Guard : Cls K (He.ga K "Guard")) (nf_Guard_rows : NoAttr K (He.ga K "Guard") "rows") (m_len : mg "len" = none) :
    MOk (L2.CX P w) P w K mg base 1 (fAd K ("Guard", some "__len__")) ["self"] (spG K 1 f_Guard_len) :=
  okGm D sc_Guard_len (fun _ _ _ _ _ _ us hl => match us, hl with | [_], _ => rfl) (by decide) fun cdv A outer s H E hr => (s_one 
    (s_ret (d_callB call_len lenG m_len (d_cons (d_fldV (cn := "Guard") (i := 0) C_Guard nf_Guard_rows) d_nil))))
def g_law_room_body : G := (gSeq (gSet 3 (gC (.int 0))) (gSeq (gFor (gBind (gVar 2) gIter) ((gN 4)) (gSet 3 (gOp gIx (gOpV gIx 1 (gVar 3)) (gS1 gIndex (gVar 0) (gVar 4))))) (gRet (gVar 3))))
def f_law_room : Fn := runF n_law_room g_law_room_body
theorem ok_law_room {P : Program} {w : World} {K : PySem.W.Frag} {mg : Str → Option Value} {base : Heap} (D : Dn K mg "_law_room" s_law_room [])  :
    FOkX (L2.CX P w) P w K mg base 1 "_law_room" ["_law_letters_here", "_law_rows", "_law_word_here"] (spG K 3 f_law_room) :=
  okG D sc_law_room (fun _ _ _ _ _ _ us hl => match us, hl with | [_, _, _], _ => rfl) (by decide) fun cdv A outer s H E hr => (s_cons 
    (s_set (i := 3) sc_law_room.nd rfl (Or.inl rfl) d_int) (s_cons 
    (s_for (passes_of rfl) rfl (i_val (d_var 2)) (g_name (i := 4) sc_law_room.nd rfl (Or.inl rfl)) (s_one 
      (s_set (i := 3) sc_law_room.nd rfl (Or.inl rfl) (d_ix (u1 hr) (d_ixV (u1 hr) (i := 1) (d_var 3)) (d_index (d_var 0) (d_var 4)))))) (s_one 
    (s_ret (d_var 3)))))
abbrev lam_law_0 : LamD := lamAt (defBody s_law) [1, 11] [0] none
abbrev lam_law_1 : LamD := lamAt (defBody s_law) [1, 11] [1] (some "_law_x")
abbrev lam_law_2 : LamD := lamAt (defBody s_law) [1, 12] [1, 0] none
abbrev lam_law_3 : LamD := lamAt (defBody s_law) [1, 12] [1, 1] (some "_law_x")
abbrev lam_law_4 : LamD := lamAt (defBody s_law) [1, 13] [1, 0] none
abbrev lam_law_5 : LamD := lamAt (defBody s_law) [1, 13] [1, 1] (some "_law_x")
abbrev spLaw := spLawP
/-- the law's lambdas -/
def lawT (K : PySem.W.Frag) : List (Addr × Str) := [((cT K ("law", none)).2, "law.<locals>.<lambda>")]
def g_fam : List (LamD × PL.M PL.D) := [(lam_law_0, (gMake "Guard" 3 f_Guard_init (PL.gCons (gVar 3) (PL.gCons (gVar 16) (PL.gCons (gVar 5) PL.gNil))))), (lam_law_1, (gMake "Guard" 3 f_Guard_init (PL.gCons (gVar 3) (PL.gCons (gVar 4) (PL.gCons (gSl (gVar 5) gNoB (gBnd (gVar 14))) PL.gNil))))), (lam_law_2, (gMake "Guard" 3 f_Guard_init (PL.gCons (gVar 3) (PL.gCons (gVar 4) (PL.gCons (gOp gAdd (gVar 5) (gLst (PL.gCons (gC (.bl true)) PL.gNil))) PL.gNil))))), (lam_law_3, (gMake "Guard" 3 f_Guard_init (PL.gCons (gVar 3) (PL.gCons (gLst PL.gNil) (PL.gCons (gLst PL.gNil) PL.gNil))))), (lam_law_4, (gMake "Guard" 3 f_Guard_init (PL.gCons (gVar 3) (PL.gCons (gOp gMulX (gVar 4) (gC (.int 5))) (PL.gCons (gOp gMulX (gVar 5) (gC (.int 5))) PL.gNil))))), (lam_law_5, (gMake "Guard" 3 f_Guard_init (PL.gCons (gOp gAdd (gVar 3) (gC (.str "A"))) (PL.gCons (gVar 4) (PL.gCons (gVar 5) PL.gNil)))))]
noncomputable def g_law_body (env : Env) : G := (gSeq (gSetO 1 (gCall 1 f_law_feed (PL.gCons (gVar 0) PL.gNil))) (gSeq (gFor (gBind (PL.gCons (gC (.int 4)) PL.gNil) gRange1) ((gN 2)) (gSeq (gAsg (gB1 1 0 f_law_rooms PL.gNil) ((gTs fun ds => if ds.length = 3 then (gsCons (gN 3) (gsCons (gN 4) (gsCons (gN 5) gsNil))) ds else fun _ => .fault))) (gSeq (gBlk (gSeq (gPar 6 7 (PL.gCons (gFz (gLc [8] (gBind (gVar 4) gIter) (gN 8) gYes (gFz (gList (PL.gCons (gVar 8) PL.gNil))))) (PL.gCons (gFz (gList (PL.gCons (gVar 5) PL.gNil))) PL.gNil))) (gSeq (gSet 9 (gIf (gB (gOp gEq (gB1 1 1 f_law_take (PL.gCons (gC (.int 2)) PL.gNil)) (gC (.int 0)))) (gMake "Guard" 3 f_Guard_init (PL.gCons (gVar 3) (PL.gCons (gVar 6) (PL.gCons (gVar 7) PL.gNil)))) (gMake "Guard" 3 f_Guard_init (PL.gCons (gVar 3) (PL.gCons (gFn gTuple (PL.gCons (gVar 4) PL.gNil)) (PL.gCons (gFn gTuple (PL.gCons (gVar 5) PL.gNil)) PL.gNil)))))) (gIfS (gOrT (gB (gOp gNe (gVar 6) (gVar 4))) (gB (gOp gNe (gVar 7) (gVar 5)))) (gRet (gC (.bl false))) gNext))) [(6, ([] ++ [0]), fun _ => []), (7, [], List.reverse), (7, [], fun _ => [])]) (gSeq (gFor (gBind (PL.gCons (gC (.int 4)) PL.gNil) gRange1) ((gN 10)) (gSeq (gSet 11 (gB1 1 2 f_law_word (PL.gCons (gVar 3) (PL.gCons (gB1 1 1 f_law_pick (PL.gCons (gLst (PL.gCons (gC (.int 3)) (PL.gCons (gC (.int 6)) (PL.gCons (gC (.int 40)) PL.gNil)))) PL.gNil)) PL.gNil)))) (gSeq (gSet 12 (gLst (PL.gCons (gMeth "Guard" "accepts" 2 f_Guard_accepts (gVar 9) (PL.gCons (gVar 11) PL.gNil)) (PL.gCons (gProp "Guard" f_Guard_letters (gVar 9)) (PL.gCons (gBind (PL.gCons (gVar 9) PL.gNil) (gLenO "Guard" f_Guard_len)) PL.gNil))))) (gSeq (gIfS (gNotT (gB (gCall 2 (f_same 4) (PL.gCons (gVar 12) (PL.gCons (gLst (PL.gCons (gOpV gIx 5 (gCall 3 f_law_room (PL.gCons (gVar 3) (PL.gCons (gVar 4) (PL.gCons (gVar 11) PL.gNil))))) (PL.gCons (gVar 3) (PL.gCons (gFn gLen (PL.gCons (gVar 4) PL.gNil)) PL.gNil)))) PL.gNil))))) (gRet (gC (.bl false))) gNext) (gSeq (gSet 13 (gSl (gVar 11) gNoB (gBnd (gC (.int 19))))) (gIfS (gB (gOp gNe (gWhy why1 (gMeth "Guard" "accepts" 2 f_Guard_accepts (gVar 9) (PL.gCons (gOp gAdd (gOp gAdd (gVar 13) (gC (.str "?"))) (gVar 13)) PL.gNil))) (gTup (PL.gCons (gC (.str "UnknownLetter")) (PL.gCons (gFn gLen (PL.gCons (gVar 13) PL.gNil)) PL.gNil))))) (gRet (gC (.bl false))) gNext)))))) (gSeq (gSet 14 (gB1 1 1 f_law_take (PL.gCons (gFn gLen (PL.gCons (gVar 4) PL.gNil)) PL.gNil))) (gSeq (gSet 15 (gLst (PL.gCons (gOp gAdd (gOpV gIx 4 (gVar 14)) (gLst (PL.gCons (gC (.int 0)) PL.gNil))) (PL.gCons (gSl (gOpV gIx 4 (gVar 14)) (gBnd (gC (.int 1))) gNoB) (PL.gCons (gOp gMulX (gLst (PL.gCons (gFn gLen (PL.gCons (gVar 4) PL.gNil)) PL.gNil)) (gFn gLen (PL.gCons (gVar 3) PL.gNil))) (PL.gCons (gOp gMulX (gLst (PL.gCons (gUn gNeg (gC (.int 1))) PL.gNil)) (gFn gLen (PL.gCons (gVar 3) PL.gNil))) PL.gNil)))))) (gSeq (gSet 16 (gOp gAdd (gOp gAdd (gSl (gVar 4) gNoB (gBnd (gVar 14))) (gLst (PL.gCons (gB1 1 1 f_law_pick (PL.gCons (gVar 15) PL.gNil)) PL.gNil))) (gSl (gVar 4) (gBnd (gOp gAdd (gVar 14) (gC (.int 1)))) gNoB))) (gSeq (gSet 17 (gLst (PL.gCons (gC (.lam env lam_law_0 0)) (PL.gCons (gC (.lam env lam_law_1 1)) PL.gNil)))) (gSeq (gSet 17 (gOp gAdd (gVar 17) (gLst (PL.gCons (gC (.lam env lam_law_2 2)) (PL.gCons (gC (.lam env lam_law_3 3)) PL.gNil))))) (gSeq (gSet 17 (gOp gAdd (gVar 17) (gLst (PL.gCons (gC (.lam env lam_law_4 4)) (PL.gCons (gC (.lam env lam_law_5 5)) PL.gNil))))) (gSeq (gSet 18 (gLst (PL.gCons (gTup (PL.gCons (gC (.str "InvalidGuard")) (PL.gCons (gVar 14) PL.gNil))) (PL.gCons (gTup (PL.gCons (gC (.str "InvalidGuard")) (PL.gCons (gVar 14) PL.gNil))) (PL.gCons (gTup (PL.gCons (gC (.str "InvalidGuard")) (PL.gCons (gFn gLen (PL.gCons (gVar 4) PL.gNil)) PL.gNil))) (PL.gCons (gTup (PL.gCons (gC (.str "InvalidGuard")) (PL.gCons (gC (.int 0)) PL.gNil))) PL.gNil)))))) (gIfS (gB (gOp gNe (gAsked why1 g_fam env 17 19) (gOp gAdd (gVar 18) (gLst (PL.gCons (gTup (PL.gCons (gC (.str "InvalidGuard")) (PL.gCons (gC (.int 4)) PL.gNil))) (PL.gCons (gTup (PL.gCons (gC (.str "InvalidLetters")) (PL.gCons (gFn gLen (PL.gCons (gVar 3) PL.gNil)) PL.gNil))) PL.gNil)))))) (gRet (gC (.bl false))) gNext)))))))))))) (gRet (gC (.bl true)))))
theorem ok_law {P : Program} {w : World} {K : PySem.W.Frag} {mg : Str → Option Value} {base : Heap} {fd : FuncData} (F : FunD K "law" "law" (defArgs s_law) (defBody s_law) (defScope s_law) [] [] (ga K "law") fd) (TB : LamX.TabB base mg (cT K ("law", none)).1 (cT K ("law", none)).2) (D_why : Dn K mg "_law_why" s_law_why []) (gE : ∀ m ∈ whyNames, mg m = some (.ref (ga K m))) (hR : ∀ n x, (n, x) ∈ why1 → WhyC K n x ∧ (∀ c ∈ whyCl, n ∈ c.1 → c.2 = x) ∧ ∃ c ∈ whyCl, n ∈ c.1) (m_range : mg "range" = none) (h_law_take : FOkX (L2.CX P w) P w K mg base 1 "_law_take" ["_law_feed_here", "_law_many"] (spB K 1 f_law_take)) (K_Guard : Mk K (He.ga K "Guard") (fAd K ("Guard", some "__init__"))) (g_Guard : mg "Guard" = some (.ref (He.ga K "Guard"))) (h_Guard_init : MOk (L2.CX P w) P w K mg base 4 (fAd K ("Guard", some "__init__")) ["self", "letters", "rows", "good"] (spB K 3 f_Guard_init)) (m_tuple : mg "tuple" = none) (m_list : mg "list" = none) (m_len : mg "len" = none) (h_law_pick : FOkX (L2.CX P w) P w K mg base 2 "_law_pick" ["_law_feed_here", "_law_things"] (spB K 1 f_law_pick)) (h_Guard_accepts : MOk (L2.CX P w) P w K mg base 3 (fAd K ("Guard", some "accepts")) ["self", "word"] (spG K 2 f_Guard_accepts)) (C_Guard : Cls K (He.ga K "Guard")) (M_Guard_accepts : Meth K (He.ga K "Guard") "accepts" (fAd K ("Guard", some "accepts"))) (h_law_same : FOk P w K mg base 5 "_law_same" ["_law_found", "_law_due"] (spG K 2 (f_same 4))) (h_law_room : FOkX (L2.CX P w) P w K mg base 1 "_law_room" ["_law_letters_here", "_law_rows", "_law_word_here"] (spG K 3 f_law_room)) (h_Guard_len : MOk (L2.CX P w) P w K mg base 1 (fAd K ("Guard", some "__len__")) ["self"] (spG K 1 f_Guard_len)) (M_Guard_len : Meth K (He.ga K "Guard") "__len__" (fAd K ("Guard", some "__len__"))) (P_Guard_letters : PropOf K (He.ga K "Guard") "letters" (ma K (He.ga K "Guard") "letters") (He5.wf K (He.ga K "Guard") "property" "letters")) (h_Guard_letters : MOk CX0 P w K mg base 1 (He5.wf K (ga K "Guard") "property" "letters") ["self"] (spG K 1 f_Guard_letters)) (h_law_word : FOkX (L2.CX P w) P w K mg base 3 "_law_word" ["_law_feed_here", "_law_letters_here", "_law_most"] (spB K 2 f_law_word)) (h_law_rooms : FOkX (L2.CX P w) P w K mg base 3 "_law_rooms" ["_law_feed_here"] (spB K 0 f_law_rooms)) (h_law_feed : FOkX (L2.CX P w) P w K mg base 1 "_law_feed" ["_law_script"] (spO K 1 f_law_feed))
    (plain : ∀ (env : Env) (ns : List Int), ns.length ≤ 63 → runF n_law (g_law_body env) [.scr ns] = .ok (.bl true)) : FnOk P w K mg base CX0 9 (ga K "law") fd ["_law_script"] (spLaw K (cT K ("law", none)).2) :=
  ok_lawP F sc_law (lawT K) _ (fun H h q hq => by rw [List.mem_singleton.mp hq]; exact LamX.TabS.nil h) (by decide) g_law_body (fun A outer s H hr => (s_cons 
    (s_setO (i := 1) sc_law.nd rfl (Or.inl rfl) (d_callO h_law_feed passL (hr.mono (by first | decide | omega)) (d_cons (d_var 0) d_nil))) (s_cons 
    (s_for PassesOwn.never rfl (i_range1 m_range (d_cons d_int d_nil)) (g_name (i := 2) sc_law.nd rfl (Or.inl rfl)) (s_cons 
      (s_asg (d_callB1 (i := 1) h_law_rooms passL (hr.mono (by first | decide | omega)) d_nil) (g_tup rfl (g_cons (g_name (i := 3) sc_law.nd rfl (Or.inr rfl)) (g_cons (g_name (i := 4) sc_law.nd rfl (Or.inr rfl)) (g_cons (g_name (i := 5) sc_law.nd rfl (Or.inr rfl)) g_nil))))) (s_blkT (ms := [(6, ([] ++ [0]), fun _ => []), (7, [], List.reverse), (7, [], fun _ => [])]) 3 3 (s_cons 
      (s_par (i := 6) (j := 7) rfl sc_law.nd rfl rfl (by decide) rfl rfl (d_cons (DO.fz (d_lc (own := [("_law_row", 8)]) (g := (L2.gName 8)) rfl sc_law.nd (i_val (d_var 4)) (blkOk_by (own := [("_law_row", 8)]) (N := n_law) (sc := defScope s_law) (by decide +kernel)) (fun _ _ _ _ _ => (c_name (i := 8) sc_law.nd rfl (Or.inl rfl))) (fun _ _ _ _ _ => ts_nil) (fun _ _ _ _ _ => (DO.fz (d_list m_list (d_cons (d_var 8) d_nil)))) (s0 := s) (H0 := H))) (d_cons (DO.fz (d_list m_list (d_cons (d_var 5) d_nil))) d_nil)) (by rfl)) (s_cons 
      (s_set (i := 9) sc_law.nd rfl (Or.inr rfl) (d_if (t_cmp (op_eqD hr.units) eqG (d_callB1 (i := 1) h_law_take passL (hr.mono (by first | decide | omega)) (d_cons d_int d_nil)) d_int) (DO.d (d_make K_Guard h_Guard_init passL (hr.mono (by first | decide | omega)) g_Guard (d_cons (d_var 3) (d_cons (d_var 6) (d_cons (d_var 7) d_nil))))) (DO.d (d_make K_Guard h_Guard_init passL (hr.mono (by first | decide | omega)) g_Guard (d_cons (d_var 3) (d_cons (d_callTy call_tuple_of tupleG m_tuple (d_cons (d_var 4) d_nil)) (d_cons (d_callTy call_tuple_of tupleG m_tuple (d_cons (d_var 5) d_nil)) d_nil))))))) (s_one 
      (s_if (DW.t (w_or (t_cmp (op_neD hr.units) neG (d_var 6) (d_var 4)) (w_or1 (t_cmp (op_neD hr.units) neG (d_var 7) (d_var 5))))) (s_one 
        (s_ret d_bl)) s_nil)))) (ms_cons (m_clear (p_ix (k := 0) (p_name (i := 6)))) (ms_cons (m_reverse (p_name (i := 7))) (ms_cons (m_clear (p_name (i := 7))) ms_nil))) (s_cons 
      (s_for PassesOwn.never rfl (i_range1 m_range (d_cons d_int d_nil)) (g_name (i := 10) sc_law.nd rfl (Or.inl rfl)) (s_cons 
        (s_set (i := 11) sc_law.nd rfl (Or.inl rfl) (d_callB1 (i := 1) h_law_word passL (hr.mono (by first | decide | omega)) (d_cons (d_var 3) (d_cons (d_callB1 (i := 1) h_law_pick passL (hr.mono (by first | decide | omega)) (d_cons (DO.d (d_lst (d_cons d_int (d_cons d_int (d_cons d_int d_nil))))) d_nil)) d_nil)))) (s_cons 
        (s_set (i := 12) sc_law.nd rfl (Or.inl rfl) (DO.d (d_lst (d_cons (d_meth (d_var 9) C_Guard M_Guard_accepts h_Guard_accepts passL (hr.mono (by first | decide | omega)) (d_cons (d_var 11) d_nil)) (d_cons (d_prop (d_var 9) C_Guard P_Guard_letters h_Guard_letters passZ (hr.mono (by first | decide | omega))) (d_cons (d_lenO M_Guard_len h_Guard_len passL (hr.mono (by first | decide | omega)) m_len (d_cons (d_var 9) d_nil)) d_nil)))))) (s_cons 
        (s_if (t_not (t_val (d_call h_law_same passZ (hr.mono (by first | decide | omega)) (d_cons (d_var 12) (d_cons (DO.d (d_lst (d_cons (d_ixV (u1 hr) (i := 5) (d_call h_law_room passL (hr.mono (by first | decide | omega)) (d_cons (d_var 3) (d_cons (d_var 4) (d_cons (d_var 11) d_nil))))) (d_cons (d_var 3) (d_cons (d_callB call_len lenG m_len (d_cons (d_var 4) d_nil)) d_nil))))) d_nil))))) (s_one 
          (s_ret d_bl)) s_nil) (s_cons 
        (s_set (i := 13) sc_law.nd rfl (Or.inr rfl) (d_slice (d_var 11) b_none (b_some d_int))) (s_one 
        (s_if (t_cmp (op_neD hr.units) neG (d_why (k := 6) (T := lawT K) (R := why1) (List.cons_ne_nil _ _) D_why gE hR TB rfl (List.Mem.head _) (fun p hp _ => congrArg Prod.snd (List.mem_singleton.mp hp)) (hr.mono (by first | decide | omega)) (LamX.lamS_by (sc := defScope s_law) (by decide +kernel)) rfl (fun _ _ _ _ _ => rfl) (fun A outer s H E f c hr2 => (d_meth (d_var 9) C_Guard M_Guard_accepts h_Guard_accepts pass_lam (hr2.mono (by first | decide | omega)) (d_cons (d_op op_addG addG (d_op op_addG addG (d_var 13) d_str) (d_var 13)) d_nil)))) (d_tup (d_cons d_str (d_cons (d_callB call_len lenG m_len (d_cons (d_var 13) d_nil)) d_nil)))) (s_one 
          (s_ret d_bl)) s_nil))))))) (s_cons 
      (s_set (i := 14) sc_law.nd rfl (Or.inr rfl) (d_callB1 (i := 1) h_law_take passL (hr.mono (by first | decide | omega)) (d_cons (d_callB call_len lenG m_len (d_cons (d_var 4) d_nil)) d_nil))) (s_cons 
      (s_set (i := 15) sc_law.nd rfl (Or.inl rfl) (DO.d (d_lst (d_cons (d_op op_addG addG (d_ixV (u1 hr) (i := 4) (d_var 14)) (DO.d (d_lst (d_cons d_int d_nil)))) (d_cons (d_slice (d_ixV (u1 hr) (i := 4) (d_var 14)) (b_some d_int) b_none) (d_cons (d_op op_mulX mulX (DO.d (d_lst (d_cons (d_callB call_len lenG m_len (d_cons (d_var 4) d_nil)) d_nil))) (d_callB call_len lenG m_len (d_cons (d_var 3) d_nil))) (d_cons (d_op op_mulX mulX (DO.d (d_lst (d_cons (d_un un_neg negG d_int) d_nil))) (d_callB call_len lenG m_len (d_cons (d_var 3) d_nil))) d_nil))))))) (s_cons 
      (s_set (i := 16) sc_law.nd rfl (Or.inr rfl) (d_op op_addG addG (d_op op_addG addG (d_slice (d_var 4) b_none (b_some (d_var 14))) (DO.d (d_lst (d_cons (d_callB1 (i := 1) h_law_pick passL (hr.mono (by first | decide | omega)) (d_cons (d_var 15) d_nil)) d_nil)))) (d_slice (d_var 4) (b_some (d_op op_addG addG (d_var 14) d_int)) b_none))) (s_cons 
      (s_set (i := 17) sc_law.nd rfl (Or.inl rfl) (DO.d (d_lst (d_cons (d_mklam (List.cons_ne_nil _ _) 0 (pe_lam (T := lawT K) (d := lam_law_0) TB rfl (List.Mem.head _) (fun p hp _ => congrArg Prod.snd (List.mem_singleton.mp hp)) (lamS2_by (N := n_law) (sc := defScope s_law) (by decide +kernel)) rfl)) (d_cons (d_mklam (List.cons_ne_nil _ _) 1 (pe_lam (T := lawT K) (d := lam_law_1) TB rfl (List.Mem.head _) (fun p hp _ => congrArg Prod.snd (List.mem_singleton.mp hp)) (lamS2_by (N := n_law) (sc := defScope s_law) (by decide +kernel)) ⟨_, _, rfl⟩)) d_nil))))) (s_cons 
      (s_set (i := 17) sc_law.nd rfl (Or.inl rfl) (d_op op_addG addG (d_var 17) (DO.d (d_lst (d_cons (d_mklam (List.cons_ne_nil _ _) 2 (pe_lam (T := lawT K) (d := lam_law_2) TB rfl (List.Mem.head _) (fun p hp _ => congrArg Prod.snd (List.mem_singleton.mp hp)) (lamS2_by (N := n_law) (sc := defScope s_law) (by decide +kernel)) rfl)) (d_cons (d_mklam (List.cons_ne_nil _ _) 3 (pe_lam (T := lawT K) (d := lam_law_3) TB rfl (List.Mem.head _) (fun p hp _ => congrArg Prod.snd (List.mem_singleton.mp hp)) (lamS2_by (N := n_law) (sc := defScope s_law) (by decide +kernel)) ⟨_, _, rfl⟩)) d_nil)))))) (s_cons 
      (s_set (i := 17) sc_law.nd rfl (Or.inl rfl) (d_op op_addG addG (d_var 17) (DO.d (d_lst (d_cons (d_mklam (List.cons_ne_nil _ _) 4 (pe_lam (T := lawT K) (d := lam_law_4) TB rfl (List.Mem.head _) (fun p hp _ => congrArg Prod.snd (List.mem_singleton.mp hp)) (lamS2_by (N := n_law) (sc := defScope s_law) (by decide +kernel)) rfl)) (d_cons (d_mklam (List.cons_ne_nil _ _) 5 (pe_lam (T := lawT K) (d := lam_law_5) TB rfl (List.Mem.head _) (fun p hp _ => congrArg Prod.snd (List.mem_singleton.mp hp)) (lamS2_by (N := n_law) (sc := defScope s_law) (by decide +kernel)) ⟨_, _, rfl⟩)) d_nil)))))) (s_cons 
      (s_set (i := 18) sc_law.nd rfl (Or.inl rfl) (DO.d (d_lst (d_cons (d_tup (d_cons d_str (d_cons (d_var 14) d_nil))) (d_cons (d_tup (d_cons d_str (d_cons (d_var 14) d_nil))) (d_cons (d_tup (d_cons d_str (d_cons (d_callB call_len lenG m_len (d_cons (d_var 4) d_nil)) d_nil))) (d_cons (d_tup (d_cons d_str (d_cons d_int d_nil))) d_nil))))))) (s_one 
      (s_if (t_cmp (op_neD hr.units) neG (DO.d (do_mk (pe_lcI (own := [("_law_ask", 19)]) (g := (L2.gName 19)) (tt := tYes) (te := fun σ => tLamV _ (famR _ g_fam) (TWhy K why1) 19 σ) (by rfl) sc_law.nd (pi_list (pv 17)) (blkOk_by (own := [("_law_ask", 19)]) (N := n_law) (sc := defScope s_law) (by decide +kernel)) (fun _ _ _ _ _ => (pg_name (i := 19) sc_law.nd rfl (Or.inl rfl))) (fun _ _ _ _ _ => pts_nil) (fun s H C cl fp pins σ B => pe_whyK (k := 6) B D_why gE hR (hr.mono (by first | decide | omega)) (famC (d := lam_law_0) (lamS2_by (N := n_law) (sc := defScope s_law) (by decide +kernel)) (fun _ _ _ _ _ => rfl) (fun A outer s H E f c hr2 => (PL.DE.pe (DO.d (d_make K_Guard h_Guard_init pass_lam (hr2.mono (by first | decide | omega)) g_Guard (d_cons (d_var 3) (d_cons (d_var 16) (d_cons (d_var 5) d_nil))))))) (famC (d := lam_law_1) (lamS2_by (N := n_law) (sc := defScope s_law) (by decide +kernel)) ⟨fun _ _ _ _ _ _ _ => ⟨_, rfl, rfl⟩, rfl⟩ (fun A outer s H E f c hr2 => (PL.DE.pe (DO.d (d_make K_Guard h_Guard_init pass_lam (hr2.mono (by first | decide | omega)) g_Guard (d_cons (d_var 3) (d_cons (d_var 4) (d_cons (d_slice (d_var 5) b_none (b_some (d_var 14))) d_nil))))))) (famC (d := lam_law_2) (lamS2_by (N := n_law) (sc := defScope s_law) (by decide +kernel)) (fun _ _ _ _ _ => rfl) (fun A outer s H E f c hr2 => (PL.DE.pe (DO.d (d_make K_Guard h_Guard_init pass_lam (hr2.mono (by first | decide | omega)) g_Guard (d_cons (d_var 3) (d_cons (d_var 4) (d_cons (d_op op_addG addG (d_var 5) (DO.d (d_lst (d_cons d_bl d_nil)))) d_nil))))))) (famC (d := lam_law_3) (lamS2_by (N := n_law) (sc := defScope s_law) (by decide +kernel)) ⟨fun _ _ _ _ _ _ _ => ⟨_, rfl, rfl⟩, rfl⟩ (fun A outer s H E f c hr2 => (PL.DE.pe (DO.d (d_make K_Guard h_Guard_init pass_lam (hr2.mono (by first | decide | omega)) g_Guard (d_cons (d_var 3) (d_cons (DO.d (d_lst d_nil)) (d_cons (DO.d (d_lst d_nil)) d_nil))))))) (famC (d := lam_law_4) (lamS2_by (N := n_law) (sc := defScope s_law) (by decide +kernel)) (fun _ _ _ _ _ => rfl) (fun A outer s H E f c hr2 => (PL.DE.pe (DO.d (d_make K_Guard h_Guard_init pass_lam (hr2.mono (by first | decide | omega)) g_Guard (d_cons (d_var 3) (d_cons (d_op op_mulX mulX (d_var 4) d_int) (d_cons (d_op op_mulX mulX (d_var 5) d_int) d_nil))))))) (famC (d := lam_law_5) (lamS2_by (N := n_law) (sc := defScope s_law) (by decide +kernel)) ⟨fun _ _ _ _ _ _ _ => ⟨_, rfl, rfl⟩, rfl⟩ (fun A outer s H E f c hr2 => (PL.DE.pe (DO.d (d_make K_Guard h_Guard_init pass_lam (hr2.mono (by first | decide | omega)) g_Guard (d_cons (d_op op_addG addG (d_var 3) d_str) (d_cons (d_var 4) (d_cons (d_var 5) d_nil))))))) famN)))))) (pv 19))) (lift_asked (List.cons_ne_nil _ _) (famL_of g_fam)))) (d_op op_addG addG (d_var 18) (DO.d (d_lst (d_cons (d_tup (d_cons d_str (d_cons d_int d_nil))) (d_cons (d_tup (d_cons d_str (d_cons (d_callB call_len lenG m_len (d_cons (d_var 3) d_nil)) d_nil))) d_nil)))))) (s_one 
        (s_ret d_bl)) s_nil)))))))))) (by simp)))) (s_one 
    (s_ret d_bl))))) plain
end
end CT
namespace CT
open PySem PySem.Spec PySem.Calls PyProof.Rows L2 He PL
local macro_rules | `(tactic| w_dflts $t) => `(tactic| simp only [slotsB, slots0, $t:ident, List.length_cons, List.length_nil, List.map_cons, List.map_nil, List.replicate, List.cons_append, List.nil_append, Nat.reduceAdd, Nat.reduceSub, Nat.zero_add])
local macro_rules | `(tactic| one_sign) => `(tactic| repeat' (first | (with_reducible refine W_modG (by first | decide | omega) (fun _ _ _ => ?_)) | (with_reducible refine W_fdivG (by first | decide | omega) (by first | decide | omega) (by first | decide | omega) (fun _ _ => ?_)) | (first | with_reducible refine WG_seq ?_ | with_reducible refine WG_set ?_ | with_reducible refine WG_if ?_ | with_reducible refine WG_ret ?_ | with_reducible refine WG_retO ?_ | with_reducible refine WG_drop ?_ | with_reducible refine WG_asg ?_ | with_reducible refine WG_then ?_ | with_reducible refine WG_setO (by decide) ?_ | with_reducible refine WG_next ?_ | with_reducible refine W_cons ?_ | with_reducible refine W_nil ?_ | with_reducible refine W_op ?_ | with_reducible refine W_fn ?_ | with_reducible refine W_B ?_ | with_reducible refine W_andT ?_ | with_reducible refine W_orT ?_ | with_reducible refine W_notT ?_ | with_reducible refine W_if ?_ | with_reducible refine W_andV ?_ | with_reducible refine W_notV ?_ | with_reducible refine W_chain ?_ | with_reducible refine W_tup ?_ | with_reducible refine W_lst ?_ | with_reducible refine W_un ?_ | with_reducible refine W_bind ?_ | with_reducible refine W_list ?_ | with_reducible refine ex_l ?_ | with_reducible refine ex_t ?_ | with_reducible refine W_nob ?_ | with_reducible refine W_bnd ?_ | with_reducible refine ex_i ?_ | with_reducible refine W_slC ?_ | with_reducible refine W_sl ?_ | with_reducible refine W_s1 ?_ | with_reducible refine ex_s ?_ | ((with_reducible apply W_app); focus rfl) | with_reducible refine W_yes ?_ | with_reducible refine W_gN ?_ | with_reducible refine WG_for ?_ | with_reducible refine W_lc ?_ | with_reducible refine W_call ?_ | ((with_reducible apply W_b1); focus rfl) | with_reducible refine W_c ?_ | with_reducible refine W_eq_int ?_ | with_reducible refine W_ne_int ?_ | (with_reducible refine W_mod (by first | decide | omega) ?_) | (with_reducible refine W_fdiv (by first | decide | omega) (by first | decide | omega) ?_) | (with_reducible refine W_mul_small (by first | decide | omega) (by first | decide | omega) ?_) | ((with_reducible apply W_var); focus rfl) | ((with_reducible apply W_give); focus rfl) | ((with_reducible apply W_opV); focus rfl) | with_reducible refine ex_bl ?_ | ((with_reducible apply ex_look); focus rfl) | ((with_reducible apply ex_own); focus rfl) | ((with_reducible apply ex_ol); focus rfl) | ((with_reducible apply ex_o); focus rfl) | (with_reducible refine ⟨fun h => ?_, fun h => ?_⟩ <;> (try simp only [decide_eq_true_eq, decide_eq_false_iff_not, eqD_int, Bool.not_eq_true', Bool.not_eq_false', Int.not_le, Int.not_lt, List.length_map, pow18, Bool.false_eq_true, Bool.true_eq_false, reduceCtorEq] at h)) | ((with_reducible apply W_ok); focus rfl) | dsimp only [List.set, setS, List.foldl, wipe1, wipe2, wipe3])))
def FeedD (d : D) : Prop := ∃ (cs : List Int) (i b m : Int), d = .lst [.lst (cs.map .int), .int i, .int b, .int m] ∧ cs.length ≤ 63 ∧ 0 ≤ i ∧ i ≤ cs.length ∧ 0 ≤ b ∧ 0 ≤ m ∧ m < 2147483647
theorem feed_fin {cs : List Int} {i b m r k : Int} (hl : cs.length ≤ 63) (h1 : 0 ≤ i) (h2 : i ≤ cs.length) (h3 : 0 ≤ b) (h4 : 0 ≤ m) (h5 : m < 2147483647) (h6 : 0 ≤ r) (h7 : r < k) : FeedD (.lst [.lst (cs.map .int), .int i, .int b, .int m]) ∧ ∃ j : Nat, (j : Int) < k ∧ D.int r = .int j :=
  ⟨⟨cs, i, b, m, rfl, hl, h1, h2, h3, h4, h5⟩, r.toNat, by omega, by rw [Int.toNat_of_nonneg h6]⟩
theorem take_ok {d : D} {k : Int} (h : FeedD d) (h0 : 0 < k) (h1 : k < 1000000) : WB f_law_take d [.int k] (fun d' r => FeedD d' ∧ ∃ j : Nat, (j : Int) < k ∧ r = .int j) fun _ _ => False := by
  obtain ⟨cs, i, b, m, rfl, hl, hi0, hi1, hb, hm0, hm1⟩ := h
  refine WB_run ?_
  w_dflts n_law_take
  unfold g_law_take_body
  one_sign
  · rename_i e1 e2
    refine W_ixL (atI_map hi0 e2) ?_
    one_sign
    all_goals exact feed_fin hl (by omega) (by omega) (by omega) (by omega) (by omega) (by omega) (by omega)
  all_goals first | exact feed_fin hl (by omega) (by omega) (by omega) (by omega) (by omega) (by omega) (by omega) | trace_state
end CT
namespace CT
open PySem PySem.Spec PySem.Calls PyProof.Rows L2 He PL
local macro_rules | `(tactic| w_dflts $t) => `(tactic| simp only [slotsB, slots0, $t:ident, List.length_cons, List.length_nil, List.map_cons, List.map_nil, List.replicate, List.cons_append, List.nil_append, Nat.reduceAdd, Nat.reduceSub, Nat.zero_add])
local macro_rules | `(tactic| one_sign) => `(tactic| repeat' (first | (with_reducible refine W_modG (by first | decide | omega) (fun _ _ _ => ?_)) | (with_reducible refine W_fdivG (by first | decide | omega) (by first | decide | omega) (by first | decide | omega) (fun _ _ => ?_)) | (first | with_reducible refine WG_seq ?_ | with_reducible refine WG_set ?_ | with_reducible refine WG_if ?_ | with_reducible refine WG_ret ?_ | with_reducible refine WG_retO ?_ | with_reducible refine WG_drop ?_ | with_reducible refine WG_asg ?_ | with_reducible refine WG_then ?_ | with_reducible refine WG_setO (by decide) ?_ | with_reducible refine WG_next ?_ | with_reducible refine W_cons ?_ | with_reducible refine W_nil ?_ | with_reducible refine W_op ?_ | with_reducible refine W_fn ?_ | with_reducible refine W_B ?_ | with_reducible refine W_andT ?_ | with_reducible refine W_orT ?_ | with_reducible refine W_notT ?_ | with_reducible refine W_if ?_ | with_reducible refine W_andV ?_ | with_reducible refine W_notV ?_ | with_reducible refine W_chain ?_ | with_reducible refine W_tup ?_ | with_reducible refine W_lst ?_ | with_reducible refine W_un ?_ | with_reducible refine W_bind ?_ | with_reducible refine W_list ?_ | with_reducible refine ex_l ?_ | with_reducible refine ex_t ?_ | with_reducible refine W_nob ?_ | with_reducible refine W_bnd ?_ | with_reducible refine ex_i ?_ | with_reducible refine W_slC ?_ | with_reducible refine W_sl ?_ | with_reducible refine W_s1 ?_ | with_reducible refine ex_s ?_ | ((with_reducible apply W_app); focus rfl) | with_reducible refine W_yes ?_ | with_reducible refine W_gN ?_ | with_reducible refine WG_for ?_ | with_reducible refine W_lc ?_ | with_reducible refine W_call ?_ | ((with_reducible apply W_b1); focus rfl) | with_reducible refine W_c ?_ | with_reducible refine W_eq_int ?_ | with_reducible refine W_ne_int ?_ | (with_reducible refine W_mod (by first | decide | omega) ?_) | (with_reducible refine W_fdiv (by first | decide | omega) (by first | decide | omega) ?_) | (with_reducible refine W_mul_small (by first | decide | omega) (by first | decide | omega) ?_) | ((with_reducible apply W_var); focus rfl) | ((with_reducible apply W_give); focus rfl) | ((with_reducible apply W_opV); focus rfl) | with_reducible refine ex_bl ?_ | ((with_reducible apply ex_look); focus rfl) | ((with_reducible apply ex_own); focus rfl) | ((with_reducible apply ex_ol); focus rfl) | ((with_reducible apply ex_o); focus rfl) | (with_reducible refine ⟨fun h => ?_, fun h => ?_⟩ <;> (try simp only [decide_eq_true_eq, decide_eq_false_iff_not, eqD_int, Bool.not_eq_true', Bool.not_eq_false', Int.not_le, Int.not_lt, List.length_map, pow18, Bool.false_eq_true, Bool.true_eq_false, reduceCtorEq] at h)) | ((with_reducible apply W_ok); focus rfl) | dsimp only [List.set, setS, List.foldl, wipe1, wipe2, wipe3])))
local macro_rules | `(tactic| got_up) => `(tactic| repeat' (first | with_reducible refine WG_seq ?_ | with_reducible refine WG_set ?_ | with_reducible refine WG_if ?_ | with_reducible refine WG_ret ?_ | with_reducible refine WG_retO ?_ | with_reducible refine WG_drop ?_ | with_reducible refine WG_asg ?_ | with_reducible refine WG_then ?_ | with_reducible refine WG_setO (by decide) ?_ | with_reducible refine WG_next ?_ | with_reducible refine W_cons ?_ | with_reducible refine W_nil ?_ | with_reducible refine W_op ?_ | with_reducible refine W_fn ?_ | with_reducible refine W_B ?_ | with_reducible refine W_andT ?_ | with_reducible refine W_orT ?_ | with_reducible refine W_notT ?_ | with_reducible refine W_if ?_ | with_reducible refine W_andV ?_ | with_reducible refine W_notV ?_ | with_reducible refine W_chain ?_ | with_reducible refine W_tup ?_ | with_reducible refine W_lst ?_ | with_reducible refine W_un ?_ | with_reducible refine W_bind ?_ | with_reducible refine W_list ?_ | with_reducible refine ex_l ?_ | with_reducible refine ex_t ?_ | with_reducible refine W_nob ?_ | with_reducible refine W_bnd ?_ | with_reducible refine ex_i ?_ | with_reducible refine W_slC ?_ | with_reducible refine W_sl ?_ | with_reducible refine W_s1 ?_ | with_reducible refine ex_s ?_ | ((with_reducible apply W_app); focus rfl) | with_reducible refine W_yes ?_ | with_reducible refine W_gN ?_ | with_reducible refine WG_for ?_ | with_reducible refine W_lc ?_ | with_reducible refine W_call ?_ | ((with_reducible apply W_b1); focus rfl) | with_reducible refine W_c ?_ | with_reducible refine W_eq_int ?_ | with_reducible refine W_ne_int ?_ | (with_reducible refine W_mod (by first | decide | omega) ?_) | (with_reducible refine W_fdiv (by first | decide | omega) (by first | decide | omega) ?_) | (with_reducible refine W_mul_small (by first | decide | omega) (by first | decide | omega) ?_) | ((with_reducible apply W_var); focus rfl) | ((with_reducible apply W_give); focus rfl) | ((with_reducible apply W_opV); focus rfl) | with_reducible refine ex_bl ?_ | ((with_reducible apply ex_look); focus rfl) | ((with_reducible apply ex_own); focus rfl) | ((with_reducible apply ex_ol); focus rfl) | ((with_reducible apply ex_o); focus rfl) | (with_reducible refine ⟨fun h => ?_, fun h => ?_⟩ <;> (try simp only [decide_eq_true_eq, decide_eq_false_iff_not, eqD_int, Bool.not_eq_true', Bool.not_eq_false', Int.not_le, Int.not_lt, List.length_map, pow18, Bool.false_eq_true, Bool.true_eq_false, reduceCtorEq] at h)) | ((with_reducible apply W_ok); focus rfl) | dsimp only [List.set, setS, List.foldl, wipe1, wipe2, wipe3]))
theorem feed_ok {ns : List Int} (h : ns.length ≤ 63) : WF f_law_feed [.scr ns] FeedD fun _ => False := by
  obtain ⟨cs, e, hc⟩ := cut_map (f := D.int) (l := ns) (lo := none) (hi := some 63)
  refine WF_runO ?_
  w_dflts n_law_feed
  unfold g_law_feed_body
  one_sign
  simp only [e, List.length_map]
  one_sign
  refine ⟨fun _ ρ => ∃ (m : Int) (x : Slot), 0 ≤ m ∧ m < 2147483647 ∧ ρ = [some (false, .scr ns), some (false, .lst (cs.map .int)), some (false, .int m), x], ⟨_, none, ?_, ?_, rfl⟩, fun i d ρ hd ⟨m, x, hm0, hm1, hρ⟩ => ?_, fun ρ ⟨m, x, hm0, hm1, hρ⟩ => ?_⟩
  · omega
  · omega
  · subst hρ
    rw [List.getElem?_map] at hd
    obtain ⟨c, _, rfl⟩ := Option.map_eq_some_iff.mp hd
    one_sign
    exact ⟨_, _, by assumption, by omega, rfl⟩
  · subst hρ
    one_sign
    exact ⟨rfl, rfl, cs, 0, 0, m, rfl, by omega, by omega, by omega, by omega, by omega, by omega⟩
def letL (a t : Nat) : List Nat := (List.range (1 + t)).map fun k => 97 + (a + 5 * k) % 26
theorem alpha_at : ∀ j : Nat, j < 26 → L2.atI ("abcdefghijklmnopqrstuvwxyz" : Str).cps.toList (j : Int) = some (97 + j) := by decide +kernel
theorem letters_ok {d : D} (h : FeedD d) : WB f_law_letters d [] (fun d' r => FeedD d' ∧ ∃ a t, a < 26 ∧ t < 3 ∧ r = .str (S (letL a t))) fun _ _ => False := by
  refine WB_run ?_
  w_dflts n_law_letters
  unfold g_law_letters_body
  one_sign
  refine ⟨rfl, _, rfl, (take_ok h (by omega) (by omega)).mono (fun d1 r ⟨h1, a, ha, e⟩ => ?_) (fun _ _ => False.elim)⟩
  subst e
  one_sign
  refine ⟨rfl, _, rfl, (take_ok h1 (by omega) (by omega)).mono (fun d2 r ⟨h2, t, ht, e⟩ => ?_) (fun _ _ => False.elim)⟩
  subst e
  one_sign
  refine W_range1 (by omega) (by omega) ?_
  refine ⟨fun i acc ρ => acc = (List.range i).map (fun k => .str (S [97 + (a + 5 * k) % 26])) ∧ ρ = [some (true, d2), some (false, .int a), none], ⟨rfl, rfl⟩, fun i d acc ρ hd ⟨he, hρ⟩ => ?_, fun acc ρ ⟨he, hρ⟩ => ?_⟩
  · subst hρ
    obtain ⟨rfl, hi⟩ := rng_at hd
    got_up
    have e : ((a : Int) + 5 * (i : Int)).fmod 26 = ((a + 5 * i) % 26 : Nat) := by
      rw [Int.fmod_eq_emod_of_nonneg _ (by omega)]
      omega
    rw [e]
    refine W_ixS (by decide) (alpha_at _ (Nat.mod_lt _ (by omega))) ⟨lim_of (by rw [he, List.length_map, List.length_range]; omega), ?_, rfl⟩
    rw [he, List.range_succ, List.map_append]
    rfl
  · subst hρ
    have et : (1 + (t : Int)).toNat = 1 + t := by omega
    rw [rng_len, et] at he
    have e2 : acc = ((letL a t).map fun c => [c]).map fun l => D.str (S l) := by
      rw [he, letL, List.map_map, List.map_map]
      rfl
    rw [e2]
    refine W_join ?_ ⟨_, rfl, h2, a, t, by omega, by omega, ?_⟩
    · rw [List.map_map]
      have : ∀ l : List Nat, (l.map (List.length ∘ fun c => [c])).sum = l.length := fun l => by
        induction l with
        | nil => rfl
        | cons c l ih => simp [List.map_cons, List.sum_cons, ih]; omega
      rw [this, letL, List.length_map, List.length_range]
      omega
    · have : ∀ l : List Nat, (l.map fun c => [c]).flatten = l := fun l => by
        induction l with
        | nil => rfl
        | cons c l ih => simp [ih]
      rw [this]
end CT
namespace CT
open PySem PySem.Spec PySem.Calls PyProof.Rows L2 He PL
local macro_rules | `(tactic| w_dflts $t) => `(tactic| simp only [slotsB, slots0, $t:ident, List.length_cons, List.length_nil, List.map_cons, List.map_nil, List.replicate, List.cons_append, List.nil_append, Nat.reduceAdd, Nat.reduceSub, Nat.zero_add])
local macro_rules | `(tactic| one_sign) => `(tactic| repeat' (first | (with_reducible refine W_modG (by first | decide | omega) (fun _ _ _ => ?_)) | (with_reducible refine W_fdivG (by first | decide | omega) (by first | decide | omega) (by first | decide | omega) (fun _ _ => ?_)) | (first | with_reducible refine WG_seq ?_ | with_reducible refine WG_set ?_ | with_reducible refine WG_if ?_ | with_reducible refine WG_ret ?_ | with_reducible refine WG_retO ?_ | with_reducible refine WG_drop ?_ | with_reducible refine WG_asg ?_ | with_reducible refine WG_then ?_ | with_reducible refine WG_setO (by decide) ?_ | with_reducible refine WG_next ?_ | with_reducible refine W_cons ?_ | with_reducible refine W_nil ?_ | with_reducible refine W_op ?_ | with_reducible refine W_fn ?_ | with_reducible refine W_B ?_ | with_reducible refine W_andT ?_ | with_reducible refine W_orT ?_ | with_reducible refine W_notT ?_ | with_reducible refine W_if ?_ | with_reducible refine W_andV ?_ | with_reducible refine W_notV ?_ | with_reducible refine W_chain ?_ | with_reducible refine W_tup ?_ | with_reducible refine W_lst ?_ | with_reducible refine W_un ?_ | with_reducible refine W_bind ?_ | with_reducible refine W_list ?_ | with_reducible refine ex_l ?_ | with_reducible refine ex_t ?_ | with_reducible refine W_nob ?_ | with_reducible refine W_bnd ?_ | with_reducible refine ex_i ?_ | with_reducible refine W_slC ?_ | with_reducible refine W_sl ?_ | with_reducible refine W_s1 ?_ | with_reducible refine ex_s ?_ | ((with_reducible apply W_app); focus rfl) | with_reducible refine W_yes ?_ | with_reducible refine W_gN ?_ | with_reducible refine WG_for ?_ | with_reducible refine W_lc ?_ | with_reducible refine W_call ?_ | ((with_reducible apply W_b1); focus rfl) | with_reducible refine W_c ?_ | with_reducible refine W_eq_int ?_ | with_reducible refine W_ne_int ?_ | (with_reducible refine W_mod (by first | decide | omega) ?_) | (with_reducible refine W_fdiv (by first | decide | omega) (by first | decide | omega) ?_) | (with_reducible refine W_mul_small (by first | decide | omega) (by first | decide | omega) ?_) | ((with_reducible apply W_var); focus rfl) | ((with_reducible apply W_give); focus rfl) | ((with_reducible apply W_opV); focus rfl) | with_reducible refine ex_bl ?_ | ((with_reducible apply ex_look); focus rfl) | ((with_reducible apply ex_own); focus rfl) | ((with_reducible apply ex_ol); focus rfl) | ((with_reducible apply ex_o); focus rfl) | (with_reducible refine ⟨fun h => ?_, fun h => ?_⟩ <;> (try simp only [decide_eq_true_eq, decide_eq_false_iff_not, eqD_int, Bool.not_eq_true', Bool.not_eq_false', Int.not_le, Int.not_lt, List.length_map, pow18, Bool.false_eq_true, Bool.true_eq_false, reduceCtorEq] at h)) | ((with_reducible apply W_ok); focus rfl) | dsimp only [List.set, setS, List.foldl, wipe1, wipe2, wipe3])))
theorem pick_ok {d : D} {l : List D} (h : FeedD d) (h0 : 0 < l.length) (h1 : l.length < 1000000) : WB f_law_pick d [.lst l] (fun d' r => FeedD d' ∧ r ∈ l) fun _ _ => False := by
  refine WB_run ?_
  w_dflts n_law_pick
  unfold g_law_pick_body
  one_sign
  refine ⟨rfl, _, rfl, (take_ok h (by omega) (by omega)).mono (fun d1 r ⟨h1, a, ha, e⟩ => ?_) (fun _ _ => False.elim)⟩
  subst e
  have ha : a < l.length := by omega
  one_sign
  refine W_ixL (atI_get ha) ⟨_, rfl, h1, List.getElem_mem _⟩
theorem pickS_ok {d : D} {l : List Nat} (h : FeedD d) (h0 : 0 < l.length) (h1 : l.length ≤ 100000) : WB f_law_pick d [.str (S l)] (fun d' r => FeedD d' ∧ ∃ c ∈ l, r = .str (S [c])) fun _ _ => False := by
  refine WB_run ?_
  w_dflts n_law_pick
  unfold g_law_pick_body
  one_sign
  refine W_lenS h1 ?_
  one_sign
  refine ⟨rfl, _, rfl, (take_ok h (by omega) (by omega)).mono (fun d1 r ⟨h2, a, ha, e⟩ => ?_) (fun _ _ => False.elim)⟩
  subst e
  have ha : a < l.length := by omega
  one_sign
  refine W_ixS (lim_of h1) (c := l[a]) ?_ ⟨_, rfl, h2, _, List.getElem_mem ha, rfl⟩
  have := atI_get ha
  simpa [S] using this
end CT
namespace CT
open PySem PySem.Spec PySem.Calls PyProof.Rows L2 He PL
/-- a fraction as data -/
def qD (x : Rat) : D := .tup [.int x.num, .int (x.den : Int)]
def FrV (d : D) (x : Rat) : Prop := d = qD x ∨ d = .ktup [.int x.num, .int (x.den : Int)]
end CT
namespace CT
open PySem PySem.Spec PySem.Calls PyProof.Rows L2 He PL
/-- a table as data -/
def tabL (P : Tab) : MT := P.map fun t => (kI t.1, qD t.2)
def tabD (P : Tab) : D := .dT (tabL P)
/-- a polynomial as data -/
def polyD (n : Nat) (P : Tab) : D := .own "Poly" [("width", .int n), ("table", tabD P)]
theorem qD_num {x : Rat} : Int.gcd x.num (x.den : Int) = 1 := x.reduced
end CT
namespace CT
open PySem PySem.Spec PySem.Calls PyProof.Rows L2 He PL
/-- a small drawn fraction -/
def Sml (r : D) : Prop := ∃ x : Rat, r = qD x ∧ Sz 6 30 x
/-- a drawn table -/
structure Drw (n de : Nat) (P : Tab) : Prop where
  nrm : Nrm n P
  len : P.length ≤ 3
  sz : ∀ k, Sz 6 90 (gt P k)
  dg : ∀ t ∈ P, t.1.sum ≤ (de : Int)
theorem Drw.mid {n de : Nat} {P : Tab} (h : Drw n de P) : ∀ t ∈ P, MidQ t.2 := fun t ht => by
  have := h.sz t.1
  rw [gt_mem h.nrm.nd ht] at this
  exact MidQ.of (OkS.small (by decide) (by decide) (by decide)) this
end CT
namespace CT
open PySem PySem.Spec PySem.Calls PyProof.Rows L2 He PL
end CT
namespace CT
open PySem PySem.Spec PySem.Calls PyProof.Rows L2 He PL
def OkPol (d : D) : Prop := ∃ (n : Nat) (l : MT), d = .own "Poly" [("width", .int n), ("table", .dT l)]
def wid : D → Int
  | .own _ ((_, .int n) :: _) => n
  | _ => 0
theorem wid_poly {n : Nat} {P : Tab} : wid (polyD n P) = n := rfl
def OkStep (d : D) : Prop := ∃ (j : Int) (rs : List D), d = .tup [.int j, .lst rs] ∧ rs.length ≤ 1000 ∧ ∀ r ∈ rs, OkPol r
def OkMode (d : D) : Prop := ∃ (o : D) (st : List D), d = .tup [o, .lst st] ∧ (o = .non ∨ OkPol o) ∧ st.length ≤ 1000 ∧ ∀ s ∈ st, OkStep s
def polB (w : Int) (d : D) : Bool := decide (wid d = w)
def oB (w : Int) (o : D) : Bool := match o with
  | .non => true
  | o => polB w o
def stepB (w c : Int) (d : D) : Bool := match d with
  | .tup [.int j, .lst rs] => decide (0 ≤ j ∧ j < c) && (decide ((rs.length : Int) = w) && rs.all (polB w))
  | _ => false
def modeB (n w c : Int) (d : D) : Bool := match d with
  | .tup [o, .lst st] => oB w o && (decide ((st.length : Int) = n) && st.all (stepB w c))
  | _ => false
theorem step_eq {w c j : Int} {rs : List D} : stepB w c (.tup [.int j, .lst rs]) = (decide (0 ≤ j ∧ j < c) && (decide ((rs.length : Int) = w) && rs.all (polB w))) := rfl
theorem mode_eq {n w c : Int} {o : D} {st : List D} : modeB n w c (.tup [o, .lst st]) = (oB w o && (decide ((st.length : Int) = n) && st.all (stepB w c))) := rfl
end CT
namespace CT
open PySem PySem.Spec PySem.Calls PyProof.Rows L2 He PL
/-- p is the first place that is not right -/
def FB (g : Nat → D → Bool) (ds : List D) (p : Nat) : Prop := (∃ d, ds[p]? = some d ∧ g p d = false) ∧ ∀ i d, i < p → ds[i]? = some d → g i d = true
def AllG (g : Nat → D → Bool) (ds : List D) : Prop := ∀ i d, ds[i]? = some d → g i d = true
theorem FB.uniq {g : Nat → D → Bool} {ds : List D} {p q : Nat} (h1 : FB g ds p) (h2 : FB g ds q) : p = q := by
  obtain ⟨⟨d, hd, hg⟩, h⟩ := h1
  obtain ⟨⟨e, he, hg'⟩, h'⟩ := h2
  rcases Nat.lt_trichotomy p q with z | z | z
  · rw [h' _ _ z hd] at hg
    cases hg
  · exact z
  · rw [h _ _ z he] at hg'
    cases hg'
theorem FB.no {g : Nat → D → Bool} {ds : List D} {p : Nat} (h1 : FB g ds p) (h2 : AllG g ds) : False := by
  obtain ⟨⟨d, hd, hg⟩, h⟩ := h1
  rw [h2 _ _ hd] at hg
  cases hg
def OkBg (d : D) : Prop := ∃ t u : Int, (d = .tup [.int t, .int u] ∨ d = .ktup [.int t, .int u]) ∧ Big t ∧ Big u
def bgG (i : Nat) (d : D) : Bool := match d with
  | .tup [.int t, .int u] => decide (i < 16) && (decide (0 < u) && decide (Int.gcd t u = 1))
  | .ktup [.int t, .int u] => decide (i < 16) && (decide (0 < u) && decide (Int.gcd t u = 1))
  | _ => false
end CT
namespace CT
open PySem PySem.Spec PySem.Calls PyProof.Rows L2 He PL
def isNon : FRes → Bool
  | .ok .non => true
  | _ => false
def isErr (n : Str) (k : Nat) : FRes → Bool
  | .exc ⟨m, some x, .int i⟩ => decide (m = n ∧ x = ("at" : Str) ∧ i = k)
  | _ => false
theorem non_ok {r : FRes} (h : isNon r = true) : r = .ok .non := by
  unfold isNon at h
  split at h
  · rfl
  · cases h
theorem err_ok {n : Str} {k : Nat} {r : FRes} (h : isErr n k r = true) : r = .exc ⟨n, some "at", .int k⟩ := by
  unfold isErr at h
  split at h
  · obtain ⟨rfl, rfl, rfl⟩ := of_decide_eq_true h
    rfl
  · cases h
theorem let_all : ∀ a, a < 26 → ∀ t, t < 3 → isNon (f_check_letters [.str (S (letL a t)), .int 3]) = true := by decide +kernel
end CT
namespace CT
open PySem PySem.Spec PySem.Calls PyProof.Rows L2 He PL
def PolP (n : Nat) (y : D) : Prop := ∃ P, y = polyD n P
def StepP (n sz : Nat) (x : D) : Prop := ∃ (j : Nat) (rs : List D), x = .tup [.int j, .lst rs] ∧ j < sz ∧ rs.length = n ∧ ∀ y ∈ rs, PolP n y
def ModeP (m n sz : Nat) (x : D) : Prop := ∃ (o : D) (st : List D), x = .tup [o, .lst st] ∧ (o = .non ∨ PolP n o) ∧ st.length = m ∧ ∀ y ∈ st, StepP n sz y
theorem PolP.ok {n : Nat} {y : D} (h : PolP n y) : OkPol y ∧ polB n y = true := by
  obtain ⟨P, rfl⟩ := h
  exact ⟨⟨n, tabL P, rfl⟩, decide_eq_true wid_poly⟩
theorem StepP.ok {n sz : Nat} {x : D} (hn : n ≤ 1000) (h : StepP n sz x) : OkStep x ∧ stepB n sz x = true := by
  obtain ⟨j, rs, rfl, hj, hl, hr⟩ := h
  refine ⟨⟨j, rs, rfl, by omega, fun r hm => (hr r hm).ok.1⟩, ?_⟩
  rw [step_eq, decide_eq_true (by omega), decide_eq_true (by omega)]
  exact List.all_eq_true.mpr fun r hm => (hr r hm).ok.2
theorem PolP.o {n : Nat} {o : D} (h : o = .non ∨ PolP n o) : (o = .non ∨ OkPol o) ∧ oB n o = true := by
  rcases h with rfl | h
  · exact ⟨.inl rfl, rfl⟩
  · obtain ⟨P, rfl⟩ := h
    exact ⟨.inr ⟨n, tabL P, rfl⟩, decide_eq_true wid_poly⟩
theorem ModeP.ok {m n sz : Nat} {x : D} (hn : n ≤ 1000) (hm : m ≤ 1000) (h : ModeP m n sz x) : OkMode x ∧ modeB m n sz x = true := by
  obtain ⟨o, st, rfl, ho, hl, hs⟩ := h
  refine ⟨⟨o, st, rfl, (PolP.o ho).1, by omega, fun s hm' => ((hs s hm').ok hn).1⟩, ?_⟩
  rw [mode_eq, (PolP.o ho).2, decide_eq_true (by omega)]
  exact List.all_eq_true.mpr fun s hm' => ((hs s hm').ok hn).2
theorem Sml.ok {r : D} (h : Sml r) {i : Nat} (hi : i < 16) : OkBg r ∧ bgG i r = true := by
  obtain ⟨x, rfl, hx⟩ := h
  have m := MidQ.of (OkS.small (by decide) (by decide) (by decide)) hx
  refine ⟨⟨_, _, .inl rfl, m.1.big, m.2.big⟩, ?_⟩
  show (decide (i < 16) && (decide (0 < (x.den : Int)) && decide (Int.gcd x.num (x.den : Int) = 1))) = true
  rw [decide_eq_true hi, decide_eq_true (show 0 < (x.den : Int) by have := x.den_pos; omega), decide_eq_true qD_num]
  rfl
end CT
namespace CT
open PySem PySem.Spec PySem.Calls PyProof.Rows L2 He PL
end CT
namespace CT
open PySem PySem.Spec PySem.Calls PyProof.Rows L2 He PL
end CT
namespace CT
open PySem PySem.Spec PySem.Calls PyProof.Rows L2 He PL
/-- a point as data: fractions, of the module or not -/
def PtR (pt : List D) (xs : List Rat) : Prop := pt.length = xs.length ∧ ∀ j d, pt[j]? = some d → FrV d (xs.getD j 0)
end CT
namespace CT
open PySem PySem.Spec PySem.Calls PyProof.Rows L2 He PL
abbrev MRow := Option Tab × List (Nat × List Tab)
def oT : Option Tab → D
  | none => .non
  | some P => tabD P
structure StOk (n de sz : Nat) (s : Nat × List Tab) : Prop where
  j : s.1 < sz
  l : s.2.length = n
  p : ∀ P ∈ s.2, Drw n de P
structure RowOk (m n de sz : Nat) (r : MRow) : Prop where
  o : ∀ P, r.1 = some P → Drw n de P
  l : r.2.length = m
  s : ∀ s ∈ r.2, StOk n de sz s
theorem mem_le_sum : ∀ {l : Mono}, (∀ e ∈ l, 0 ≤ e) → ∀ e ∈ l, e ≤ l.sum
  | [], _, e, h => by cases h
  | a :: l, h, e, he => by
    have h1 : 0 ≤ l.sum := sum_nn fun e he => h e (List.mem_cons_of_mem _ he)
    have h2 := h a List.mem_cons_self
    rw [List.sum_cons]
    rcases List.mem_cons.mp he with rfl | he
    · omega
    · have := mem_le_sum (fun e he => h e (List.mem_cons_of_mem _ he)) e he
      omega
theorem Drw.ex {n de : Nat} {P : Tab} (h : Drw n de P) (hd : de ≤ 1000) : ∀ t ∈ P, ∀ e ∈ t.1, e ≤ 1000 := fun t ht e he => by
  have := mem_le_sum (h.nrm.ln t ht).2 e he
  have := h.dg t ht
  omega
end CT
namespace CT
open PySem PySem.Spec PySem.Calls PyProof.Rows L2 He PL
end CT
namespace CT
open PySem PySem.Spec PySem.Calls PyProof.Rows L2 He PL
theorem W_index {ρ : List PL.Slot} {X : Exc → List PL.Slot → Prop} {Q : D → List PL.Slot → Prop} {l : List Nat} {j c : Nat} (nd : l.Nodup) (h : l[j]? = some c) (q : Q (.int j) ρ) : WM (gIndex (.str (S l)) (.str (S [c]))) ρ Q X := W_ok (by
  obtain ⟨rest, e⟩ := occ_sign nd h
  show (match Builtin.Str.occurrences (S l) ⟨#[c]⟩ 0 (S l).length 1 with
    | i :: _ => Res.ok (D.int (i : Nat)) ρ
    | [] => Res.fault) = _
  rw [e]) q
/-- the step of a mode by the letter at place k -/
def stepM (rs : List MRow) (m k : Nat) : Nat × List Tab := (rs.getD m (none, [])).2.getD k (0, [])
/-- a run over places of letters -/
def runM (rs : List MRow) : List Nat → Nat × List Rat → Nat × List Rat
  | [], s => s
  | k :: w, (m, xs) => runM rs w ((stepM rs m k).1, (stepM rs m k).2.map fun P => val P xs)
end CT
namespace CT
open PySem PySem.Spec PySem.Calls PyProof.Rows L2 He PL
theorem runM_snoc (rs : List MRow) : ∀ (w : List Nat) (k : Nat) (s : Nat × List Rat), runM rs (w ++ [k]) s = ((stepM rs (runM rs w s).1 k).1, (stepM rs (runM rs w s).1 k).2.map fun P => val P (runM rs w s).2)
  | [], k, (m, xs) => rfl
  | j :: w, k, (m, xs) => by
    show runM rs (w ++ [k]) _ = _
    rw [runM_snoc rs w k]
    rfl
/-- the word that the places tell -/
def wordL (L ks : List Nat) : List Nat := ks.map fun k => L.getD k 0
/-- all that a run of the places meets is sized -/
def RunOk (rs : List MRow) (n : Nat) (ks : List Nat) (xs : List Rat) : Prop := ∀ i, i ≤ ks.length → (runM rs (ks.take i) (0, xs)).1 < rs.length ∧ (runM rs (ks.take i) (0, xs)).2.length = n ∧ ∀ r ∈ rs, (∀ P, r.1 = some P → VOk P (runM rs (ks.take i) (0, xs)).2) ∧ ∀ s ∈ r.2, ∀ P ∈ s.2, VOk P (runM rs (ks.take i) (0, xs)).2
end CT
namespace CT
open PySem PySem.Spec PySem.Calls PyProof.Rows L2 He PL
end CT
namespace CT
open PySem PySem.Spec PySem.Calls PyProof.Rows L2 He PL
theorem wordL_len {L ks : List Nat} : (wordL L ks).length = ks.length := by unfold wordL; rw [List.length_map]
theorem wordL_at {L ks : List Nat} {i c : Nat} (h : (wordL L ks)[i]? = some c) : ∃ k, ks[i]? = some k ∧ c = L.getD k 0 := by
  unfold wordL at h
  rw [List.getElem?_map] at h
  obtain ⟨k, hk, e⟩ := Option.map_eq_some_iff.mp h
  exact ⟨k, hk, e.symm⟩
theorem getD_mem {L : List Nat} {k : Nat} (h : k < L.length) : L.getD k 0 ∈ L ∧ L[k]? = some (L.getD k 0) := by
  have e : L[k]? = some (L.getD k 0) := by rw [List.getElem?_eq_getElem h, List.getD_eq_getElem?_getD, List.getElem?_eq_getElem h, Option.getD_some]
  exact ⟨List.mem_of_getElem? e, e⟩
/-- the data of a step of the program's machine -/
structure StG (n : Nat) (s : Nat × List Tab) : Prop where
  l : s.2.length = n
  p : ∀ P ∈ s.2, Nrm n P
  e : ∀ P ∈ s.2, ∀ t ∈ P, ∀ e ∈ t.1, e ≤ 1000
/-- what a run wants of a row -/
structure RowG (m n : Nat) (r : MRow) : Prop where
  o : ∀ P, r.1 = some P → Nrm n P
  oe : ∀ P, r.1 = some P → ∀ t ∈ P, ∀ e ∈ t.1, e ≤ 1000
  l : r.2.length = m
  s : ∀ s ∈ r.2, StG n s
theorem RowOk.g {m n de sz : Nat} {r : MRow} (h : RowOk m n de sz r) (hd : de ≤ 1000) : RowG m n r := ⟨fun P hP => (h.o P hP).nrm, fun P hP => (h.o P hP).ex hd, h.l, fun s hs => ⟨(h.s s hs).l, fun P hP => ((h.s s hs).p P hP).nrm, fun P hP => ((h.s s hs).p P hP).ex hd⟩⟩
theorem getRow {rs : List MRow} {m : Nat} (h : m < rs.length) : rs.getD m (none, []) = rs[m] := by rw [List.getD_eq_getElem?_getD, List.getElem?_eq_getElem h, Option.getD_some]
end CT
namespace CT
open PySem PySem.Spec PySem.Calls PyProof.Rows L2 He PL
end CT
namespace CT
open PySem PySem.Spec PySem.Calls PyProof.Rows L2 He PL
theorem eqd_flat {n : Nat} {a b : D} (h : flatEq a b = true) : eqdD n a b = true := by
  cases n with
  | zero => exact h
  | succ n => unfold eqdD; rw [h]; rfl
theorem eqd_int {n : Nat} {i : Int} : eqdD n (.int i) (.int i) = true := eqd_flat (by simp [flatEq])
theorem eqd_str {n : Nat} {i : Str} : eqdD n (.str i) (.str i) = true := eqd_flat (by simp [flatEq])
theorem eqd_bl {n : Nat} {b : Bool} : eqdD n (.bl b) (.bl b) = true := eqd_flat (by simp [flatEq])
theorem eqd_list {n : Nat} {A B : D} {as bs : List D} (mk : listsOf A B = some (as, bs)) (h1 : as.length ≤ 10000) (h2 : as.length = bs.length) (h : ∀ (i : Nat) (a b : D), as[i]? = some a → bs[i]? = some b → eqdD n a b = true) : eqdD (n + 1) A B = true := by
  unfold eqdD
  rw [mk]
  simp only [Bool.or_eq_true]
  refine .inr ?_
  rw [Bool.and_eq_true, Bool.and_eq_true, decide_eq_true_eq, decide_eq_true_eq, List.all_eq_true]
  refine ⟨h1, h2, fun p hp => ?_⟩
  obtain ⟨i, hi⟩ := List.mem_iff_getElem?.mp hp
  rw [List.getElem?_zip_eq_some] at hi
  exact h i _ _ hi.1 hi.2
theorem eqd_three {n : Nat} {A B a1 a2 a3 b1 b2 b3 : D} (mk : listsOf A B = some ([a1, a2, a3], [b1, b2, b3])) (h1 : eqdD n a1 b1 = true) (h2 : eqdD n a2 b2 = true) (h3 : eqdD n a3 b3 = true) : eqdD (n + 1) A B = true := eqd_list mk (show 3 ≤ 10000 by decide) rfl fun i a b ha hb => by
  match i, ha, hb with
  | 0, ha, hb => cases ha; cases hb; exact h1
  | 1, ha, hb => cases ha; cases hb; exact h2
  | 2, ha, hb => cases ha; cases hb; exact h3
theorem same_ok {n : Nat} {a b : D} {Q : D → Prop} {X : Exc → Prop} (h : eqdD n a b = true) (q : Q (.bl true)) : WF (f_same n) [a, b] Q X := WF_of (show (if eqdD n a b = true then FRes.ok (.bl true) else FRes.fault) = _ by rw [if_pos h]) q
end CT
namespace CT
open PySem PySem.Spec PySem.Calls PyProof.Rows L2 He PL
end CT
namespace CT
open PySem PySem.Spec PySem.Calls PyProof.Rows L2 He PL
theorem val_sz {D E n m d M L : Nat} {P : Tab} {xs : List Rat} (hP : ∀ t ∈ P, Sz D n t.2 ∧ t.1.length ≤ xs.length ∧ (∀ e ∈ t.1, 0 ≤ e) ∧ t.1.sum ≤ (d : Int)) (hx : ∀ x ∈ xs, Sz E m x) (h1 : m ≤ M) (h2 : E ≤ M) (hL : P.length ≤ L) : Sz (D * E ^ d) (L * (n * M ^ d)) (val P xs) := by
  have wide : ∀ i, i ≤ P.length → Sz (D * E ^ d) (i * (n * M ^ d)) (vsum P xs i) := fun i => by
    induction i with
    | zero => intro _; rw [Nat.zero_mul]; exact Sz.zero _ _
    | succ i ih =>
      intro hi
      have a := ih (by omega)
      have ht : P.getD i ([], 0) ∈ P := by
        rw [List.getD_eq_getElem?_getD, List.getElem?_eq_getElem (by omega)]
        exact List.getElem_mem _
      obtain ⟨z, hl, h0, hs⟩ := hP _ ht
      have b : Sz (D * E ^ d) (n * M ^ d) (mvs (P.getD i ([], 0)).2 xs (P.getD i ([], 0)).1 (P.getD i ([], 0)).1.length) := by
        refine (Sz.mvs z hx hl _ (Nat.le_refl _)).lift ?_ h1 h2
        have := esum_le h0 (P.getD i ([], 0)).1.length
        omega
      rw [Nat.succ_mul]
      exact a.add b
  exact (wide _ (Nat.le_refl _)).mono (Nat.mul_le_mul_right _ hL)
/-- sizes behind words: denominators, numerators -/
def szR (d : Nat) : Nat → Nat × Nat
  | 0 => (6, 30)
  | i + 1 => (6 * (szR d i).1 ^ d, 3 * (90 * (max (szR d i).2 (szR d i).1) ^ d))
def szOk (d k : Nat) : Bool := (List.range (k + 2)).all fun i => decide (0 < (szR d i).1 ∧ (szR d i).1 < 2 ^ 1500 ∧ (szR d i).2 < 2 ^ 1500)
theorem szOk_at {d k i : Nat} (h : szOk d k = true) (hi : i ≤ k + 1) : OkS (szR d i).1 (szR d i).2 := of_decide_eq_true (p := 0 < (szR d i).1 ∧ (szR d i).1 < 2 ^ 1500 ∧ (szR d i).2 < 2 ^ 1500) (List.all_eq_true.mp h i (List.mem_range.mpr (by omega)))
theorem Drw.szs {n de : Nat} {P : Tab} (h : Drw n de P) {xs : List Rat} (hx : xs.length = n) : ∀ t ∈ P, Sz 6 90 t.2 ∧ t.1.length ≤ xs.length ∧ (∀ e ∈ t.1, 0 ≤ e) ∧ t.1.sum ≤ (de : Int) := fun t ht => by
  have := h.sz t.1
  rw [gt_mem h.nrm.nd ht] at this
  obtain ⟨k1, k2⟩ := h.nrm.ln t ht
  exact ⟨this, by omega, k2, h.dg t ht⟩
theorem Drw.vok {n de k i : Nat} {P : Tab} (h : Drw n de P) {xs : List Rat} (hx : xs.length = n) (hs : szOk de k = true) (hi : i ≤ k) (hz : ∀ x ∈ xs, Sz (szR de i).1 (szR de i).2 x) : VOk P xs := by
  have o := szOk_at hs (i := i) (by omega)
  have o1 := szOk_at hs (i := i + 1) (by omega)
  exact VOk.of (h.szs hx) hz (Nat.le_max_left _ _) (Nat.le_max_right _ _) h.len o.1 (Nat.lt_of_lt_of_le o.1 (Nat.le_max_right _ _)) o1 (by decide) o
theorem runM_sz {m n de k : Nat} {rs : List MRow} {xs : List Rat} (hR : ∀ r ∈ rs, RowOk m n de rs.length r) (h0 : 0 < rs.length) (hx : xs.length = n) (hz : ∀ x ∈ xs, Sz 6 30 x) : ∀ {ks : List Nat}, (∀ k ∈ ks, k < m) → ∀ i, i ≤ ks.length → (runM rs (ks.take i) (0, xs)).1 < rs.length ∧ (runM rs (ks.take i) (0, xs)).2.length = n ∧ ∀ x ∈ (runM rs (ks.take i) (0, xs)).2, Sz (szR de i).1 (szR de i).2 x := fun {ks} hk i => by
  induction i with
  | zero => intro _; exact ⟨h0, hx, hz⟩
  | succ i ih =>
    intro hi
    obtain ⟨m1, m2, m3⟩ := ih (by omega)
    have hki : ks[i]? = some ks[i] := List.getElem?_eq_getElem (by omega)
    have eT : ks.take (i + 1) = ks.take i ++ [ks[i]] := by rw [List.take_add_one, hki]; rfl
    rw [eT, runM_snoc]
    generalize runM rs (ks.take i) (0, xs) = st at m1 m2 m3 ⊢
    obtain ⟨mo, ys⟩ := st
    have R := hR _ (List.getElem_mem m1)
    have kL := hk ks[i] (List.getElem_mem _)
    have e : stepM rs mo ks[i] ∈ (rs[mo]).2 := by
      unfold stepM
      rw [getRow m1, List.getD_eq_getElem?_getD, List.getElem?_eq_getElem (by rw [R.l]; exact kL), Option.getD_some]
      exact List.getElem_mem _
    have q := R.s _ e
    refine ⟨q.j, by simp only [List.length_map]; exact q.l, fun x hx => ?_⟩
    obtain ⟨P, hP, rfl⟩ := List.mem_map.mp hx
    have dP := q.p P hP
    exact val_sz (dP.szs m2) m3 (Nat.le_max_left _ _) (Nat.le_max_right _ _) dP.len
theorem RunOk.of {m n de k : Nat} {rs : List MRow} {xs : List Rat} {ks : List Nat} (hR : ∀ r ∈ rs, RowOk m n de rs.length r) (h0 : 0 < rs.length) (hx : xs.length = n) (hz : ∀ x ∈ xs, Sz 6 30 x) (hk : ∀ j ∈ ks, j < m) (hl : ks.length ≤ k) (hs : szOk de k = true) : RunOk rs n ks xs := fun i hi => by
  obtain ⟨m1, m2, m3⟩ := runM_sz (k := k) hR h0 hx hz hk i hi
  refine ⟨m1, m2, fun r hr => ⟨fun P hP => ((hR r hr).o P hP).vok m2 hs (by omega) m3, fun s hs' P hP => (((hR r hr).s s hs').p P hP).vok m2 hs (by omega) m3⟩⟩
end CT
namespace CT
open PySem PySem.Spec PySem.Calls PyProof.Rows L2 He PL
local macro_rules | `(tactic| w_dflts $t) => `(tactic| simp only [slotsB, slots0, $t:ident, List.length_cons, List.length_nil, List.map_cons, List.map_nil, List.replicate, List.cons_append, List.nil_append, Nat.reduceAdd, Nat.reduceSub, Nat.zero_add])
local macro_rules | `(tactic| one_place) => `(tactic| repeat' (first | (with_reducible refine GK.pf ?_) | (with_reducible refine W_modG ?_ (fun _ _ _ => ?_); (focus (first | decide | omega))) | (with_reducible refine W_fdivG ?_ ?_ ?_ (fun _ _ => ?_); (focus (first | decide | omega)); (focus (first | decide | omega)); (focus (first | decide | omega))) | ((with_reducible apply W_app); focus rfl) | ((with_reducible apply W_b1); focus rfl) | (with_reducible refine W_mod ?_ ?_; (focus (first | decide | omega))) | (with_reducible refine W_fdiv ?_ ?_ ?_; (focus (first | decide | omega)); (focus (first | decide | omega))) | (with_reducible refine W_mul_small ?_ ?_ ?_; (focus (first | decide | omega)); (focus (first | decide | omega))) | ((with_reducible apply W_var); focus rfl) | ((with_reducible apply W_give); focus rfl) | ((with_reducible apply W_opV); focus rfl) | (with_reducible refine WG_setO ?_ ?_; focus decide) | ((with_reducible apply ex_look); focus rfl) | ((with_reducible apply ex_own); focus rfl) | ((with_reducible apply ex_ol); focus rfl) | ((with_reducible apply ex_o); focus rfl) | (with_reducible refine ⟨fun h => ?_, fun h => ?_⟩ <;> (try simp only [decide_eq_true_eq, decide_eq_false_iff_not, eqD_int, Bool.not_eq_true', Bool.not_eq_false', Int.not_le, Int.not_lt, List.length_map, pow18, Bool.false_eq_true, Bool.true_eq_false, reduceCtorEq] at h)) | ((with_reducible apply W_ok); focus rfl) | dsimp only [List.set, setS, List.foldl, wipe1, wipe2, wipe3]))
def natD (k : Nat) : D := .int k
def roomD (r : List Nat) : D := .lst (r.map natD)
structure GOk (m : Nat) (gs : List (List Nat)) (bs : List Bool) : Prop where
  r : ∀ r ∈ gs, r.length = m
  e : ∀ r ∈ gs, ∀ x ∈ r, x < gs.length
  b : bs.length = gs.length
  p : 0 < gs.length
  q : gs.length ≤ 4
theorem law_rooms_ok {d : D} (h : FeedD d) : WB f_law_rooms d [] (fun d' r => FeedD d' ∧ ∃ a t gs bs, a < 26 ∧ t < 3 ∧ r = .tup [.str (S (letL a t)), .lst (gs.map roomD), .lst (bs.map D.bl)] ∧ GOk (1 + t) gs bs) fun _ _ => False := by
  refine WB_run ?_
  w_dflts n_law_rooms
  unfold g_law_rooms_body
  one_place
  refine (letters_ok h).mono (fun d1 r ⟨h1, a, t, ha, ht, e⟩ => ?_) (fun _ _ => False.elim)
  subst e
  one_place
  refine (take_ok h1 (by omega) (by omega)).mono (fun d2 r ⟨h2, g, hg, e⟩ => ?_) (fun _ _ => False.elim)
  subst e
  one_place
  have ll : (letL a t).length = 1 + t := by unfold letL; rw [List.length_map, List.length_range]
  refine W_range1 (by omega) (by omega) ?_
  refine inv_lc (J := D × List (List Nat)) (fun i j => [(0, ow j.1)]) (fun i acc j => FeedD j.1 ∧ acc = j.2.map roomD ∧ j.2.length = i ∧ ∀ r ∈ j.2, r.length = 1 + t ∧ ∀ x ∈ r, x < 1 + g) ?_ (fun i d acc j hd hj => ?_) (fun acc j hj => ?_)
  · exact ⟨⟨d2, []⟩, ⟨h2, rfl, rfl, by simp⟩, rfl⟩
  · obtain ⟨d3, gs⟩ := j
    obtain ⟨h3, rfl, hl, hr⟩ := hj
    obtain ⟨rfl, hi⟩ := rng_at hd
    have hi : i < 1 + g := by omega
    one_place
    rw [signs_S]
    refine inv_lc (J := D × List Nat) (fun i j => [(0, ow j.1)]) (fun i acc j => FeedD j.1 ∧ acc = j.2.map natD ∧ j.2.length = i ∧ ∀ x ∈ j.2, x < 1 + g) ?_ (fun n d acc j hd hj => ?_) (fun acc j hj => ?_)
    · exact ⟨⟨d3, []⟩, ⟨h3, rfl, rfl, by simp⟩, rfl⟩
    · obtain ⟨d4, xs⟩ := j
      obtain ⟨h4, rfl, hl4, hx⟩ := hj
      have hn := (List.getElem?_eq_some_iff.mp hd).1
      rw [List.length_map, ll] at hn
      have hl4 : xs.length = n := hl4
      one_place
      refine (take_ok h4 (by omega) (by omega)).mono (fun d5 r ⟨h5, x, hx5, e⟩ => ?_) (fun _ _ => False.elim)
      subst e
      refine ⟨lim_of (by rw [List.length_map]; show xs.length + 1 ≤ _; omega), ⟨d5, xs ++ [x]⟩, ⟨h5, by rw [List.map_append]; rfl, by simp [hl4], mem_snoc hx (by omega)⟩, rfl⟩
    · obtain ⟨d4, xs⟩ := j
      obtain ⟨h4, rfl, hl4, hx⟩ := hj
      rw [List.length_map, ll] at hl4
      have hl : gs.length = i := hl
      refine ⟨lim_of (by rw [List.length_map]; show gs.length + 1 ≤ _; omega), ⟨d4, gs ++ [xs]⟩, ⟨h4, by rw [List.map_append]; rfl, by simp [hl], mem_snoc hr ⟨hl4, hx⟩⟩, rfl⟩
  · obtain ⟨d3, gs⟩ := j
    obtain ⟨h3, rfl, hl, hr⟩ := hj
    rw [rng_len] at hl
    have hl : gs.length = 1 + g := by have hl : gs.length = _ := hl; omega
    one_place
    refine W_range1 (by omega) (by omega) ?_
    refine inv_lc (J := D × List Bool) (fun i j => [(0, ow j.1)]) (fun i acc j => FeedD j.1 ∧ acc = j.2.map D.bl ∧ j.2.length = i) ?_ (fun i d acc j hd hj => ?_) (fun acc j hj => ?_)
    · exact ⟨⟨d3, []⟩, ⟨h3, rfl, rfl⟩, rfl⟩
    · obtain ⟨d4, bs⟩ := j
      obtain ⟨h4, rfl, hl4⟩ := hj
      obtain ⟨rfl, hi⟩ := rng_at hd
      have hl4 : bs.length = i := hl4
      one_place
      refine (take_ok h4 (by omega) (by omega)).mono (fun d5 r ⟨h5, x, hx5, e⟩ => ?_) (fun _ _ => False.elim)
      subst e
      one_place
      refine ⟨lim_of (by rw [List.length_map]; show bs.length + 1 ≤ _; omega), ⟨d5, bs ++ [_]⟩, ⟨h5, by rw [List.map_append]; rfl, by simp [hl4]⟩, rfl⟩
    · obtain ⟨d4, bs⟩ := j
      obtain ⟨h4, rfl, hl4⟩ := hj
      rw [rng_len] at hl4
      have hl4 : bs.length = 1 + g := by have hl4 : bs.length = _ := hl4; omega
      one_place
      exact ⟨h4, a, t, gs, bs, by omega, by omega, rfl, fun r h => (hr r h).1, fun r h x hx => by have := (hr r h).2 x hx; omega, by omega, by omega, by omega⟩
def guardD (L : List Nat) (gs : List (List Nat)) (bs : List Bool) : D := .own "Guard" [("signs", .str (S L)), ("rows", .lst (gs.map roomD)), ("ends", .lst (bs.map D.bl))]
end CT
namespace CT
open PySem PySem.Spec PySem.Calls PyProof.Rows L2 He PL
theorem room_lt {gs : List (List Nat)} {bs : List Bool} {m room k : Nat} (G : GOk m gs bs) (hr : room < gs.length) (hk : k < m) : (gs.getD room []).getD k 0 < gs.length := by
  have e : gs.getD room [] = gs[room] := by rw [List.getD_eq_getElem?_getD, List.getElem?_eq_getElem hr, Option.getD_some]
  have hm := List.getElem_mem hr
  have hl := G.r _ hm
  rw [e, List.getD_eq_getElem?_getD, List.getElem?_eq_getElem (by omega), Option.getD_some]
  exact G.e _ hm _ (List.getElem_mem _)
/-- the room behind a word -/
def roomM (gs : List (List Nat)) : List Nat → Nat → Nat
  | [], r => r
  | k :: w, r => roomM gs w ((gs.getD r []).getD k 0)
theorem roomM_snoc (gs : List (List Nat)) : ∀ (w : List Nat) (k r : Nat), roomM gs (w ++ [k]) r = (gs.getD (roomM gs w r) []).getD k 0
  | [], k, r => rfl
  | j :: w, k, r => roomM_snoc gs w k _
theorem roomM_lt {gs : List (List Nat)} {bs : List Bool} {m : Nat} (G : GOk m gs bs) : ∀ {w : List Nat} {r : Nat}, (∀ k ∈ w, k < m) → r < gs.length → roomM gs w r < gs.length
  | [], r, _, h => h
  | k :: w, r, hk, h => roomM_lt (w := w) G (fun j hj => hk j (List.mem_cons_of_mem _ hj)) (room_lt G h (hk k List.mem_cons_self))
end CT
namespace CT
open PySem PySem.Spec PySem.Calls PyProof.Rows L2 He PL
local macro_rules | `(tactic| w_dflts $t) => `(tactic| simp only [slotsB, slots0, $t:ident, List.length_cons, List.length_nil, List.map_cons, List.map_nil, List.replicate, List.cons_append, List.nil_append, Nat.reduceAdd, Nat.reduceSub, Nat.zero_add])
local macro_rules | `(tactic| one_place) => `(tactic| repeat' (first | (with_reducible refine GK.pf ?_) | (with_reducible refine W_modG ?_ (fun _ _ _ => ?_); (focus (first | decide | omega))) | (with_reducible refine W_fdivG ?_ ?_ ?_ (fun _ _ => ?_); (focus (first | decide | omega)); (focus (first | decide | omega)); (focus (first | decide | omega))) | ((with_reducible apply W_app); focus rfl) | ((with_reducible apply W_b1); focus rfl) | (with_reducible refine W_mod ?_ ?_; (focus (first | decide | omega))) | (with_reducible refine W_fdiv ?_ ?_ ?_; (focus (first | decide | omega)); (focus (first | decide | omega))) | (with_reducible refine W_mul_small ?_ ?_ ?_; (focus (first | decide | omega)); (focus (first | decide | omega))) | ((with_reducible apply W_var); focus rfl) | ((with_reducible apply W_give); focus rfl) | ((with_reducible apply W_opV); focus rfl) | (with_reducible refine WG_setO ?_ ?_; focus decide) | ((with_reducible apply ex_look); focus rfl) | ((with_reducible apply ex_own); focus rfl) | ((with_reducible apply ex_ol); focus rfl) | ((with_reducible apply ex_o); focus rfl) | (with_reducible refine ⟨fun h => ?_, fun h => ?_⟩ <;> (try simp only [decide_eq_true_eq, decide_eq_false_iff_not, eqD_int, Bool.not_eq_true', Bool.not_eq_false', Int.not_le, Int.not_lt, List.length_map, pow18, Bool.false_eq_true, Bool.true_eq_false, reduceCtorEq] at h)) | ((with_reducible apply W_ok); focus rfl) | dsimp only [List.set, setS, List.foldl, wipe1, wipe2, wipe3]))
theorem Guard_later_ok {L : List Nat} {gs : List (List Nat)} {bs : List Bool} {room k : Nat} (nd : L.Nodup) (G : GOk L.length gs bs) (hr : room < gs.length) (hk : k < L.length) : WF f_Guard_later [guardD L gs bs, .int room, .str (S [L.getD k 0])] (fun r => r = natD ((gs.getD room []).getD k 0)) fun _ => False := by
  have e : gs.getD room [] = gs[room] := by rw [List.getD_eq_getElem?_getD, List.getElem?_eq_getElem hr, Option.getD_some]
  have rl := G.r _ (List.getElem_mem hr)
  refine WF_run ?_
  w_dflts n_Guard_later
  unfold g_Guard_later_body guardD
  have er : L2.atI (gs.map roomD) (room : Int) = some (roomD gs[room]) := by
    rw [atI_get (l := gs.map roomD) (j := room) (by rw [List.length_map]; exact hr), List.getElem_map]
  have es : L2.atI ((gs[room]).map natD) (k : Int) = some (natD ((gs.getD room []).getD k 0)) := by
    rw [atI_get (l := (gs[room]).map natD) (j := k) (by rw [List.length_map]; omega), List.getElem_map, e, List.getD_eq_getElem?_getD, List.getElem?_eq_getElem (by omega), Option.getD_some]
  one_place
  refine W_ixL er ?_
  unfold roomD
  one_place
  refine W_index nd (getD_mem hk).2 ?_
  exact W_ixL es rfl
theorem W_gLen {ρ : List PL.Slot} {X : Exc → List PL.Slot → Prop} {Q : D → List PL.Slot → Prop} {L : List Nat} {gs : List (List Nat)} {bs : List Bool} (h : gs.length ≤ 1000) (q : Q (.int gs.length) ρ) : WM (gLenO "Guard" f_Guard_len [guardD L gs bs]) ρ Q X := by
  have e : f_Guard_len [guardD L gs bs] = .ok (.int (gs.length : Int)) := by
    show FRes.ok (.int ((gs.map roomD).length : Int)) = _
    rw [List.length_map]
  unfold guardD at e ⊢
  with_reducible refine W_lenN e h q
theorem guard_letters {L : List Nat} {gs : List (List Nat)} {bs : List Bool} {Q : D → Prop} {X : Exc → Prop} (q : Q (.str (S L))) : WF f_Guard_letters [guardD L gs bs] Q X := WF_of (r := .str (S L)) rfl q
end CT
namespace CT
open PySem PySem.Spec PySem.Calls PyProof.Rows L2 He PL
local macro_rules | `(tactic| w_dflts $t) => `(tactic| simp only [slotsB, slots0, $t:ident, List.length_cons, List.length_nil, List.map_cons, List.map_nil, List.replicate, List.cons_append, List.nil_append, Nat.reduceAdd, Nat.reduceSub, Nat.zero_add])
local macro_rules | `(tactic| one_place) => `(tactic| repeat' (first | (with_reducible refine GK.pf ?_) | (with_reducible refine W_modG ?_ (fun _ _ _ => ?_); (focus (first | decide | omega))) | (with_reducible refine W_fdivG ?_ ?_ ?_ (fun _ _ => ?_); (focus (first | decide | omega)); (focus (first | decide | omega)); (focus (first | decide | omega))) | ((with_reducible apply W_app); focus rfl) | ((with_reducible apply W_b1); focus rfl) | (with_reducible refine W_mod ?_ ?_; (focus (first | decide | omega))) | (with_reducible refine W_fdiv ?_ ?_ ?_; (focus (first | decide | omega)); (focus (first | decide | omega))) | (with_reducible refine W_mul_small ?_ ?_ ?_; (focus (first | decide | omega)); (focus (first | decide | omega))) | ((with_reducible apply W_var); focus rfl) | ((with_reducible apply W_give); focus rfl) | ((with_reducible apply W_opV); focus rfl) | (with_reducible refine WG_setO ?_ ?_; focus decide) | ((with_reducible apply ex_look); focus rfl) | ((with_reducible apply ex_own); focus rfl) | ((with_reducible apply ex_ol); focus rfl) | ((with_reducible apply ex_o); focus rfl) | (with_reducible refine ⟨fun h => ?_, fun h => ?_⟩ <;> (try simp only [decide_eq_true_eq, decide_eq_false_iff_not, eqD_int, Bool.not_eq_true', Bool.not_eq_false', Int.not_le, Int.not_lt, List.length_map, pow18, Bool.false_eq_true, Bool.true_eq_false, reduceCtorEq] at h)) | ((with_reducible apply W_ok); focus rfl) | dsimp only [List.set, setS, List.foldl, wipe1, wipe2, wipe3]))
theorem WF_eq {f : Fn} {ds : List D} {r : D} (h : WF f ds (fun d => d = r) fun _ => False) : f ds = .ok r := by
  unfold WF at h
  cases e : f ds with
  | ok a => rw [e] at h; rw [h]
  | exc z => rw [e] at h; exact h.elim
  | fault => rw [e] at h; exact h.elim
theorem letL_len {a t : Nat} : (letL a t).length = 1 + t := by simp [letL]
theorem letL_good : ∀ a, a < 26 → ∀ t, t < 3 → (letL a t).Nodup ∧ ∀ c ∈ letL a t, c < 1114112 := by decide +kernel
theorem law_word_ok {d : D} {L : List Nat} {k : Nat} (h : FeedD d) (h0 : 0 < L.length) (h1 : L.length ≤ 1000) (hk : k ≤ 100) : WB f_law_word d [.str (S L), .int k] (fun d' r => FeedD d' ∧ ∃ ks : List Nat, ks.length ≤ k ∧ (∀ j ∈ ks, j < L.length) ∧ r = .str (S (wordL L ks))) fun _ _ => False := by
  refine WB_run ?_
  w_dflts n_law_word
  unfold g_law_word_body
  one_place
  refine (take_ok h (by omega) (by omega)).mono (fun d1 r ⟨h1', g, hg, e⟩ => ?_) (fun _ _ => False.elim)
  subst e
  one_place
  refine W_range1 (by omega) (by omega) ?_
  refine inv_lc (J := D × List Nat) (fun i j => [(0, ow j.1)]) (fun i acc j => FeedD j.1 ∧ acc = (j.2.map fun k => [L.getD k 0]).map (fun l => D.str (S l)) ∧ j.2.length = i ∧ ∀ x ∈ j.2, x < L.length) ?_ (fun i d acc j hd hj => ?_) (fun acc j hj => ?_)
  · exact ⟨⟨d1, []⟩, ⟨h1', rfl, rfl, by simp⟩, rfl⟩
  · obtain ⟨d3, ks⟩ := j
    obtain ⟨h3, rfl, hl, hr⟩ := hj
    obtain ⟨rfl, hi⟩ := rng_at hd
    have hl : ks.length = i := hl
    one_place
    refine (pickS_ok h3 h0 (by omega)).mono (fun d4 r ⟨h4, c, hc, e⟩ => ?_) (fun _ _ => False.elim)
    subst e
    obtain ⟨k, hk', rfl⟩ := List.mem_iff_getElem.mp hc
    refine ⟨lim_of (by rw [List.length_map, List.length_map]; show ks.length + 1 ≤ _; omega), ⟨d4, ks ++ [k]⟩, ⟨h4, ?_, by simp [hl], ?_⟩, rfl⟩
    · rw [List.map_append, List.map_append]
      simp [List.getD_eq_getElem?_getD, List.getElem?_eq_getElem hk']
    · intro x hx
      rcases List.mem_append.mp hx with hx | hx
      · exact hr x hx
      · rw [List.mem_singleton.mp hx]; exact hk'
  · obtain ⟨d3, ks⟩ := j
    obtain ⟨h3, rfl, hl, hr⟩ := hj
    rw [rng_len] at hl
    have hl : ks.length = ((g : Nat) : Int).toNat := hl
    refine W_join ?_ ⟨_, rfl, h3, ks, by omega, hr, ?_⟩
    · rw [List.map_map]
      have : ∀ l : List Nat, (l.map (List.length ∘ fun k => [L.getD k 0])).sum = l.length := fun l => by
        induction l with
        | nil => rfl
        | cons c l ih => simp only [List.map_cons, List.sum_cons, ih, Function.comp_apply, List.length_cons, List.length_nil]; omega
      rw [this]
      omega
    · have : ∀ l : List Nat, (l.map fun k => [L.getD k 0]).flatten = wordL L l := fun l => by
        induction l with
        | nil => rfl
        | cons c l ih => rw [List.map_cons, List.flatten_cons, ih]; rfl
      rw [this]
/-- a point as == sees it -/
def ptP (xs : List Rat) : List PyData := xs.map fun x => .tuple [.int x.num, .int (x.den : Int)]
theorem FrV.py {d : D} {x : Rat} (h : FrV d x) : PL.py d = .tuple [.int x.num, .int (x.den : Int)] ∧ PL.pyB d = true := by
  rcases h with rfl | rfl <;> exact ⟨rfl, rfl⟩
theorem PtR.py : ∀ {pt : List D} {xs : List Rat}, PtR pt xs → PL.pyL pt = ptP xs ∧ PL.pyBL pt = true
  | [], [], _ => ⟨rfl, rfl⟩
  | [], _ :: _, h => by have := h.1; simp at this
  | _ :: _, [], h => by have := h.1; simp at this
  | d :: pt, x :: xs, h => by
    have a := FrV.py (h.2 0 d rfl)
    have b := PtR.py (pt := pt) (xs := xs) ⟨by have := h.1; simpa using this, fun j e he => by have := h.2 (j + 1) e he; simpa using this⟩
    refine ⟨?_, ?_⟩
    · rw [PL.pyL, a.1, b.1]; rfl
    · rw [PL.pyBL, a.2, b.2]; rfl
theorem ptP_ok : ∀ xs : List Rat, PyData.canLayAll0 (ptP xs) = true ∧ PyData.depthAll (ptP xs) ≤ 1
  | [] => ⟨rfl, by decide⟩
  | x :: xs => by
    obtain ⟨a, b⟩ := ptP_ok xs
    refine ⟨?_, ?_⟩
    · show (PyData.canLay0 (.tuple [.int x.num, .int (x.den : Int)]) && PyData.canLayAll0 (ptP xs)) = true
      rw [a]; rfl
    · show max (PyData.depth (.tuple [.int x.num, .int (x.den : Int)])) (PyData.depthAll (ptP xs)) ≤ 1
      exact Nat.max_le.mpr ⟨show max 0 (max 0 0) + 1 ≤ 1 by decide, b⟩
theorem PtR.eqB {pt : List D} {xs : List Rat} (h : PtR pt xs) : PL.eqB (.lst pt) = true := by
  obtain ⟨a, b⟩ := h.py
  obtain ⟨c, d⟩ := ptP_ok xs
  unfold PL.eqB
  rw [PL.pyB, b, PL.py, a]
  show (true && (PyData.canLayAll0 (ptP xs) && decide (PyData.depthAll (ptP xs) + 1 ≤ 64))) = true
  rw [c, decide_eq_true (by omega)]
  rfl
theorem PtR.eqD {pt qt : List D} {xs : List Rat} (h : PtR pt xs) (g : PtR qt xs) : PL.eqD (.lst pt) (.lst qt) = true := by
  unfold PL.eqD
  rw [PL.py, PL.py, h.py.1, g.py.1]
  exact PySem.SeqAt.eqv_refl _ (ptP_ok xs).1
end CT
namespace CT
open PySem PySem.Spec PySem.Calls PyProof.Rows L2 He PL
theorem whyRes_exc {R : List (Str × Option Str)} {g : M D} {ρ : List PL.Slot} {E : Exc} (t : Tells R E) (h : WM g (shOnly ρ) (fun _ _ => False) (fun e _ => e = E)) : whyRes R g ρ = some (E.n, E.d) := by
  obtain ⟨t, e, h⟩ := whyRes_ok (R := R) (QS := fun t => t = (E.n, E.d)) (h.mono (fun _ _ => False.elim) (fun e _ h => by subst h; exact ⟨t, rfl⟩))
  rw [e, h]
end CT
namespace CT
open PySem PySem.Spec PySem.Calls PyProof.Rows L2 He PL
local macro_rules | `(tactic| w_dflts $t) => `(tactic| simp only [slotsB, slots0, $t:ident, List.length_cons, List.length_nil, List.map_cons, List.map_nil, List.replicate, List.cons_append, List.nil_append, Nat.reduceAdd, Nat.reduceSub, Nat.zero_add])
local macro_rules | `(tactic| one_place) => `(tactic| repeat' (first | (with_reducible refine GK.pf ?_) | (with_reducible refine W_modG ?_ (fun _ _ _ => ?_); (focus (first | decide | omega))) | (with_reducible refine W_fdivG ?_ ?_ ?_ (fun _ _ => ?_); (focus (first | decide | omega)); (focus (first | decide | omega)); (focus (first | decide | omega))) | ((with_reducible apply W_app); focus rfl) | ((with_reducible apply W_b1); focus rfl) | (with_reducible refine W_mod ?_ ?_; (focus (first | decide | omega))) | (with_reducible refine W_fdiv ?_ ?_ ?_; (focus (first | decide | omega)); (focus (first | decide | omega))) | (with_reducible refine W_mul_small ?_ ?_ ?_; (focus (first | decide | omega)); (focus (first | decide | omega))) | ((with_reducible apply W_var); focus rfl) | ((with_reducible apply W_give); focus rfl) | ((with_reducible apply W_opV); focus rfl) | (with_reducible refine WG_setO ?_ ?_; focus decide) | ((with_reducible apply ex_look); focus rfl) | ((with_reducible apply ex_own); focus rfl) | ((with_reducible apply ex_ol); focus rfl) | ((with_reducible apply ex_o); focus rfl) | (with_reducible refine ⟨fun h => ?_, fun h => ?_⟩ <;> (try simp only [decide_eq_true_eq, decide_eq_false_iff_not, eqD_int, Bool.not_eq_true', Bool.not_eq_false', Int.not_le, Int.not_lt, List.length_map, pow18, Bool.false_eq_true, Bool.true_eq_false, reduceCtorEq] at h)) | ((with_reducible apply W_ok); focus rfl) | dsimp only [List.set, setS, List.foldl, wipe1, wipe2, wipe3]))
theorem law_room_ok {L ks : List Nat} {gs : List (List Nat)} {bs : List Bool} (nd : L.Nodup) (G : GOk L.length gs bs) (hk : ∀ k ∈ ks, k < L.length) : WF f_law_room [.str (S L), .lst (gs.map roomD), .str (S (wordL L ks))] (fun r => r = natD (roomM gs ks 0)) fun _ => False := by
  refine WF_run ?_
  w_dflts n_law_room
  unfold g_law_room_body
  one_place
  refine inv_for (J := PL.Slot) (fun i j => [(3, sh (natD (roomM gs (ks.take i) 0))), (4, j)]) (fun _ _ => True) ?_ (fun i d j hd _ => ?_) (fun j _ => ?_)
  · exact ⟨_, trivial, rfl⟩
  · rw [signs_S, List.getElem?_map] at hd
    obtain ⟨c, hc, rfl⟩ := Option.map_eq_some_iff.mp hd
    obtain ⟨k, hki, rfl⟩ := wordL_at hc
    have kL := hk k (List.mem_of_getElem? hki)
    have eT : ks.take (i + 1) = ks.take i ++ [k] := by rw [List.take_add_one, hki]; rfl
    rw [eT, roomM_snoc]
    have hr := roomM_lt (w := ks.take i) G (fun k z => hk k (List.mem_of_mem_take z)) G.p
    generalize roomM gs (ks.take i) 0 = room at hr ⊢
    have e : gs.getD room [] = gs[room] := by rw [List.getD_eq_getElem?_getD, List.getElem?_eq_getElem hr, Option.getD_some]
    have rl := G.r _ (List.getElem_mem hr)
    have er : L2.atI (gs.map roomD) (room : Int) = some (roomD gs[room]) := by
      rw [atI_get (l := gs.map roomD) (j := room) (by rw [List.length_map]; exact hr), List.getElem_map]
    have es : L2.atI ((gs[room]).map natD) (k : Int) = some (natD ((gs.getD room []).getD k 0)) := by
      rw [atI_get (l := (gs[room]).map natD) (j := k) (by rw [List.length_map]; omega), List.getElem_map, e, List.getD_eq_getElem?_getD, List.getElem?_eq_getElem (by omega), Option.getD_some]
    unfold natD at es ⊢
    one_place
    refine W_ixL er ?_
    unfold roomD natD
    one_place
    refine W_index nd (getD_mem kL).2 ?_
    refine W_ixL es ?_
    exact ⟨_, trivial, rfl⟩
  · have el : (PL.signs (S (wordL L ks))).length = ks.length := by rw [signs_S, List.length_map, wordL_len]
    rw [el, List.take_length]
    one_place
def rowI (r : List Int) : D := .lst (r.map D.int)
/-- a row that is at fault: n rooms, m letters, k ends -/
def gBad (m n k : Nat) (rows : List (List Int)) (i : Nat) : Bool := decide (4 ≤ i) || (!(decide ((rows.getD i []).length = m) && (rows.getD i []).all fun x => decide (0 ≤ x) && decide (x < n)) || decide (k ≤ i))
/-- where the fault is told -/
def GFault (m k : Nat) (rows : List (List Int)) (i : Nat) : Prop := (∀ j < i, gBad m rows.length k rows j = false) ∧ ((i < rows.length ∧ gBad m rows.length k rows i = true) ∨ (i = rows.length ∧ (rows.length = 0 ∨ rows.length < k)))
def GFine (m k : Nat) (rows : List (List Int)) : Prop := (∀ j < rows.length, gBad m rows.length k rows j = false) ∧ 0 < rows.length ∧ k ≤ rows.length
theorem Guard_init_gen {L : List Nat} {dr de : D} {rs es : List D} {rows : List (List Int)} (hL : L.length ≤ 1000) (hc : f_check_letters [.str (S L), .int 3] = .ok .non) (sr : Sq dr rs) (se : Sq de es) (hl : rs.length = rows.length)
    (hs : ∀ i d, rs[i]? = some d → Sq d ((rows.getD i []).map D.int)) (b1 : rows.length ≤ 1000) (b2 : es.length ≤ 1000) (b3 : ∀ i, (rows.getD i []).length ≤ 1000) :
    WB f_Guard_init (.own "Guard" []) [.str (S L), dr, de] (fun d r => r = .non ∧ d = .own "Guard" [("signs", .str (S L)), ("rows", .lst (rows.map rowI)), ("ends", .lst es)] ∧ GFine L.length es.length rows) fun e _ => ∃ i : Nat, e = ⟨"InvalidGuard", some "at", .int i⟩ ∧ GFault L.length es.length rows i := by
  refine WB_run ?_
  w_dflts n_Guard_init
  unfold g_Guard_init_body
  refine WG_seq (WG_drop (W_call (W_cons (W_var rfl (W_cons (W_c (W_nil ⟨rfl, WF_of hc ?_⟩)))))))
  one_place
  refine W_enumQ sr (W_ok rfl ?_)
  refine inv_for (J := PL.Slot × PL.Slot × PL.Slot) (fun _ j => [(4, j.1), (5, j.2.1), (6, j.2.2)]) (fun i _ => ∀ j < i, gBad L.length rows.length es.length rows j = false) ?_ (fun i d j hd hj => ?_) (fun j hj => ?_)
  · exact ⟨⟨_, _, _⟩, (fun j h => absurd h (Nat.not_lt_zero j)), rfl⟩
  · obtain ⟨x, hx, rfl⟩ := enum_at hd
    have hi := (List.getElem?_eq_some_iff.mp hx).1
    have sx := hs i x hx
    have bx := b3 i
    have hb : gBad L.length rows.length es.length rows i = (decide (4 ≤ i) || (!(decide ((rows.getD i []).length = L.length) && (rows.getD i []).all fun x => decide (0 ≤ x) && decide (x < (rows.length : Nat))) || decide (es.length ≤ i))) := rfl
    have more : gBad L.length rows.length es.length rows i = false → ∀ j, j < i + 1 → gBad L.length rows.length es.length rows j = false := fun h j' h' => by
      rcases Nat.lt_or_ge j' i with h2 | h2
      · exact hj j' h2
      · have : j' = i := by omega
        rw [this]
        exact h
    have fault : gBad L.length rows.length es.length rows i = true → ∃ i' : Nat, (⟨"InvalidGuard", some "at", .int (i : Nat)⟩ : PL.Exc) = ⟨"InvalidGuard", some "at", .int (i' : Nat)⟩ ∧ GFault L.length es.length rows i' := fun h => ⟨i, rfl, hj, .inl ⟨by omega, h⟩⟩
    generalize rows.getD i [] = r at sx bx hb
    one_place
    refine W_lenQ sx ?_
    one_place
    refine W_lenS (by omega) ?_
    refine W_eq_int ?_
    rw [List.length_map]
    have e1 : ((r.length : Int) = (L.length : Int)) = (r.length = L.length) := by
      refine propext ⟨fun h => by omega, fun h => by omega⟩
    rw [show decide ((r.length : Int) = (L.length : Int)) = decide (r.length = L.length) from by simp only [e1]]
    cases em : decide (r.length = L.length) with
    | false =>
      rw [em, Bool.false_and, Bool.not_false, Bool.true_or, Bool.or_true] at hb
      one_place
      · exact WG_exc ⟨_, rfl, fault hb⟩
      · exact WG_exc ⟨_, rfl, fault hb⟩
    | true =>
      rw [em, Bool.true_and] at hb
      one_place
      refine W_iterQ sx (W_ok rfl ?_)
      refine I_map (l := r) (g := D.int) (f := fun x => .bl (decide (0 ≤ x) && decide (x < (rows.length : Nat)))) (by omega) (fun x hx => ?_) ?_
      · one_place
        · rename_i _ h0
          rw [decide_eq_true h0, Bool.true_and]
          refine W_lenQ sr ?_
          rw [hl]
          one_place
          exact ⟨rfl, rfl⟩
        · rename_i _ h0
          rw [decide_eq_false (by omega)]
          exact ⟨rfl, rfl⟩
      · one_place
        refine W_all (p := fun x : Int => decide (0 ≤ x) && decide (x < ((rows.length : Nat) : Int))) ?_
        cases ea : r.all (fun x : Int => decide (0 ≤ x) && decide (x < ((rows.length : Nat) : Int))) with
        | false =>
          rw [ea, Bool.not_false, Bool.true_or, Bool.or_true] at hb
          one_place
          · exact WG_exc ⟨_, rfl, fault hb⟩
          · exact WG_exc ⟨_, rfl, fault hb⟩
        | true =>
          rw [ea, Bool.not_true, Bool.false_or] at hb
          one_place
          · rename_i h4
            rw [decide_eq_true (by omega), Bool.true_or] at hb
            exact WG_exc ⟨_, rfl, fault hb⟩
          · rename_i h4
            rw [decide_eq_false (by omega), Bool.false_or] at hb
            refine W_lenQ se ?_
            one_place
            · rename_i h5
              rw [decide_eq_true (by omega)] at hb
              exact WG_exc ⟨_, rfl, fault hb⟩
            · rename_i h5
              rw [decide_eq_false (by omega)] at hb
              exact ⟨⟨_, _, _⟩, more hb, rfl⟩
  · have hj : ∀ j < rs.length, gBad L.length rows.length es.length rows j = false := fun j' h' => hj j' (by rw [PL.enumD_length]; exact h')
    have fin : (rows.length = 0 ∨ rows.length < es.length) → ∃ i' : Nat, (⟨"InvalidGuard", some "at", .int (rows.length : Nat)⟩ : PL.Exc) = ⟨"InvalidGuard", some "at", .int (i' : Nat)⟩ ∧ GFault L.length es.length rows i' := fun h => ⟨_, rfl, fun j' h' => hj j' (by omega), .inr ⟨rfl, h⟩⟩
    one_place
    refine W_lenQ sr ?_
    rw [hl]
    one_place
    · rename_i h0 _
      refine W_lenQ sr ?_
      rw [hl]
      exact WG_exc ⟨_, rfl, fin (.inl (by omega))⟩
    · rename_i h0
      refine W_lenQ se ?_
      one_place
      refine W_lenQ sr ?_
      rw [hl]
      one_place
      · rename_i h1
        refine W_lenQ sr ?_
        rw [hl]
        exact WG_exc ⟨_, rfl, fin (.inr (by omega))⟩
      · rename_i h1
        refine WG_setF (W_var rfl ⟨_, rfl, by decide, ?_⟩)
        refine WG_seq (WG_setF ?_)
        dsimp only [List.set, putD]
        one_place
        refine W_iterQ sr (W_ok rfl ?_)
        refine inv_lc (J := Unit) (fun _ _ => []) (fun i acc _ => acc = (rows.take i).map rowI) ⟨(), rfl, rfl⟩ (fun i d acc _ hd he => ?_) (fun acc _ he => ?_)
        · have hi := (List.getElem?_eq_some_iff.mp hd).1
          have sx := hs i d hd
          have et : (rows.take (i + 1)).map rowI = (rows.take i).map rowI ++ [rowI (rows.getD i [])] := by
            rw [List.take_add_one, List.getD_eq_getElem?_getD, List.getElem?_eq_getElem (by omega), List.map_append]
            rfl
          refine W_gN (W_yes ⟨fun z => (by cases z), fun _ => W_listQ (W_cons (W_var rfl (W_nil ⟨_, _, rfl, sx, ?_⟩)))⟩)
          refine ⟨lim_of (by rw [he, List.length_map, List.length_take]; omega), (), ?_, rfl⟩
          rw [et, he]
          rfl
        · rw [hl, List.take_length] at he
          subst he
          refine ⟨_, rfl, by show 1 < 1000; decide, ?_⟩
          refine WG_setF (W_listQ (W_cons (W_var rfl (W_nil ⟨_, _, rfl, se, ?_⟩))))
          refine ⟨_, rfl, by show 2 < 1000; decide, ?_⟩
          exact ⟨_, rfl, trivial, rfl, fun j' h' => hj j' (by omega), by omega, by omega⟩
theorem Guard_accepts_ok {L ks : List Nat} {gs : List (List Nat)} {bs : List Bool} (nd : L.Nodup) (G : GOk L.length gs bs) (hk : ∀ k ∈ ks, k < L.length) : WF f_Guard_accepts [guardD L gs bs, .str (S (wordL L ks))] (fun r => r = .bl (bs.getD (roomM gs ks 0) false)) fun _ => False := by
  have hb := G.b
  refine WF_run ?_
  w_dflts n_Guard_accepts
  unfold g_Guard_accepts_body
  one_place
  refine inv_for (J := PL.Slot × PL.Slot) (fun i j => [(2, sh (natD (roomM gs (ks.take i) 0))), (3, j.1), (4, j.2)]) (fun _ _ => True) ?_ (fun i d j hd _ => ?_) (fun j _ => ?_)
  · exact ⟨⟨_, _⟩, trivial, rfl⟩
  · obtain ⟨x, hx, rfl⟩ := enum_at hd
    rw [signs_S, List.getElem?_map] at hx
    obtain ⟨c, hc, rfl⟩ := Option.map_eq_some_iff.mp hx
    obtain ⟨k, hki, rfl⟩ := wordL_at hc
    have kL := hk k (List.mem_of_getElem? hki)
    have hr := roomM_lt (w := ks.take i) G (fun k z => hk k (List.mem_of_mem_take z)) G.p
    have eT : ks.take (i + 1) = ks.take i ++ [k] := by rw [List.take_add_one, hki]; rfl
    rw [eT, roomM_snoc]
    have later := Guard_later_ok (room := roomM gs (ks.take i) 0) nd G hr kL
    generalize roomM gs (ks.take i) 0 = room at hr later ⊢
    refine W_ok rfl ?_
    unfold guardD at later ⊢
    unfold natD at later ⊢
    one_place
    · rename_i h
      rw [decide_eq_true (show (#[L.getD k 0] : Array Nat)[0] ∈ L from (getD_mem kL).1)] at h
      cases h
    · refine ⟨_, rfl, rfl, ?_⟩
      one_place
      refine ⟨rfl, later.mono (fun r e => ?_) (fun _ => False.elim)⟩
      subst e
      exact ⟨⟨_, _⟩, trivial, rfl⟩
  · have el : (PL.signs (S (wordL L ks))).length = ks.length := by rw [signs_S, List.length_map, wordL_len]
    have hr := roomM_lt (w := ks) (r := 0) G hk G.p
    have ebs : L2.atI (bs.map D.bl) (((roomM gs ks 0 : Nat)) : Int) = some (.bl (bs.getD (roomM gs ks 0) false)) := by
      rw [atI_get (l := bs.map D.bl) (j := roomM gs ks 0) (by rw [List.length_map]; omega), List.getElem_map, List.getD_eq_getElem?_getD, List.getElem?_eq_getElem (by omega), Option.getD_some]
    rw [PL.enumD_length, el, List.take_length]
    generalize roomM gs ks 0 = room at ebs ⊢
    unfold guardD natD
    one_place
    exact W_ixL ebs rfl
theorem Guard_accepts_no {L ks v : List Nat} {c : Nat} {gs : List (List Nat)} {bs : List Bool} (nd : L.Nodup) (G : GOk L.length gs bs) (hk : ∀ k ∈ ks, k < L.length) (hc : c ∉ L) : WF f_Guard_accepts [guardD L gs bs, .str (S (wordL L ks ++ c :: v))] (fun _ => False) fun e => e = ⟨"UnknownLetter", some "at", .int ks.length⟩ := by
  refine WF_run ?_
  w_dflts n_Guard_accepts
  unfold g_Guard_accepts_body
  one_place
  refine inv_for (J := Nat × PL.Slot × PL.Slot) (fun i j => [(2, sh (natD j.1)), (3, j.2.1), (4, j.2.2)]) (fun i j => i ≤ ks.length ∧ j.1 < gs.length) ?_ (fun i d j hd hj => ?_) (fun j hj => ?_)
  · exact ⟨⟨0, _, _⟩, ⟨Nat.zero_le _, G.p⟩, rfl⟩
  · obtain ⟨room, j⟩ := j
    obtain ⟨hi, hr⟩ := hj
    have hr : room < gs.length := hr
    obtain ⟨x, hx, rfl⟩ := enum_at hd
    rw [signs_S, List.getElem?_map] at hx
    obtain ⟨y, hy, rfl⟩ := Option.map_eq_some_iff.mp hx
    refine W_ok rfl ?_
    rcases Nat.lt_or_ge i ks.length with z | z
    · rw [List.getElem?_append_left (by rw [wordL_len]; exact z)] at hy
      obtain ⟨k, hki, rfl⟩ := wordL_at hy
      have kL := hk k (List.mem_of_getElem? hki)
      have later := Guard_later_ok (room := room) nd G hr kL
      have lt := room_lt (bs := bs) G hr kL
      unfold guardD at later ⊢
      unfold natD at later ⊢
      one_place
      · rename_i h
        rw [decide_eq_true (show (#[L.getD k 0] : Array Nat)[0] ∈ L from (getD_mem kL).1)] at h
        cases h
      · refine ⟨_, rfl, rfl, ?_⟩
        one_place
        refine ⟨rfl, later.mono (fun r e => ?_) (fun _ => False.elim)⟩
        subst e
        exact ⟨⟨_, _, _⟩, ⟨z, lt⟩, rfl⟩
    · have ei : i = ks.length := by omega
      subst ei
      rw [List.getElem?_append_right (by rw [wordL_len]; omega), wordL_len, Nat.sub_self] at hy
      cases hy
      unfold guardD
      one_place
      · unfold WG
        rfl
      · rename_i h
        rw [decide_eq_false (show ¬ (#[c] : Array Nat)[0] ∈ L from hc)] at h
        cases h
  · obtain ⟨hi, _⟩ := hj
    rw [PL.enumD_length, signs_S, List.length_map, List.length_append, wordL_len, List.length_cons] at hi
    omega
theorem GFault.uniq {m k i j : Nat} {rows : List (List Int)} (h : GFault m k rows i) (g : GFault m k rows j) : i = j := by
  obtain ⟨h1, h2⟩ := h
  obtain ⟨g1, g2⟩ := g
  rcases Nat.lt_trichotomy i j with z | z | z
  · rcases h2 with ⟨_, h2⟩ | ⟨h2, h3⟩
    · rw [g1 i z] at h2; cases h2
    · rcases g2 with ⟨g2, _⟩ | ⟨g2, _⟩ <;> omega
  · exact z
  · rcases g2 with ⟨_, g2⟩ | ⟨g2, g3⟩
    · rw [h1 j z] at g2; cases g2
    · rcases h2 with ⟨h2, _⟩ | ⟨h2, _⟩ <;> omega
theorem GFault.no {m k i : Nat} {rows : List (List Int)} (h : GFault m k rows i) (g : GFine m k rows) : False := by
  obtain ⟨h1, h2⟩ := h
  obtain ⟨g1, g2, g3⟩ := g
  rcases h2 with ⟨h3, h2⟩ | ⟨h2, h3⟩
  · rw [g1 i h3] at h2; cases h2
  · omega
theorem Guard_init_no {L : List Nat} {dr de : D} {rs es : List D} {rows : List (List Int)} {t : Nat} (hL : L.length ≤ 1000) (hc : f_check_letters [.str (S L), .int 3] = .ok .non) (sr : Sq dr rs) (se : Sq de es) (hl : rs.length = rows.length)
    (hs : ∀ i d, rs[i]? = some d → Sq d ((rows.getD i []).map D.int)) (b1 : rows.length ≤ 1000) (b2 : es.length ≤ 1000) (b3 : ∀ i, (rows.getD i []).length ≤ 1000) (ht : GFault L.length es.length rows t) :
    WB f_Guard_init (.own "Guard" []) [.str (S L), dr, de] (fun _ _ => False) fun e _ => e = ⟨"InvalidGuard", some "at", .int (t : Nat)⟩ :=
  (Guard_init_gen hL hc sr se hl hs b1 b2 b3).mono (fun d r ⟨_, _, h⟩ => ht.no h) fun e _ ⟨i, h1, h2⟩ => by rw [h1, h2.uniq ht]
/-- rows of numbers of rooms -/
def natI (gs : List (List Nat)) : List (List Int) := gs.map fun r => r.map Int.ofNat
theorem natI_len (gs : List (List Nat)) : (natI gs).length = gs.length := List.length_map ..
theorem natI_get {gs : List (List Nat)} {i : Nat} (h : i < gs.length) : (natI gs).getD i [] = (gs[i]).map Int.ofNat := by
  unfold natI
  rw [List.getD_eq_getElem?_getD, List.getElem?_map, List.getElem?_eq_getElem h]
  rfl
theorem rowI_nat (r : List Nat) : (r.map Int.ofNat).map D.int = r.map natD := by
  rw [List.map_map]
  rfl
theorem natI_D (gs : List (List Nat)) : (natI gs).map rowI = gs.map roomD := by
  unfold natI
  rw [List.map_map]
  refine List.map_congr_left fun r _ => ?_
  show D.lst ((r.map Int.ofNat).map D.int) = _
  rw [rowI_nat]
  rfl
/-- a row that is no fault -/
theorem gBad_no {m n k i : Nat} {rows : List (List Int)} (h4 : i < 4) (hk : i < k) (hl : (rows.getD i []).length = m) (ha : ∀ x ∈ rows.getD i [], 0 ≤ x ∧ x < (n : Int)) : gBad m n k rows i = false := by
  unfold gBad
  rw [decide_eq_false (by omega), decide_eq_true hl, decide_eq_false (by omega), List.all_eq_true.mpr fun x hx => by
    obtain ⟨a, b⟩ := ha x hx
    rw [decide_eq_true a, decide_eq_true b]
    rfl]
  rfl
theorem GOk.row {m n k i : Nat} {gs : List (List Nat)} {bs : List Bool} {rows : List (List Int)} (G : GOk m gs bs) (hi : i < gs.length) (hr : rows.getD i [] = (gs[i]).map Int.ofNat) (hn : gs.length ≤ n) (hk : i < k) : gBad m n k rows i = false := by
  have hq := G.q
  refine gBad_no (by omega) hk ?_ fun x hx => ?_
  · rw [hr, List.length_map]
    exact G.r _ (List.getElem_mem hi)
  · rw [hr] at hx
    obtain ⟨y, hy, rfl⟩ := List.mem_map.mp hx
    have := G.e _ (List.getElem_mem hi) y hy
    show (0 : Int) ≤ (y : Int) ∧ (y : Int) < n
    omega
/-- the rows in lists of any kind -/
theorem Guard_new {L : List Nat} {dr de : D} {f : List Nat → D} {gs : List (List Nat)} {bs : List Bool} (hL : L.length ≤ 1000) (hc : f_check_letters [.str (S L), .int 3] = .ok .non) (sr : Sq dr (gs.map f)) (se : Sq de (bs.map D.bl)) (hf : ∀ r, Sq (f r) (r.map natD)) (G : GOk L.length gs bs) :
    WB f_Guard_init (.own "Guard" []) [.str (S L), dr, de] (fun d r => d = guardD L gs bs ∧ r = .non) fun _ _ => False := by
  have hq := G.q
  have hp := G.p
  have hb := G.b
  have e1 : (bs.map D.bl).length = bs.length := List.length_map ..
  refine (Guard_init_gen (rows := natI gs) hL hc sr se (by rw [List.length_map, natI_len]) (fun i d hd => ?_) (by rw [natI_len]; omega) (by omega) fun i => ?_).mono (fun d r ⟨h1, h2, _⟩ => ⟨?_, h1⟩) (fun e _ ⟨i, _, h⟩ => ?_)
  · rw [List.getElem?_map] at hd
    obtain ⟨r, hr, rfl⟩ := Option.map_eq_some_iff.mp hd
    obtain ⟨hi, er⟩ := List.getElem?_eq_some_iff.mp hr
    rw [natI_get hi, er, rowI_nat]
    exact hf r
  · rcases Nat.lt_or_ge i gs.length with hi | hi
    · rw [natI_get hi, List.length_map, G.r _ (List.getElem_mem hi)]
      exact hL
    · rw [List.getD_eq_getElem?_getD, List.getElem?_eq_none (by rw [natI_len]; exact hi)]
      exact Nat.zero_le _
  · rw [h2, natI_D]
    rfl
  · refine h.no ⟨fun j hj => ?_, by rw [natI_len]; omega, by rw [natI_len]; omega⟩
    rw [natI_len] at hj ⊢
    exact G.row hj (natI_get hj) (Nat.le_refl _) (by omega)
end CT
namespace CT
open PySem PySem.Spec PySem.Calls PyProof.Rows L2 He PL
local macro_rules | `(tactic| one_place) => `(tactic| repeat' (first | (with_reducible refine GK.pf ?_) | (with_reducible refine W_modG ?_ (fun _ _ _ => ?_); (focus (first | decide | omega))) | (with_reducible refine W_fdivG ?_ ?_ ?_ (fun _ _ => ?_); (focus (first | decide | omega)); (focus (first | decide | omega)); (focus (first | decide | omega))) | ((with_reducible apply W_app); focus rfl) | ((with_reducible apply W_b1); focus rfl) | (with_reducible refine W_mod ?_ ?_; (focus (first | decide | omega))) | (with_reducible refine W_fdiv ?_ ?_ ?_; (focus (first | decide | omega)); (focus (first | decide | omega))) | (with_reducible refine W_mul_small ?_ ?_ ?_; (focus (first | decide | omega)); (focus (first | decide | omega))) | ((with_reducible apply W_var); focus rfl) | ((with_reducible apply W_give); focus rfl) | ((with_reducible apply W_opV); focus rfl) | (with_reducible refine WG_setO ?_ ?_; focus decide) | ((with_reducible apply ex_look); focus rfl) | ((with_reducible apply ex_own); focus rfl) | ((with_reducible apply ex_ol); focus rfl) | ((with_reducible apply ex_o); focus rfl) | (with_reducible refine ⟨fun h => ?_, fun h => ?_⟩ <;> (try simp only [decide_eq_true_eq, decide_eq_false_iff_not, eqD_int, Bool.not_eq_true', Bool.not_eq_false', Int.not_le, Int.not_lt, List.length_map, pow18, Bool.false_eq_true, Bool.true_eq_false, reduceCtorEq] at h)) | ((with_reducible apply W_ok); focus rfl) | dsimp only [List.set, setS, List.foldl, wipe1, wipe2, wipe3]))
local macro_rules | `(tactic| w_dflts $t) => `(tactic| simp only [slotsB, slots0, $t:ident, List.length_cons, List.length_nil, List.map_cons, List.map_nil, List.replicate, List.cons_append, List.nil_append, Nat.reduceAdd, Nat.reduceSub, Nat.zero_add])
def kfS (s : PL.Slot) : PL.Slot := match s with
  | some (b, d) => if noF d = true then some (b, d) else none
  | none => none
theorem killF_eq (ρ : List PL.Slot) : killF ρ = ρ.map kfS := rfl
theorem kfS_of {b : Bool} {d : D} (h : noF d = true) : kfS (some (b, d)) = some (b, d) := by
  unfold kfS
  simp only [h, if_true]
theorem noFs_map {α : Type} {f : α → D} (h : ∀ x, noF (f x) = true) : ∀ l : List α, noF.noFs (l.map f) = true
  | [] => rfl
  | x :: l => by
    rw [List.map_cons, noF.noFs, h x, noFs_map h l]
    rfl
def fzR (r : List Nat) : D := .fz (r.map natD)
theorem noF_feed {d : D} (h : FeedD d) : noF d = true := by
  obtain ⟨cs, i, b, m, rfl, _⟩ := h
  show (noF.noFs (cs.map D.int) && true) = true
  rw [noFs_map (fun _ => rfl)]
  rfl
theorem noF_room (r : List Nat) : noF (roomD r) = true := noFs_map (fun _ => rfl) r
theorem noF_rows (gs : List (List Nat)) : noF (.lst (gs.map roomD)) = true := noFs_map noF_room gs
theorem noF_bls (bs : List Bool) : noF (.lst (bs.map D.bl)) = true := noFs_map (fun _ => rfl) bs
theorem noF_guard (L : List Nat) (gs : List (List Nat)) (bs : List Bool) : noF (guardD L gs bs) = true := by
  show (true && (noF (.lst (gs.map roomD)) && (noF (.lst (bs.map D.bl)) && true))) = true
  rw [noF_rows, noF_bls]
  rfl
theorem pyk_room (r : List Nat) : Pyk 1 (roomD r) := Pyk.lst fun d hd => by
  obtain ⟨x, _, rfl⟩ := List.mem_map.mp hd
  exact Pyk.int _
theorem eq_rows (gs : List (List Nat)) : (PL.eqB (.fz (gs.map fzR)) && PL.eqB (.lst (gs.map roomD))) = true ∧ PL.eqD (.fz (gs.map fzR)) (.lst (gs.map roomD)) = true := by
  have e := PL.py_fz (f := fzR) (g := roomD) (fun r => ⟨rfl, rfl⟩) gs
  have e2 := PL.eq_fz (a := .fz (gs.map fzR)) (b := .lst (gs.map roomD)) ⟨congrArg PyData.list e.1, e.2⟩
  have k : Pyk 2 (.lst (gs.map roomD)) := Pyk.lst fun d hd => by
    obtain ⟨r, _, rfl⟩ := List.mem_map.mp hd
    exact pyk_room r
  rw [e2.1, e2.2, k.eqB (by decide)]
  exact ⟨rfl, k.eqD⟩
theorem eq_bls (bs : List Bool) : (PL.eqB (.fz (bs.map D.bl)) && PL.eqB (.lst (bs.map D.bl))) = true ∧ PL.eqD (.fz (bs.map D.bl)) (.lst (bs.map D.bl)) = true := by
  have e2 := PL.eq_fz (a := .fz (bs.map D.bl)) (b := .lst (bs.map D.bl)) ⟨rfl, rfl⟩
  have k : Pyk 1 (.lst (bs.map D.bl)) := Pyk.lst fun d hd => by
    obtain ⟨r, _, rfl⟩ := List.mem_map.mp hd
    exact ⟨rfl, rfl, Nat.le_refl _⟩
  rw [e2.1, e2.2, k.eqB (by decide)]
  exact ⟨rfl, k.eqD⟩
def NameK (n : Str) : Prop := n = "UnknownLetter" ∨ n = "InvalidGuard" ∨ n = "InvalidLetters"
theorem tells_at {n : Str} (h : NameK n) (k : Int) : Tells why1 ⟨n, some "at", .int k⟩ := by
  show (decide ((n, some ("at" : Str)) ∈ why1) && decide (some ("at" : Str) ≠ some ("tag" : Str)) && true && okData (V.str n)) = true
  rcases h with rfl | rfl | rfl <;> decide +kernel
theorem self_let (k : Int) : PL.eqB (.tup [.str "UnknownLetter", .int k]) = true ∧ PL.eqD (.tup [.str "UnknownLetter", .int k]) (.tup [.str "UnknownLetter", .int k]) = true := by
  have p : Pyk 1 (.tup [.str "UnknownLetter", .int k]) := Pyk.tup fun d hd => by
    rcases List.mem_cons.mp hd with rfl | hd
    · exact ⟨rfl, by decide +kernel, Nat.le_refl _⟩
    · rw [List.mem_singleton.mp hd]
      exact Pyk.int _
  exact ⟨p.eqB (by decide), p.eqD⟩
theorem letA_all : ∀ a, a < 26 → ∀ t, t < 3 → isErr "InvalidLetters" (1 + t) (f_check_letters [.str (S (letL a t ++ [65])), .int 3]) = true := by decide +kernel
def dueL (p g t : Nat) : List D := [.tup [.str "InvalidGuard", .int p], .tup [.str "InvalidGuard", .int p], .tup [.str "InvalidGuard", .int g], .tup [.str "InvalidGuard", .int 0], .tup [.str "InvalidGuard", .int 4], .tup [.str "InvalidLetters", .int (1 + t : Nat)]]
theorem pyk_told {n : Str} (h : NameK n) (k : Int) : Pyk 1 (.tup [.str n, .int k]) := Pyk.tup fun d hd => by
  rcases List.mem_cons.mp hd with rfl | hd
  · rcases h with rfl | rfl | rfl <;> exact ⟨rfl, by decide +kernel, Nat.le_refl _⟩
  · rw [List.mem_singleton.mp hd]
    exact Pyk.int _
theorem dueP (p g t : Nat) : Pyk 2 (.lst (dueL p g t)) := Pyk.lst fun d hd => by
  simp only [dueL, List.mem_cons, List.not_mem_nil, or_false] at hd
  rcases hd with rfl | rfl | rfl | rfl | rfl | rfl
  · exact pyk_told (.inr (.inl rfl)) _
  · exact pyk_told (.inr (.inl rfl)) _
  · exact pyk_told (.inr (.inl rfl)) _
  · exact pyk_told (.inr (.inl rfl)) _
  · exact pyk_told (.inr (.inl rfl)) _
  · exact pyk_told (.inr (.inr rfl)) _
theorem no63 : ∀ a, a < 26 → ∀ t, t < 3 → 63 ∉ letL a t := by decide +kernel
theorem block_ok {d : D} {a t : Nat} {gs : List (List Nat)} {bs : List Bool} {x0 x2 x6 x7 x8 x9 x10 x11 x12 x13 x14 x15 x16 x17 x18 x19 : PL.Slot} {P : Po} (hd : FeedD d) (ha : a < 26) (ht : t < 3) (G : GOk (1 + t) gs bs)
    (q : ∀ d' y0 y2 y8 y10 y11 y12 y13 y14 y15 y16 y17 y18 y19, FeedD d' → P.nx [y0, some (true, d'), y2, some (false, .str (S (letL a t))), some (false, .lst (gs.map roomD)), some (false, .lst (bs.map D.bl)), none, none, y8, some (false, guardD (letL a t) gs bs), y10, y11, y12, y13, y14, y15, y16, y17, y18, y19]) :
    WG (gBlk
      (gSeq
        (gPar 6 7
          (PL.gCons (gFz (gLc [8] (gBind (gVar 4) gIter) (gN 8) gYes (gFz (gList (PL.gCons (gVar 8) PL.gNil)))))
            (PL.gCons (gFz (gList (PL.gCons (gVar 5) PL.gNil))) PL.gNil)))
        (gSeq
          (gSet 9
            (gIf (gB (gOp gEq (gB1 1 1 f_law_take (PL.gCons (gC (D.int 2)) PL.gNil)) (gC (D.int 0))))
              (gMake (Str.ofString "Guard") 3 f_Guard_init
                (PL.gCons (gVar 3) (PL.gCons (gVar 6) (PL.gCons (gVar 7) PL.gNil))))
              (gMake (Str.ofString "Guard") 3 f_Guard_init
                (PL.gCons (gVar 3)
                  (PL.gCons (gFn gTuple (PL.gCons (gVar 4) PL.gNil))
                    (PL.gCons (gFn gTuple (PL.gCons (gVar 5) PL.gNil)) PL.gNil))))))
          (gIfS (gOrT (gB (gOp gNe (gVar 6) (gVar 4))) (gB (gOp gNe (gVar 7) (gVar 5)))) (gRet (gC (D.bl false)))
            gNext)))
      [(6, [] ++ [0], fun x => []), (7, [], List.reverse), (7, [], fun x => [])])
    [x0, some (true, d), x2, some (false, D.str (S (letL a t))), some (false, D.lst (List.map roomD gs)),
      some (false, D.lst (List.map D.bl bs)), x6, x7, x8, x9, x10, x11, x12, x13, x14, x15, x16, x17, x18, x19] P := by
  have ll := letL_len (a := a) (t := t)
  have hc := non_ok (let_all a ha t ht)
  have hq := G.q
  have hp := G.p
  have hb := G.b
  refine WG_blk ?_
  rw [killF_eq]
  simp only [List.map_cons, List.map_nil]
  rw [kfS_of (noF_feed hd), kfS_of (d := .str _) rfl, kfS_of (noF_rows gs), kfS_of (noF_bls bs)]
  generalize kfS x0 = y0
  generalize kfS x2 = y2
  generalize kfS x6 = y6
  generalize kfS x7 = y7
  generalize kfS x8 = y8
  generalize kfS x9 = y9
  generalize kfS x10 = y10
  generalize kfS x11 = y11
  generalize kfS x12 = y12
  generalize kfS x13 = y13
  generalize kfS x14 = y14
  generalize kfS x15 = y15
  generalize kfS x16 = y16
  generalize kfS x17 = y17
  generalize kfS x18 = y18
  generalize kfS x19 = y19
  one_place
  refine WG_par ?_
  one_place
  refine I_map (l := gs) (g := roomD) (f := fzR) (by omega) (fun r hr => ?_) ?_
  · unfold roomD
    one_place
    exact ⟨_, rfl, rfl, rfl⟩
  one_place
  refine ⟨_, rfl, ?_⟩
  one_place
  refine ⟨_, rfl, ?_⟩
  one_place
  refine ⟨_, _, rfl, ?_⟩
  one_place
  refine (take_ok hd (by omega) (by omega)).mono (fun d2 r ⟨h2, g, hg, e⟩ => ?_) (fun _ _ => False.elim)
  subst e
  have tail : ∀ y0 : PL.Slot, WG (gIfS (gOrT (gB (gOp gNe (gVar 6) (gVar 4))) (gB (gOp gNe (gVar 7) (gVar 5)))) (gRet (gC (D.bl false))) gNext)
      [y0, some (true, d2), y2, some (false, D.str (S (letL a t))), some (false, D.lst (List.map roomD gs)), some (false, D.lst (List.map D.bl bs)), some (false, D.fz (List.map fzR gs)), some (false, D.fz (List.map D.bl bs)), none, some (false, guardD (letL a t) gs bs), y10, y11, y12, y13, y14, y15, y16, y17, y18, y19]
      { nx := fun ρ1 => [((6 : Nat), ([] ++ [0] : List Nat), (fun x => [] : List V → List V)), (7, [], List.reverse), (7, [], fun x => [])].all (okM ρ1) = true ∧ P.nx (killF ρ1), rt := fun o d ρ1 => ∃ b, o = false ∧ d = D.bl b ∧ P.rt false (D.bl b) (killF ρ1), exc := fun x x_1 => False, bk := fun x => False, ct := fun x => False } := fun y0 => by
    one_place
    refine PL.W_ne (eq_rows gs).1 ?_
    rw [(eq_rows gs).2]
    one_place
    refine PL.W_ne (eq_bls bs).1 ?_
    rw [(eq_bls bs).2]
    one_place
    refine ⟨?_, ?_⟩
    · have e0 := atI_get (l := gs.map fzR) (j := 0) (by rw [List.length_map]; exact hp)
      rw [List.getElem_map] at e0
      have e1 : fzAt (.fz (gs.map fzR)) [0] = true := by
        unfold fzAt
        simp only [e0]
        rfl
      show (fzAt (.fz (gs.map fzR)) [0] && true) = true
      rw [e1]
      rfl
    · rw [killF_eq]
      simp only [List.map_cons, List.map_nil]
      rw [kfS_of (noF_feed h2), kfS_of (d := .str _) rfl, kfS_of (noF_rows gs), kfS_of (noF_bls bs), kfS_of (noF_guard _ gs bs)]
      exact q _ _ _ _ _ _ _ _ _ _ _ _ _ _ h2
  one_place
  · refine (Guard_new (by omega) hc (.fz _) (.fz _) (fun r => .fz _) (by rw [ll]; exact G)).mono (fun d' r ⟨e1, e2⟩ => ⟨e2, ?_⟩) (fun _ _ => False.elim)
    subst e1
    exact tail _
  · refine (Guard_new (by omega) hc (.tup _) (.tup _) (fun r => .lst _) (by rw [ll]; exact G)).mono (fun d' r ⟨e1, e2⟩ => ⟨e2, ?_⟩) (fun _ _ => False.elim)
    subst e1
    exact tail _
theorem Guard_no {L : List Nat} {rows : List (List Int)} {es : List D} {t : Nat} (hL : L.length ≤ 1000) (hc : f_check_letters [.str (S L), .int 3] = .ok .non) (b1 : rows.length ≤ 1000) (b2 : es.length ≤ 1000) (b3 : ∀ r ∈ rows, r.length ≤ 1000) (ht : GFault L.length es.length rows t) :
    WB f_Guard_init (.own "Guard" []) [.str (S L), .lst (rows.map rowI), .lst es] (fun _ _ => False) fun e _ => e = ⟨"InvalidGuard", some "at", .int (t : Nat)⟩ := by
  refine Guard_init_no hL hc (.lst _) (.lst _) (List.length_map ..) (fun i d hd => ?_) b1 b2 (fun i => ?_) ht
  · rw [List.getElem?_map] at hd
    obtain ⟨r, hr, rfl⟩ := Option.map_eq_some_iff.mp hd
    rw [List.getD_eq_getElem?_getD, hr]
    exact .lst _
  · rcases q : rows[i]? with _ | r
    · rw [List.getD_eq_getElem?_getD, q]
      exact Nat.zero_le _
    · rw [List.getD_eq_getElem?_getD, q]
      exact b3 r (List.mem_of_getElem? q)
section
variable {L : List Nat} {gs : List (List Nat)} {bs : List Bool}
theorem natI_mem {m : Nat} (G : GOk m gs bs) {r : List Int} (h : r ∈ natI gs) : r.length = m ∧ ∀ x ∈ r, 0 ≤ x ∧ x < (gs.length : Int) := by
  obtain ⟨s, hs, rfl⟩ := List.mem_map.mp h
  refine ⟨by rw [List.length_map]; exact G.r s hs, fun x hx => ?_⟩
  obtain ⟨y, hy, rfl⟩ := List.mem_map.mp hx
  have := G.e s hs y hy
  show (0 : Int) ≤ (y : Int) ∧ (y : Int) < _
  omega
theorem ask0 {o : List Int} {p : Nat} (hL : L.length ≤ 1000) (hc : f_check_letters [.str (S L), .int 3] = .ok .non) (G : GOk L.length gs bs) (hp : p < gs.length) (ho : (decide (o.length = L.length) && o.all fun x => decide (0 ≤ x) && decide (x < (gs.length : Int))) = false) (hol : o.length ≤ 1000) :
    WB f_Guard_init (.own "Guard" []) [.str (S L), .lst ((gs.map roomD).take p ++ [rowI o] ++ (gs.map roomD).drop (p + 1)), .lst (bs.map D.bl)] (fun _ _ => False) fun e _ => e = ⟨"InvalidGuard", some "at", .int (p : Nat)⟩ := by
  have hq := G.q
  have hb := G.b
  have nl := natI_len gs
  have e : (gs.map roomD).take p ++ [rowI o] ++ (gs.map roomD).drop (p + 1) = ((natI gs).take p ++ [o] ++ (natI gs).drop (p + 1)).map rowI := by
    rw [List.map_append, List.map_append, List.map_take, List.map_drop, natI_D]
    rfl
  have el : ((natI gs).take p ++ [o] ++ (natI gs).drop (p + 1)).length = gs.length := by
    rw [List.length_append, List.length_append, List.length_take, List.length_drop, List.length_singleton, nl]
    omega
  rw [e]
  refine Guard_no hL hc (by omega) (by rw [List.length_map]; omega) (fun r hr => ?_) ⟨fun j hj => ?_, .inl ⟨by omega, ?_⟩⟩
  · rcases List.mem_append.mp hr with hr | hr
    · rcases List.mem_append.mp hr with hr | hr
      · rw [(natI_mem G (List.mem_of_mem_take hr)).1]; exact hL
      · rw [List.mem_singleton.mp hr]; exact hol
    · rw [(natI_mem G (List.mem_of_mem_drop hr)).1]; exact hL
  · rw [el, List.length_map]
    have g : ((natI gs).take p ++ [o] ++ (natI gs).drop (p + 1)).getD j [] = (gs[j]'(by omega)).map Int.ofNat := by
      rw [List.getD_eq_getElem?_getD, List.append_assoc, List.getElem?_append_left (by rw [List.length_take]; omega), List.getElem?_take_of_lt hj, ← List.getD_eq_getElem?_getD, natI_get (by omega)]
    exact G.row (by omega) g (Nat.le_refl _) (by omega)
  · rw [el]
    have g : ((natI gs).take p ++ [o] ++ (natI gs).drop (p + 1)).getD p [] = o := by
      rw [List.getD_eq_getElem?_getD, List.append_assoc, List.getElem?_append_right (by rw [List.length_take]; omega), List.length_take, nl, show p - min p gs.length = 0 by omega]
      rfl
    unfold gBad
    rw [g, ho, Bool.not_false, Bool.true_or, Bool.or_true]
theorem ask1 {p : Nat} (hL : L.length ≤ 1000) (hc : f_check_letters [.str (S L), .int 3] = .ok .non) (G : GOk L.length gs bs) (hp : p < gs.length) :
    WB f_Guard_init (.own "Guard" []) [.str (S L), .lst (gs.map roomD), .lst ((bs.map D.bl).take p)] (fun _ _ => False) fun e _ => e = ⟨"InvalidGuard", some "at", .int (p : Nat)⟩ := by
  have hq := G.q
  have hb := G.b
  have nl := natI_len gs
  have el : ((bs.map D.bl).take p).length = p := by rw [List.length_take, List.length_map]; omega
  rw [← natI_D]
  refine Guard_no hL hc (by omega) (by omega) (fun r hr => by rw [(natI_mem G hr).1]; exact hL) ⟨fun j hj => ?_, .inl ⟨by omega, ?_⟩⟩
  · rw [nl, el]
    exact G.row (by omega) (natI_get (by omega)) (Nat.le_refl _) hj
  · rw [el]
    unfold gBad
    rw [decide_eq_true (Nat.le_refl p), Bool.or_true, Bool.or_true]
theorem ask2 (hL : L.length ≤ 1000) (hc : f_check_letters [.str (S L), .int 3] = .ok .non) (G : GOk L.length gs bs) :
    WB f_Guard_init (.own "Guard" []) [.str (S L), .lst (gs.map roomD), .lst (bs.map D.bl ++ [.bl true])] (fun _ _ => False) fun e _ => e = ⟨"InvalidGuard", some "at", .int (gs.length : Nat)⟩ := by
  have hq := G.q
  have hb := G.b
  have nl := natI_len gs
  have el : (bs.map D.bl ++ [D.bl true]).length = gs.length + 1 := by rw [List.length_append, List.length_map, List.length_singleton]; omega
  rw [← natI_D]
  refine Guard_no hL hc (by omega) (by omega) (fun r hr => by rw [(natI_mem G hr).1]; exact hL) ⟨fun j hj => ?_, .inr ⟨nl.symm, .inr (by omega)⟩⟩
  rw [nl, el]
  exact G.row hj (natI_get hj) (Nat.le_refl _) (by omega)
theorem ask3 (hL : L.length ≤ 1000) (hc : f_check_letters [.str (S L), .int 3] = .ok .non) :
    WB f_Guard_init (.own "Guard" []) [.str (S L), .lst [], .lst []] (fun _ _ => False) fun e _ => e = ⟨"InvalidGuard", some "at", .int 0⟩ :=
  Guard_no (rows := []) (t := 0) hL hc (Nat.zero_le _) (Nat.zero_le _) (fun r hr => by cases hr) ⟨fun j hj => absurd hj (Nat.not_lt_zero j), .inr ⟨rfl, .inl rfl⟩⟩
theorem ask4 (hL : L.length ≤ 1000) (hc : f_check_letters [.str (S L), .int 3] = .ok .non) (G : GOk L.length gs bs) :
    WB f_Guard_init (.own "Guard" []) [.str (S L), .lst (List.replicate 5 (gs.map roomD)).flatten, .lst (List.replicate 5 (bs.map D.bl)).flatten] (fun _ _ => False) fun e _ => e = ⟨"InvalidGuard", some "at", .int 4⟩ := by
  have hq := G.q
  have hp := G.p
  have hb := G.b
  have nl := natI_len gs
  have e : (List.replicate 5 (gs.map roomD)).flatten = ((List.replicate 5 (natI gs)).flatten).map rowI := by
    rw [List.map_flatten, List.map_replicate, natI_D]
  have l1 : ((List.replicate 5 (natI gs)).flatten).length = 5 * gs.length := by rw [List.length_flatten, List.map_replicate, List.sum_replicate_nat, nl]
  have l2 : ((List.replicate 5 (bs.map D.bl)).flatten).length = 5 * gs.length := by rw [List.length_flatten, List.map_replicate, List.sum_replicate_nat, List.length_map, hb]
  have mem : ∀ r ∈ (List.replicate 5 (natI gs)).flatten, r ∈ natI gs := fun r hr => by
    obtain ⟨l, hl, hr⟩ := List.mem_flatten.mp hr
    rw [List.eq_of_mem_replicate hl] at hr
    exact hr
  rw [e]
  refine Guard_no (t := 4) hL hc (by omega) (by omega) (fun r hr => by rw [(natI_mem G (mem r hr)).1]; exact hL) ⟨fun j hj => ?_, .inl ⟨by omega, ?_⟩⟩
  · rw [l1, l2]
    have hj' : j < ((List.replicate 5 (natI gs)).flatten).length := by omega
    have hm := natI_mem G (mem _ (List.getElem_mem hj'))
    refine gBad_no hj (by omega) ?_ fun x hx => ?_
    · rw [List.getD_eq_getElem?_getD, List.getElem?_eq_getElem hj']
      exact hm.1
    · rw [List.getD_eq_getElem?_getD, List.getElem?_eq_getElem hj'] at hx
      have := hm.2 x hx
      omega
  · unfold gBad
    rfl
theorem ask5 {dr de : D} {k : Nat} (h : isErr "InvalidLetters" k (f_check_letters [.str (S L), .int 3]) = true) :
    WB f_Guard_init (.own "Guard" []) [.str (S L), dr, de] (fun _ _ => False) fun e _ => e = ⟨"InvalidLetters", some "at", .int (k : Nat)⟩ := by
  have e := err_ok h
  refine WB_run ?_
  w_dflts n_Guard_init
  unfold g_Guard_init_body
  refine WG_seq (WG_drop (W_call (W_cons (W_var rfl (W_cons (W_c (W_nil ⟨rfl, ?_⟩)))))))
  unfold WF
  rw [e]
  exact ⟨_, rfl, rfl⟩
end
def Inv (ρ : List PL.Slot) : Prop := ∃ (d : D) (x0 x2 x3 x4 x5 x6 x7 x8 x9 x10 x11 x12 x13 x14 x15 x16 x17 x18 x19 : PL.Slot), FeedD d ∧ ρ = [x0, some (true, d), x2, x3, x4, x5, x6, x7, x8, x9, x10, x11, x12, x13, x14, x15, x16, x17, x18, x19]
theorem plain_ok (env : Env) (ns : List Int) (h : ns.length ≤ 63) : runF n_law (g_law_body env) [.scr ns] = .ok (.bl true) := by
  refine WF_eq (WF_run ?_)
  w_dflts n_law
  unfold g_law_body
  one_place
  refine (feed_ok h).mono (fun d hd => ?_) (fun _ => False.elim)
  one_place
  refine ⟨fun _ ρ => Inv ρ, ⟨d, _, _, _, _, _, _, _, _, _, _, _, _, _, _, _, _, _, _, _, hd, rfl⟩, fun i x ρ hx hI => ?_, fun ρ hI => ?_⟩
  · obtain ⟨d, x0, x2, x3, x4, x5, x6, x7, x8, x9, x10, x11, x12, x13, x14, x15, x16, x17, x18, x19, hd, rfl⟩ := hI
    refine W_ok rfl ?_
    one_place
    refine (law_rooms_ok hd).mono (fun d r ⟨hd, a, t, gs, bs, ha, ht, e, G⟩ => ?_) (fun _ _ => False.elim)
    subst e
    one_place
    refine block_ok hd ha ht G fun d y0 y2 y8 y10 y11 y12 y13 y14 y15 y16 y17 y18 y19 hd => ?_
    one_place
    refine inv_for (J := D × PL.Slot × PL.Slot × PL.Slot × PL.Slot) (fun _ j => [(1, ow j.1), (10, j.2.1), (11, j.2.2.1), (12, j.2.2.2.1), (13, j.2.2.2.2)]) (fun _ j => FeedD j.1) ?_ (fun i x j hx hj => ?_) (fun j hj => ?_)
    · exact ⟨⟨d, _, _, _, _⟩, hd, rfl⟩
    · obtain ⟨d, j⟩ := j
      have hd : FeedD d := hj
      have ll := letL_len (a := a) (t := t)
      obtain ⟨nd, hE⟩ := letL_good a ha t ht
      have G : GOk (letL a t).length gs bs := by rw [ll]; exact G
      have hq := G.q
      have hc : 63 ∉ letL a t := no63 a ha t ht
      generalize letL a t = L at ll nd hE G hc ⊢
      one_place
      refine (pick_ok hd (by show 0 < 3; decide) (by show 3 < 1000000; decide)).mono (fun d2 r ⟨h2, hr⟩ => ?_) (fun _ _ => False.elim)
      obtain ⟨k, rfl, hk⟩ : ∃ k : Nat, r = .int k ∧ k ≤ 40 := by
        simp only [List.mem_cons, List.not_mem_nil, or_false] at hr
        rcases hr with rfl | rfl | rfl
        · exact ⟨3, rfl, by decide⟩
        · exact ⟨6, rfl, by decide⟩
        · exact ⟨40, rfl, by decide⟩
      one_place
      refine (law_word_ok (L := L) h2 (by omega) (by omega) (by omega)).mono (fun d3 r ⟨h3, ks, hkl, hks, e⟩ => ?_) (fun _ _ => False.elim)
      subst e
      have hr := roomM_lt (w := ks) (r := 0) G hks G.p
      have hb := G.b
      have ebs : L2.atI (bs.map D.bl) (((roomM gs ks 0 : Nat)) : Int) = some (.bl (bs.getD (roomM gs ks 0) false)) := by
        rw [atI_get (l := bs.map D.bl) (j := roomM gs ks 0) (by rw [List.length_map]; omega), List.getElem_map, List.getD_eq_getElem?_getD, List.getElem?_eq_getElem (by omega), Option.getD_some]
      one_place
      refine ⟨_, rfl, rfl, ?_⟩
      one_place
      refine ⟨rfl, (Guard_accepts_ok nd G hks).mono (fun r e => ?_) (fun _ => False.elim)⟩
      subst e
      one_place
      refine ⟨_, rfl, guard_letters ?_⟩
      one_place
      refine W_gLen (by omega) ?_
      one_place
      refine (law_room_ok nd G hks).mono (fun r e => ?_) (fun _ => False.elim)
      subst e
      unfold natD
      one_place
      refine W_ixL ebs ?_
      one_place
      refine same_ok (eqd_three rfl eqd_bl eqd_str ?_) ?_
      · rw [List.length_map]
        exact eqd_int
      one_place
      refine W_cutS (n := 19) (by rw [wordL_len]; omega) ?_
      have eP : (wordL L ks).take 19 = wordL L (ks.take 19) := by unfold wordL; rw [List.map_take]
      rw [eP]
      have hk2 : ∀ k ∈ ks.take 19, k < L.length := fun k z => hks k (List.mem_of_mem_take z)
      have hl2 : (ks.take 19).length ≤ 19 := by rw [List.length_take]; omega
      generalize ks.take 19 = ps at hk2 hl2 ⊢
      have no := Guard_accepts_no (v := wordL L ps) nd G hk2 hc
      have lp := wordL_len (L := L) (ks := ps)
      one_place
      refine W_why ?_
      simp only [shOnly, List.map_cons, List.map_nil]
      one_place
      refine ⟨_, rfl, rfl, ?_⟩
      rw [show ("?" : Str) = S [63] by decide +kernel]
      one_place
      refine W_addS (by rw [lp, List.length_singleton]; omega) ?_
      one_place
      refine W_addS (by rw [List.length_append, lp, List.length_singleton]; omega) ?_
      rw [show wordL L ps ++ [63] ++ wordL L ps = wordL L ps ++ 63 :: wordL L ps by simp]
      one_place
      refine ⟨rfl, no.mono (fun _ => False.elim) (fun e h => ?_)⟩
      subst h
      refine ⟨tells_at (.inl rfl) _, ?_⟩
      one_place
      refine W_lenS (by omega) ?_
      rw [lp]
      one_place
      refine PL.W_ne (by rw [(self_let ps.length).1]; rfl) ?_
      rw [(self_let ps.length).2]
      one_place
      exact ⟨⟨_, _, _, _, _⟩, h3, rfl⟩
    · obtain ⟨d, z10, z11, z12, z13⟩ := j
      have hd : FeedD d := hj
      have ll := letL_len (a := a) (t := t)
      have hcl := non_ok (let_all a ha t ht)
      have hcA := letA_all a ha t ht
      have G : GOk (letL a t).length gs bs := by rw [ll]; exact G
      have hq := G.q
      have hp := G.p
      have hb := G.b
      one_place
      rw [List.length_map]
      refine (take_ok hd (by omega) (by omega)).mono (fun d2 r ⟨h2, at', hat, e⟩ => ?_) (fun _ _ => False.elim)
      subst e
      have hat : at' < gs.length := by omega
      have er : L2.atI (gs.map roomD) (at' : Int) = some (.lst ((gs[at']).map natD)) := by
        rw [atI_get (l := gs.map roomD) (j := at') (by rw [List.length_map]; exact hat), List.getElem_map]
        rfl
      have lr := G.r _ (List.getElem_mem hat)
      one_place
      refine W_ixL er ?_
      one_place
      refine W_addL (by rw [List.length_map]; show _ + 1 ≤ _; omega) ?_
      one_place
      refine W_ixL er ?_
      one_place
      rw [show PL.cutD ((gs[at']).map natD) (some (1 : Int)) none = ((gs[at']).map natD).drop 1 from cutD_drop _ 1]
      rw [List.length_map]
      refine W_lenS (by omega) ?_
      refine W_rep1 (by omega) ?_
      one_place
      refine W_lenS (by omega) ?_
      refine W_rep1 (by omega) ?_
      one_place
      rw [cutD_take]
      refine (pick_ok h2 (by show 0 < 4; decide) (by show 4 < 1000000; decide)).mono (fun d3 r ⟨h3, hr⟩ => ?_) (fun _ _ => False.elim)
      obtain ⟨o, rfl, ho, hol⟩ : ∃ o : List Int, r = rowI o ∧ (decide (o.length = (letL a t).length) && o.all fun x => decide (0 ≤ x) && decide (x < (gs.length : Int))) = false ∧ o.length ≤ 1000 := by
        simp only [List.mem_cons, List.not_mem_nil, or_false] at hr
        rcases hr with rfl | rfl | rfl | rfl
        · refine ⟨(gs[at']).map Int.ofNat ++ [0], ?_, ?_, by rw [List.length_append, List.length_map, List.length_singleton]; omega⟩
          · unfold rowI
            rw [List.map_append, rowI_nat]
            rfl
          · rw [decide_eq_false (by rw [List.length_append, List.length_map, List.length_singleton]; omega)]
            rfl
        · refine ⟨((gs[at']).map Int.ofNat).drop 1, ?_, ?_, by rw [List.length_drop, List.length_map]; omega⟩
          · unfold rowI
            rw [List.map_drop, rowI_nat]
          · rw [decide_eq_false (by rw [List.length_drop, List.length_map]; omega)]
            rfl
        · refine ⟨List.replicate (letL a t).length (gs.length : Int), ?_, ?_, by rw [List.length_replicate]; omega⟩
          · unfold rowI
            rw [List.map_replicate]
          · have : (List.replicate (letL a t).length (gs.length : Int)).all (fun x => decide (0 ≤ x) && decide (x < (gs.length : Int))) = false := by
              rw [ll, show 1 + t = t + 1 by omega, List.replicate_succ, List.all_cons, decide_eq_false (show ¬ (gs.length : Int) < gs.length by omega), Bool.and_false, Bool.false_and]
            rw [this, Bool.and_false]
        · refine ⟨List.replicate (letL a t).length (-1), ?_, ?_, by rw [List.length_replicate]; omega⟩
          · unfold rowI
            rw [List.map_replicate]
          · have : (List.replicate (letL a t).length (-1 : Int)).all (fun x => decide (0 ≤ x) && decide (x < (gs.length : Int))) = false := by
              rw [ll, show 1 + t = t + 1 by omega, List.replicate_succ, List.all_cons, decide_eq_false (show ¬ (0 : Int) ≤ -1 by omega), Bool.false_and, Bool.false_and]
            rw [this, Bool.and_false]
      have a0 := ask0 (by omega) hcl G hat ho hol
      have a1 := ask1 (by omega) hcl G hat
      have a2 := ask2 (by omega) hcl G
      have a3 := ask3 (L := letL a t) (by omega) hcl
      have a4 := ask4 (by omega) hcl G
      have a5 := ask5 (dr := .lst (gs.map roomD)) (de := .lst (bs.map D.bl)) hcA
      one_place
      refine W_addL (by simp only [List.length_take, List.length_map, List.length_singleton]; omega) ?_
      one_place
      rw [show (at' : Int) + 1 = ((at' + 1 : Nat) : Int) by omega, cutD_drop]
      refine W_addL (by simp only [List.length_append, List.length_take, List.length_drop, List.length_map, List.length_singleton]; omega) ?_
      one_place
      rw [List.length_map]
      refine W_asked (l := [.lam env lam_law_0 0, .lam env lam_law_1 1, .lam env lam_law_2 2, .lam env lam_law_3 3, .lam env lam_law_4 4, .lam env lam_law_5 5]) (ts := [("InvalidGuard", .int at'), ("InvalidGuard", .int at'), ("InvalidGuard", .int gs.length), ("InvalidGuard", .int 0), ("InvalidGuard", .int 4), ("InvalidLetters", .int (1 + t : Nat))]) rfl (by show 6 ≤ 1000; decide) (by show 19 < 20; decide) rfl (fun k dd tt hk ht' => ?_) ?_
      · match k, hk, ht' with
        | 0, hk, ht' =>
          cases hk
          cases ht'
          refine ⟨_, 0, _, rfl, rfl, whyRes_exc (tells_at (.inr (.inl rfl)) _) (W_make ?_)⟩
          simp only [shOnly, List.map_cons, List.map_nil]
          one_place
          exact a0.mono (fun _ _ => False.elim) (fun e _ h => h)
        | 1, hk, ht' =>
          cases hk
          cases ht'
          refine ⟨_, 1, _, rfl, rfl, whyRes_exc (tells_at (.inr (.inl rfl)) _) (W_make ?_)⟩
          simp only [shOnly, List.map_cons, List.map_nil]
          one_place
          rw [cutD_take]
          exact a1.mono (fun _ _ => False.elim) (fun e _ h => h)
        | 2, hk, ht' =>
          cases hk
          cases ht'
          refine ⟨_, 2, _, rfl, rfl, whyRes_exc (tells_at (.inr (.inl rfl)) _) (W_make ?_)⟩
          simp only [shOnly, List.map_cons, List.map_nil]
          one_place
          refine W_addL (by simp only [List.length_map, List.length_singleton]; omega) ?_
          one_place
          exact a2.mono (fun _ _ => False.elim) (fun e _ h => h)
        | 3, hk, ht' =>
          cases hk
          cases ht'
          refine ⟨_, 3, _, rfl, rfl, whyRes_exc (tells_at (.inr (.inl rfl)) _) (W_make ?_)⟩
          simp only [shOnly, List.map_cons, List.map_nil]
          one_place
          exact a3.mono (fun _ _ => False.elim) (fun e _ h => h)
        | 4, hk, ht' =>
          cases hk
          cases ht'
          refine ⟨_, 4, _, rfl, rfl, whyRes_exc (tells_at (.inr (.inl rfl)) _) (W_make ?_)⟩
          simp only [shOnly, List.map_cons, List.map_nil]
          one_place
          refine W_repL (k := 5) (by decide) (by rw [List.length_map]; omega) ?_
          one_place
          refine W_repL (k := 5) (by decide) (by rw [List.length_map]; omega) ?_
          one_place
          exact a4.mono (fun _ _ => False.elim) (fun e _ h => h)
        | 5, hk, ht' =>
          cases hk
          cases ht'
          refine ⟨_, 5, _, rfl, rfl, whyRes_exc (tells_at (.inr (.inr rfl)) _) (W_make ?_)⟩
          simp only [shOnly, List.map_cons, List.map_nil]
          rw [show ("A" : Str) = S [65] by decide +kernel]
          one_place
          refine W_addS (by rw [List.length_singleton]; omega) ?_
          one_place
          exact a5.mono (fun _ _ => False.elim) (fun e _ h => h)
        | k + 6, hk, _ => cases hk
      one_place
      refine W_lenS (by omega) ?_
      rw [ll]
      one_place
      refine PL.W_ne (a := .lst (dueL at' gs.length t)) (b := .lst (dueL at' gs.length t)) (by rw [(dueP at' gs.length t).eqB (by decide)]; rfl) ?_
      rw [(dueP at' gs.length t).eqD]
      one_place
      exact ⟨d3, _, _, _, _, _, _, _, _, _, _, _, _, _, _, _, _, _, _, _, h3, rfl⟩
  · obtain ⟨d, x0, x2, x3, x4, x5, x6, x7, x8, x9, x10, x11, x12, x13, x14, x15, x16, x17, x18, x19, hd, rfl⟩ := hI
    one_place
end CT
namespace CT
open PySem PySem.Spec PySem.Calls PyProof.Rows L2 He
theorem law_at {K : PySem.W.Frag} {w : World} {mg : Str → Option Value} {f : Addr} {h : Heap} (KX : K.In h) (G : h.Ns mainGlobals mg) (hmg : mg "law" = some (.ref f)) (c : SaysW fa fn tf ex fs vs h K) : LamX.LawAtS PySem.Challenge.rw_copytail_k39_guards w K CX0 9 63 "_law_script" mg f h := by
  have D_check_letters : Dn K mg "check_letters" s_check_letters [] := ⟨c.d.def_ 0 (d := dd_check_letters) rfl, glo_ok KX G (c.d.fact 0 (f := .glo "check_letters") rfl)⟩
  have D_law_feed : Dn K mg "_law_feed" s_law_feed [] := ⟨c.d.def_ 1 (d := dd_law_feed) rfl, glo_ok KX G (c.d.fact 1 (f := .glo "_law_feed") rfl)⟩
  have D_law_take : Dn K mg "_law_take" s_law_take [] := ⟨c.d.def_ 2 (d := dd_law_take) rfl, glo_ok KX G (c.d.fact 2 (f := .glo "_law_take") rfl)⟩
  have D_law_letters : Dn K mg "_law_letters" s_law_letters [] := ⟨c.d.def_ 3 (d := dd_law_letters) rfl, glo_ok KX G (c.d.fact 3 (f := .glo "_law_letters") rfl)⟩
  have D_law_rooms : Dn K mg "_law_rooms" s_law_rooms [] := ⟨c.d.def_ 4 (d := dd_law_rooms) rfl, glo_ok KX G (c.d.fact 4 (f := .glo "_law_rooms") rfl)⟩
  have D_law_pick : Dn K mg "_law_pick" s_law_pick [] := ⟨c.d.def_ 5 (d := dd_law_pick) rfl, glo_ok KX G (c.d.fact 5 (f := .glo "_law_pick") rfl)⟩
  have D_law_word : Dn K mg "_law_word" s_law_word [] := ⟨c.d.def_ 6 (d := dd_law_word) rfl, glo_ok KX G (c.d.fact 6 (f := .glo "_law_word") rfl)⟩
  have D_law_same : Dn K mg "_law_same" s_law_same [] := ⟨c.d.def_ 7 (d := dd_law_same) rfl, glo_ok KX G (c.d.fact 7 (f := .glo "_law_same") rfl)⟩
  have D_law_room : Dn K mg "_law_room" s_law_room [] := ⟨c.d.def_ 8 (d := dd_law_room) rfl, glo_ok KX G (c.d.fact 8 (f := .glo "_law_room") rfl)⟩
  have D_law_why : Dn K mg "_law_why" s_law_why [] := ⟨c.d.def_ 9 (d := dd_law_why) rfl, glo_ok KX G (c.d.fact 9 (f := .glo "_law_why") rfl)⟩
  have D_law : Dn K mg "law" s_law [] := ⟨c.d.def_ 10 (d := dd_law) rfl, glo_ok KX G (c.d.fact 10 (f := .glo "law") rfl)⟩
  have D_Guard_init : Dm K (fAd K ("Guard", some "__init__")) "__init__" "Guard.__init__" s_Guard_init [] := ⟨c.d.def_ 11 (d := dd_Guard_init) rfl⟩
  have D_Guard_len : Dm K (fAd K ("Guard", some "__len__")) "__len__" "Guard.__len__" s_Guard_len [] := ⟨c.d.def_ 12 (d := dd_Guard_len) rfl⟩
  have M_Guard_len : Meth K (ga K "Guard") "__len__" (fAd K ("Guard", some "__len__")) := meth_ok (c.d.fact 130 (f := .meth "Guard" "__len__") rfl)
  have D_Guard_letters : Dm K (He5.wf K (ga K "Guard") "property" "letters") "letters" "Guard.letters" s_Guard_letters [] := ⟨c.d.def_ 13 (d := dd_Guard_letters) rfl⟩
  have D_Guard_later : Dm K (fAd K ("Guard", some "later")) "later" "Guard.later" s_Guard_later [] := ⟨c.d.def_ 14 (d := dd_Guard_later) rfl⟩
  have M_Guard_later : Meth K (ga K "Guard") "later" (fAd K ("Guard", some "later")) := meth_ok (c.d.fact 131 (f := .meth "Guard" "later") rfl)
  have D_Guard_accepts : Dm K (fAd K ("Guard", some "accepts")) "accepts" "Guard.accepts" s_Guard_accepts [] := ⟨c.d.def_ 15 (d := dd_Guard_accepts) rfl⟩
  have M_Guard_accepts : Meth K (ga K "Guard") "accepts" (fAd K ("Guard", some "accepts")) := meth_ok (c.d.fact 132 (f := .meth "Guard" "accepts") rfl)
  have g_Guard : mg "Guard" = some (.ref (ga K "Guard")) := glo_ok KX G (c.d.fact 126 (f := .glo "Guard") rfl)
  have C_Guard : Cls K (ga K "Guard") := cls_ok (c.d.fact 127 (f := .cls "Guard") rfl)
  have K_Guard : Mk K (ga K "Guard") (fAd K ("Guard", some "__init__")) := mkr_ok (c.d.fact 128 (f := .mkr "Guard") rfl)
  have nf_Guard_signs : NoAttr K (ga K "Guard") "signs" := noat_ok (c.d.fact 133 (f := .noat "Guard" "signs") rfl)
  have nf_Guard_rows : NoAttr K (ga K "Guard") "rows" := noat_ok (c.d.fact 134 (f := .noat "Guard" "rows") rfl)
  have nf_Guard_ends : NoAttr K (ga K "Guard") "ends" := noat_ok (c.d.fact 135 (f := .noat "Guard" "ends") rfl)
  have m_ValueError : mg "ValueError" = none := free_ok KX G (c.d.fact 35 (f := .free "ValueError") rfl)
  have m_LookupError : mg "LookupError" = none := free_ok KX G (c.d.fact 36 (f := .free "LookupError") rfl)
  have m_IndexError : mg "IndexError" = none := free_ok KX G (c.d.fact 37 (f := .free "IndexError") rfl)
  have m_property : mg "property" = none := free_ok KX G (c.d.fact 38 (f := .free "property") rfl)
  have m_enumerate : mg "enumerate" = none := free_ok KX G (c.d.fact 39 (f := .free "enumerate") rfl)
  have m_list : mg "list" = none := free_ok KX G (c.d.fact 40 (f := .free "list") rfl)
  have m_isinstance : mg "isinstance" = none := free_ok KX G (c.d.fact 41 (f := .free "isinstance") rfl)
  have m_range : mg "range" = none := free_ok KX G (c.d.fact 42 (f := .free "range") rfl)
  have m_len : mg "len" = none := free_ok KX G (c.d.fact 43 (f := .free "len") rfl)
  have m_int : mg "int" = none := free_ok KX G (c.d.fact 44 (f := .free "int") rfl)
  have m_bool : mg "bool" = none := free_ok KX G (c.d.fact 45 (f := .free "bool") rfl)
  have m_str : mg "str" = none := free_ok KX G (c.d.fact 46 (f := .free "str") rfl)
  have m_all : mg "all" = none := free_ok KX G (c.d.fact 47 (f := .free "all") rfl)
  have m_tuple : mg "tuple" = none := free_ok KX G (c.d.fact 48 (f := .free "tuple") rfl)
  have m_super : mg "super" = none := free_ok KX G (c.d.fact 49 (f := .free "super") rfl)
  have m_zip : mg "zip" = none := free_ok KX G (c.d.fact 50 (f := .free "zip") rfl)
  have g_SMALL : ∃ u, mg "SMALL" = some u ∧ RelV (.str "abcdefghijklmnopqrstuvwxyz") u := relS (str_ok KX G (c.d.fact 123 (f := .str "SMALL" "abcdefghijklmnopqrstuvwxyz") rfl))
  have g_MOST_LETTERS : ∃ u, mg "MOST_LETTERS" = some u ∧ RelV (.int 3) u := relI (int_ok KX G (c.d.fact 124 (f := .int "MOST_LETTERS" 3) rfl))
  have g_MOST_ROOMS : ∃ u, mg "MOST_ROOMS" = some u ∧ RelV (.int 4) u := relI (int_ok KX G (c.d.fact 125 (f := .int "MOST_ROOMS" 4) rfl))
  have gE : ∀ m ∈ whyNames, mg m = some (.ref (ga K m)) := (List.forall_mem_cons.mpr ⟨glo_ok KX G (c.d.fact 11 (f := .glo "InvalidRatio") rfl), (List.forall_mem_cons.mpr ⟨glo_ok KX G (c.d.fact 24 (f := .glo "InvalidDegree") rfl), (List.forall_mem_cons.mpr ⟨glo_ok KX G (c.d.fact 30 (f := .glo "InvalidLimit") rfl), (List.forall_mem_cons.mpr ⟨glo_ok KX G (c.d.fact 12 (f := .glo "InvalidTerm") rfl), (List.forall_mem_cons.mpr ⟨glo_ok KX G (c.d.fact 15 (f := .glo "ParseError") rfl), (List.forall_mem_cons.mpr ⟨glo_ok KX G (c.d.fact 16 (f := .glo "InvalidLetters") rfl), (List.forall_mem_cons.mpr ⟨glo_ok KX G (c.d.fact 17 (f := .glo "InvalidBegin") rfl), (List.forall_mem_cons.mpr ⟨glo_ok KX G (c.d.fact 18 (f := .glo "InvalidMode") rfl), (List.forall_mem_cons.mpr ⟨glo_ok KX G (c.d.fact 19 (f := .glo "InvalidGuard") rfl), (List.forall_mem_cons.mpr ⟨glo_ok KX G (c.d.fact 20 (f := .glo "UnknownLetter") rfl), (List.forall_mem_cons.mpr ⟨glo_ok KX G (c.d.fact 22 (f := .glo "InvalidRecoding") rfl), (List.forall_mem_cons.mpr ⟨glo_ok KX G (c.d.fact 13 (f := .glo "Mismatch") rfl), (List.forall_mem_cons.mpr ⟨glo_ok KX G (c.d.fact 26 (f := .glo "InvalidName") rfl), (List.forall_mem_cons.mpr ⟨glo_ok KX G (c.d.fact 27 (f := .glo "DuplicateName") rfl), (List.forall_mem_cons.mpr ⟨glo_ok KX G (c.d.fact 28 (f := .glo "WrongSort") rfl), (List.forall_mem_cons.mpr ⟨glo_ok KX G (c.d.fact 33 (f := .glo "UnknownName") rfl), (List.forall_mem_cons.mpr ⟨glo_ok KX G (c.d.fact 29 (f := .glo "CapacityExceeded") rfl), (List.forall_mem_cons.mpr ⟨glo_ok KX G (c.d.fact 31 (f := .glo "InvalidCommand") rfl), (List.forall_mem_cons.mpr ⟨glo_ok KX G (c.d.fact 32 (f := .glo "InUse") rfl), (List.forall_mem_cons.mpr ⟨glo_ok KX G (c.d.fact 25 (f := .glo "Fails") rfl), (List.forall_mem_cons.mpr ⟨glo_ok KX G (c.d.fact 14 (f := .glo "NoLead") rfl), (List.forall_mem_cons.mpr ⟨glo_ok KX G (c.d.fact 21 (f := .glo "LettersDiffer") rfl), (List.forall_mem_cons.mpr ⟨glo_ok KX G (c.d.fact 23 (f := .glo "NoText") rfl), (List.forall_mem_cons.mpr ⟨glo_ok KX G (c.d.fact 34 (f := .glo "NothingLeft") rfl), fun _ z => nomatch z⟩)⟩)⟩)⟩)⟩)⟩)⟩)⟩)⟩)⟩)⟩)⟩)⟩)⟩)⟩)⟩)⟩)⟩)⟩)⟩)⟩)⟩)⟩)⟩)
  have e_InvalidLetters : ErrC K "InvalidLetters" (some "at") "/claim/cut.py" := errB_ok (ba (c.more)).1
  have g_InvalidLetters : mg "InvalidLetters" = some (.ref (ga K "InvalidLetters")) := glo_ok KX G (c.d.fact 16 (f := .glo "InvalidLetters") rfl)
  have w_InvalidLetters : WhyC K "InvalidLetters" (some "at") := whyC_of e_InvalidLetters (List.forall_mem_cons.mpr ⟨exm_at (c.d.fact 51 (f := .exm "InvalidLetters" "InvalidRatio" false) rfl), (List.forall_mem_cons.mpr ⟨exm_at (c.d.fact 64 (f := .exm "InvalidLetters" "InvalidDegree" false) rfl), (List.forall_mem_cons.mpr ⟨exm_at (c.d.fact 70 (f := .exm "InvalidLetters" "InvalidLimit" false) rfl), (List.forall_mem_cons.mpr ⟨exm_at (c.d.fact 52 (f := .exm "InvalidLetters" "InvalidTerm" false) rfl), (List.forall_mem_cons.mpr ⟨exm_at (c.d.fact 55 (f := .exm "InvalidLetters" "ParseError" false) rfl), (List.forall_mem_cons.mpr ⟨exm_at (c.d.fact 56 (f := .exm "InvalidLetters" "InvalidLetters" true) rfl), (List.forall_mem_cons.mpr ⟨exm_at (c.d.fact 57 (f := .exm "InvalidLetters" "InvalidBegin" false) rfl), (List.forall_mem_cons.mpr ⟨exm_at (c.d.fact 58 (f := .exm "InvalidLetters" "InvalidMode" false) rfl), (List.forall_mem_cons.mpr ⟨exm_at (c.d.fact 59 (f := .exm "InvalidLetters" "InvalidGuard" false) rfl), (List.forall_mem_cons.mpr ⟨exm_at (c.d.fact 60 (f := .exm "InvalidLetters" "UnknownLetter" false) rfl), (List.forall_mem_cons.mpr ⟨exm_at (c.d.fact 62 (f := .exm "InvalidLetters" "InvalidRecoding" false) rfl), (List.forall_mem_cons.mpr ⟨exm_at (c.d.fact 53 (f := .exm "InvalidLetters" "Mismatch" false) rfl), (List.forall_mem_cons.mpr ⟨exm_at (c.d.fact 66 (f := .exm "InvalidLetters" "InvalidName" false) rfl), (List.forall_mem_cons.mpr ⟨exm_at (c.d.fact 67 (f := .exm "InvalidLetters" "DuplicateName" false) rfl), (List.forall_mem_cons.mpr ⟨exm_at (c.d.fact 68 (f := .exm "InvalidLetters" "WrongSort" false) rfl), (List.forall_mem_cons.mpr ⟨exm_at (c.d.fact 73 (f := .exm "InvalidLetters" "UnknownName" false) rfl), (List.forall_mem_cons.mpr ⟨exm_at (c.d.fact 69 (f := .exm "InvalidLetters" "CapacityExceeded" false) rfl), (List.forall_mem_cons.mpr ⟨exm_at (c.d.fact 71 (f := .exm "InvalidLetters" "InvalidCommand" false) rfl), (List.forall_mem_cons.mpr ⟨exm_at (c.d.fact 72 (f := .exm "InvalidLetters" "InUse" false) rfl), (List.forall_mem_cons.mpr ⟨exm_at (c.d.fact 65 (f := .exm "InvalidLetters" "Fails" false) rfl), (List.forall_mem_cons.mpr ⟨exm_at (c.d.fact 54 (f := .exm "InvalidLetters" "NoLead" false) rfl), (List.forall_mem_cons.mpr ⟨exm_at (c.d.fact 61 (f := .exm "InvalidLetters" "LettersDiffer" false) rfl), (List.forall_mem_cons.mpr ⟨exm_at (c.d.fact 63 (f := .exm "InvalidLetters" "NoText" false) rfl), (List.forall_mem_cons.mpr ⟨exm_at (c.d.fact 74 (f := .exm "InvalidLetters" "NothingLeft" false) rfl), fun _ z => nomatch z⟩)⟩)⟩)⟩)⟩)⟩)⟩)⟩)⟩)⟩)⟩)⟩)⟩)⟩)⟩)⟩)⟩)⟩)⟩)⟩)⟩)⟩)⟩)⟩)
  have e_InvalidGuard : ErrC K "InvalidGuard" (some "at") "/claim/cut.py" := errB_ok (ba ((ba (c.more)).2)).1
  have g_InvalidGuard : mg "InvalidGuard" = some (.ref (ga K "InvalidGuard")) := glo_ok KX G (c.d.fact 19 (f := .glo "InvalidGuard") rfl)
  have w_InvalidGuard : WhyC K "InvalidGuard" (some "at") := whyC_of e_InvalidGuard (List.forall_mem_cons.mpr ⟨exm_at (c.d.fact 75 (f := .exm "InvalidGuard" "InvalidRatio" false) rfl), (List.forall_mem_cons.mpr ⟨exm_at (c.d.fact 88 (f := .exm "InvalidGuard" "InvalidDegree" false) rfl), (List.forall_mem_cons.mpr ⟨exm_at (c.d.fact 94 (f := .exm "InvalidGuard" "InvalidLimit" false) rfl), (List.forall_mem_cons.mpr ⟨exm_at (c.d.fact 76 (f := .exm "InvalidGuard" "InvalidTerm" false) rfl), (List.forall_mem_cons.mpr ⟨exm_at (c.d.fact 79 (f := .exm "InvalidGuard" "ParseError" false) rfl), (List.forall_mem_cons.mpr ⟨exm_at (c.d.fact 80 (f := .exm "InvalidGuard" "InvalidLetters" false) rfl), (List.forall_mem_cons.mpr ⟨exm_at (c.d.fact 81 (f := .exm "InvalidGuard" "InvalidBegin" false) rfl), (List.forall_mem_cons.mpr ⟨exm_at (c.d.fact 82 (f := .exm "InvalidGuard" "InvalidMode" false) rfl), (List.forall_mem_cons.mpr ⟨exm_at (c.d.fact 83 (f := .exm "InvalidGuard" "InvalidGuard" true) rfl), (List.forall_mem_cons.mpr ⟨exm_at (c.d.fact 84 (f := .exm "InvalidGuard" "UnknownLetter" false) rfl), (List.forall_mem_cons.mpr ⟨exm_at (c.d.fact 86 (f := .exm "InvalidGuard" "InvalidRecoding" false) rfl), (List.forall_mem_cons.mpr ⟨exm_at (c.d.fact 77 (f := .exm "InvalidGuard" "Mismatch" false) rfl), (List.forall_mem_cons.mpr ⟨exm_at (c.d.fact 90 (f := .exm "InvalidGuard" "InvalidName" false) rfl), (List.forall_mem_cons.mpr ⟨exm_at (c.d.fact 91 (f := .exm "InvalidGuard" "DuplicateName" false) rfl), (List.forall_mem_cons.mpr ⟨exm_at (c.d.fact 92 (f := .exm "InvalidGuard" "WrongSort" false) rfl), (List.forall_mem_cons.mpr ⟨exm_at (c.d.fact 97 (f := .exm "InvalidGuard" "UnknownName" false) rfl), (List.forall_mem_cons.mpr ⟨exm_at (c.d.fact 93 (f := .exm "InvalidGuard" "CapacityExceeded" false) rfl), (List.forall_mem_cons.mpr ⟨exm_at (c.d.fact 95 (f := .exm "InvalidGuard" "InvalidCommand" false) rfl), (List.forall_mem_cons.mpr ⟨exm_at (c.d.fact 96 (f := .exm "InvalidGuard" "InUse" false) rfl), (List.forall_mem_cons.mpr ⟨exm_at (c.d.fact 89 (f := .exm "InvalidGuard" "Fails" false) rfl), (List.forall_mem_cons.mpr ⟨exm_at (c.d.fact 78 (f := .exm "InvalidGuard" "NoLead" false) rfl), (List.forall_mem_cons.mpr ⟨exm_at (c.d.fact 85 (f := .exm "InvalidGuard" "LettersDiffer" false) rfl), (List.forall_mem_cons.mpr ⟨exm_at (c.d.fact 87 (f := .exm "InvalidGuard" "NoText" false) rfl), (List.forall_mem_cons.mpr ⟨exm_at (c.d.fact 98 (f := .exm "InvalidGuard" "NothingLeft" false) rfl), fun _ z => nomatch z⟩)⟩)⟩)⟩)⟩)⟩)⟩)⟩)⟩)⟩)⟩)⟩)⟩)⟩)⟩)⟩)⟩)⟩)⟩)⟩)⟩)⟩)⟩)⟩)
  have e_UnknownLetter : ErrC K "UnknownLetter" (some "at") "/claim/cut.py" := errB_ok (ba ((ba ((ba (c.more)).2)).2)).1
  have g_UnknownLetter : mg "UnknownLetter" = some (.ref (ga K "UnknownLetter")) := glo_ok KX G (c.d.fact 20 (f := .glo "UnknownLetter") rfl)
  have w_UnknownLetter : WhyC K "UnknownLetter" (some "at") := whyC_of e_UnknownLetter (List.forall_mem_cons.mpr ⟨exm_at (c.d.fact 99 (f := .exm "UnknownLetter" "InvalidRatio" false) rfl), (List.forall_mem_cons.mpr ⟨exm_at (c.d.fact 112 (f := .exm "UnknownLetter" "InvalidDegree" false) rfl), (List.forall_mem_cons.mpr ⟨exm_at (c.d.fact 118 (f := .exm "UnknownLetter" "InvalidLimit" false) rfl), (List.forall_mem_cons.mpr ⟨exm_at (c.d.fact 100 (f := .exm "UnknownLetter" "InvalidTerm" false) rfl), (List.forall_mem_cons.mpr ⟨exm_at (c.d.fact 103 (f := .exm "UnknownLetter" "ParseError" false) rfl), (List.forall_mem_cons.mpr ⟨exm_at (c.d.fact 104 (f := .exm "UnknownLetter" "InvalidLetters" false) rfl), (List.forall_mem_cons.mpr ⟨exm_at (c.d.fact 105 (f := .exm "UnknownLetter" "InvalidBegin" false) rfl), (List.forall_mem_cons.mpr ⟨exm_at (c.d.fact 106 (f := .exm "UnknownLetter" "InvalidMode" false) rfl), (List.forall_mem_cons.mpr ⟨exm_at (c.d.fact 107 (f := .exm "UnknownLetter" "InvalidGuard" false) rfl), (List.forall_mem_cons.mpr ⟨exm_at (c.d.fact 108 (f := .exm "UnknownLetter" "UnknownLetter" true) rfl), (List.forall_mem_cons.mpr ⟨exm_at (c.d.fact 110 (f := .exm "UnknownLetter" "InvalidRecoding" false) rfl), (List.forall_mem_cons.mpr ⟨exm_at (c.d.fact 101 (f := .exm "UnknownLetter" "Mismatch" false) rfl), (List.forall_mem_cons.mpr ⟨exm_at (c.d.fact 114 (f := .exm "UnknownLetter" "InvalidName" false) rfl), (List.forall_mem_cons.mpr ⟨exm_at (c.d.fact 115 (f := .exm "UnknownLetter" "DuplicateName" false) rfl), (List.forall_mem_cons.mpr ⟨exm_at (c.d.fact 116 (f := .exm "UnknownLetter" "WrongSort" false) rfl), (List.forall_mem_cons.mpr ⟨exm_at (c.d.fact 121 (f := .exm "UnknownLetter" "UnknownName" false) rfl), (List.forall_mem_cons.mpr ⟨exm_at (c.d.fact 117 (f := .exm "UnknownLetter" "CapacityExceeded" false) rfl), (List.forall_mem_cons.mpr ⟨exm_at (c.d.fact 119 (f := .exm "UnknownLetter" "InvalidCommand" false) rfl), (List.forall_mem_cons.mpr ⟨exm_at (c.d.fact 120 (f := .exm "UnknownLetter" "InUse" false) rfl), (List.forall_mem_cons.mpr ⟨exm_at (c.d.fact 113 (f := .exm "UnknownLetter" "Fails" false) rfl), (List.forall_mem_cons.mpr ⟨exm_at (c.d.fact 102 (f := .exm "UnknownLetter" "NoLead" false) rfl), (List.forall_mem_cons.mpr ⟨exm_at (c.d.fact 109 (f := .exm "UnknownLetter" "LettersDiffer" false) rfl), (List.forall_mem_cons.mpr ⟨exm_at (c.d.fact 111 (f := .exm "UnknownLetter" "NoText" false) rfl), (List.forall_mem_cons.mpr ⟨exm_at (c.d.fact 122 (f := .exm "UnknownLetter" "NothingLeft" false) rfl), fun _ z => nomatch z⟩)⟩)⟩)⟩)⟩)⟩)⟩)⟩)⟩)⟩)⟩)⟩)⟩)⟩)⟩)⟩)⟩)⟩)⟩)⟩)⟩)⟩)⟩)⟩)
  have B_Guard : ClsF K (ga K "Guard") := clsB_ok (ba ((ba ((ba ((ba (c.more)).2)).2)).2)).1
  have P_Guard_letters : PropOf K (ga K "Guard") "letters" (ma K (ga K "Guard") "letters") (He5.wf K (ga K "Guard") "property" "letters") := propB_ok (ba ((ba ((ba ((ba ((ba (c.more)).2)).2)).2)).2)).1
  have hR0 : ∀ q ∈ why1, WhyC K q.1 q.2 ∧ (∀ c ∈ whyCl, q.1 ∈ c.1 → c.2 = q.2) ∧ ∃ c ∈ whyCl, q.1 ∈ c.1 := (List.forall_mem_cons.mpr ⟨⟨w_InvalidLetters, by decide +kernel, by decide +kernel⟩, (List.forall_mem_cons.mpr ⟨⟨w_InvalidGuard, by decide +kernel, by decide +kernel⟩, (List.forall_mem_cons.mpr ⟨⟨w_UnknownLetter, by decide +kernel, by decide +kernel⟩, fun _ z => nomatch z⟩)⟩)⟩)
  have hR : ∀ n x, (n, x) ∈ why1 → WhyC K n x ∧ (∀ c ∈ whyCl, n ∈ c.1 → c.2 = x) ∧ ∃ c ∈ whyCl, n ∈ c.1 := fun n x z => hR0 (n, x) z
  have e := hmg.symm.trans D_law.g
  cases e
  obtain ⟨fd, F⟩ := D_law.f
  refine ⟨fd, tf.map (cT K), spLaw K (cT K ("law", none)).2, fun p hp => ?_, fun p hp => ?_, fun p hp => ?_, fun s u => F.bindsA (ps := ["_law_script"]) (fun _ _ _ _ _ _ us hl => match us, hl with | [_], _ => rfl) s [u] rfl, fun H a ns hl _ hH hS => ⟨a, ns, rfl, hS, hl, hH _ (List.Mem.head _), fun _ => rfl⟩, fun base KB GB TB => ?_⟩
  · obtain ⟨q, hq, rfl⟩ := List.mem_map.mp hp
    exact c.empty q hq
  · obtain ⟨q, hq, rfl⟩ := List.mem_map.mp hp
    exact c.out q hq
  · obtain ⟨q, hq, rfl⟩ := List.mem_map.mp hp
    exact PySem.W.codeHd_of_K KX (c.hd q hq)
  have x_InvalidLetters := err_fn1 (P := PySem.Challenge.pw_copytail_k39_guards) (w := w) (mg := mg) (base := base) e_InvalidLetters es_InvalidLetters (c.fn 0) (by rfl) (by decide +kernel) m_super
  have x_InvalidGuard := err_fn1 (P := PySem.Challenge.pw_copytail_k39_guards) (w := w) (mg := mg) (base := base) e_InvalidGuard es_InvalidGuard (c.fn 1) (by rfl) (by decide +kernel) m_super
  have x_UnknownLetter := err_fn1 (P := PySem.Challenge.pw_copytail_k39_guards) (w := w) (mg := mg) (base := base) e_UnknownLetter es_UnknownLetter (c.fn 2) (by rfl) (by decide +kernel) m_super
  have TB0 := TB _ (List.Mem.head _)
  have h_law_same := PL.same_spG (n := 4) (fun vs H Q E x y e h q => ⟨x, y, e, h, q⟩) (ok_law_same (P := PySem.Challenge.pw_copytail_k39_guards) (w := w) (K := K) (mg := mg) (base := base) D_law_same m_isinstance m_bool m_int m_str m_tuple m_list m_len m_all m_zip 5)
  have h_law_feed := ok_law_feed (P := PySem.Challenge.pw_copytail_k39_guards) (w := w) (K := K) (mg := mg) (base := base) D_law_feed m_int m_len m_list
  have h_law_take := ok_law_take (P := PySem.Challenge.pw_copytail_k39_guards) (w := w) (K := K) (mg := mg) (base := base) D_law_take m_int m_len
  have h_law_letters := ok_law_letters (P := PySem.Challenge.pw_copytail_k39_guards) (w := w) (K := K) (mg := mg) (base := base) D_law_letters h_law_take m_range m_int
  have h_law_rooms := ok_law_rooms (P := PySem.Challenge.pw_copytail_k39_guards) (w := w) (K := K) (mg := mg) (base := base) D_law_rooms m_range h_law_take h_law_letters
  have h_check_letters := ok_check_letters (P := PySem.Challenge.pw_copytail_k39_guards) (w := w) (K := K) (mg := mg) (base := base) D_check_letters e_InvalidLetters g_InvalidLetters x_InvalidLetters m_enumerate g_SMALL
  have h_Guard_init := ok_Guard_init (P := PySem.Challenge.pw_copytail_k39_guards) (w := w) (K := K) (mg := mg) (base := base) D_Guard_init C_Guard nf_Guard_ends m_list nf_Guard_rows nf_Guard_signs m_len e_InvalidGuard g_InvalidGuard x_InvalidGuard m_enumerate g_MOST_ROOMS m_all h_check_letters g_MOST_LETTERS
  have h_law_pick := ok_law_pick (P := PySem.Challenge.pw_copytail_k39_guards) (w := w) (K := K) (mg := mg) (base := base) D_law_pick h_law_take m_len
  have h_law_word := ok_law_word (P := PySem.Challenge.pw_copytail_k39_guards) (w := w) (K := K) (mg := mg) (base := base) D_law_word h_law_take m_range h_law_pick
  have h_Guard_later := ok_Guard_later (P := PySem.Challenge.pw_copytail_k39_guards) (w := w) (K := K) (mg := mg) (base := base) D_Guard_later C_Guard nf_Guard_signs nf_Guard_rows
  have h_Guard_accepts := ok_Guard_accepts (P := PySem.Challenge.pw_copytail_k39_guards) (w := w) (K := K) (mg := mg) (base := base) D_Guard_accepts C_Guard nf_Guard_ends m_enumerate h_Guard_later M_Guard_later nf_Guard_signs e_UnknownLetter g_UnknownLetter x_UnknownLetter
  have h_Guard_letters := ok_Guard_letters (P := PySem.Challenge.pw_copytail_k39_guards) (w := w) (K := K) (mg := mg) (base := base) D_Guard_letters C_Guard nf_Guard_signs
  have h_Guard_len := ok_Guard_len (P := PySem.Challenge.pw_copytail_k39_guards) (w := w) (K := K) (mg := mg) (base := base) D_Guard_len C_Guard nf_Guard_rows m_len
  have h_law_room := ok_law_room (P := PySem.Challenge.pw_copytail_k39_guards) (w := w) (K := K) (mg := mg) (base := base) D_law_room
  exact ok_law F TB0 D_law_why gE hR m_range h_law_take K_Guard g_Guard h_Guard_init m_tuple m_list m_len h_law_pick h_Guard_accepts C_Guard M_Guard_accepts h_law_same h_law_room h_Guard_len M_Guard_len P_Guard_letters h_Guard_letters h_law_word h_law_rooms h_law_feed plain_ok
end CT
theorem PySem.Challenge.cw_copytail_k39_guards_holds : PySem.Challenge.rw_copytail_k39_guards.Holds := by
  exact CT.headed fun _ _ _ _ _ KX G hmg c => CT.law_at KX G hmg c
